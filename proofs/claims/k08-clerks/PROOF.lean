import PyProof.Rows.All
import Wide.All
import OpenK.AllK
import Wide.FinOn
import HandS.ForMost
import HandS.TupAny
import HandS.TupMul
import HandS.Deep
import HandS.Conv
import HandS.Style
import HandS.Flow
import HandS.IsInst
import HandS.Replace
import KE.GoesZip
import KE.GoesNew
import KE.GoesMore
import PyProof.EnumMake
import PyProof.ZipIter
import PyProof.ListStr
import HandS.Star
import PySem.Challenge.RW_oftenasked_k08_clerks_exactly
set_option Elab.async false
set_option linter.all false
set_option maxRecDepth 100000
/-! MP: a small deterministic meaning of the Python that is used here, over HandS. Values are trees. -/
namespace MP
open PySem PySem.Spec PyProof.Rows L2

/-- a value: tuples are trees, lists and dicts stand in a heap by number -/
inductive D where
  | non | bl (b : Bool) | int (i : Int) | str (s : List Nat) | tup (ds : List D) | ref (n : Nat) | con (v : V)

/-- what stands in the heap -/
inductive Ob where
  | lst (ds : List D) | scr (ns : List Int) | dct (lk : Bool) (kvs : List (D × D))

abbrev Fr := List (Option D)
abbrev Hq := List Ob

def mkS (s : List Nat) : Str := ⟨s.toArray⟩

/-- a tuple stands there -/
def TqT (K : PySem.W.Frag) (H : Hp) (a : Addr) (xs : List V) : Prop := H a = some (.tup xs) ∨
    ∃ (o : Obj) (its : Array Value) (n : Nat), K.lookup a = some o ∧ o.cls = .type "tuple" ∧ o.data = .seq its n ∧ its.size ≤ sizeLine ∧ Vals xs its.toList
theorem TqT.sq {K : PySem.W.Frag} {H : Hp} {a : Addr} {xs : List V} (t : TqT K H a xs) : SqT K H a xs := t.elim (fun h => .inl (.inl h)) .inr
mutual
def Rp (K : PySem.W.Frag) (H : Hp) (ρ : Nat → Addr) (n : Nat) : D → V → Prop
  | .non, v => v = .non
  | .bl b, v => v = .bl b
  | .int i, v => v = .int i
  | .str s, v => v = .str (mkS s) ∧ s.length ≤ sizeLine ∧ ∀ c ∈ s, c < 0x110000
  | .ref m, v => m < n ∧ v = .ref (ρ m)
  | .con u, v => v = u
  | .tup ds, v => ∃ a xs, v = .ref a ∧ TqT K H a xs ∧ RpL K H ρ n ds xs
def RpL (K : PySem.W.Frag) (H : Hp) (ρ : Nat → Addr) (n : Nat) : List D → List V → Prop
  | [], xs => xs = []
  | d :: ds, xs => ∃ x r, xs = x :: r ∧ Rp K H ρ n d x ∧ RpL K H ρ n ds r
end

/-- how one abstract heap goes over into a later one -/
structure Ext (K : PySem.W.Frag) (ρ : Nat → Addr) (n : Nat) (H : Hp) (ρ' : Nat → Addr) (n' : Nat) (H' : Hp) : Prop where
  le : n ≤ n'
  ag : ∀ i, i < n → ρ' i = ρ i
  tp : ∀ a xs, TqT K H a xs → TqT K H' a xs

theorem Ext.refl {K ρ n H} : Ext K ρ n H ρ n H := ⟨Nat.le_refl _, fun _ _ => rfl, fun _ _ h => h⟩
theorem Ext.trans {K ρ n H ρ1 n1 H1 ρ2 n2 H2} (a : Ext K ρ n H ρ1 n1 H1) (b : Ext K ρ1 n1 H1 ρ2 n2 H2) : Ext K ρ n H ρ2 n2 H2 :=
  ⟨Nat.le_trans a.le b.le, fun i hi => (b.ag i (Nat.lt_of_lt_of_le hi a.le)).trans (a.ag i hi), fun x xs h => b.tp x xs (a.tp x xs h)⟩

mutual
theorem Rp.ext {K ρ n H ρ' n' H'} (e : Ext K ρ n H ρ' n' H') : ∀ (d : D) (v : V), Rp K H ρ n d v → Rp K H' ρ' n' d v
  | .non, v, h => by unfold Rp at *; exact h
  | .bl b, v, h => by unfold Rp at *; exact h
  | .int i, v, h => by unfold Rp at *; exact h
  | .str s, v, h => by unfold Rp at *; exact h
  | .con u, v, h => by unfold Rp at *; exact h
  | .ref m, v, h => by
    unfold Rp at *
    exact ⟨Nat.lt_of_lt_of_le h.1 e.le, by rw [e.ag m h.1]; exact h.2⟩
  | .tup ds, v, h => by
    unfold Rp at *
    obtain ⟨a, xs, h1, h2, h3⟩ := h
    exact ⟨a, xs, h1, e.tp a xs h2, RpL.ext e ds xs h3⟩
theorem RpL.ext {K ρ n H ρ' n' H'} (e : Ext K ρ n H ρ' n' H') : ∀ (ds : List D) (xs : List V), RpL K H ρ n ds xs → RpL K H' ρ' n' ds xs
  | [], xs, h => by unfold RpL at *; exact h
  | d :: ds, xs, h => by
    unfold RpL at *
    obtain ⟨x, r, h1, h2, h3⟩ := h
    exact ⟨x, r, h1, Rp.ext e d x h2, RpL.ext e ds r h3⟩
end

/-- one object -/
def ObR (K : PySem.W.Frag) (H : Hp) (ρ : Nat → Addr) (n : Nat) (a : Addr) : Ob → Prop
  | .lst ds => ∃ xs, H a = some (.lst xs) ∧ RpL K H ρ n ds xs
  | .scr ns => (∃ o, H a = some (.frz o (.lst (ns.map V.int)))) ∨
    ∃ (o : Obj) (its : Array Value) (n : Nat), K.lookup a = some o ∧ o.cls = .type "list" ∧ o.dict = none ∧ o.data = .seq its n ∧ its.size ≤ sizeLine ∧ Vals (ns.map V.int) its.toList
  | .dct _ _ => False
/-- it may change -/
def Ob.mut : Ob → Bool
  | .scr _ => false
  | _ => true

structure Sim (K : PySem.W.Frag) (ρ : Nat → Addr) (h : Hq) (H : Hp) : Prop where
  ob : ∀ i o, h[i]? = some o → ObR K H ρ h.length (ρ i) o
  inj : ∀ (i j : Nat) (o u : Ob), h[i]? = some o → h[j]? = some u → o.mut = true → u.mut = true → ρ i = ρ j → i = j

structure FrR (K : PySem.W.Frag) (ρ : Nat → Addr) (n : Nat) (H : Hp) (fr : Fr) (σ : L2.St) : Prop where
  len : fr.length = σ.length
  at_ : ∀ (i : Nat) (d : D), fr[i]? = some (some d) → ∃ v, σ[i]? = some (some v) ∧ Rp K H ρ n d v

theorem FrR.ext {K ρ n H ρ' n' H'} (e : Ext K ρ n H ρ' n' H') {fr σ} (s : FrR K ρ n H fr σ) : FrR K ρ' n' H' fr σ :=
  ⟨s.len, fun i d h => let ⟨v, h1, h2⟩ := s.at_ i d h; ⟨v, h1, Rp.ext e d v h2⟩⟩
theorem FrR.set {K ρ n H fr σ} (s : FrR K ρ n H fr σ) {i : Nat} {d : D} {v : V} (r : Rp K H ρ n d v) : FrR K ρ n H (fr.set i (some d)) (σ.set i (some v)) := by
  refine ⟨by simp [s.len], fun j e h => ?_⟩
  by_cases hj : i = j
  · subst hj
    have hl : i < fr.length := by
      have := List.getElem?_eq_some_iff.mp h
      simpa using this.1
    rw [List.getElem?_set_self hl] at h
    have h' : d = e := by simpa using h
    subst h'
    exact ⟨v, List.getElem?_set_self (by rw [← s.len]; exact hl), r⟩
  · rw [List.getElem?_set_ne hj] at h
    obtain ⟨w, h1, h2⟩ := s.at_ j e h
    exact ⟨w, by rw [List.getElem?_set_ne hj]; exact h1, h2⟩

/-! ### meanings -/
abbrev WK := D → Hq → Prop
abbrev WE := Fr → Hq → WK → Prop
abbrev WA := Fr → Hq → (List D → Hq → Prop) → Prop
abbrev WT := Fr → Hq → (Bool → Hq → Prop) → Prop
abbrev W2 := D → D → Hq → WK → Prop
abbrev W1 := D → Hq → WK → Prop
abbrev WL := List D → Hq → WK → Prop
structure MEnds where
  nx : Fr → Hq → Prop
  rt : WK
  bk : Fr → Hq → Prop := fun _ _ => False
  ct : Fr → Hq → Prop := fun _ _ => False
abbrev WS := MEnds → Fr → Hq → Prop
abbrev WG := D → Fr → Hq → (Fr → Hq → Prop) → Prop
abbrev WGs := List D → Fr → Hq → (Fr → Hq → Prop) → Prop

/-- what a value's end in MP comes to -/
def ClE (K : PySem.W.Frag) (ρ : Nat → Addr) (h : Hq) (H : Hp) (P : WK) (Q : VK) : Prop :=
  ∀ ρ' h' H' d v, Ext K ρ h.length H ρ' h'.length H' → Sim K ρ' h' H' → Rp K H' ρ' h'.length d v → P d h' → Q v H'
def ClT (K : PySem.W.Frag) (ρ : Nat → Addr) (h : Hq) (H : Hp) (P : Bool → Hq → Prop) (Q : Bool → Hp → Prop) : Prop :=
  ∀ ρ' h' H' b, Ext K ρ h.length H ρ' h'.length H' → Sim K ρ' h' H' → P b h' → Q b H'
def ClA (K : PySem.W.Frag) (ρ : Nat → Addr) (h : Hq) (H : Hp) (P : List D → Hq → Prop) (Q : List V → Hp → Prop) : Prop :=
  ∀ ρ' h' H' ds xs, Ext K ρ h.length H ρ' h'.length H' → Sim K ρ' h' H' → RpL K H' ρ' h'.length ds xs → P ds h' → Q xs H'
def ClN (K : PySem.W.Frag) (ρ : Nat → Addr) (h : Hq) (H : Hp) (P : Fr → Hq → Prop) (Q : L2.St → Hp → Prop) : Prop :=
  ∀ ρ' h' H' fr' σ', Ext K ρ h.length H ρ' h'.length H' → Sim K ρ' h' H' → FrR K ρ' h'.length H' fr' σ' → P fr' h' → Q σ' H'

theorem ClE.step {K ρ h H ρ1 h1 H1 P Q} (e : Ext K ρ h.length H ρ1 h1.length H1) (c : ClE K ρ h H P Q) : ClE K ρ1 h1 H1 P Q :=
  fun ρ' h' H' d v e' => c ρ' h' H' d v (e.trans e')
theorem ClT.step {K ρ h H ρ1 h1 H1 P Q} (e : Ext K ρ h.length H ρ1 h1.length H1) (c : ClT K ρ h H P Q) : ClT K ρ1 h1 H1 P Q :=
  fun ρ' h' H' d e' => c ρ' h' H' d (e.trans e')
theorem ClA.step {K ρ h H ρ1 h1 H1 P Q} (e : Ext K ρ h.length H ρ1 h1.length H1) (c : ClA K ρ h H P Q) : ClA K ρ1 h1 H1 P Q :=
  fun ρ' h' H' d v e' => c ρ' h' H' d v (e.trans e')
theorem ClN.step {K ρ h H ρ1 h1 H1 P Q} (e : Ext K ρ h.length H ρ1 h1.length H1) (c : ClN K ρ h H P Q) : ClN K ρ1 h1 H1 P Q :=
  fun ρ' h' H' d v e' => c ρ' h' H' d v (e.trans e')

def liftE (K : PySem.W.Frag) (w : WE) : TE := fun σ H Q => ∃ ρ fr h P, Sim K ρ h H ∧ FrR K ρ h.length H fr σ ∧ w fr h P ∧ ClE K ρ h H P Q
def liftT (K : PySem.W.Frag) (w : WT) : TT := fun σ H Q => ∃ ρ fr h P, Sim K ρ h H ∧ FrR K ρ h.length H fr σ ∧ w fr h P ∧ ClT K ρ h H P Q
def liftA (K : PySem.W.Frag) (w : WA) : TA := fun σ H Q => ∃ ρ fr h P, Sim K ρ h H ∧ FrR K ρ h.length H fr σ ∧ w fr h P ∧ ClA K ρ h H P Q
def lift2 (K : PySem.W.Frag) (g : W2) : R2 := fun x y H Q => ∃ ρ h d e P, Sim K ρ h H ∧ Rp K H ρ h.length d x ∧ Rp K H ρ h.length e y ∧ g d e h P ∧ ClE K ρ h H P Q
def lift1 (K : PySem.W.Frag) (g : W1) : V → Hp → VK → Prop := fun x H Q => ∃ ρ h d P, Sim K ρ h H ∧ Rp K H ρ h.length d x ∧ g d h P ∧ ClE K ρ h H P Q
def liftL (K : PySem.W.Frag) (g : WL) : List V → Hp → VK → Prop := fun xs H Q => ∃ ρ h ds P, Sim K ρ h H ∧ RpL K H ρ h.length ds xs ∧ g ds h P ∧ ClE K ρ h H P Q
def liftS (K : PySem.W.Frag) (w : WS) : TS := fun D σ H => ∃ ρ fr h M, Sim K ρ h H ∧ FrR K ρ h.length H fr σ ∧ w M fr h ∧
  ClN K ρ h H M.nx D.nx ∧ ClE K ρ h H M.rt D.rt ∧ ClN K ρ h H M.bk D.bk ∧ ClN K ρ h H M.ct D.ct
def liftG (K : PySem.W.Frag) (g : WG) : TG := fun v σ H Q => ∃ ρ fr h d P, Sim K ρ h H ∧ FrR K ρ h.length H fr σ ∧ Rp K H ρ h.length d v ∧ g d fr h P ∧ ClN K ρ h H P Q
def liftGs (K : PySem.W.Frag) (g : WGs) : TGs := fun vs σ H Q => ∃ ρ fr h ds P, Sim K ρ h H ∧ FrR K ρ h.length H fr σ ∧ RpL K H ρ h.length ds vs ∧ g ds fr h P ∧ ClN K ρ h H P Q

theorem PE.imp {X : Cx} {e : Expr} {t t' : TE} (h : PE X e t) (i : ∀ σ H Q, t' σ H Q → t σ H Q) : PE X e t' := ⟨fun pins s σ H Q I q => h.run pins s σ H Q I (i σ H Q q)⟩
theorem PT.imp {X : Cx} {e : Expr} {t t' : TT} (h : PT X e t) (i : ∀ σ H Q, t' σ H Q → t σ H Q) : PT X e t' := ⟨fun pins s σ H Q I q => h.run pins s σ H Q I (i σ H Q q)⟩
theorem PW.imp {X : Cx} {e : Expr} {t t' : TT} (h : PW X e t) (i : ∀ σ H Q, t' σ H Q → t σ H Q) : PW X e t' := ⟨fun wh pins s σ H Q I q => h.run wh pins s σ H Q I (i σ H Q q)⟩
theorem PA.imp {X : Cx} {e : List Expr} {t t' : TA} (h : PA X e t) (i : ∀ σ H Q, t' σ H Q → t σ H Q) : PA X e t' := ⟨fun pos pins s σ H Q I q => h.run pos pins s σ H Q I (i σ H Q q)⟩
theorem PS.imp {X : Cx} {e : Stmt} {t t' : TS} (h : PS X e t) (i : ∀ D σ H, t' D σ H → t D σ H) : PS X e t' := ⟨fun pins s σ H D I q => h.run pins s σ H D I (i D σ H q)⟩
theorem PSs.imp {X : Cx} {e : List Stmt} {t t' : TS} (h : PSs X e t) (i : ∀ D σ H, t' D σ H → t D σ H) : PSs X e t' := ⟨fun pins s σ H D I q => h.run pins s σ H D I (i D σ H q)⟩
theorem PG.imp {X : Cx} {e : Expr} {t t' : TG} (h : PG X e t) (i : ∀ v σ H Q, t' v σ H Q → t v σ H Q) : PG X e t' := ⟨fun pins s σ H v u Q I r q => h.run pins s σ H v u Q I r (i v σ H Q q)⟩
theorem PGs.imp {X : Cx} {e : List Expr} {t t' : TGs} (h : PGs X e t) (i : ∀ v σ H Q, t' v σ H Q → t v σ H Q) : PGs X e t' := ⟨fun pins s σ H v u Q I r q => h.run pins s σ H v u Q I r (i v σ H Q q)⟩
theorem OpR.imp {X : Cx} {f : Value → Value → Sem Value} {t t' : R2} (h : OpR X f t) (i : ∀ x y H Q, t' x y H Q → t x y H Q) : OpR X f t' := fun pins s σ H x y v u Q I r1 r2 q => h pins s σ H x y v u Q I r1 r2 (i x y H Q q)

abbrev SE (X : Cx) (e : Expr) (w : WE) : Prop := PE X e (liftE X.K w)
abbrev ST (X : Cx) (e : Expr) (w : WT) : Prop := PT X e (liftT X.K w)
abbrev SA (X : Cx) (e : List Expr) (w : WA) : Prop := PA X e (liftA X.K w)
abbrev SS (X : Cx) (e : Stmt) (w : WS) : Prop := PS X e (liftS X.K w)
abbrev SSs (X : Cx) (e : List Stmt) (w : WS) : Prop := PSs X e (liftS X.K w)
abbrev SG (X : Cx) (e : Expr) (w : WG) : Prop := PG X e (liftG X.K w)
abbrev SGs (X : Cx) (e : List Expr) (w : WGs) : Prop := PGs X e (liftGs X.K w)

/-! ### heaps that change -/
section
variable {K : PySem.W.Frag} {ρ : Nat → Addr} {h : Hq} {H : Hp} {n : Nat}

theorem TqT.upd {a p : Addr} {o : HO} {xs : List V} (hp : ∀ ys, H p ≠ some (.tup ys)) (s : TqT K H a xs) : TqT K (upd H p o) a xs := by
  rcases s with s | s
  · refine .inl ?_
    rw [upd_ne]; exact s
    intro e; subst e; exact hp _ s
  · exact .inr s
theorem SqL.upd {a p : Addr} {o : HO} {xs : List V} (hp : a ≠ p) (s : SqL K H a xs) : SqL K (upd H p o) a xs := by
  rcases s with (s | ⟨ob, s⟩) | s
  · exact .inl (.inl (by rw [upd_ne hp]; exact s))
  · exact .inl (.inr ⟨ob, by rw [upd_ne hp]; exact s⟩)
  · exact .inr s

/-- a new object that is not tracked: a tuple -/
theorem Ext.newTup {p : Addr} {o : HO} (hp : H p = none) : Ext K ρ n H ρ n (upd H p o) :=
  ⟨Nat.le_refl _, fun _ _ => rfl, fun a xs s => TqT.upd (fun ys z => by rw [hp] at z; cases z) s⟩

theorem ObR.ext {ρ' n' H'} {a : Addr} {o : Ob} (e : Ext K ρ n H ρ' n' H') (hk : ∀ u, H a = some u → (o.mut = true ∨ ∃ ob w, u = HO.frz ob w) → H' a = some u) (r : ObR K H ρ n a o) : ObR K H' ρ' n' a o := by
  cases o with
  | lst ds => obtain ⟨xs, q, r⟩ := r; exact ⟨xs, hk _ q (.inl rfl), RpL.ext e ds xs r⟩
  | scr ns =>
    rcases r with ⟨ob, s⟩ | s
    · exact .inl ⟨ob, hk _ s (.inr ⟨_, _, rfl⟩)⟩
    · exact .inr s
  | dct l k => exact r.elim
theorem ObR.scrL {ρ' n'} {a : Addr} {ns : List Int} (r : ObR K H ρ' n' a (.scr ns)) : SqL K H a (ns.map V.int) := by
  rcases r with ⟨ob, s⟩ | s
  · exact .inl (.inr ⟨ob, s⟩)
  · exact .inr s

/-- a new tuple -/
theorem Sim.tup (S : Sim K ρ h H) {p : Addr} {xs : List V} (hp : H p = none) : Sim K ρ h (upd H p (.tup xs)) := by
  have e : Ext K ρ h.length H ρ h.length (upd H p (.tup xs)) := Ext.newTup hp
  refine ⟨fun i o hi => (S.ob i o hi).ext e fun u q _ => ?_, S.inj⟩
  rw [upd_ne (ne_of_none q hp)]; exact q

def rho (ρ : Nat → Addr) (n : Nat) (p : Addr) : Nat → Addr := fun i => if i = n then p else ρ i
theorem rho_new {p : Addr} : rho ρ n p n = p := by unfold rho; rw [if_pos rfl]
theorem rho_old {p : Addr} {i : Nat} (hi : i < n) : rho ρ n p i = ρ i := by unfold rho; rw [if_neg (Nat.ne_of_lt hi)]

theorem Ext.newLst {p : Addr} {o : HO} (hp : H p = none) : Ext K ρ n H (rho ρ n p) (n + 1) (upd H p o) :=
  ⟨Nat.le_succ _, fun i hi => rho_old hi, fun a xs s => TqT.upd (fun ys z => by rw [hp] at z; cases z) s⟩

theorem get_app {h : Hq} {u o : Ob} {i : Nat} (e : (h ++ [u])[i]? = some o) : (i < h.length ∧ h[i]? = some o) ∨ (i = h.length ∧ o = u) := by
  rcases Nat.lt_trichotomy i h.length with q | q | q
  · rw [List.getElem?_append_left q] at e; exact .inl ⟨q, e⟩
  · subst q
    rw [List.getElem?_append_right (Nat.le_refl _), Nat.sub_self] at e
    exact .inr ⟨rfl, (Option.some.inj e).symm⟩
  · rw [List.getElem?_append_right (Nat.le_of_lt q)] at e
    obtain ⟨k, hk⟩ : ∃ k, i - h.length = k + 1 := ⟨i - h.length - 1, by omega⟩
    rw [hk] at e; simp at e

theorem Ob.tracked {a : Addr} {o : Ob} (r : ObR K H ρ n a o) (m : o.mut = true) : ∃ u, H a = some u := by
  cases o with
  | lst ds => obtain ⟨xs, e, _⟩ := r; exact ⟨_, e⟩
  | scr ns => cases m
  | dct l k => exact r.elim

/-- a new list -/
theorem Sim.lst (S : Sim K ρ h H) {p : Addr} {ds : List D} {xs : List V} (hp : H p = none) (r : RpL K H ρ h.length ds xs) : Sim K (rho ρ h.length p) (h ++ [.lst ds]) (upd H p (.lst xs)) := by
  have e : Ext K ρ h.length H (rho ρ h.length p) (h.length + 1) (upd H p (.lst xs)) := Ext.newLst hp
  have hlen : (h ++ [Ob.lst ds]).length = h.length + 1 := by simp
  refine ⟨fun i o hi => ?_, fun i j o u hi hj mi mj q => ?_⟩
  · rw [hlen]
    rcases get_app hi with ⟨hlt, hi⟩ | ⟨rfl, rfl⟩
    · rw [rho_old hlt]
      exact (S.ob i o hi).ext e fun u q _ => by rw [upd_ne (ne_of_none q hp)]; exact q
    · rw [rho_new]
      exact ⟨xs, upd_same, RpL.ext e ds xs r⟩
  · rcases get_app hi with ⟨hlt, hi⟩ | ⟨rfl, rfl⟩
    · obtain ⟨z, hz⟩ := Ob.tracked (S.ob i o hi) mi
      rcases get_app hj with ⟨hlt', hj⟩ | ⟨rfl, rfl⟩
      · rw [rho_old hlt, rho_old hlt'] at q
        exact S.inj i j o u hi hj mi mj q
      · rw [rho_old hlt, rho_new] at q
        rw [q, hp] at hz; cases hz
    · rcases get_app hj with ⟨hlt', hj⟩ | ⟨rfl, rfl⟩
      · obtain ⟨z, hz⟩ := Ob.tracked (S.ob j u hj) mj
        rw [rho_old hlt', rho_new] at q
        rw [← q, hp] at hz; cases hz
      · rfl

theorem Ext.write {p : Addr} {o u : HO} (hp : H p = some u) (h1 : ∀ ys, u ≠ .tup ys) : Ext K ρ n H ρ n (upd H p o) :=
  ⟨Nat.le_refl _, fun _ _ => rfl, fun a xs s => TqT.upd (fun ys z => by rw [hp] at z; exact h1 _ (Option.some.inj z)) s⟩

theorem get_lt {h : Hq} {i : Nat} {o : Ob} (e : h[i]? = some o) : i < h.length := (List.getElem?_eq_some_iff.mp e).1

/-- a list is changed -/
theorem Sim.setL (S : Sim K ρ h H) {i : Nat} {ds ds' : List D} {xs' : List V} (hi : h[i]? = some (.lst ds)) (r : RpL K H ρ h.length ds' xs') :
    Sim K ρ (h.set i (.lst ds')) (upd H (ρ i) (.lst xs')) ∧ Ext K ρ h.length H ρ (h.set i (.lst ds')).length (upd H (ρ i) (.lst xs')) := by
  obtain ⟨xs, e0, _⟩ := S.ob i _ hi
  have hlt := get_lt hi
  have e : Ext K ρ h.length H ρ (h.set i (.lst ds')).length (upd H (ρ i) (.lst xs')) := by
    rw [List.length_set]
    exact Ext.write e0 (fun _ z => by cases z)
  have back : ∀ (j : Nat) (o : Ob), (h.set i (.lst ds'))[j]? = some o → o.mut = true → ∃ o', h[j]? = some o' ∧ o'.mut = true := fun j o q m => by
    by_cases hj : i = j
    · subst hj; exact ⟨_, hi, rfl⟩
    · rw [List.getElem?_set_ne hj] at q; exact ⟨o, q, m⟩
  refine ⟨⟨fun j o hj => ?_, fun j k o u hj hk mj mk q => ?_⟩, e⟩
  · by_cases hij : i = j
    · subst hij
      rw [List.getElem?_set_self hlt] at hj
      have hj' := Option.some.inj hj
      subst hj'
      exact ⟨xs', upd_same, RpL.ext e ds' xs' r⟩
    · rw [List.getElem?_set_ne hij] at hj
      refine (S.ob j o hj).ext e fun u q hm => ?_
      rw [upd_ne]; exact q
      intro z
      rcases hm with hm | ⟨ob, w, rfl⟩
      · exact hij (S.inj i j _ o hi hj rfl hm z.symm)
      · rw [z, e0] at q; cases q
  · obtain ⟨o', h1, m1⟩ := back j o hj mj
    obtain ⟨u', h2, m2⟩ := back k u hk mk
    exact S.inj j k o' u' h1 h2 m1 m2 q
end
end MP

namespace MP
open PySem PySem.Spec PyProof.Rows L2

/-! ### slots, constants -/
def slot : Fr → Nat → Option D
  | [], _ => none
  | x :: _, 0 => x
  | _ :: r, n + 1 => slot r n
theorem slot_get : ∀ {fr : Fr} {i : Nat} {d : D}, slot fr i = some d → fr[i]? = some (some d)
  | [], _, _, h => by cases h
  | x :: _, 0, d, h => by
    have : x = some d := h
    rw [this]; rfl
  | _ :: r, n + 1, d, h => by
    have := slot_get (fr := r) (i := n) (d := d) h
    simpa using this
def wVar (i : Nat) : WE := fun fr h P => match slot fr i with
  | some d => P d h
  | none => False
def wC (d : D) : WE := fun _ h P => P d h

section
variable {X : Cx} {pos : Pos}
theorem se_var {i : Nat} {x : Str} (hN : X.N[i]? = some x) (hv : Vis X.env.scope x) (hd : (x == ("__debug__" : Str)) = false) (hcd : (x == ("__classdict__" : Str)) = false) : SE X (.Name x pos) (wVar i) := by
  refine PE.imp (pe_var hN hv hd hcd) fun σ H Q ⟨ρ, fr, h, P, S, F, w, c⟩ => ?_
  unfold wVar at w
  split at w
  · rename_i d e
    obtain ⟨v, hv, r⟩ := F.at_ i d (slot_get e)
    exact ⟨v, hv, c ρ h H d v .refl S r w⟩
  · exact w.elim
/-- a constant: its value does not lean on the heap -/
theorem se_c {e : Expr} {d : D} {v : V} (he : PE X e (tC v)) (r : ∀ H ρ n, Rp X.K H ρ n d v) : SE X e (wC d) :=
  PE.imp he fun σ H Q ⟨ρ, fr, h, P, S, F, w, c⟩ => c ρ h H d v .refl S (r _ _ _) w
theorem se_int {i j} : SE X (.Constant (.int i) j pos) (wC (.int i)) := se_c pe_int fun _ _ _ => by unfold Rp; rfl
theorem se_bl {b j} : SE X (.Constant (.bool b) j pos) (wC (.bl b)) := se_c pe_bl fun _ _ _ => by unfold Rp; rfl
theorem se_non {j} : SE X (.Constant .none j pos) (wC .non) := se_c pe_non fun _ _ _ => by unfold Rp; rfl
def strB (s : List Nat) : Bool := decide (s.length ≤ sizeLine) && s.all (fun c => decide (c < 0x110000))
theorem strB_ok {s : List Nat} (h : strB s = true) : s.length ≤ sizeLine ∧ ∀ c ∈ s, c < 0x110000 := by
  unfold strB at h
  rw [Bool.and_eq_true] at h
  exact ⟨of_decide_eq_true h.1, fun c hc => of_decide_eq_true (List.all_eq_true.mp h.2 c hc)⟩
theorem mkS_of (x : Str) : mkS x.cps.toList = x := by cases x; rfl
theorem se_str {x : Str} {j} (hb : strB x.cps.toList = true) : SE X (.Constant (.str x) j pos) (wC (.str x.cps.toList)) := se_c pe_str fun _ _ _ => by
  unfold Rp
  exact ⟨by rw [mkS_of], strB_ok hb⟩

/-! ### argument lists -/
def waNil : WA := fun _ h P => P [] h
def waCons (w : WE) (r : WA) : WA := fun fr h P => w fr h fun d h1 => r fr h1 fun ds h2 => P (d :: ds) h2
theorem sa_nil : SA X [] waNil := PA.imp pa_nil fun σ H Q ⟨ρ, fr, h, P, S, F, w, c⟩ => c ρ h H [] [] .refl S (by unfold RpL; rfl) w
theorem sa_cons {e : Expr} {es : List Expr} {w : WE} {r : WA} (he : SE X e w) (hr : SA X es r) (hs : starEach (e :: es) X.env = (false, eval e X.env) :: starEach es X.env) : SA X (e :: es) (waCons w r) := by
  refine PA.imp (pa_cons he hr hs) fun σ H Q ⟨ρ, fr, h, P, S, F, w, c⟩ => ?_
  refine ⟨ρ, fr, h, _, S, F, w, fun ρ1 h1 H1 d v e1 S1 r1 w1 => ?_⟩
  refine ⟨ρ1, fr, h1, _, S1, F.ext e1, w1, fun ρ2 h2 H2 ds xs e2 S2 r2 w2 => ?_⟩
  exact c ρ2 h2 H2 (d :: ds) (v :: xs) (e1.trans e2) S2 (by unfold RpL; exact ⟨v, xs, rfl, Rp.ext e2 d v r1, r2⟩) w2

theorem RpL.length {K H ρ n} : ∀ {ds : List D} {xs : List V}, RpL K H ρ n ds xs → ds.length = xs.length
  | [], xs, h => by unfold RpL at h; rw [h]; rfl
  | d :: ds, xs, h => by
    unfold RpL at h
    obtain ⟨x, r, rfl, _, h⟩ := h
    simp [RpL.length h]

/-! ### tuples, lists -/
def gTupN (ds : List D) : WE := fun _ h P => ds.length ≤ sizeLine ∧ P (.tup ds) h
def wTup (a : WA) : WE := fun fr h P => a fr h fun ds h1 => ds.length ≤ sizeLine ∧ P (.tup ds) h1
def wLst (a : WA) : WE := fun fr h P => a fr h fun ds h1 => ds.length ≤ sizeLine ∧ P (.ref h1.length) (h1 ++ [.lst ds])
/-- what a new tuple gives -/
theorem new_tup {K ρ h H P Q ds xs} (S : Sim K ρ h H) (r : RpL K H ρ h.length ds xs) (w : P (.tup ds) h) (c : ClE K ρ h H P Q) : ∀ p, H p = none → Q (.ref p) (upd H p (.tup xs)) := fun p hp => by
  have e : Ext K ρ h.length H ρ h.length (upd H p (.tup xs)) := Ext.newTup hp
  refine c ρ h _ (.tup ds) (.ref p) e (S.tup hp) ?_ w
  unfold Rp
  exact ⟨p, xs, rfl, .inl upd_same, RpL.ext e ds xs r⟩
theorem new_lst {K ρ h H P Q ds xs} (S : Sim K ρ h H) (r : RpL K H ρ h.length ds xs) (w : P (.ref h.length) (h ++ [.lst ds])) (c : ClE K ρ h H P Q) : ∀ p, H p = none → Q (.ref p) (upd H p (.lst xs)) := fun p hp => by
  have e : Ext K ρ h.length H (rho ρ h.length p) (h ++ [Ob.lst ds]).length (upd H p (.lst xs)) := by
    rw [List.length_append]; exact Ext.newLst hp
  refine c (rho ρ h.length p) _ _ (.ref h.length) (.ref p) e (S.lst hp r) ?_ w
  unfold Rp
  exact ⟨by simp, by rw [rho_new]⟩
theorem se_tup {es : List Expr} {k} {a : WA} (h : SA X es a) : SE X (.Tuple es k pos) (wTup a) := by
  refine PE.imp (pe_tup h) fun σ H Q ⟨ρ, fr, h, P, S, F, w, c⟩ => ?_
  refine ⟨ρ, fr, h, _, S, F, w, fun ρ1 h1 H1 ds xs e1 S1 r1 w1 => ?_⟩
  exact ⟨by rw [← r1.length]; exact w1.1, new_tup S1 r1 w1.2 (c.step e1)⟩
theorem se_lst {es : List Expr} {a : WA} (h : SA X es a) : SE X (.List es pos) (wLst a) := by
  refine PE.imp (pe_lst h) fun σ H Q ⟨ρ, fr, h, P, S, F, w, c⟩ => ?_
  refine ⟨ρ, fr, h, _, S, F, w, fun ρ1 h1 H1 ds xs e1 S1 r1 w1 => ?_⟩
  exact ⟨by rw [← r1.length]; exact w1.1, new_lst S1 r1 w1.2 (c.step e1)⟩

/-! ### operators -/
def wOp (g : W2) (a b : WE) : WE := fun fr h P => a fr h fun x h1 => b fr h1 fun y h2 => g x y h2 P
def wUn (g : W1) (a : WE) : WE := fun fr h P => a fr h fun x h1 => g x h1 P
theorem op_lift {K : PySem.W.Frag} {a b : WE} {g : W2} {σ H Q} (q : liftE K (wOp g a b) σ H Q) : tOp (lift2 K g) (liftE K a) (liftE K b) σ H Q := by
  obtain ⟨ρ, fr, h, P, S, F, w, c⟩ := q
  refine ⟨ρ, fr, h, _, S, F, w, fun ρ1 h1 H1 d v e1 S1 r1 w1 => ?_⟩
  refine ⟨ρ1, fr, h1, _, S1, F.ext e1, w1, fun ρ2 h2 H2 d2 v2 e2 S2 r2 w2 => ?_⟩
  exact ⟨ρ2, h2, d, d2, P, S2, Rp.ext e2 _ _ r1, r2, w2, c.step (e1.trans e2)⟩
theorem se_op {op : Operator} {a b : Expr} {wa wb : WE} {g : W2} (ho : OpR X (binaryOp op) (lift2 X.K g)) (ha : SE X a wa) (hb : SE X b wb) : SE X (.BinOp a op b pos) (wOp g wa wb) :=
  PE.imp (pe_op ho ha hb) fun σ H Q q => op_lift q
theorem se_cmp {op : CmpOp} {a b : Expr} {wa wb : WE} {g : W2} (ho : OpR X (compareOp op) (lift2 X.K g)) (ha : SE X a wa) (hb : SE X b wb) (hm : behindInMarks op b = false) : SE X (.Compare a [op] [b] pos) (wOp g wa wb) :=
  PE.imp (pe_cmpR ho ha hb hm) fun σ H Q q => op_lift q
theorem se_un {op : UnaryOp} {a : Expr} {wa : WE} {g : W1} (ho : UnR X (unaryOp op) (lift1 X.K g)) (ha : SE X a wa) : SE X (.UnaryOp op a pos) (wUn g wa) := by
  refine PE.imp (pe_un ho ha) fun σ H Q ⟨ρ, fr, h, P, S, F, w, c⟩ => ?_
  refine ⟨ρ, fr, h, _, S, F, w, fun ρ1 h1 H1 d v e1 S1 r1 w1 => ?_⟩
  exact ⟨ρ1, h1, d, P, S1, r1, w1, c.step e1⟩

/-! ### tests -/
def wtB (w : WE) : WT := fun fr h P => w fr h fun d h1 => match d with
  | .bl b => P b h1
  | _ => False
theorem st_bool {t : TE} {e : Expr} {w : WE} (h : PT X e (tTest t)) (i : ∀ σ H Q, liftE X.K w σ H Q → t σ H Q) : ST X e (wtB w) := by
  refine PT.imp h fun σ H Q ⟨ρ, fr, h, P, S, F, w, c⟩ => i _ _ _ ⟨ρ, fr, h, _, S, F, w, fun ρ1 h1 H1 d v e1 S1 r1 w1 => ?_⟩
  cases d with
  | bl b =>
    unfold Rp at r1
    exact ⟨b, r1, c ρ1 h1 H1 b e1 S1 w1⟩
  | _ => exact w1.elim
theorem st_cmp {op : CmpOp} {a b : Expr} {wa wb : WE} {g : W2} (ho : OpR X (compareOp op) (lift2 X.K g)) (ha : SE X a wa) (hb : SE X b wb) (hm : behindInMarks op b = false) : ST X (.Compare a [op] [b] pos) (wtB (wOp g wa wb)) :=
  st_bool (pt_cmpR ho ha hb hm) fun σ H Q q => op_lift q
/-- a op1 b op2 c -/
def wChain (g g' : W2) (a b c : WE) : WE := fun fr h P => a fr h fun x h1 => b fr h1 fun y h2 => g x y h2 fun z h3 => match z with
  | .bl true => c fr h3 fun u h4 => g' y u h4 P
  | .bl false => P (.bl false) h3
  | _ => False
theorem chain_lift {K : PySem.W.Frag} {a b c : WE} {g g' : W2} {σ H Q} (q : liftE K (wChain g g' a b c) σ H Q) : tChain (lift2 K g) (lift2 K g') (liftE K a) (liftE K b) (liftE K c) σ H Q := by
  obtain ⟨ρ, fr, h, P, S, F, w, c⟩ := q
  refine ⟨ρ, fr, h, _, S, F, w, fun ρ1 h1 H1 d v e1 S1 r1 w1 => ?_⟩
  refine ⟨ρ1, fr, h1, _, S1, F.ext e1, w1, fun ρ2 h2 H2 d2 v2 e2 S2 r2 w2 => ?_⟩
  refine ⟨ρ2, h2, d, d2, _, S2, Rp.ext e2 _ _ r1, r2, w2, fun ρ3 h3 H3 d3 v3 e3 S3 r3 w3 => ?_⟩
  cases d3 with
  | bl k =>
    unfold Rp at r3
    refine ⟨k, r3, ?_⟩
    cases k with
    | true =>
      rw [if_pos rfl]
      refine ⟨ρ3, fr, h3, _, S3, F.ext (e1.trans (e2.trans e3)), w3, fun ρ4 h4 H4 d4 v4 e4 S4 r4 w4 => ?_⟩
      exact ⟨ρ4, h4, d2, d4, P, S4, Rp.ext (e3.trans e4) _ _ r2, r4, w4, c.step (e1.trans (e2.trans (e3.trans e4)))⟩
    | false =>
      rw [if_neg Bool.false_ne_true]
      exact c ρ3 h3 H3 (.bl false) (.bl false) (e1.trans (e2.trans e3)) S3 (by unfold Rp; rfl) w3
  | _ => exact w3.elim
theorem se_chain {op op' : CmpOp} {a b c : Expr} {wa wb wc : WE} {g g' : W2} (ho : OpR X (compareOp op) (lift2 X.K g)) (ho' : OpR X (compareOp op') (lift2 X.K g')) (ha : SE X a wa) (hb : SE X b wb) (hc : SE X c wc)
    (hm : lastMarks [op, op'] [b, c] = false) : SE X (.Compare a [op, op'] [b, c] pos) (wChain g g' wa wb wc) :=
  PE.imp (pe_chain ho ho' ha hb hc hm) fun σ H Q q => chain_lift q
theorem st_chain {op op' : CmpOp} {a b c : Expr} {wa wb wc : WE} {g g' : W2} (ho : OpR X (compareOp op) (lift2 X.K g)) (ho' : OpR X (compareOp op') (lift2 X.K g')) (ha : SE X a wa) (hb : SE X b wb) (hc : SE X c wc)
    (hm : lastMarks [op, op'] [b, c] = false) : ST X (.Compare a [op, op'] [b, c] pos) (wtB (wChain g g' wa wb wc)) :=
  st_bool (pt_chain ho ho' ha hb hc hm) fun σ H Q q => chain_lift q

/-- the list with a number -/
def lstAt (h : Hq) (n : Nat) : Option (List D) := match h[n]? with
  | some (.lst ds) => some ds
  | _ => none
theorem lstAt_get {h : Hq} {n : Nat} {ds : List D} (e : lstAt h n = some ds) : h[n]? = some (.lst ds) := by
  unfold lstAt at e
  split at e
  · rename_i x hx; rw [hx, Option.some.inj e]
  · cases e
/-- a value's truth -/
def tru (h : Hq) : D → Option Bool
  | .non => some false
  | .bl b => some b
  | .int i => some (i != 0)
  | .str s => some (!s.isEmpty)
  | .tup ds => some (!ds.isEmpty)
  | .ref n => (lstAt h n).map fun ds => !ds.isEmpty
  | .con _ => none
theorem tru_ok' {K ρ h H d v b} (S : Sim K ρ h H) (r : Rp K H ρ h.length d v) (e : tru h d = some b) : TruV K v H b := by
  cases d with
  | non => unfold Rp at r; subst r; cases e; rfl
  | bl x => unfold Rp at r; subst r; cases e; rfl
  | int i => unfold Rp at r; subst r; cases e; rfl
  | str s =>
    unfold Rp at r
    obtain ⟨rfl, hl, _⟩ := r
    have e' : (!s.isEmpty) = b := Option.some.inj e
    refine ⟨by show s.toArray.size ≤ _; simpa using hl, ?_⟩
    subst e'
    show _ = (((s.toArray.size : Nat) : Int) != 0)
    cases s with
    | nil => rfl
    | cons c r =>
      show true = _
      have : ((((c :: r).toArray.size : Nat) : Int) != 0) = true := by
        rw [bne_iff_ne]
        simp only [List.size_toArray, List.length_cons]
        omega
      rw [this]
  | tup ds =>
    unfold Rp at r
    obtain ⟨a, xs, rfl, hq, rl⟩ := r
    have e' : (!ds.isEmpty) = b := Option.some.inj e
    refine .inr (.inl ⟨xs, hq.sq, ?_⟩)
    subst e'
    cases ds with
    | nil => unfold RpL at rl; subst rl; rfl
    | cons d ds => unfold RpL at rl; obtain ⟨x, r, rfl, _⟩ := rl; rfl
  | ref n =>
    unfold Rp at r
    obtain ⟨hn, rfl⟩ := r
    have e2 : (lstAt h n).map (fun ds => !ds.isEmpty) = some b := e
    cases hd : lstAt h n with
    | none => rw [hd] at e2; cases e2
    | some ds =>
      rw [hd] at e2
      obtain ⟨xs, hx, rl⟩ := S.ob n _ (lstAt_get hd)
      refine .inl ⟨xs, .inl (.inl hx), ?_⟩
      have e' : (!ds.isEmpty) = b := Option.some.inj e2
      subst e'
      cases ds with
      | nil => unfold RpL at rl; subst rl; rfl
      | cons d ds => unfold RpL at rl; obtain ⟨x, r, rfl, _⟩ := rl; rfl
  | con u => cases e
def wtTru (w : WE) : WT := fun fr h P => w fr h fun d h1 => match tru h1 d with
  | some b => P b h1
  | none => False
/-- e as a test, by its value's truth -/
theorem st_tru {e : Expr} {w : WE} (he : SE X e w) (hp : ∀ whole, isTrue e X.env whole = (do let v ← whole; standAt e.pos; holding [v] (truthy v))) : ST X e (wtTru w) := by
  refine PT.imp (pt_truth he hp) fun σ H Q ⟨ρ, fr, h, P, S, F, w, c⟩ => ?_
  refine ⟨ρ, fr, h, _, S, F, w, fun ρ1 h1 H1 d v e1 S1 r1 w1 => ?_⟩
  split at w1
  · rename_i b hb
    exact ⟨b, tru_ok' S1 r1 hb, c ρ1 h1 H1 b e1 S1 w1⟩
  · exact w1.elim
def wtNot (t : WT) : WT := fun fr h P => t fr h fun b h1 => P (!b) h1
def wtAnd (t u : WT) : WT := fun fr h P => t fr h fun b h1 => if b = true then u fr h1 P else P false h1
def wtOr (t u : WT) : WT := fun fr h P => t fr h fun b h1 => if b = true then P true h1 else u fr h1 P
theorem st_not {a : Expr} {t : WT} (h : ST X a t) : ST X (.UnaryOp .Not a pos) (wtNot t) :=
  PT.imp (pt_not h) fun σ H Q ⟨ρ, fr, h, P, S, F, w, c⟩ => ⟨ρ, fr, h, _, S, F, w, fun ρ1 h1 H1 b e1 S1 w1 => c ρ1 h1 H1 (!b) e1 S1 w1⟩
abbrev SW (X : Cx) (e : Expr) (w : WT) : Prop := PW X e (liftT X.K w)
theorem sw_and1 {a : Expr} {t : WT} (h : ST X a t) : SW X (.BoolOp .And [a] pos) t := pw_and1 h
theorem sw_or1 {a : Expr} {t : WT} (h : ST X a t) : SW X (.BoolOp .Or [a] pos) t := pw_or1 h
theorem sw_and {a b : Expr} {rest : List Expr} {t u : WT} (ha : ST X a t) (hb : SW X (.BoolOp .And (b :: rest) pos) u) : SW X (.BoolOp .And (a :: b :: rest) pos) (wtAnd t u) := by
  refine PW.imp (pw_and ha hb) fun σ H Q ⟨ρ, fr, h, P, S, F, w, c⟩ => ⟨ρ, fr, h, _, S, F, w, fun ρ1 h1 H1 b e1 S1 w1 => ?_⟩
  cases b with
  | true => exact ⟨ρ1, fr, h1, P, S1, F.ext e1, w1, c.step e1⟩
  | false => exact c ρ1 h1 H1 false e1 S1 w1
theorem sw_or {a b : Expr} {rest : List Expr} {t u : WT} (ha : ST X a t) (hb : SW X (.BoolOp .Or (b :: rest) pos) u) : SW X (.BoolOp .Or (a :: b :: rest) pos) (wtOr t u) := by
  refine PW.imp (pw_or ha hb) fun σ H Q ⟨ρ, fr, h, P, S, F, w, c⟩ => ⟨ρ, fr, h, _, S, F, w, fun ρ1 h1 H1 b e1 S1 w1 => ?_⟩
  cases b with
  | true => exact c ρ1 h1 H1 true e1 S1 w1
  | false => exact ⟨ρ1, fr, h1, P, S1, F.ext e1, w1, c.step e1⟩
def wIf (t : WT) (a b : WE) : WE := fun fr h P => t fr h fun k h1 => if k = true then a fr h1 P else b fr h1 P
theorem se_if {c a b : Expr} {t : WT} {wa wb : WE} (hc : ST X c t) (ha : SE X a wa) (hb : SE X b wb) : SE X (.IfExp c a b pos) (wIf t wa wb) := by
  refine PE.imp (pe_ifExp hc ha hb) fun σ H Q ⟨ρ, fr, h, P, S, F, w, c⟩ => ⟨ρ, fr, h, _, S, F, w, fun ρ1 h1 H1 b e1 S1 w1 => ?_⟩
  cases b with
  | true => exact ⟨ρ1, fr, h1, P, S1, F.ext e1, w1, c.step e1⟩
  | false => exact ⟨ρ1, fr, h1, P, S1, F.ext e1, w1, c.step e1⟩
end
end MP

namespace MP
open PySem PySem.Spec PyProof.Rows L2

/-! ### data and its comparison -/
mutual
def toPy : D → PyData
  | .non => .none
  | .bl b => .bool b
  | .int i => .int i
  | .str s => .str (mkS s)
  | .tup ds => .tuple (toPyL ds)
  | .ref _ => .none
  | .con _ => .none
def toPyL : List D → List PyData
  | [] => []
  | d :: ds => toPy d :: toPyL ds
end
mutual
def deq : D → D → Bool
  | .non, .non => true
  | .bl a, .bl b => a == b
  | .bl a, .int j => (if a then 1 else 0) == j
  | .int i, .bl b => i == (if b then 1 else 0)
  | .int i, .int j => i == j
  | .str x, .str y => x == y
  | .tup xs, .tup ys => deqL xs ys
  | .non, .bl _ | .non, .int _ | .non, .str _ | .non, .tup _ => false
  | .bl _, .non | .bl _, .str _ | .bl _, .tup _ => false
  | .int _, .non | .int _, .str _ | .int _, .tup _ => false
  | .str _, .non | .str _, .bl _ | .str _, .int _ | .str _, .tup _ => false
  | .tup _, .non | .tup _, .bl _ | .tup _, .int _ | .tup _, .str _ => false
  | .ref _, _ | .con _, _ | .non, .ref _ | .non, .con _ | .bl _, .ref _ | .bl _, .con _ | .int _, .ref _ | .int _, .con _ | .str _, .ref _ | .str _, .con _ | .tup _, .ref _ | .tup _, .con _ => false
def deqL : List D → List D → Bool
  | [], [] => true
  | x :: xs, y :: ys => deq x y && deqL xs ys
  | [], _ :: _ => false
  | _ :: _, [] => false
end
/-- a tree without objects, at most n deep -/
def okD : Nat → D → Bool
  | _, .non | _, .bl _ | _, .int _ | _, .str _ => true
  | n + 1, .tup ds => ds.all (okD n)
  | 0, .tup _ => false
  | _, .ref _ | _, .con _ => false

theorem mkS_eq (x y : List Nat) : (mkS x == mkS y) = (x == y) := by
  unfold mkS
  by_cases h : x = y
  · subst h; simp
  · rw [beq_eq_false_iff_ne.mpr h, beq_eq_false_iff_ne]
    intro e
    injection e with e
    exact h (by simpa using congrArg Array.toList e)

theorem toPyL_map (ds : List D) : toPyL ds = ds.map toPy := by
  induction ds with
  | nil => rfl
  | cons d ds ih => simp [toPyL, ih]

theorem eqvAll_of {n : Nat} (ih : ∀ d e, okD n d = true → okD n e = true → PyData.eqv (toPy d) (toPy e) = deq d e) : ∀ (xs ys : List D), xs.all (okD n) = true → ys.all (okD n) = true → PyData.eqvAll (toPyL xs) (toPyL ys) = deqL xs ys
  | [], [], _, _ => by simp [toPyL, PyData.eqvAll, deqL]
  | [], y :: ys, _, _ => by simp [toPyL, PyData.eqvAll, deqL]
  | x :: xs, [], _, _ => by simp [toPyL, PyData.eqvAll, deqL]
  | x :: xs, y :: ys, h1, h2 => by
    simp only [List.all_cons, Bool.and_eq_true] at h1 h2
    simp only [toPyL, PyData.eqvAll, deqL]
    rw [ih x y h1.1 h2.1, eqvAll_of ih xs ys h1.2 h2.2]
theorem eqv_deq : ∀ (n : Nat) (d e : D), okD n d = true → okD n e = true → PyData.eqv (toPy d) (toPy e) = deq d e := by
  intro n
  induction n with
  | zero =>
    intro d e h1 h2
    cases d <;> cases e <;> first
      | (cases h1; done)
      | (cases h2; done)
      | simp only [toPy, PyData.eqv, deq, mkS_eq]
  | succ n ih =>
    intro d e h1 h2
    cases d <;> cases e <;> first
      | (cases h1; done)
      | (cases h2; done)
      | simp only [toPy, PyData.eqv, deq, mkS_eq]
    simp only [okD] at h1 h2
    exact eqvAll_of ih _ _ h1 h2

theorem strOk_of {s : List Nat} (h : ∀ c ∈ s, c < 0x110000) : PyData.strOk (mkS s) = true := by
  unfold PyData.strOk mkS
  simpa using h

mutual
theorem Dp.of {K ρ H n} : ∀ (m : Nat) (d : D) (v : V), okD m d = true → Rp K H ρ n d v → Dp K H v (toPy d) ∧ (toPy d).canLay0 = true ∧ (toPy d).depth ≤ m
  | m, .non, v, _, r => by unfold Rp at r; subst r; simp only [toPy]; exact ⟨.non, by simp [PyData.canLay0], by simp [PyData.depth]⟩
  | m, .bl b, v, _, r => by unfold Rp at r; subst r; simp only [toPy]; exact ⟨.bl _, by simp [PyData.canLay0], by simp [PyData.depth]⟩
  | m, .int b, v, _, r => by unfold Rp at r; subst r; simp only [toPy]; exact ⟨.int _, by simp [PyData.canLay0], by simp [PyData.depth]⟩
  | m, .str b, v, _, r => by
    unfold Rp at r
    obtain ⟨rfl, _, h⟩ := r
    simp only [toPy]
    exact ⟨.str _, by simp only [PyData.canLay0]; exact strOk_of h, by simp [PyData.depth]⟩
  | m + 1, .tup ds, v, o, r => by
    unfold Rp at r
    obtain ⟨a, xs, rfl, hq, rl⟩ := r
    simp only [okD] at o
    obtain ⟨h1, h2, h3⟩ := DpAll.of m ds xs o rl
    simp only [toPy]
    exact ⟨.tup hq.sq h1, by simp only [PyData.canLay0]; exact h2, by simp only [PyData.depth]; omega⟩
  | 0, .tup ds, v, o, r => by simp [okD] at o
  | m, .ref _, v, o, r => by cases m <;> simp [okD] at o
  | m, .con _, v, o, r => by cases m <;> simp [okD] at o
theorem DpAll.of {K ρ H n} : ∀ (m : Nat) (ds : List D) (xs : List V), ds.all (okD m) = true → RpL K H ρ n ds xs → DpAll K H xs (toPyL ds) ∧ PyData.canLayAll0 (toPyL ds) = true ∧ PyData.depthAll (toPyL ds) ≤ m
  | m, [], xs, _, r => by unfold RpL at r; subst r; simp only [toPyL]; exact ⟨.nil, by simp [PyData.canLayAll0], by simp [PyData.depthAll]⟩
  | m, d :: ds, xs, o, r => by
    unfold RpL at r
    obtain ⟨x, r', rfl, r1, r2⟩ := r
    simp only [List.all_cons, Bool.and_eq_true] at o
    obtain ⟨a1, a2, a3⟩ := Dp.of m d x o.1 r1
    obtain ⟨b1, b2, b3⟩ := DpAll.of m ds r' o.2 r2
    simp only [toPyL]
    exact ⟨.cons a1 b1, by simp [PyData.canLayAll0, a2, b2], by simp only [PyData.depthAll]; omega⟩
end

/-- a thing as data: a tree, or a list of trees -/
def refN : D → Option Nat
  | .ref n => some n
  | _ => none
theorem refN_some {d : D} {n : Nat} (e : refN d = some n) : d = .ref n := by
  cases d <;> first
    | (cases e; rfl)
    | cases e
def pyH (h : Hq) (d : D) : Option PyData := match refN d with
  | some n => (lstAt h n).bind fun ds => if ds.all (okD 40) then some (.list (toPyL ds)) else none
  | none => if okD 40 d then some (toPy d) else none
theorem pyH_ok {K ρ h H d v p} (S : Sim K ρ h H) (r : Rp K H ρ h.length d v) (e : pyH h d = some p) : Dp K H v p ∧ SeqAt.shaped p = true := by
  unfold pyH at e
  cases q0 : refN d with
  | some n =>
    have := refN_some q0
    subst this
    simp only [q0] at e
    cases q : lstAt h n with
    | none => simp [q] at e
    | some ds =>
      simp only [q, Option.bind_some] at e
      split at e
      · rename_i hok
        obtain ⟨xs, hx, rl⟩ := S.ob n _ (lstAt_get q)
        unfold Rp at r
        obtain ⟨_, rfl⟩ := r
        obtain ⟨h1, h2, h3⟩ := DpAll.of 40 ds xs hok rl
        have e' := Option.some.inj e
        subst e'
        refine ⟨.lst (.inl (.inl hx)) h1, ?_⟩
        unfold SeqAt.shaped
        simp only [PyData.canLay0, h2, PyData.depth, Bool.true_and]
        exact decide_eq_true (by omega)
      · cases e
  | none =>
    simp only [q0] at e
    split at e
    · rename_i o
      obtain ⟨h1, h2, h3⟩ := Dp.of 40 d v o r
      have e' := Option.some.inj e
      subst e'
      exact ⟨h1, by unfold SeqAt.shaped; rw [h2]; simpa using Nat.le_trans h3 (by decide)⟩
    · cases e
/-- == -/
def eqH (h : Hq) (d e : D) : Option Bool := match refN d, refN e with
  | some m, some n => (lstAt h m).bind fun a => (lstAt h n).bind fun b => if a.all (okD 40) && b.all (okD 40) then some (deqL a b) else none
  | some m, none => (lstAt h m).bind fun a => if a.all (okD 40) && okD 40 e then some false else none
  | none, some m => (lstAt h m).bind fun a => if a.all (okD 40) && okD 40 d then some false else none
  | none, none => if okD 40 d && okD 40 e then some (deq d e) else none
theorem eqv_list_other {a : List PyData} : ∀ {d : D}, okD 40 d = true → PyData.eqv (.list a) (toPy d) = false ∧ PyData.eqv (toPy d) (.list a) = false := by
  intro d o
  cases d <;> first
    | (simp [okD] at o; done)
    | simp [toPy, PyData.eqv]
theorem eqH_ok {h : Hq} {d e : D} {b : Bool} (q : eqH h d e = some b) : ∃ p r, pyH h d = some p ∧ pyH h e = some r ∧ PyData.eqv p r = b := by
  unfold eqH at q
  unfold pyH
  cases q1 : refN d with
  | some m =>
    cases q2 : refN e with
    | some n =>
      simp only [q1, q2] at q ⊢
      cases q3 : lstAt h m with
      | none => simp [q3] at q
      | some a =>
        cases q4 : lstAt h n with
        | none => simp [q3, q4] at q
        | some c =>
          simp only [q3, q4, Option.bind_some] at q ⊢
          split at q
          · rename_i o
            rw [Bool.and_eq_true] at o
            refine ⟨.list (toPyL a), .list (toPyL c), by rw [if_pos o.1], by rw [if_pos o.2], ?_⟩
            simp only [PyData.eqv]
            rw [eqvAll_of (eqv_deq 40) a c o.1 o.2]
            exact Option.some.inj q
          · cases q
    | none =>
      simp only [q1, q2] at q ⊢
      cases q3 : lstAt h m with
      | none => simp [q3] at q
      | some a =>
        simp only [q3, Option.bind_some] at q ⊢
        split at q
        · rename_i o
          rw [Bool.and_eq_true] at o
          refine ⟨.list (toPyL a), toPy e, by rw [if_pos o.1], by rw [if_pos o.2], ?_⟩
          rw [(eqv_list_other o.2).1]
          exact Option.some.inj q
        · cases q
  | none =>
    cases q2 : refN e with
    | some m =>
      simp only [q1, q2] at q ⊢
      cases q3 : lstAt h m with
      | none => simp [q3] at q
      | some a =>
        simp only [q3, Option.bind_some] at q ⊢
        split at q
        · rename_i o
          rw [Bool.and_eq_true] at o
          refine ⟨toPy d, .list (toPyL a), by rw [if_pos o.2], by rw [if_pos o.1], ?_⟩
          rw [(eqv_list_other o.2).2]
          exact Option.some.inj q
        · cases q
    | none =>
      simp only [q1, q2] at q ⊢
      split at q
      · rename_i o
        rw [Bool.and_eq_true] at o
        refine ⟨toPy d, toPy e, by rw [if_pos o.1], by rw [if_pos o.2], ?_⟩
        rw [eqv_deq 40 d e o.1 o.2]
        exact Option.some.inj q
      · cases q
def gEq : W2 := fun d e h P => match eqH h d e with
  | some b => P (.bl b) h
  | none => False
def gNe : W2 := fun d e h P => match eqH h d e with
  | some b => P (.bl (!b)) h
  | none => False
section
variable {X : Cx}
theorem og_eq (hu : X.A.units + 64 < cLine) : OpR X (compareOp .Eq) (lift2 X.K gEq) := by
  refine OpR.imp (op_eqD hu) fun x y H Q ⟨ρ, h, d, e, P, S, r1, r2, w, c⟩ => ?_
  unfold gEq at w
  split at w
  · rename_i b q
    obtain ⟨p, r, h1, h2, h3⟩ := eqH_ok q
    obtain ⟨a1, a2⟩ := pyH_ok S r1 h1
    obtain ⟨b1, b2⟩ := pyH_ok S r2 h2
    exact ⟨p, r, a1, b1, a2, b2, by rw [h3]; exact c ρ h H _ _ .refl S (by unfold Rp; rfl) w⟩
  · exact w.elim
theorem og_ne (hu : X.A.units + 64 < cLine) : OpR X (compareOp .NotEq) (lift2 X.K gNe) := by
  refine OpR.imp (op_neD hu) fun x y H Q ⟨ρ, h, d, e, P, S, r1, r2, w, c⟩ => ?_
  unfold gNe at w
  split at w
  · rename_i b q
    obtain ⟨p, r, h1, h2, h3⟩ := eqH_ok q
    obtain ⟨a1, a2⟩ := pyH_ok S r1 h1
    obtain ⟨b1, b2⟩ := pyH_ok S r2 h2
    exact ⟨p, r, a1, b1, a2, b2, by rw [h3]; exact c ρ h H _ _ .refl S (by unfold Rp; rfl) w⟩
  · exact w.elim
end
end MP

namespace MP
open PySem PySem.Spec PyProof.Rows L2

theorem str_list (s : List Nat) : (mkS s).cps.toList = s := by unfold mkS; simp
theorem str_len (s : List Nat) : (mkS s).length = s.length := by unfold mkS; simp [Str.length]
theorem str_app (a b : List Nat) : mkS a ++ mkS b = mkS (a ++ b) := by
  have : (mkS a ++ mkS b).cps = (mkS (a ++ b)).cps := by
    show a.toArray ++ b.toArray = (a ++ b).toArray
    simp
  cases h : mkS a ++ mkS b with
  | mk c => rw [h] at this; cases h2 : mkS (a ++ b) with
    | mk c2 => rw [h2] at this; exact congrArg Str.mk this
def StrOk (s : List Nat) : Prop := s.length ≤ sizeLine ∧ ∀ c ∈ s, c < 0x110000
theorem rp_str {K H ρ n s v} (r : Rp K H ρ n (.str s) v) : v = .str (mkS s) ∧ StrOk s := by unfold Rp at r; exact r
theorem of_str {K H ρ n s} (h : StrOk s) : Rp K H ρ n (.str s) (.str (mkS s)) := by unfold Rp; exact ⟨rfl, h⟩
theorem rp_int {K H ρ n i v} (r : Rp K H ρ n (.int i) v) : v = .int i := by unfold Rp at r; exact r
theorem of_int {K H ρ n i} : Rp K H ρ n (.int i) (.int i) := by unfold Rp; rfl
theorem rp_bl {K H ρ n i v} (r : Rp K H ρ n (.bl i) v) : v = .bl i := by unfold Rp at r; exact r
theorem of_bl {K H ρ n i} : Rp K H ρ n (.bl i) (.bl i) := by unfold Rp; rfl
theorem rp_non {K H ρ n v} (r : Rp K H ρ n .non v) : v = .non := by unfold Rp at r; exact r
theorem of_non {K H ρ n} : Rp K H ρ n .non .non := by unfold Rp; rfl
theorem rp_tup {K H ρ n ds v} (r : Rp K H ρ n (.tup ds) v) : ∃ a xs, v = .ref a ∧ SqT K H a xs ∧ RpL K H ρ n ds xs := by unfold Rp at r; obtain ⟨a, xs, h1, h2, h3⟩ := r; exact ⟨a, xs, h1, h2.sq, h3⟩
theorem rp_tupT {K H ρ n ds v} (r : Rp K H ρ n (.tup ds) v) : ∃ a xs, v = .ref a ∧ TqT K H a xs ∧ RpL K H ρ n ds xs := by unfold Rp at r; exact r
theorem rp_ref {K H ρ n m v} (r : Rp K H ρ n (.ref m) v) : m < n ∧ v = .ref (ρ m) := by unfold Rp at r; exact r
theorem rp_con {K H ρ n u v} (r : Rp K H ρ n (.con u) v) : v = u := by unfold Rp at r; exact r
theorem of_con {K H ρ n u} : Rp K H ρ n (.con u) u := by unfold Rp; rfl
theorem Sim.lstAt {K ρ h H n ds} (S : Sim K ρ h H) (e : lstAt h n = some ds) : ∃ xs, H (ρ n) = some (.lst xs) ∧ RpL K H ρ h.length ds xs := S.ob n _ (lstAt_get e)

theorem RpL.app {K H ρ n} : ∀ {a b : List D} {xs ys : List V}, RpL K H ρ n a xs → RpL K H ρ n b ys → RpL K H ρ n (a ++ b) (xs ++ ys)
  | [], b, xs, ys, h1, h2 => by unfold RpL at h1; subst h1; exact h2
  | d :: a, b, xs, ys, h1, h2 => by
    unfold RpL at h1
    obtain ⟨x, r, rfl, r1, r2⟩ := h1
    show RpL K H ρ n (d :: (a ++ b)) (x :: (r ++ ys))
    unfold RpL
    exact ⟨x, _, rfl, r1, RpL.app r2 h2⟩
theorem RpL.nil {K H ρ n} : RpL K H ρ n [] [] := by unfold RpL; rfl
theorem RpL.cons {K H ρ n d x ds xs} (h : Rp K H ρ n d x) (t : RpL K H ρ n ds xs) : RpL K H ρ n (d :: ds) (x :: xs) := by unfold RpL; exact ⟨x, xs, rfl, h, t⟩
theorem RpL.get {K H ρ n} : ∀ {ds : List D} {xs : List V} {i : Nat} {d : D}, RpL K H ρ n ds xs → ds[i]? = some d → ∃ x, xs[i]? = some x ∧ Rp K H ρ n d x
  | [], _, _, _, _, e => by simp at e
  | d :: ds, xs, 0, e', r, e => by
    unfold RpL at r
    obtain ⟨x, r', rfl, r1, _⟩ := r
    have : d = e' := by simpa using e
    subst this
    exact ⟨x, rfl, r1⟩
  | d :: ds, xs, i + 1, e', r, e => by
    unfold RpL at r
    obtain ⟨x, r', rfl, _, r2⟩ := r
    obtain ⟨y, h1, h2⟩ := RpL.get r2 (by simpa using e)
    exact ⟨y, by simpa using h1, h2⟩
theorem RpL.take {K H ρ n} : ∀ {ds : List D} {xs : List V} (k : Nat), RpL K H ρ n ds xs → RpL K H ρ n (ds.take k) (xs.take k)
  | _, _, 0, _ => by simp [RpL.nil]
  | [], xs, k + 1, h => by unfold RpL at h; subst h; simp [RpL.nil]
  | d :: ds, xs, k + 1, h => by
    unfold RpL at h
    obtain ⟨x, r, rfl, r1, r2⟩ := h
    exact RpL.cons r1 (RpL.take k r2)
theorem RpL.drop {K H ρ n} : ∀ {ds : List D} {xs : List V} (k : Nat), RpL K H ρ n ds xs → RpL K H ρ n (ds.drop k) (xs.drop k)
  | _, _, 0, h => h
  | [], xs, k + 1, h => by unfold RpL at h; subst h; simp [RpL.nil]
  | d :: ds, xs, k + 1, h => by
    unfold RpL at h
    obtain ⟨x, r, rfl, r1, r2⟩ := h
    exact RpL.drop k r2

/-! ### arithmetic -/
def gAdd : W2 := fun d e h P => match d, e with
  | .int i, .int j => P (.int (i + j)) h
  | .str a, .str b => a.length + b.length ≤ sizeLine ∧ P (.str (a ++ b)) h
  | .tup a, .tup b => a.length + b.length ≤ sizeLine ∧ P (.tup (a ++ b)) h
  | .ref m, .ref n => match lstAt h m, lstAt h n with
    | some a, some b => a.length + b.length ≤ sizeLine ∧ P (.ref h.length) (h ++ [.lst (a ++ b)])
    | _, _ => False
  | _, _ => False
def gSub : W2 := fun d e h P => match d, e with
  | .int i, .int j => P (.int (i - j)) h
  | _, _ => False
def gMod : W2 := fun d e h P => match d, e with
  | .int i, .int j => 0 < j ∧ P (.int (i % j)) h
  | _, _ => False
def gFdiv : W2 := fun d e h P => match d, e with
  | .int i, .int j => (0 < j ∧ j < 1073741824) ∧ P (.int (i / j)) h
  | _, _ => False
def gNeg : W1 := fun d h P => match d with
  | .int i => P (.int (-i)) h
  | _ => False
section
variable {X : Cx}
theorem og_add : OpR X (binaryOp .Add) (lift2 X.K gAdd) := by
  intro pins s σ H x y v u Q I rx ry ⟨ρ, h, d, e, P, S, r1, r2, w, c⟩
  unfold gAdd at w
  split at w
  · have h1 := rp_int r1; have h2 := rp_int r2
    exact op_add pins s σ H x y v u Q I rx ry ⟨_, _, h1, h2, c ρ h H _ _ .refl S of_int w⟩
  · rename_i a b
    obtain ⟨h1, o1⟩ := rp_str r1; obtain ⟨h2, o2⟩ := rp_str r2
    refine op_add_str pins s σ H x y v u Q I rx ry ⟨_, _, h1, h2, by rw [str_len, str_len]; exact w.1, ?_⟩
    rw [str_app]
    exact c ρ h H _ _ .refl S (of_str ⟨by simpa using w.1, fun z hz => (List.mem_append.mp hz).elim (o1.2 z) (o2.2 z)⟩) w.2
  · rename_i a b
    obtain ⟨p, xs, h1, q1, l1⟩ := rp_tup r1; obtain ⟨q, ys, h2, q2, l2⟩ := rp_tup r2
    refine op_catA pins s σ H x y v u Q I rx ry ⟨p, q, xs, ys, h1, h2, q1, q2, by rw [← l1.length, ← l2.length]; exact w.1, fun e => ?_, fun _ e => ?_, fun _ _ => ?_⟩
    · have : a = [] := by
        have := l1.length; rw [e] at this; exact List.eq_nil_of_length_eq_zero this
      subst this
      rw [← h2]; exact c ρ h H _ _ .refl S r2 w.2
    · have : b = [] := by
        have := l2.length; rw [e] at this; exact List.eq_nil_of_length_eq_zero this
      subst this
      have w2 := w.2
      rw [List.append_nil] at w2
      rw [← h1]; exact c ρ h H _ _ .refl S r1 w2
    · exact new_tup S (RpL.app l1 l2) w.2 c
  · rename_i m n
    split at w
    · rename_i a b e1 e2
      obtain ⟨_, h1⟩ := rp_ref r1; obtain ⟨_, h2⟩ := rp_ref r2
      obtain ⟨xs, q1, l1⟩ := S.lstAt e1; obtain ⟨ys, q2, l2⟩ := S.lstAt e2
      exact op_cat pins s σ H x y v u Q I rx ry ⟨_, _, xs, ys, h1, h2, q1, q2, by rw [← l1.length, ← l2.length]; exact w.1, new_lst S (RpL.app l1 l2) w.2 c⟩
    · exact w.elim
  · exact w.elim
def gIadd : W2 := fun d e h P => match d, e with
  | .int i, .int j => P (.int (i + j)) h
  | .str a, .str b => a.length + b.length ≤ sizeLine ∧ P (.str (a ++ b)) h
  | _, _ => False
theorem og_iadd : OpR X (inplaceOp .Add) (lift2 X.K gIadd) := by
  intro pins s σ H x y v u Q I rx ry ⟨ρ, h, d, e, P, S, r1, r2, w, c⟩
  unfold gIadd at w
  split at w
  · have h1 := rp_int r1; have h2 := rp_int r2
    exact iop_add pins s σ H x y v u Q I rx ry ⟨_, _, h1, h2, c ρ h H _ _ .refl S of_int w⟩
  · rename_i a b
    obtain ⟨h1, o1⟩ := rp_str r1; obtain ⟨h2, o2⟩ := rp_str r2
    refine iop_add_str pins s σ H x y v u Q I rx ry ⟨_, _, h1, h2, by rw [str_len, str_len]; exact w.1, ?_⟩
    rw [str_app]
    exact c ρ h H _ _ .refl S (of_str ⟨by simpa using w.1, fun z hz => (List.mem_append.mp hz).elim (o1.2 z) (o2.2 z)⟩) w.2
  · exact w.elim
theorem og_sub : OpR X (binaryOp .Sub) (lift2 X.K gSub) := by
  intro pins s σ H x y v u Q I rx ry ⟨ρ, h, d, e, P, S, r1, r2, w, c⟩
  unfold gSub at w
  split at w
  · exact op_sub pins s σ H x y v u Q I rx ry ⟨_, _, rp_int r1, rp_int r2, c ρ h H _ _ .refl S of_int w⟩
  · exact w.elim
theorem og_mod : OpR X (binaryOp .Mod) (lift2 X.K gMod) := by
  intro pins s σ H x y v u Q I rx ry ⟨ρ, h, d, e, P, S, r1, r2, w, c⟩
  unfold gMod at w
  split at w
  · exact op_mod pins s σ H x y v u Q I rx ry ⟨_, _, rp_int r1, rp_int r2, w.1, c ρ h H _ _ .refl S of_int w.2⟩
  · exact w.elim
theorem og_fdiv : OpR X (binaryOp .FloorDiv) (lift2 X.K gFdiv) := by
  intro pins s σ H x y v u Q I rx ry ⟨ρ, h, d, e, P, S, r1, r2, w, c⟩
  unfold gFdiv at w
  split at w
  · exact op_fdiv pins s σ H x y v u Q I rx ry ⟨_, _, rp_int r1, rp_int r2, w.1, c ρ h H _ _ .refl S of_int w.2⟩
  · exact w.elim
theorem ug_neg : UnR X (unaryOp .USub) (lift1 X.K gNeg) := by
  intro pins s σ H x v Q I rx ⟨ρ, h, d, P, S, r1, w, c⟩
  unfold gNeg at w
  split at w
  · exact un_neg pins s σ H x v Q I rx ⟨_, rp_int r1, c ρ h H _ _ .refl S of_int w⟩
  · exact w.elim

/-! ### order -/
def gOrd (f : Int → Int → Bool) (g : List Nat → List Nat → Bool) : W2 := fun d e h P => match d, e with
  | .int i, .int j => P (.bl (f i j)) h
  | .str a, .str b => P (.bl (g a b)) h
  | _, _ => False
abbrev gLt : W2 := gOrd (fun i j => decide (i < j)) (fun a b => decide (a < b))
abbrev gLe : W2 := gOrd (fun i j => decide (i ≤ j)) (fun a b => !decide (b < a))
abbrev gGt : W2 := gOrd (fun i j => decide (j < i)) (fun a b => decide (b < a))
abbrev gGe : W2 := gOrd (fun i j => decide (j ≤ i)) (fun a b => !decide (a < b))
theorem og_ord {op : CmpOp} {f : Int → Int → Bool} {g : List Nat → List Nat → Bool} (hi : OpR X (compareOp op) (rI0 fun i j => .bl (f i j)))
    (hs : OpR X (compareOp op) (fun x y H Q => ∃ i j, x = .str i ∧ y = .str j ∧ Q (.bl (g i.cps.toList j.cps.toList)) H)) : OpR X (compareOp op) (lift2 X.K (gOrd f g)) := by
  intro pins s σ H x y v u Q I rx ry ⟨ρ, h, d, e, P, S, r1, r2, w, c⟩
  unfold gOrd at w
  split at w
  · exact hi pins s σ H x y v u Q I rx ry ⟨_, _, rp_int r1, rp_int r2, c ρ h H _ _ .refl S of_bl w⟩
  · refine hs pins s σ H x y v u Q I rx ry ⟨_, _, (rp_str r1).1, (rp_str r2).1, ?_⟩
    rw [str_list, str_list]
    exact c ρ h H _ _ .refl S of_bl w
  · exact w.elim
theorem og_lt : OpR X (compareOp .Lt) (lift2 X.K gLt) := og_ord op_lt op_lt_str
theorem og_le : OpR X (compareOp .LtE) (lift2 X.K gLe) := og_ord op_le op_le_str
theorem og_gt : OpR X (compareOp .Gt) (lift2 X.K gGt) := og_ord op_gt op_gt_str
theorem og_ge : OpR X (compareOp .GtE) (lift2 X.K gGe) := og_ord op_ge op_ge_str

/-! ### is -/
def isD (neg : Bool) : W2 := fun d e h P => match d, e with
  | .bl a, .bl b => P (.bl (xor neg (decide (a = b)))) h
  | .non, .non => P (.bl (!neg)) h
  | .bl _, .non | .int _, .non | .str _, .non | .tup _, .non | .ref _, .non => P (.bl neg) h
  | _, _ => False
theorem rp_ne_non {K H ρ n d v} (r : Rp K H ρ n d v) (h1 : d ≠ .non) (h2 : ∀ u, d ≠ .con u) : v ≠ .non := by
  cases d with
  | non => exact (h1 rfl).elim
  | bl _ => rw [rp_bl r]; intro z; cases z
  | int _ => rw [rp_int r]; intro z; cases z
  | str _ => rw [(rp_str r).1]; intro z; cases z
  | tup _ => obtain ⟨a, xs, e, _⟩ := rp_tup r; rw [e]; intro z; cases z
  | ref _ => rw [(rp_ref r).2]; intro z; cases z
  | con u => exact (h2 u rfl).elim
theorem og_is : OpR X (compareOp .Is) (lift2 X.K (isD false)) := by
  intro pins s σ H x y v u Q I rx ry ⟨ρ, h, d, e, P, S, r1, r2, w, c⟩
  have nn : ∀ b : Bool, y = .non → decide (x = .non) = b → P (.bl b) h → wpAny (model X.prog X.w) X.A (compareOp .Is v u) (EP X pins σ Q) X.xe s := fun b hy hx w =>
    op_isN pins s σ H x y v u Q I rx ry ⟨hy, by rw [hx]; exact c ρ h H _ _ .refl S of_bl w⟩
  unfold isD at w
  split at w
  · refine op_isBl pins s σ H x y v u Q I rx ry ⟨_, _, rp_bl r1, rp_bl r2, c ρ h H _ _ .refl S of_bl ?_⟩
    simpa using w
  · exact nn true (rp_non r2) (decide_eq_true (rp_non r1)) w
  all_goals first
    | exact w.elim
    | exact nn false (rp_non r2) (decide_eq_false (rp_ne_non r1 (fun z => by cases z) (fun _ z => by cases z))) w
theorem og_isn : OpR X (compareOp .IsNot) (lift2 X.K (isD true)) := by
  intro pins s σ H x y v u Q I rx ry ⟨ρ, h, d, e, P, S, r1, r2, w, c⟩
  have nn : ∀ b : Bool, y = .non → (!decide (x = .non)) = b → P (.bl b) h → wpAny (model X.prog X.w) X.A (compareOp .IsNot v u) (EP X pins σ Q) X.xe s := fun b hy hx w =>
    op_notN pins s σ H x y v u Q I rx ry ⟨hy, by rw [hx]; exact c ρ h H _ _ .refl S of_bl w⟩
  unfold isD at w
  split at w
  · refine op_notBl pins s σ H x y v u Q I rx ry ⟨_, _, rp_bl r1, rp_bl r2, c ρ h H _ _ .refl S of_bl ?_⟩
    simpa using w
  · exact nn false (rp_non r2) (by rw [decide_eq_true (rp_non r1)]; rfl) w
  all_goals first
    | exact w.elim
    | exact nn true (rp_non r2) (by rw [decide_eq_false (rp_ne_non r1 (fun z => by cases z) (fun _ z => by cases z))]; rfl) w

/-! ### places -/
def gIx : W2 := fun d e h P => match d, e with
  | .tup ds, .int i => match atI ds i with
    | some x => P x h
    | none => False
  | .str s, .int i => match atI s i with
    | some c => P (.str [c]) h
    | none => False
  | .ref n, .int i => match h[n]? with
    | some (.lst ds) => (match atI ds i with
      | some x => P x h
      | none => False)
    | some (.scr ns) => (match atI ns i with
      | some x => P (.int x) h
      | none => False)
    | _ => False
  | _, _ => False
theorem RpL.at_ {K H ρ n ds xs i d} (r : RpL K H ρ n ds xs) (e : atI ds i = some d) : ∃ x, atI xs i = some x ∧ Rp K H ρ n d x := by
  unfold atI at *
  rw [← r.length]
  cases q : ixN ds.length i with
  | none => rw [q] at e; cases e
  | some j => rw [q] at e; exact r.get e
theorem ixg : IxR X (lift2 X.K gIx) := by
  intro value slice pins s σ H x y v u Q I rx ry ⟨ρ, h, d, e, P, S, r1, r2, w, c⟩ hs
  unfold gIx at w
  split at w
  · rename_i ds i
    split at w
    · rename_i z hz
      obtain ⟨a, xs, h1, q1, l1⟩ := rp_tup r1
      obtain ⟨z', h3, h4⟩ := l1.at_ hz
      exact ix_tup value slice pins s σ H x y v u Q I rx ry ⟨a, xs, _, z', h1, rp_int r2, q1, h3, c ρ h H _ _ .refl S h4 w⟩ hs
    · exact w.elim
  · rename_i t i
    split at w
    · rename_i z hz
      obtain ⟨h1, o1⟩ := rp_str r1
      refine ix_str value slice pins s σ H x y v u Q I rx ry ⟨mkS t, _, z, h1, rp_int r2, by rw [str_len]; exact o1.1, by rw [str_list]; exact hz, ?_⟩ hs
      refine c ρ h H (.str [z]) _ .refl S (of_str ⟨by show 1 ≤ _; decide, fun y hy => ?_⟩) w
      have : y = z := by simpa using hy
      subst this
      refine o1.2 _ ?_
      unfold atI at hz
      cases q : ixN t.length i with
      | none => rw [q] at hz; cases hz
      | some j => rw [q] at hz; exact List.mem_of_getElem? hz
    · exact w.elim
  · rename_i n i
    split at w
    · rename_i ds hl
      split at w
      · rename_i z hz
        obtain ⟨xs, q1, l1⟩ := S.ob _ _ hl
        obtain ⟨z', h3, h4⟩ := l1.at_ hz
        exact ix_list value slice pins s σ H x y v u Q I rx ry ⟨_, xs, _, z', (rp_ref r1).2, rp_int r2, .inl (.inl q1), h3, c ρ h H _ _ .refl S h4 w⟩ hs
      · exact w.elim
    · rename_i ns hl
      split at w
      · rename_i z hz
        have q1 := (S.ob _ _ hl).scrL
        have h3 : atI (ns.map V.int) i = some (.int z) := by
          unfold atI at hz ⊢
          rw [List.length_map]
          cases q : ixN ns.length i with
          | none => rw [q] at hz; cases hz
          | some j =>
            rw [q] at hz
            have hz' : ns[j]? = some z := hz
            show (ns.map V.int)[j]? = _
            rw [List.getElem?_map, hz']; rfl
        exact ix_list value slice pins s σ H x y v u Q I rx ry ⟨_, _, _, .int z, (rp_ref r1).2, rp_int r2, q1, h3, c ρ h H _ _ .refl S of_int w⟩ hs
      · exact w.elim
    · exact w.elim
  · exact w.elim
theorem se_ix {a b : Expr} {pos : Pos} {wa wb : WE} {g : W2} (hg : IxR X (lift2 X.K g)) (ha : SE X a wa) (hb : SE X b wb) (hs : PlainIx b) : SE X (.Subscript a b pos) (wOp g wa wb) :=
  PE.imp (pe_ix hg ha hb hs) fun σ H Q q => op_lift q

/-! ### slices -/
def cutL {α : Type} (xs : List α) (lo hi : Option Int) : List α := (xs.drop (HT.sIx xs.length 0 lo)).take (HT.sIx xs.length xs.length hi - HT.sIx xs.length 0 lo)
abbrev WO := Fr → Hq → (Option Int → Hq → Prop) → Prop
def woNone : WO := fun _ h P => P none h
def woSome (w : WE) : WO := fun fr h P => w fr h fun d h1 => match d with
  | .int i => P (some i) h1
  | _ => False
def liftO (K : PySem.W.Frag) (w : WO) : TO := fun σ H Q => ∃ ρ fr h P, Sim K ρ h H ∧ FrR K ρ h.length H fr σ ∧ w fr h P ∧
  ∀ ρ' h' H' o, Ext K ρ h.length H ρ' h'.length H' → Sim K ρ' h' H' → P o h' → Q o H'
theorem PO.imp {X : Cx} {e : Option Expr} {t t' : TO} (h : PO X e t) (i : ∀ σ H Q, t' σ H Q → t σ H Q) : PO X e t' := ⟨fun pins s σ H Q I q => h.run pins s σ H Q I (i σ H Q q)⟩
theorem so_none : PO X none (liftO X.K woNone) := PO.imp po_none fun σ H Q ⟨ρ, fr, h, P, S, F, w, c⟩ => c ρ h H none .refl S w
theorem so_some {e : Expr} {w : WE} (he : SE X e w) : PO X (some e) (liftO X.K (woSome w)) :=
  PO.imp (po_some he) fun σ H Q ⟨ρ, fr, h, P, S, F, w, c⟩ => ⟨ρ, fr, h, _, S, F, w, fun ρ1 h1 H1 d v e1 S1 r1 w1 => by
    cases d with
    | int i => exact ⟨i, rp_int r1, c ρ1 h1 H1 _ e1 S1 w1⟩
    | _ => exact w1.elim⟩
def gSl : D → Option Int → Option Int → Hq → WK → Prop := fun d lo hi h P => match d with
  | .tup ds => P (.tup (cutL ds lo hi)) h
  | .str s => P (.str (cutL s lo hi)) h
  | .ref n => match lstAt h n with
    | some ds => P (.ref h.length) (h ++ [.lst (cutL ds lo hi)])
    | none => False
  | _ => False
def wSl (e : WE) (lo hi : WO) : WE := fun fr h P => e fr h fun d h1 => lo fr h1 fun l h2 => hi fr h2 fun u h3 => gSl d l u h3 P
theorem RpL.cut {K H ρ n ds xs lo hi} (r : RpL K H ρ n ds xs) : RpL K H ρ n (cutL ds lo hi) (cutV xs lo hi) := by
  unfold cutL cutV
  rw [← r.length]
  exact (r.drop _).take _
theorem cut_str (s : List Nat) (lo hi) : cutS (mkS s) lo hi = mkS (cutL s lo hi) := by
  unfold cutS cutL
  rw [str_len, str_list]; rfl
theorem cut_whole {α : Type} {xs : List α} {lo hi} (h : HT.sIx xs.length 0 lo = 0 ∧ HT.sIx xs.length xs.length hi = xs.length) : cutL xs lo hi = xs := by
  unfold cutL
  rw [h.1, h.2]
  simp
theorem slg : SlR X (fun x lo hi H Q => ∃ ρ h d P, Sim X.K ρ h H ∧ Rp X.K H ρ h.length d x ∧ gSl d lo hi h P ∧ ClE X.K ρ h H P Q) := by
  intro pins s σ H x v vl vu lo hi sl Q I rx hs pl pu ⟨ρ, h, d, P, S, r1, w, c⟩
  unfold gSl at w
  split at w
  · rename_i ds
    obtain ⟨a, xs, h1, q1, l1⟩ := rp_tup r1
    refine sl_tupA pins s σ H x v vl vu lo hi sl Q I rx hs pl pu ⟨a, xs, h1, q1, fun e => ?_, fun _ => new_tup S l1.cut w c⟩
    rw [← l1.length] at e
    rw [cut_whole e] at w
    rw [← h1]; exact c ρ h H _ _ .refl S r1 w
  · rename_i t
    obtain ⟨h1, o1⟩ := rp_str r1
    refine sl_str pins s σ H x v vl vu lo hi sl Q I rx hs pl pu ⟨_, h1, by rw [str_len]; exact o1.1, ?_⟩
    rw [cut_str]
    refine c ρ h H _ _ .refl S (of_str ⟨?_, fun z hz => o1.2 z ?_⟩) w
    · unfold cutL
      rw [List.length_take, List.length_drop]
      have := o1.1
      omega
    · exact List.mem_of_mem_drop (List.mem_of_mem_take hz)
  · split at w
    · rename_i n ds hd
      obtain ⟨xs, q1, l1⟩ := S.lstAt hd
      exact sl_list pins s σ H x v vl vu lo hi sl Q I rx hs pl pu ⟨_, xs, (rp_ref r1).2, .inl (.inl q1), new_lst S l1.cut w c⟩
    · exact w.elim
  · exact w.elim
theorem se_slice {e : Expr} {lo hi : Option Expr} {we : WE} {wl wh : WO} {pos p2 : Pos} (he : SE X e we) (hl : PO X lo (liftO X.K wl)) (hh : PO X hi (liftO X.K wh)) : SE X (.Subscript e (.Slice lo hi none p2) pos) (wSl we wl wh) := by
  refine PE.imp (pe_slice slg he hl hh) fun σ H Q ⟨ρ, fr, h, P, S, F, w, c⟩ => ⟨ρ, fr, h, _, S, F, w, fun ρ1 h1 H1 d v e1 S1 r1 w1 => ?_⟩
  refine ⟨ρ1, fr, h1, _, S1, F.ext e1, w1, fun ρ2 h2 H2 l e2 S2 w2 => ?_⟩
  refine ⟨ρ2, fr, h2, _, S2, F.ext (e1.trans e2), w2, fun ρ3 h3 H3 u e3 S3 w3 => ?_⟩
  exact ⟨ρ3, h3, d, P, S3, Rp.ext (e2.trans e3) _ _ r1, w3, c.step (e1.trans (e2.trans e3))⟩
end
end MP

namespace MP
open PySem PySem.Spec PyProof.Rows L2

/-! ### what is walked -/
inductive Src where
  | fix (ds : List D) | lst (n : Nat) | scr (n : Nat) | zip (a b : Src) | enum (a : Src)
/-- at a turn: none: no such thing; some none: the end -/
def Src.tick : Src → Hq → Nat → Option (Option D)
  | .fix ds, _, i => some ds[i]?
  | .lst n, h, i => (lstAt h n).map fun ds => ds[i]?
  | .scr n, h, i => match h[n]? with
    | some (.scr ns) => some ((ns[i]?).map D.int)
    | _ => none
  | .zip a b, h, i => match a.tick h i, b.tick h i with
    | some (some x), some (some y) => some (some (.tup [x, y]))
    | some none, some _ => some none
    | some (some _), some none => some none
    | _, _ => none
  | .enum a, h, i => match a.tick h i with
    | some (some x) => some (some (.tup [.int i, x]))
    | some none => some none
    | none => none
abbrev WI := Fr → Hq → (Src → Hq → Prop) → Prop
def ItOk (K : PySem.W.Frag) (ρ : Nat → Addr) (n : Nat) (H : Hp) (J : It) (s : Src) : Prop := ∀ ρ' h' H' i, Ext K ρ n H ρ' h'.length H' → Sim K ρ' h' H' →
  (s.tick h' i = some none → J.stop i H') ∧ (∀ d, s.tick h' i = some (some d) → J.go i H' ∧ ∀ x H'', J.yld i H' x H'' → Ext K ρ' h'.length H' ρ' h'.length H'' ∧ Sim K ρ' h' H'' ∧ Rp K H'' ρ' h'.length d x)
theorem ItOk.ext {K ρ n H ρ1 n1 H1 J s} (o : ItOk K ρ n H J s) (e : Ext K ρ n H ρ1 n1 H1) : ItOk K ρ1 n1 H1 J s := fun ρ' h' H' i e' => o ρ' h' H' i (e.trans e')
def liftI (K : PySem.W.Frag) (w : WI) : TI := fun σ H R => ∃ ρ fr h P, Sim K ρ h H ∧ FrR K ρ h.length H fr σ ∧ w fr h P ∧
  ∀ ρ' h' H' J s, Ext K ρ h.length H ρ' h'.length H' → Sim K ρ' h' H' → ItOk K ρ' h'.length H' J s → P s h' → R J H'
theorem PI.imp {X : Cx} {tg e : Expr} {t t' : TI} (h : PI X tg e t) (i : ∀ σ H Q, t' σ H Q → t σ H Q) : PI X tg e t' := ⟨fun pins s σ H R I q => h.run pins s σ H R I (i σ H R q)⟩
abbrev SI (X : Cx) (tg e : Expr) (w : WI) : Prop := PI X tg e (liftI X.K w)

/-- over a tuple, a text, a list -/
def wiTup (w : WE) : WI := fun fr h P => w fr h fun d h1 => match d with
  | .tup ds => P (.fix ds) h1
  | _ => False
def wiStr (w : WE) : WI := fun fr h P => w fr h fun d h1 => match d with
  | .str s => P (.fix (s.map fun c => .str [c])) h1
  | _ => False
def wiLst (w : WE) : WI := fun fr h P => w fr h fun d h1 => match d with
  | .ref n => (lstAt h1 n).isSome = true ∧ P (.lst n) h1
  | _ => False
section
variable {X : Cx} {tg e : Expr}
theorem itok_tup {K : PySem.W.Frag} {ρ n H a xs ds} (q : TqT K H a xs) (r : RpL K H ρ n ds xs) : ItOk K ρ n H (Itt K a) (.fix ds) := by
  intro ρ' h' H' i e S
  have q' := e.tp a xs q
  have r' := RpL.ext e ds xs r
  refine ⟨fun z => ⟨xs, q'.sq, ?_⟩, fun d z => ?_⟩
  · have : ds[i]? = none := Option.some.inj z
    rw [← r'.length]; exact List.getElem?_eq_none_iff.mp this
  · have hd : ds[i]? = some d := Option.some.inj z
    obtain ⟨x, hx, rx⟩ := r'.get hd
    refine ⟨⟨xs, x, q'.sq, hx⟩, fun y H'' ⟨e1, e2⟩ => ?_⟩
    subst e1
    have := e2 xs q'.sq
    rw [hx] at this
    cases this
    exact ⟨.refl, S, rx⟩
theorem si_tup {w : WE} (he : SE X e w) : SI X tg e (wiTup w) := by
  refine PI.imp (pi_tup he) fun σ H R ⟨ρ, fr, h, P, S, F, w, c⟩ => ⟨ρ, fr, h, _, S, F, w, fun ρ1 h1 H1 d v e1 S1 r1 w1 => ?_⟩
  cases d with
  | tup ds =>
    obtain ⟨a, xs, rfl, q, l⟩ := rp_tupT r1
    exact ⟨a, rfl, ⟨xs, q.sq⟩, c ρ1 h1 H1 _ _ e1 S1 (itok_tup q l) w1⟩
  | _ => exact w1.elim
theorem itok_str {K : PySem.W.Frag} {ρ n H} {s : List Nat} (o : StrOk s) : ItOk K ρ n H (Its (mkS s)) (.fix (s.map fun c => .str [c])) := by
  intro ρ' h' H' i e S
  have hs : (mkS s).cps.size = s.length := str_len s
  have hg : ∀ i : Nat, (mkS s).cps[i]? = s[i]? := fun i => by unfold mkS; simp
  refine ⟨fun z => ?_, fun d z => ?_⟩
  · have z' : (s.map fun c => D.str [c])[i]? = none := Option.some.inj z
    rw [List.getElem?_map, Option.map_eq_none_iff] at z'
    show (mkS s).cps.size ≤ i
    rw [hs]; exact List.getElem?_eq_none_iff.mp z'
  · have z' : (s.map fun c => D.str [c])[i]? = some d := Option.some.inj z
    rw [List.getElem?_map, Option.map_eq_some_iff] at z'
    obtain ⟨c, hc, rfl⟩ := z'
    refine ⟨?_, fun y H'' ⟨e1, c', hc', e2⟩ => ?_⟩
    · show i < (mkS s).cps.size
      rw [hs]; exact (List.getElem?_eq_some_iff.mp hc).1
    · subst e1
      rw [hg, hc] at hc'
      cases hc'
      subst e2
      exact ⟨.refl, S, of_str (s := [c]) ⟨by show 1 ≤ _; decide, fun y hy => by
        have : y = c := by simpa using hy
        subst this; exact o.2 _ (List.mem_of_getElem? hc)⟩⟩
theorem si_str {w : WE} (he : SE X e w) : SI X tg e (wiStr w) := by
  refine PI.imp (pi_str he) fun σ H R ⟨ρ, fr, h, P, S, F, w, c⟩ => ⟨ρ, fr, h, _, S, F, w, fun ρ1 h1 H1 d v e1 S1 r1 w1 => ?_⟩
  cases d with
  | str s =>
    obtain ⟨rfl, o⟩ := rp_str r1
    exact ⟨_, rfl, c ρ1 h1 H1 _ _ e1 S1 (itok_str o) w1⟩
  | _ => exact w1.elim
theorem itok_lst {K : PySem.W.Frag} {ρ : Nat → Addr} {n H m} (hm : m < n) : ItOk K ρ n H (Itl K (ρ m)) (.lst m) := by
  intro ρ' h' H' i e S
  have em : ρ' m = ρ m := e.ag m hm
  refine ⟨fun z => ?_, fun d z => ?_⟩
  · cases q : lstAt h' m with
    | none => simp [Src.tick, q] at z
    | some ds =>
      simp only [Src.tick, q, Option.map_some, Option.some.injEq] at z
      obtain ⟨xs, hx, l⟩ := S.lstAt q
      rw [em] at hx
      exact ⟨xs, .inl (.inl hx), by rw [← l.length]; exact List.getElem?_eq_none_iff.mp z⟩
  · cases q : lstAt h' m with
    | none => simp [Src.tick, q] at z
    | some ds =>
      simp only [Src.tick, q, Option.map_some, Option.some.injEq] at z
      obtain ⟨xs, hx, l⟩ := S.lstAt q
      rw [em] at hx
      obtain ⟨x, h1, rx⟩ := l.get z
      refine ⟨⟨xs, x, .inl (.inl hx), h1⟩, fun y H'' ⟨e1, e2⟩ => ?_⟩
      subst e1
      have := e2 xs (.inl (.inl hx))
      rw [h1] at this
      cases this
      exact ⟨.refl, S, rx⟩
theorem si_lst {w : WE} (he : SE X e w) : SI X tg e (wiLst w) := by
  refine PI.imp (pi_list he) fun σ H R ⟨ρ, fr, h, P, S, F, w, c⟩ => ⟨ρ, fr, h, _, S, F, w, fun ρ1 h1 H1 d v e1 S1 r1 w1 => ?_⟩
  cases d with
  | ref n =>
    obtain ⟨hn, rfl⟩ := rp_ref r1
    obtain ⟨ds, hd⟩ := Option.isSome_iff_exists.mp w1.1
    obtain ⟨xs, hx, _⟩ := S1.lstAt hd
    exact ⟨_, rfl, ⟨xs, .inl (.inl hx)⟩, c ρ1 h1 H1 _ _ e1 S1 (itok_lst hn) w1.2⟩
  | _ => exact w1.elim
/-- range -/
def wiRng1 (a : WA) : WI := fun fr h P => a fr h fun ds h1 => match ds with
  | [.int j] => (-(2 ^ 62) ≤ j ∧ j < 2 ^ 62) ∧ P (.fix ((List.range j.toNat).map fun i : Nat => D.int ((i : Nat) : Int))) h1
  | _ => False
def wiRng2 (a : WA) : WI := fun fr h P => a fr h fun ds h1 => match ds with
  | [.int i, .int j] => (-(2 ^ 62) ≤ i ∧ i < 2 ^ 62 ∧ -(2 ^ 62) ≤ j ∧ j < 2 ^ 62) ∧ P (.fix ((List.range (j - i).toNat).map fun k : Nat => D.int (i + ((k : Nat) : Int)))) h1
  | _ => False
theorem itok_rng {K : PySem.W.Frag} {ρ : Nat → Addr} {n H} {lo : Int} {k : Nat} : ItOk K ρ n H (Itr lo k) (.fix ((List.range k).map fun i : Nat => D.int (lo + ((i : Nat) : Int)))) := by
  intro ρ' h' H' i e S
  refine ⟨fun z => ?_, fun d z => ?_⟩
  · have z' := Option.some.inj z
    rw [List.getElem?_map, Option.map_eq_none_iff] at z'
    have := List.getElem?_eq_none_iff.mp z'
    have h2 : k ≤ i := by simpa using this
    exact h2
  · have z' := Option.some.inj z
    rw [List.getElem?_map, Option.map_eq_some_iff] at z'
    obtain ⟨c, hc, rfl⟩ := z'
    have hi : i < k := by have := (List.getElem?_eq_some_iff.mp hc).1; simpa using this
    have hc' : c = i := by
      rw [List.getElem?_range hi] at hc
      exact (Option.some.inj hc).symm
    subst hc'
    refine ⟨hi, fun y H'' ⟨e1, e2⟩ => ?_⟩
    subst e1; subst e2
    exact ⟨.refl, S, of_int⟩
theorem RpL.ints {K H ρ n} : ∀ {ds : List D} {xs : List V}, RpL K H ρ n ds xs → ∀ {j : Int}, ds = [.int j] → xs = [.int j] := fun {ds xs} r {j} e => by
  subst e
  unfold RpL at r
  obtain ⟨x, r', rfl, r1, r2⟩ := r
  unfold RpL at r2
  subst r2
  rw [rp_int r1]
theorem rpl1 {K H ρ n d xs} (r : RpL K H ρ n [d] xs) : ∃ x, xs = [x] ∧ Rp K H ρ n d x := by
  unfold RpL at r
  obtain ⟨x, r', rfl, r1, r2⟩ := r
  unfold RpL at r2
  subst r2
  exact ⟨x, rfl, r1⟩
theorem rpl2 {K H ρ n d e xs} (r : RpL K H ρ n [d, e] xs) : ∃ x y, xs = [x, y] ∧ Rp K H ρ n d x ∧ Rp K H ρ n e y := by
  unfold RpL at r
  obtain ⟨x, r', rfl, r1, r2⟩ := r
  obtain ⟨y, rfl, r3⟩ := rpl1 r2
  exact ⟨x, y, rfl, r1, r3⟩
theorem si_rng1 {a : Expr} {ta : WA} {p pos : Pos} (hg : Gl X "range") (hm : X.mg "range" = none) (ha : SA X [a] ta) (hs : starEach [a] X.env = [(false, eval a X.env)]) : SI X tg (.Call (.Name "range" p) [a] [] pos) (wiRng1 ta) := by
  refine PI.imp (pi_range1 hg hm ha hs) fun σ H R ⟨ρ, fr, h, P, S, F, w, c⟩ => ⟨ρ, fr, h, _, S, F, w, fun ρ1 h1 H1 ds xs e1 S1 r1 w1 => ?_⟩
  split at w1
  · rename_i j
    obtain ⟨x, rfl, rx⟩ := rpl1 r1
    refine ⟨j, by rw [rp_int rx], w1.1.1, w1.1.2, c ρ1 h1 H1 _ _ e1 S1 ?_ w1.2⟩
    have := itok_rng (K := X.K) (ρ := ρ1) (n := h1.length) (H := H1) (lo := 0) (k := j.toNat)
    simpa using this
  · exact w1.elim
theorem si_rng2 {a b : Expr} {ta : WA} {p pos : Pos} (hg : Gl X "range") (hm : X.mg "range" = none) (ha : SA X [a, b] ta) (hs : starEach [a, b] X.env = [(false, eval a X.env), (false, eval b X.env)]) (hs2 : starEach [b] X.env = [(false, eval b X.env)]) :
    SI X tg (.Call (.Name "range" p) [a, b] [] pos) (wiRng2 ta) := by
  refine PI.imp (pi_range2 hg hm ha hs hs2) fun σ H R ⟨ρ, fr, h, P, S, F, w, c⟩ => ⟨ρ, fr, h, _, S, F, w, fun ρ1 h1 H1 ds xs e1 S1 r1 w1 => ?_⟩
  split at w1
  · rename_i i j
    obtain ⟨x, y, rfl, rx, ry⟩ := rpl2 r1
    exact ⟨i, j, by rw [rp_int rx, rp_int ry], w1.1, c ρ1 h1 H1 _ _ e1 S1 itok_rng w1.2⟩
  · exact w1.elim
end

/-! ### targets -/
def gName (i : Nat) : WG := fun d fr h P => P (fr.set i (some d)) h
def gTup (n : Nat) (g : WGs) : WG := fun d fr h P => match d with
  | .tup ds => ds.length = n ∧ g ds fr h P
  | _ => False
def gNil : WGs := fun ds fr h P => match ds with
  | [] => P fr h
  | _ => False
def gCons (g : WG) (r : WGs) : WGs := fun ds fr h P => match ds with
  | d :: ds => g d fr h fun fr' h' => r ds fr' h' P
  | [] => False
section
variable {X : Cx} {pos : Pos}
theorem sg_name {i : Nat} {x : Str} (hN : X.N.Nodup) (hi : X.N[i]? = some x) (hx : Loc X.env.scope x) (hf : X.fn x = true ∨ X.env.scope.names.lookup x = some .local) : SG X (.Name x pos) (gName i) := by
  refine PG.imp (pg_name hN hi hx hf) fun v σ H Q ⟨ρ, fr, h, d, P, S, F, r, w, c⟩ => ?_
  exact c ρ h H _ _ .refl S (F.set r) w
theorem sgs_nil : SGs X [] gNil := by
  refine PGs.imp pgs_nil fun vs σ H Q ⟨ρ, fr, h, ds, P, S, F, r, w, c⟩ => ?_
  unfold gNil at w
  split at w
  · unfold RpL at r
    exact ⟨r, c ρ h H _ _ .refl S F w⟩
  · exact w.elim
theorem sgs_cons {e : Expr} {es : List Expr} {g : WG} {r : WGs} (h1 : SG X e g) (h2 : SGs X es r) (hs : (assignEach (e :: es) X.env).map (·.2) = assign e X.env :: (assignEach es X.env).map (·.2)) : SGs X (e :: es) (gCons g r) := by
  refine PGs.imp (pgs_cons h1 h2 hs) fun vs σ H Q ⟨ρ, fr, h, ds, P, S, F, r, w, c⟩ => ?_
  unfold gCons at w
  split at w
  · rename_i d ds
    unfold RpL at r
    obtain ⟨x, r', rfl, r1, r2⟩ := r
    refine ⟨x, r', rfl, ρ, fr, h, d, _, S, F, r1, w, fun ρ1 h1 H1 fr1 σ1 e1 S1 F1 w1 => ?_⟩
    exact ⟨ρ1, fr1, h1, ds, P, S1, F1, RpL.ext e1 _ _ r2, w1, c.step e1⟩
  · exact w.elim
theorem sg_tup {es : List Expr} {k : Nat} {g : WGs} {n : Nat} (hc : X.calm = true) (h : SGs X es g) (hn : (assignEach es X.env).length = n) (hst : (assignEach es X.env).findIdx? (·.1) = none) : SG X (.Tuple es k pos) (gTup n g) := by
  refine PG.imp (pg_tup hc h hn hst) fun v σ H Q ⟨ρ, fr, h, d, P, S, F, r, w, c⟩ => ?_
  unfold gTup at w
  split at w
  · rename_i ds
    obtain ⟨a, xs, rfl, q, l⟩ := rp_tup r
    exact ⟨a, xs, rfl, q, by rw [← l.length]; exact w.1, ρ, fr, h, ds, P, S, F, l, w.2, c⟩
  · exact w.elim

/-! ### statements -/
def wsSeq (a b : WS) : WS := fun M fr h => a { M with nx := b M } fr h
def wsNil : WS := fun M fr h => M.nx fr h
theorem ss_nil : SSs X [] wsNil := PSs.imp pss_nil fun D σ H ⟨ρ, fr, h, M, S, F, w, c1, c2, c3, c4⟩ => c1 ρ h H _ _ .refl S F w
theorem ss_cons {s : Stmt} {ss : List Stmt} {a b : WS} (h1 : SS X s a) (h2 : SSs X ss b) : SSs X (s :: ss) (wsSeq a b) := by
  refine PSs.imp (pss_cons h1 h2) fun D σ H ⟨ρ, fr, h, M, S, F, w, c1, c2, c3, c4⟩ => ?_
  refine ⟨ρ, fr, h, _, S, F, w, fun ρ1 h1 H1 fr1 σ1 e1 S1 F1 w1 => ?_, c2, c3, c4⟩
  exact ⟨ρ1, fr1, h1, M, S1, F1, w1, c1.step e1, c2.step e1, c3.step e1, c4.step e1⟩
def wsRet (w : WE) : WS := fun M fr h => w fr h M.rt
theorem ss_ret {e : Expr} {w : WE} (he : SE X e w) : SS X (.Return (some e) pos) (wsRet w) :=
  PS.imp (ps_ret he) fun D σ H ⟨ρ, fr, h, M, S, F, w, c1, c2, c3, c4⟩ => ⟨ρ, fr, h, _, S, F, w, c2⟩
def wsRetN : WS := fun M fr h => M.rt .non h
theorem ss_retN : SS X (.Return none pos) wsRetN :=
  PS.imp ps_retN fun D σ H ⟨ρ, fr, h, M, S, F, w, c1, c2, c3, c4⟩ => c2 ρ h H _ _ .refl S of_non w
def wsExpr (w : WE) : WS := fun M fr h => w fr h fun _ h1 => M.nx fr h1
theorem ss_expr {e : Expr} {w : WE} (he : SE X e w) (hs : swapsWith e none pos.line X.env = pure false) : SS X (.Expr e pos) (wsExpr w) :=
  PS.imp (ps_expr he hs) fun D σ H ⟨ρ, fr, h, M, S, F, w, c1, c2, c3, c4⟩ => ⟨ρ, fr, h, _, S, F, w, fun ρ1 h1 H1 d v e1 S1 r1 w1 => c1 ρ1 h1 H1 _ _ e1 S1 (F.ext e1) w1⟩
def wsIf (t : WT) (a b : WS) : WS := fun M fr h => t fr h fun k h1 => if k = true then a M fr h1 else b M fr h1
theorem ss_if {c : Expr} {a b : List Stmt} {t : WT} {wa wb : WS} (hc : ST X c t) (ha : SSs X a wa) (hb : SSs X b wb) : SS X (.If c a b pos) (wsIf t wa wb) := by
  refine PS.imp (ps_if hc ha hb) fun D σ H ⟨ρ, fr, h, M, S, F, w, c1, c2, c3, c4⟩ => ⟨ρ, fr, h, _, S, F, w, fun ρ1 h1 H1 b e1 S1 w1 => ?_⟩
  cases b with
  | true => exact ⟨ρ1, fr, h1, M, S1, F.ext e1, w1, c1.step e1, c2.step e1, c3.step e1, c4.step e1⟩
  | false => exact ⟨ρ1, fr, h1, M, S1, F.ext e1, w1, c1.step e1, c2.step e1, c3.step e1, c4.step e1⟩
def wsNever : WS := fun _ _ _ => False
theorem ss_never {s : Stmt} : SS X s wsNever := PS.imp ps_never fun D σ H ⟨ρ, fr, h, M, S, F, w, _⟩ => w.elim
def wsPass : WS := fun M fr h => M.nx fr h
def wsBreak : WS := fun M fr h => M.bk fr h
def wsCont : WS := fun M fr h => M.ct fr h
theorem ss_pass : SS X (.Pass pos) wsPass := PS.imp ps_pass fun D σ H ⟨ρ, fr, h, M, S, F, w, c1, c2, c3, c4⟩ => c1 ρ h H _ _ .refl S F w
theorem ss_break : SS X (.Break pos) wsBreak := PS.imp ps_break fun D σ H ⟨ρ, fr, h, M, S, F, w, c1, c2, c3, c4⟩ => c3 ρ h H _ _ .refl S F w
theorem ss_cont : SS X (.Continue pos) wsCont := PS.imp ps_continue fun D σ H ⟨ρ, fr, h, M, S, F, w, c1, c2, c3, c4⟩ => c4 ρ h H _ _ .refl S F w
def wsAsg (g : WG) (w : WE) : WS := fun M fr h => w fr h fun d h1 => g d fr h1 M.nx
theorem asg_lift {K : PySem.W.Frag} {g : WG} {we : WE} {D σ H} (q : liftS K (wsAsg g we) D σ H) : tAsg (liftE K we) (liftG K g) D σ H := by
  obtain ⟨ρ, fr, h, M, S, F, w, c1, c2, c3, c4⟩ := q
  exact ⟨ρ, fr, h, _, S, F, w, fun ρ1 h1 H1 d v e1 S1 r1 w1 => ⟨ρ1, fr, h1, d, _, S1, F.ext e1, r1, w1, c1.step e1⟩⟩
theorem ss_asg {tg e : Expr} {g : WG} {w : WE} (he : SE X e w) (hg : SG X tg g) (hs : swapsWithSole [tg] e pos.line X.env = pure false) (hw : swappedStores [tg] e X.env = pure none)
    (h1 : (assignEach [tg] X.env).map (·.2) = [assign tg X.env]) : SS X (.Assign [tg] e pos) (wsAsg g w) :=
  PS.imp (ps_asg he hg hs hw h1) fun D σ H q => asg_lift q
/-- a, b = x, y and three of them: no tuple is made -/
def wsPar (i j : Nat) (a : WA) : WS := fun M fr h => a fr h fun ds h1 => match ds with
  | [x, y] => M.nx ((fr.set i (some x)).set j (some y)) h1
  | _ => False
theorem ss_par {i j : Nat} {x y : Str} {a b : Expr} {ta : WA} {px py pt : Pos} {kt k2 pt2} (hc : X.calm = true) (hN : X.N.Nodup) (hi : X.N[i]? = some x) (hj : X.N[j]? = some y) (hij : i ≠ j)
    (hx : X.env.scope.names.lookup x = some .local) (hy : X.env.scope.names.lookup y = some .local) (ha : SA X [a, b] ta)
    (hw : swappedStores [.Tuple [.Name x px, .Name y py] kt pt] (.Tuple [a, b] k2 pt2) X.env = pure (some [x, y]))
    (hs : swapsWithSole [.Tuple [.Name x px, .Name y py] kt pt] (.Tuple [a, b] k2 pt2) pos.line X.env = pure false) :
    SS X (.Assign [.Tuple [.Name x px, .Name y py] kt pt] (.Tuple [a, b] k2 pt2) pos) (wsPar i j ta) := by
  refine PS.imp (ps_par hc hN hi hj hij hx hy ha hw hs) fun D σ H ⟨ρ, fr, h, M, S, F, w, c1, c2, c3, c4⟩ => ⟨ρ, fr, h, _, S, F, w, fun ρ1 h1 H1 ds xs e1 S1 r1 w1 => ?_⟩
  split at w1
  · obtain ⟨u, v, rfl, r2, r3⟩ := rpl2 r1
    exact ⟨u, v, rfl, c1 ρ1 h1 H1 _ _ e1 S1 (((F.ext e1).set r2).set r3) w1⟩
  · exact w1.elim
def wsAug (i : Nat) (g : W2) (w : WE) : WS := fun M fr h => match slot fr i with
  | some x => w fr h fun y h1 => g x y h1 fun z h2 => M.nx (fr.set i (some z)) h2
  | none => False
theorem pip_of {op : Operator} {r : R2} (h : OpR X (inplaceOp op) r) : PIp X op r := fun pins s σ H x y v u Q I r1 r2 q => h pins s σ H x y v u Q I r1 r2 q
theorem ss_aug {i : Nat} {x : Str} {e : Expr} {w : WE} {op : Operator} {g : W2} {pos' : Pos} (hN : X.N.Nodup) (hi : X.N[i]? = some x) (hx : Loc X.env.scope x) (he : SE X e w) (ho : OpR X (inplaceOp op) (lift2 X.K g)) (hf : X.fn x = true ∨ X.env.scope.names.lookup x = some .local) :
    SS X (.AugAssign (.Name x pos') op e pos) (wsAug i g w) := by
  refine PS.imp (ps_aug hN hi hx he (pip_of ho) hf) fun D σ H ⟨ρ, fr, h, M, S, F, w, c1, c2, c3, c4⟩ => ?_
  unfold wsAug at w
  split at w
  · rename_i d hd
    obtain ⟨v, hv, rv⟩ := F.at_ i d (slot_get hd)
    refine ⟨v, hv, ρ, fr, h, _, S, F, w, fun ρ1 h1 H1 d1 v1 e1 S1 r1 w1 => ?_⟩
    exact ⟨ρ1, h1, d, d1, _, S1, Rp.ext e1 _ _ rv, r1, w1, fun ρ2 h2 H2 d2 v2 e2 S2 r2 w2 => c1 ρ2 h2 H2 _ _ (e1.trans e2) S2 ((F.ext (e1.trans e2)).set r2) w2⟩
  · exact w.elim
/-- while: by turns -/
def whN (t : WT) (b : WS) (M : MEnds) : Nat → Fr → Hq → Prop
  | 0, _, _ => False
  | n + 1, fr, h => t fr h fun k h1 => if k = true then b { M with nx := whN t b M n, ct := whN t b M n, bk := M.nx } fr h1 else M.nx fr h1
def wsWhile (t : WT) (b : WS) : WS := fun M fr h => ∃ n, whN t b M n fr h
theorem ss_while {c : Expr} {body : List Stmt} {t : WT} {b : WS} (hp : PassesOwn (model X.prog X.w) X.A X.env X.xe) (hc : ST X c t) (hb : SSs X body b) : SS X (.While c body [] pos) (wsWhile t b) := by
  refine PS.imp (ps_while hp hc hb) fun D σ H ⟨ρ, fr, h, M, S, F, ⟨n, w⟩, c1, c2, c3, c4⟩ => ?_
  refine ⟨fun m σ1 H1 => ∃ ρ1 fr1 h1, Ext X.K ρ h.length H ρ1 h1.length H1 ∧ Sim X.K ρ1 h1 H1 ∧ FrR X.K ρ1 h1.length H1 fr1 σ1 ∧ whN t b M m fr1 h1, ⟨n, ρ, fr, h, .refl, S, F, w⟩, ?_⟩
  rintro m σ1 H1 ⟨ρ1, fr1, h1, e1, S1, F1, w1⟩
  cases m with
  | zero => exact w1.elim
  | succ m =>
    refine ⟨ρ1, fr1, h1, _, S1, F1, w1, fun ρ2 h2 H2 k e2 S2 w2 => ?_⟩
    cases k with
    | true =>
      rw [if_pos rfl] at w2 ⊢
      refine ⟨fun σ3 H3 => ∃ ρ3 fr3 h3, Ext X.K ρ h.length H ρ3 h3.length H3 ∧ Sim X.K ρ3 h3 H3 ∧ FrR X.K ρ3 h3.length H3 fr3 σ3 ∧ whN t b M m fr3 h3, fun σ3 H3 q => ⟨m, Nat.lt_succ_self m, q⟩, ?_⟩
      have e12 := e1.trans e2
      refine ⟨ρ2, fr1, h2, _, S2, F1.ext e2, w2, fun ρ3 h3 H3 fr3 σ3 e3 S3 F3 w3 => ⟨ρ3, fr3, h3, e12.trans e3, S3, F3, w3⟩, c2.step e12, c1.step e12, fun ρ3 h3 H3 fr3 σ3 e3 S3 F3 w3 => ⟨ρ3, fr3, h3, e12.trans e3, S3, F3, w3⟩⟩
    | false =>
      rw [if_neg Bool.false_ne_true] at w2 ⊢
      exact c1 ρ2 h2 H2 _ _ (e1.trans e2) S2 (F1.ext e2) w2
/-- for: by turns -/
def foN (s : Src) (g : WG) (b : WS) (M : MEnds) : Nat → Nat → Fr → Hq → Prop
  | 0, _, _, _ => False
  | n + 1, i, fr, h => match s.tick h i with
    | some (some d) => g d fr h fun fr1 h1 => b { M with nx := foN s g b M n (i + 1), ct := foN s g b M n (i + 1), bk := M.nx } fr1 h1
    | some none => M.nx fr h
    | none => False
def wsFor (wi : WI) (g : WG) (b : WS) : WS := fun M fr h => wi fr h fun s h1 => ∃ n, foN s g b M n 0 fr h1
theorem ss_for {tg iter : Expr} {body : List Stmt} {wi : WI} {g : WG} {b : WS} (hp : PassesOwn (model X.prog X.w) X.A X.env X.xe) (hc : X.calm = true) (hi : SI X tg iter wi) (hg : SG X tg g) (hb : SSs X body b)
    (hs : ∀ x, foldedSetIterable iter X.env x = pure x) : SS X (.For tg iter body [] pos) (wsFor wi g b) := by
  refine PS.imp (ps_for hp hc hi hg hb hs) fun D σ H ⟨ρ, fr, h, M, S, F, w, c1, c2, c3, c4⟩ => ?_
  refine ⟨ρ, fr, h, _, S, F, w, fun ρ1 h1 H1 J s e1 S1 o ⟨n, w1⟩ => ?_⟩
  refine ⟨fun i m σ2 H2 => ∃ ρ2 fr2 h2, Ext X.K ρ1 h1.length H1 ρ2 h2.length H2 ∧ Sim X.K ρ2 h2 H2 ∧ FrR X.K ρ2 h2.length H2 fr2 σ2 ∧ foN s g b M m i fr2 h2, ⟨n, ρ1, fr, h1, .refl, S1, F.ext e1, w1⟩, ?_⟩
  rintro i m σ2 H2 ⟨ρ2, fr2, h2, e2, S2, F2, w2⟩
  cases m with
  | zero => exact w2.elim
  | succ m =>
    unfold foN at w2
    obtain ⟨o1, o2⟩ := o ρ2 h2 H2 i e2 S2
    split at w2
    · rename_i d hd
      obtain ⟨go, yl⟩ := o2 d hd
      refine .inr ⟨go, fun σ3 H3 => ∃ ρ3 fr3 h3, Ext X.K ρ1 h1.length H1 ρ3 h3.length H3 ∧ Sim X.K ρ3 h3 H3 ∧ FrR X.K ρ3 h3.length H3 fr3 σ3 ∧ foN s g b M m (i + 1) fr3 h3, fun σ3 H3 q => ⟨m, Nat.lt_succ_self m, q⟩, fun x H3 hy => ?_⟩
      obtain ⟨e3, S3, r3⟩ := yl x H3 hy
      refine ⟨ρ2, fr2, h2, d, _, S3, F2.ext e3, r3, w2, fun ρ4 h4 H4 fr4 σ4 e4 S4 F4 w4 => ?_⟩
      have e04 := e1.trans (e2.trans (e3.trans e4))
      have e14 := e2.trans (e3.trans e4)
      exact ⟨ρ4, fr4, h4, _, S4, F4, w4, fun ρ5 h5 H5 fr5 σ5 e5 S5 F5 w5 => ⟨ρ5, fr5, h5, e14.trans e5, S5, F5, w5⟩, c2.step e04, c1.step e04, fun ρ5 h5 H5 fr5 σ5 e5 S5 F5 w5 => ⟨ρ5, fr5, h5, e14.trans e5, S5, F5, w5⟩⟩
    · rename_i hd
      exact .inl ⟨o1 hd, c1 ρ2 h2 H2 _ _ (e1.trans e2) S2 F2 w2⟩
    · exact w2.elim
end
end MP

namespace MP
open PySem PySem.Spec PyProof.Rows L2

/-! ### in -/
def flatD : D → Bool
  | .non | .bl _ | .int _ | .str _ => true
  | _ => false
def seqOf (h : Hq) : D → Option (List D)
  | .tup ds => some ds
  | .ref n => lstAt h n
  | _ => none
def gIn (neg : Bool) : W2 := fun d e h P => match e with
  | .str z => match d with
    | .str [c] => P (.bl (xor neg (decide (c ∈ z)))) h
    | _ => False
  | .tup ds => flatD d = true ∧ ds.all flatD = true ∧ P (.bl (xor neg (ds.any fun z => deq z d))) h
  | .ref n => match lstAt h n with
    | some ds => (flatD d = true ∧ ds.all flatD = true ∨ okD 40 d = true ∧ ds.all (okD 40) = true) ∧ P (.bl (xor neg (ds.any fun z => deq z d))) h
    | none => False
  | _ => False
theorem flat_rp {K H ρ n d v} (f : flatD d = true) (r : Rp K H ρ n d v) : flatV v = true := by
  cases d with
  | non => rw [rp_non r]; rfl
  | bl _ => rw [rp_bl r]; rfl
  | int _ => rw [rp_int r]; rfl
  | str _ => rw [(rp_str r).1]; rfl
  | _ => cases f
theorem flat_rpl {K H ρ n} : ∀ {ds : List D} {xs : List V}, ds.all flatD = true → RpL K H ρ n ds xs → xs.all flatV = true
  | [], xs, _, r => by unfold RpL at r; subst r; rfl
  | d :: ds, xs, f, r => by
    unfold RpL at r
    obtain ⟨x, r', rfl, r1, r2⟩ := r
    simp only [List.all_cons, Bool.and_eq_true] at f ⊢
    exact ⟨flat_rp f.1 r1, flat_rpl f.2 r2⟩
theorem eqV_deq {K H ρ n d e x y} (f : flatD d = true) (g : flatD e = true) (r : Rp K H ρ n d x) (q : Rp K H ρ n e y) : eqV x y = deq d e := by
  cases d with
  | non => rw [rp_non r]; cases e with
    | non => rw [rp_non q]; simp [eqV, deq]
    | bl _ => rw [rp_bl q]; simp [eqV, deq]
    | int _ => rw [rp_int q]; simp [eqV, deq]
    | str _ => rw [(rp_str q).1]; simp [eqV, deq]
    | _ => cases g
  | bl _ => rw [rp_bl r]; cases e with
    | non => rw [rp_non q]; simp [eqV, deq]
    | bl _ => rw [rp_bl q]; simp [eqV, deq]
    | int _ => rw [rp_int q]; simp [eqV, deq]
    | str _ => rw [(rp_str q).1]; simp [eqV, deq]
    | _ => cases g
  | int _ => rw [rp_int r]; cases e with
    | non => rw [rp_non q]; simp [eqV, deq]
    | bl _ => rw [rp_bl q]; simp [eqV, deq]
    | int _ => rw [rp_int q]; simp [eqV, deq]
    | str _ => rw [(rp_str q).1]; simp [eqV, deq]
    | _ => cases g
  | str _ => rw [(rp_str r).1]; cases e with
    | non => rw [rp_non q]; simp [eqV, deq]
    | bl _ => rw [rp_bl q]; simp [eqV, deq]
    | int _ => rw [rp_int q]; simp [eqV, deq]
    | str _ => rw [(rp_str q).1]; simp only [eqV, deq]; exact mkS_eq _ _
    | _ => cases g
  | _ => cases f
theorem inV_deq {K H ρ n e y} (g : flatD e = true) (q : Rp K H ρ n e y) : ∀ {ds : List D} {xs : List V}, ds.all flatD = true → RpL K H ρ n ds xs → inV y xs = ds.any fun z => deq z e
  | [], xs, _, r => by unfold RpL at r; subst r; rfl
  | d :: ds, xs, f, r => by
    unfold RpL at r
    obtain ⟨x, r', rfl, r1, r2⟩ := r
    simp only [List.all_cons, Bool.and_eq_true] at f
    have ih := inV_deq g q f.2 r2
    unfold inV at ih ⊢
    simp only [List.any_cons]
    rw [eqV_deq f.1 g r1 q, ih]
theorem any_map_eqv {e : D} (he : okD 40 e = true) : ∀ {ds : List D}, ds.all (okD 40) = true → ((toPyL ds).any fun z => PyData.eqv z (toPy e)) = ds.any fun z => deq z e
  | [], _ => by simp [toPyL]
  | d :: ds, f => by
    simp only [List.all_cons, Bool.and_eq_true] at f
    simp only [toPyL, List.any_cons]
    rw [eqv_deq 40 d e f.1 he, any_map_eqv he f.2]
section
variable {X : Cx}
theorem og_inAny {op : CmpOp} {neg : Bool} (h1 : OpR X (compareOp op) (fun x y H Q => ∃ (c : Nat) (z : Str), x = .str ⟨#[c]⟩ ∧ y = .str z ∧ Q (.bl (xor neg (decide (c ∈ z.cps.toList)))) H))
    (h2 : OpR X (compareOp op) (rIn X.K neg))
    (h3 : OpR X (compareOp op) (fun x y H Q => ∃ d ds, Dp X.K H x d ∧ Dp X.K H y (.list ds) ∧ SeqAt.shaped d = true ∧ SeqAt.shaped (.list ds) = true ∧ Q (.bl (xor neg (ds.any fun z => PyData.eqv z d))) H)) :
    OpR X (compareOp op) (lift2 X.K (gIn neg)) := by
  intro pins s σ H x y v u Q I rx ry ⟨ρ, h, d, e, P, S, r1, r2, w, c⟩
  have xeq : ∀ b : Bool, (if neg then !b else b) = xor neg b := fun b => by cases neg <;> cases b <;> rfl
  unfold gIn at w
  split at w
  · rename_i z
    split at w
    · rename_i k
      refine h1 pins s σ H x y v u Q I rx ry ⟨k, mkS z, (rp_str r1).1, (rp_str r2).1, ?_⟩
      rw [str_list]
      exact c ρ h H _ _ .refl S of_bl w
    · exact w.elim
  · rename_i ds
    obtain ⟨a, xs, h1', q, l⟩ := rp_tup r2
    refine h2 pins s σ H x y v u Q I rx ry ⟨a, xs, h1', .inr q, flat_rp w.1 r1, flat_rpl w.2.1 l, ?_⟩
    rw [inV_deq w.1 r1 w.2.1 l, xeq]
    exact c ρ h H _ _ .refl S of_bl w.2.2
  · rename_i n
    split at w
    · rename_i ds hd
      obtain ⟨xs, q, l⟩ := S.lstAt hd
      rcases w with ⟨⟨f1, f2⟩ | ⟨o1, o2⟩, w⟩
      · refine h2 pins s σ H x y v u Q I rx ry ⟨_, xs, (rp_ref r2).2, .inl (.inl (.inl q)), flat_rp f1 r1, flat_rpl f2 l, ?_⟩
        rw [inV_deq f1 r1 f2 l, xeq]
        exact c ρ h H _ _ .refl S of_bl w
      · obtain ⟨a1, a2, a3⟩ := Dp.of 40 d x o1 r1
        obtain ⟨b1, b2, b3⟩ := DpAll.of 40 ds xs o2 l
        refine h3 pins s σ H x y v u Q I rx ry ⟨toPy d, toPyL ds, a1, by rw [(rp_ref r2).2]; exact .lst (.inl (.inl q)) b1, ?_, ?_, ?_⟩
        · unfold SeqAt.shaped; rw [a2]; exact decide_eq_true (by omega)
        · unfold SeqAt.shaped; simp only [PyData.canLay0, b2, PyData.depth, Bool.true_and]; exact decide_eq_true (by omega)
        · rw [any_map_eqv o1 o2]
          exact c ρ h H _ _ .refl S of_bl w
    · exact w.elim
  · exact w.elim
theorem og_in (hu : X.A.units + 65 < cLine) : OpR X (compareOp .In) (lift2 X.K (gIn false)) :=
  og_inAny (OpR.imp op_in_sign fun x y H Q ⟨c, z, e1, e2, q⟩ => ⟨c, z, e1, e2, by simpa using q⟩) op_in_seq (OpR.imp (op_inD hu) fun x y H Q ⟨d, ds, a, b, a', b', q⟩ => ⟨d, ds, a, b, a', b', by simpa using q⟩)
theorem og_notin (hu : X.A.units + 65 < cLine) : OpR X (compareOp .NotIn) (lift2 X.K (gIn true)) :=
  og_inAny (OpR.imp op_notIn_sign fun x y H Q ⟨c, z, e1, e2, q⟩ => ⟨c, z, e1, e2, by simpa using q⟩) op_notIn_seq (OpR.imp (op_notInD hu) fun x y H Q ⟨d, ds, a, b, a', b', q⟩ => ⟨d, ds, a, b, a', b', by simpa using q⟩)

/-! ### built-ins -/
def wCB (g : WL) (a : WA) : WE := fun fr h P => a fr h fun ds h1 => g ds h1 P
theorem CallR.imp {f : Value} {t t' : List V → Hp → VK → Prop} (h : CallR X f t) (i : ∀ xs H Q, t' xs H Q → t xs H Q) : CallR X f t' := fun pins s σ H xs us Q I r q => h pins s σ H xs us Q I r (i xs H Q q)
theorem cb_lift {K : PySem.W.Frag} {g : WL} {a : WA} {σ H Q} (q : liftE K (wCB g a) σ H Q) : tCB (liftL K g) (liftA K a) σ H Q := by
  obtain ⟨ρ, fr, h, P, S, F, w, c⟩ := q
  exact ⟨ρ, fr, h, _, S, F, w, fun ρ1 h1 H1 ds xs e1 S1 r1 w1 => ⟨ρ1, h1, ds, P, S1, r1, w1, c.step e1⟩⟩
theorem se_callB {x : Str} {id : String} {g : WL} {e : Expr} {es : List Expr} {a : WA} {p pos : Pos} (hc : CallR X (.builtin id) (liftL X.K g)) (hg : Gl X x) (hm : X.mg x = none) (hv : bootBuiltins x = some (.builtin id)) (ha : SA X (e :: es) a) (hn : x ≠ "__name__") (hdb : (x == ("__debug__" : Str)) = false)
    (he : starEach (e :: es) X.env = (false, eval e X.env) :: starEach es X.env) (hpl : (backTo pos (starEach es X.env)).any (·.1) = false) : SE X (.Call (.Name x p) (e :: es) [] pos) (wCB g a) :=
  PE.imp (pe_callB hc hg hm hv ha hn hdb he hpl) fun σ H Q q => cb_lift q
theorem se_callTy {x : Str} {id : String} {g : WL} {e : Expr} {es : List Expr} {a : WA} {p pos : Pos} (hc : CallR X (.type id) (liftL X.K g)) (hg : Gl X x) (hm : X.mg x = none) (hv : bootBuiltins x = some (.type id)) (ha : SA X (e :: es) a) (hn : x ≠ "__name__") (hdb : (x == ("__debug__" : Str)) = false)
    (he : starEach (e :: es) X.env = (false, eval e X.env) :: starEach es X.env) (hpl : (backTo pos (starEach es X.env)).any (·.1) = false) : SE X (.Call (.Name x p) (e :: es) [] pos) (wCB g a) :=
  PE.imp (pe_callTy hc hg hm hv ha hn hdb he hpl) fun σ H Q q => cb_lift q
/-- len -/
def obLen : Ob → Option Nat
  | .lst ds => some ds.length
  | .scr ns => some ns.length
  | _ => none
def lenD (h : Hq) : D → Option Nat
  | .str s => some s.length
  | .tup ds => some ds.length
  | .ref n => h[n]?.bind obLen
  | _ => none
def bLen : WL := fun ds h P => match ds with
  | [d] => (match lenD h d with
    | some n => P (.int (n : Nat)) h
    | none => False)
  | _ => False
theorem cg_len : CallR X (.builtin "len") (liftL X.K bLen) := by
  refine CallR.imp call_len fun xs H Q ⟨ρ, h, ds, P, S, r, w, c⟩ => ?_
  unfold bLen at w
  split at w
  · rename_i d
    obtain ⟨x, rfl, rx⟩ := rpl1 r
    split at w
    · rename_i n hn
      refine ⟨x, n, rfl, ?_, c ρ h H _ _ .refl S of_int w⟩
      cases d with
      | str s =>
        obtain ⟨rfl, o⟩ := rp_str rx
        refine ⟨by rw [str_len]; exact o.1, ?_⟩
        rw [str_len]; exact (Option.some.inj hn).symm
      | tup ds =>
        obtain ⟨a, xs, rfl, q, l⟩ := rp_tup rx
        exact .inr ⟨xs, q, by rw [← l.length]; exact (Option.some.inj hn).symm⟩
      | ref m =>
        rw [(rp_ref rx).2]
        have hn' : h[m]?.bind obLen = some n := hn
        cases hd : h[m]? with
        | none => rw [hd] at hn'; cases hn'
        | some o =>
          rw [hd] at hn'
          cases o with
          | lst ds =>
            obtain ⟨xs, q, l⟩ := S.ob _ _ hd
            exact .inl ⟨xs, .inl (.inl q), by rw [← l.length]; exact (Option.some.inj hn').symm⟩
          | scr ns => exact .inl ⟨_, (S.ob _ _ hd).scrL, by rw [List.length_map]; exact (Option.some.inj hn').symm⟩
          | dct l k => cases hn'
      | _ => cases hn
    · exact w.elim
  · exact w.elim
/-- isinstance -/
def obTy : Ob → Option String
  | .lst _ => some "list"
  | .scr _ => some "list"
  | .dct _ _ => some "dict"
def tyD (h : Hq) : D → Option String
  | .non => some "NoneType"
  | .bl _ => some "bool"
  | .int _ => some "int"
  | .str _ => some "str"
  | .tup _ => some "tuple"
  | .ref n => h[n]?.bind obTy
  | .con _ => none
/-- x of the type a: is it a b? -/
def isTy (a b : String) : Bool := a == b || (a == "bool" && b == "int")
def clsD : D → Option String
  | .con (.ty n) => some n
  | _ => none
def knownTy (b : String) : Bool := b == "int" || b == "bool" || b == "str" || b == "tuple" || b == "list" || b == "dict"
theorem kit_tab : ∀ a ∈ ["NoneType", "bool", "int", "str", "tuple", "list", "dict"], ∀ b ∈ ["int", "bool", "str", "tuple", "list", "dict"], kitB a b = some (isTy a b) := by decide +kernel
theorem known_mem {b : String} (k : knownTy b = true) : b ∈ ["int", "bool", "str", "tuple", "list", "dict"] := by
  unfold knownTy at k
  simp only [Bool.or_eq_true, beq_iff_eq] at k
  simp only [List.mem_cons, List.not_mem_nil, or_false]
  rcases k with ((((k | k) | k) | k) | k) | k
  · exact .inl k
  · exact .inr (.inl k)
  · exact .inr (.inr (.inl k))
  · exact .inr (.inr (.inr (.inl k)))
  · exact .inr (.inr (.inr (.inr (.inl k))))
  · exact .inr (.inr (.inr (.inr (.inr k))))
theorem tyD_mem {h : Hq} {d : D} {a : String} (e : tyD h d = some a) : a ∈ ["NoneType", "bool", "int", "str", "tuple", "list", "dict"] := by
  cases d with
  | ref n =>
    have e' : h[n]?.bind obTy = some a := e
    cases hd : h[n]? with
    | none => rw [hd] at e'; cases e'
    | some o => rw [hd] at e'; cases o <;> (cases e'; simp)
  | con _ => cases e
  | _ => cases e; simp
theorem tyD_ok {K ρ h H d v a} (S : Sim K ρ h H) (r : Rp K H ρ h.length d v) (e : tyD h d = some a) : TyX K H v (.type a) := by
  cases d with
  | non => cases e; rw [rp_non r]; exact .base .non
  | bl _ => cases e; rw [rp_bl r]; exact .base (.bl _)
  | int _ => cases e; rw [rp_int r]; exact .base (.int _)
  | str _ => cases e; rw [(rp_str r).1]; exact .base (.str _)
  | tup ds =>
    cases e
    obtain ⟨p, xs, rfl, q, l⟩ := rp_tupT r
    rcases q with q | ⟨o, its, n, q1, q2, _⟩
    · exact .base (.tup q)
    · exact .kTuple q1 q2
  | con _ => cases e
  | ref n =>
    have e' : h[n]?.bind obTy = some a := e
    rw [(rp_ref r).2]
    cases hd : h[n]? with
    | none => rw [hd] at e'; cases e'
    | some o =>
      rw [hd] at e'
      cases o with
      | lst ds => cases e'; obtain ⟨xs, q, _⟩ := S.ob _ _ hd; exact .base (.lst q)
      | scr ns =>
        cases e'
        rcases S.ob _ _ hd with ⟨o, q⟩ | ⟨o, its, n, q1, q2, _⟩
        · exact .base (.frz q)
        · exact .kList q1 q2
      | dct l k => exact (S.ob _ _ hd).elim
def bIsi : WL := fun ds h P => match ds with
  | [d, e] => (match tyD h d, e with
    | some a, .con (.ty b) => knownTy b = true ∧ P (.bl (isTy a b)) h
    | some a, .tup es => es.all (fun x => match clsD x with | some b => knownTy b | none => false) = true ∧ P (.bl (es.any fun x => match clsD x with | some b => isTy a b | none => false)) h
    | _, _ => False)
  | _ => False
theorem isiT {K : PySem.W.Frag} {H ρ n} {a : String} (ha : a ∈ ["NoneType", "bool", "int", "str", "tuple", "list", "dict"]) : ∀ {es : List D} {cs : List V}, es.all (fun x => match clsD x with | some b => knownTy b | none => false) = true → RpL K H ρ n es cs →
    ∃ us, Paired ClsV cs us ∧ PySem.W.kitAny K (.type a) us = some (es.any fun x => match clsD x with | some b => isTy a b | none => false)
  | [], cs, _, r => by unfold RpL at r; subst r; exact ⟨[], .nil, rfl⟩
  | e :: es, cs, f, r => by
    unfold RpL at r
    obtain ⟨x, r', rfl, r1, r2⟩ := r
    simp only [List.all_cons, Bool.and_eq_true] at f
    obtain ⟨us, h1, h2⟩ := isiT ha f.2 r2
    cases e with
    | con c =>
      cases c with
      | ty b =>
        have hx := rp_con r1
        subst hx
        refine ⟨.type b :: us, .cons (.ty b) h1, ?_⟩
        have hk : PySem.W.kitOne K (.type a) (.type b) = some (isTy a b) := kit_ty (kit_tab a ha b (known_mem f.1))
        refine kitAny_cons hk (fun q => ?_) (fun q => ?_)
        · rw [h2]; simp [clsD, q]
        · simp [clsD, q]
      | _ => exact absurd f.1 (by simp [clsD])
    | _ => exact absurd f.1 (by simp [clsD])
theorem cg_isi : CallR X (.builtin "isinstance") (liftL X.K bIsi) := by
  intro pins s σ H xs us Q I rv ⟨ρ, h, ds, P, S, r, w, c⟩
  unfold bIsi at w
  split at w
  · rename_i d e
    obtain ⟨x, y, rfl, rx, ry⟩ := rpl2 r
    split at w
    · rename_i a b ht
      have hy := rp_con ry
      subst hy
      exact call_isi pins s σ H _ us Q I rv ⟨x, .ty b, .type a, .type b, isTy a b, rfl, .ty b, tyD_ok S rx ht, kit_ty (kit_tab a (tyD_mem ht) b (known_mem w.1)), c ρ h H _ _ .refl S of_bl w.2⟩
    · rename_i a es ht
      obtain ⟨p, cs, rfl, q, l⟩ := rp_tupT ry
      obtain ⟨us', h1, h2⟩ := isiT (tyD_mem ht) w.1 l
      rcases q with q | ⟨o, its, n, q1, q2, q3, _, q4⟩
      · exact call_isiT pins s σ H _ us Q I rv ⟨x, p, cs, .type a, us', _, rfl, q, h1, tyD_ok S rx ht, h2, c ρ h H _ _ .refl S of_bl w.2⟩
      · obtain ⟨oc, od, dt, sl⟩ := o
        simp only at q2 q3
        subst q2 q3
        have e3 := ClsV.all h1 q4
        refine call_isiK pins s σ H _ us Q I rv ⟨x, p, od, us', n, sl, .type a, _, rfl, ?_, tyD_ok S rx ht, h2, c ρ h H _ _ .refl S of_bl w.2⟩
        rw [q1, ← e3]
    · exact w.elim
  · exact w.elim
end
end MP

namespace MP
open PySem PySem.Spec PyProof.Rows L2

/-! ### where a sign stands in a text -/
theorem occ_done (s sub : Str) (hi : Nat) : ∀ (l : List Nat) (st : Array Nat × Nat), st.fst.size = 1 → (forIn l st (PySem.StrLaws.occBody s sub hi 1)).run = st
  | [], _, _ => rfl
  | a :: l, st, h => by
    rw [List.forIn_cons]
    unfold PySem.StrLaws.occBody
    rw [if_neg (by rintro ⟨⟨⟨q, _⟩, _⟩, _⟩; omega)]
    exact occ_done s sub hi l st h
theorem occ_find (s sub : Str) (hi : Nat) : ∀ (l : List Nat) (st : Array Nat × Nat), st.fst = #[] → st.snd = 0 →
    (forIn l st (PySem.StrLaws.occBody s sub hi 1)).run.fst.toList = (match l.find? (fun i => decide (i + sub.length ≤ hi) && Builtin.Str.subAt s sub i) with | some i => [i] | none => [])
  | [], st, h, _ => by
    show st.fst.toList = []
    rw [h]
  | a :: l, st, h, h0 => by
    rw [List.forIn_cons, List.find?_cons]
    unfold PySem.StrLaws.occBody
    by_cases c : a + sub.length ≤ hi ∧ Builtin.Str.subAt s sub a = true
    · rw [if_pos ⟨⟨⟨by rw [h]; decide, by omega⟩, c.1⟩, c.2⟩]
      have e : (decide (a + sub.length ≤ hi) && Builtin.Str.subAt s sub a) = true := by rw [Bool.and_eq_true]; exact ⟨decide_eq_true c.1, c.2⟩
      rw [e]
      show (forIn l (st.fst.push a, a + sub.length) (PySem.StrLaws.occBody s sub hi 1)).run.fst.toList = [a]
      rw [occ_done s sub hi l _ (by rw [h]; rfl), h]
      rfl
    · rw [if_neg (by rintro ⟨⟨⟨_, _⟩, q⟩, q'⟩; exact c ⟨q, q'⟩)]
      have e : (decide (a + sub.length ≤ hi) && Builtin.Str.subAt s sub a) = false := by
        rw [Bool.and_eq_false_iff]
        by_cases q : a + sub.length ≤ hi
        · right
          cases z : Builtin.Str.subAt s sub a with
          | true => exact (c ⟨q, z⟩).elim
          | false => rfl
        · left; exact decide_eq_false q
      rw [e]
      exact occ_find s sub hi l st h h0
theorem find_range : ∀ (n a : Nat) (p : Nat → Bool) (i : Nat), (List.range' a n).find? p = some i → p i = true ∧ a ≤ i ∧ ∀ j, a ≤ j → j < i → p j = false
  | 0, a, p, i, h => by simp at h
  | n + 1, a, p, i, h => by
    rw [List.range'_succ, List.find?_cons] at h
    cases q : p a with
    | true =>
      rw [q] at h
      have : a = i := Option.some.inj h
      subst this
      exact ⟨q, Nat.le_refl _, fun j h1 h2 => by omega⟩
    | false =>
      rw [q] at h
      obtain ⟨h1, h2, h3⟩ := find_range n (a + 1) p i h
      refine ⟨h1, by omega, fun j h4 h5 => ?_⟩
      by_cases hj : j = a
      · subst hj; exact q
      · exact h3 j (by omega) h5
/-- the first place of a sign -/
theorem occ_index (s : List Nat) (c : Nat) (h : c ∈ s) : Builtin.Str.occurrences (mkS s) ⟨#[c]⟩ 0 (mkS s).length 1 = [s.idxOf c] := by
  have e := occ_find (mkS s) ⟨#[c]⟩ (mkS s).length (List.range' 0 ((mkS s).length + 1 - 0)) (#[], 0) rfl rfl
  rw [← PySem.StrLaws.occ_eq] at e
  rw [e]
  have key : ∀ i, (decide (i + (⟨#[c]⟩ : Str).length ≤ (mkS s).length) && Builtin.Str.subAt (mkS s) ⟨#[c]⟩ i) = true ↔ s[i]? = some c := fun i => by
    have := PySem.StrLaws.subAt_one (mkS s) c i
    rw [str_list] at this
    rw [Bool.and_eq_true, decide_eq_true_iff]
    exact this
  have hlt : s.idxOf c < s.length := List.idxOf_lt_length_of_mem h
  cases q : (List.range' 0 ((mkS s).length + 1 - 0)).find? (fun i => decide (i + (⟨#[c]⟩ : Str).length ≤ (mkS s).length) && Builtin.Str.subAt (mkS s) ⟨#[c]⟩ i) with
  | none =>
    rw [List.find?_eq_none] at q
    refine (q (s.idxOf c) ?_ ?_).elim
    · rw [str_len]; simp; omega
    · rw [key, List.getElem?_eq_getElem hlt]
      simp
  | some i =>
    obtain ⟨h1, _, h3⟩ := find_range _ _ _ _ q
    have h1' := (key i).mp h1
    have hi : i < s.length := (List.getElem?_eq_some_iff.mp h1').1
    have : i = s.idxOf c := by
      rcases Nat.lt_trichotomy i (s.idxOf c) with z | z | z
      · exfalso
        have h4 := List.not_of_lt_findIdx (p := (· == c)) (xs := s) z
        rw [List.getElem?_eq_getElem hi] at h1'
        have h5 := Option.some.inj h1'
        simp [h5] at h4
      · exact z
      · exfalso
        have h5 := h3 (s.idxOf c) (Nat.zero_le _) z
        have h6 : (decide (s.idxOf c + (⟨#[c]⟩ : Str).length ≤ (mkS s).length) && Builtin.Str.subAt (mkS s) ⟨#[c]⟩ (s.idxOf c)) = true := by
          rw [key, List.getElem?_eq_getElem hlt]; simp
        rw [h6] at h5; cases h5
    rw [this]

/-! ### more built-ins -/
def blsOf : List D → Option (List Bool)
  | [] => some []
  | .bl b :: r => (blsOf r).map (b :: ·)
  | _ => none
theorem blsOf_map {α : Type} (f : α → Bool) : ∀ xs : List α, blsOf (xs.map fun x => .bl (f x)) = some (xs.map f)
  | [] => rfl
  | x :: xs => by simp [blsOf, blsOf_map f xs]
def strsOf : List D → Option (List (List Nat))
  | [] => some []
  | .str b :: r => (strsOf r).map (b :: ·)
  | _ => none
theorem strsOf_map {α : Type} (f : α → List Nat) : ∀ xs : List α, strsOf (xs.map fun x => .str (f x)) = some (xs.map f)
  | [] => rfl
  | x :: xs => by simp [strsOf, strsOf_map f xs]
theorem bls_rp {K H ρ n} : ∀ {ds : List D} {bs : List Bool} {xs : List V}, blsOf ds = some bs → RpL K H ρ n ds xs → xs = bs.map V.bl
  | [], bs, xs, e, r => by unfold RpL at r; subst r; cases e; rfl
  | d :: ds, bs, xs, e, r => by
    unfold RpL at r
    obtain ⟨x, r', rfl, r1, r2⟩ := r
    cases d with
    | bl b =>
      have e' : (blsOf ds).map (b :: ·) = some bs := e
      cases q : blsOf ds with
      | none => rw [q] at e'; cases e'
      | some cs =>
        rw [q] at e'
        have := Option.some.inj e'
        subst this
        rw [rp_bl r1, bls_rp q r2]; rfl
    | _ => cases e
theorem strs_rp {K H ρ n} : ∀ {ds : List D} {ss : List (List Nat)} {xs : List V}, strsOf ds = some ss → RpL K H ρ n ds xs → xs = ss.map (fun s => V.str (mkS s)) ∧ ∀ s ∈ ss, StrOk s
  | [], bs, xs, e, r => by unfold RpL at r; subst r; cases e; exact ⟨rfl, fun _ h => by cases h⟩
  | d :: ds, bs, xs, e, r => by
    unfold RpL at r
    obtain ⟨x, r', rfl, r1, r2⟩ := r
    cases d with
    | str b =>
      have e' : (strsOf ds).map (b :: ·) = some bs := e
      cases q : strsOf ds with
      | none => rw [q] at e'; cases e'
      | some cs =>
        rw [q] at e'
        have := Option.some.inj e'
        subst this
        obtain ⟨h1, h2⟩ := strs_rp q r2
        obtain ⟨h3, h4⟩ := rp_str r1
        refine ⟨by rw [h3, h1]; rfl, fun s hs => ?_⟩
        rcases List.mem_cons.mp hs with rfl | hs
        · exact h4
        · exact h2 s hs
    | _ => cases e
def bAllAny (f : List Bool → Bool) : WL := fun ds h P => match ds with
  | [.ref n] => (match (lstAt h n).bind blsOf with
    | some bs => P (.bl (f bs)) h
    | none => False)
  | _ => False
abbrev bAll : WL := bAllAny fun bs => bs.all id
abbrev bAny : WL := bAllAny fun bs => bs.any id
section
variable {X : Cx}
theorem cg_allAny {id : String} {f : List Bool → Bool} (hr : CallR X (.builtin id) (fun vs H Q => ∃ (a : Addr) (bs : List Bool), vs = [V.ref a] ∧ SqL X.K H a (bs.map V.bl) ∧ Q (.bl (f bs)) H)) : CallR X (.builtin id) (liftL X.K (bAllAny f)) := by
  refine CallR.imp hr fun xs H Q ⟨ρ, h, ds, P, S, r, w, c⟩ => ?_
  unfold bAllAny at w
  split at w
  · rename_i n
    obtain ⟨x, rfl, rx⟩ := rpl1 r
    cases q : lstAt h n with
    | none => simp [q] at w
    | some es =>
      simp only [q, Option.bind_some] at w
      cases q2 : blsOf es with
      | none => simp [q2] at w
      | some bs =>
        simp only [q2] at w
        obtain ⟨ys, h1, l⟩ := S.lstAt q
        rw [bls_rp q2 l] at h1
        exact ⟨_, bs, by rw [(rp_ref rx).2], .inl (.inl h1), c ρ h H _ _ .refl S of_bl w⟩
  · exact w.elim
theorem cg_all (hc : X.calm = true) : CallR X (.builtin "all") (liftL X.K bAll) := cg_allAny (CallR.imp (cr_all hc) fun _ _ _ q => q)
theorem cg_any (hc : X.calm = true) : CallR X (.builtin "any") (liftL X.K bAny) := cg_allAny (CallR.imp (cr_any hc) fun _ _ _ q => q)
def bTup : WL := fun ds h P => match ds with
  | [.tup es] => P (.tup es) h
  | [.ref n] => (match lstAt h n with
    | some es => P (.tup es) h
    | none => False)
  | _ => False
theorem cg_tup : CallR X (.type "tuple") (liftL X.K bTup) := by
  refine CallR.imp call_tuple_of fun xs H Q ⟨ρ, h, ds, P, S, r, w, c⟩ => ?_
  unfold bTup at w
  split at w
  · obtain ⟨x, rfl, rx⟩ := rpl1 r
    obtain ⟨a, ys, rfl, q, l⟩ := rp_tup rx
    exact ⟨a, ys, rfl, .inr ⟨q, c ρ h H _ _ .refl S rx w⟩⟩
  · obtain ⟨x, rfl, rx⟩ := rpl1 r
    split at w
    · rename_i n es q
      obtain ⟨ys, h1, l⟩ := S.lstAt q
      exact ⟨_, ys, by rw [(rp_ref rx).2], .inl ⟨.inl (.inl h1), new_tup S l w c⟩⟩
    · exact w.elim
  · exact w.elim
def bLst : WL := fun ds h P => match ds with
  | [.tup es] => P (.ref h.length) (h ++ [.lst es])
  | [.ref n] => (match lstAt h n with
    | some es => P (.ref h.length) (h ++ [.lst es])
    | none => False)
  | _ => False
theorem cg_lst : CallR X (.type "list") (liftL X.K bLst) := by
  refine CallR.imp call_list_of fun xs H Q ⟨ρ, h, ds, P, S, r, w, c⟩ => ?_
  unfold bLst at w
  split at w
  · obtain ⟨x, rfl, rx⟩ := rpl1 r
    obtain ⟨a, ys, rfl, q, l⟩ := rp_tup rx
    exact ⟨a, ys, rfl, .inr q, new_lst S l w c⟩
  · obtain ⟨x, rfl, rx⟩ := rpl1 r
    split at w
    · rename_i n es q
      obtain ⟨ys, h1, l⟩ := S.lstAt q
      exact ⟨_, ys, by rw [(rp_ref rx).2], .inl (.inl (.inl h1)), new_lst S l w c⟩
    · exact w.elim
  · exact w.elim
def bInt : WL := fun ds h P => match ds with
  | [.int i] => P (.int i) h
  | [.bl b] => P (.int (if b then 1 else 0)) h
  | _ => False
theorem cg_int : CallR X (.type "int") (liftL X.K bInt) := by
  refine CallR.imp call_int1 fun xs H Q ⟨ρ, h, ds, P, S, r, w, c⟩ => ?_
  unfold bInt at w
  split at w
  · obtain ⟨x, rfl, rx⟩ := rpl1 r
    exact .inl ⟨_, by rw [rp_int rx], c ρ h H _ _ .refl S of_int w⟩
  · obtain ⟨x, rfl, rx⟩ := rpl1 r
    exact .inr ⟨_, by rw [rp_bl rx], c ρ h H _ _ .refl S of_int w⟩
  · exact w.elim
def bMin2 : WL := fun ds h P => match ds with
  | [.int i, .int j] => P (.int (if j < i then j else i)) h
  | _ => False
def bMax2 : WL := fun ds h P => match ds with
  | [.int i, .int j] => P (.int (if j > i then j else i)) h
  | _ => False
theorem cg_min2 (hc : X.calm = true) : CallR X (.builtin "min") (liftL X.K bMin2) := by
  refine CallR.imp (call_min2 hc) fun xs H Q ⟨ρ, h, ds, P, S, r, w, c⟩ => ?_
  unfold bMin2 at w
  split at w
  · obtain ⟨x, y, rfl, rx, ry⟩ := rpl2 r
    exact ⟨_, _, by rw [rp_int rx, rp_int ry], c ρ h H _ _ .refl S of_int w⟩
  · exact w.elim
theorem cg_max2 (hc : X.calm = true) : CallR X (.builtin "max") (liftL X.K bMax2) := by
  refine CallR.imp (call_max2 hc) fun xs H Q ⟨ρ, h, ds, P, S, r, w, c⟩ => ?_
  unfold bMax2 at w
  split at w
  · obtain ⟨x, y, rfl, rx, ry⟩ := rpl2 r
    exact ⟨_, _, by rw [rp_int rx, rp_int ry], c ρ h H _ _ .refl S of_int w⟩
  · exact w.elim

/-! ### methods -/
def tyB (T : String) (h : Hq) (d : D) : Bool := match d with
  | .str _ => T == "str"
  | .ref n => T == "list" && (lstAt h n).isSome
  | _ => false
def wBM (T : String) (g : D → List D → Hq → WK → Prop) (o : WE) (a : WA) : WE := fun fr h P => o fr h fun d h1 => tyB T h1 d = true ∧ a fr h1 fun ds h2 => g d ds h2 P
def liftM (K : PySem.W.Frag) (g : D → List D → Hq → WK → Prop) : V → List V → Hp → VK → Prop := fun x xs H Q => ∃ ρ h d ds P, Sim K ρ h H ∧ Rp K H ρ h.length d x ∧ RpL K H ρ h.length ds xs ∧ g d ds h P ∧ ClE K ρ h H P Q
theorem tyB_ok {K ρ h H T d v} (S : Sim K ρ h H) (r : Rp K H ρ h.length d v) (e : tyB T h d = true) : tyV K T v H := by
  unfold tyB at e
  split at e
  · rw [(rp_str r).1]; exact eq_of_beq e
  · rename_i n
    rw [Bool.and_eq_true] at e
    obtain ⟨ds, hd⟩ := Option.isSome_iff_exists.mp e.2
    obtain ⟨xs, hx, _⟩ := S.lstAt hd
    rw [(rp_ref r).2]
    exact .inl ⟨eq_of_beq e.1, xs, .inl (.inl hx)⟩
  · cases e
theorem bm_lift {K : PySem.W.Frag} {T} {g : D → List D → Hq → WK → Prop} {o : WE} {a : WA} {σ H Q} (q : liftE K (wBM T g o a) σ H Q) : tBM K T (liftM K g) (liftE K o) (liftA K a) σ H Q := by
  obtain ⟨ρ, fr, h, P, S, F, w, c⟩ := q
  refine ⟨ρ, fr, h, _, S, F, w, fun ρ1 h1 H1 d v e1 S1 r1 w1 => ⟨tyB_ok S1 r1 w1.1, ?_⟩⟩
  exact ⟨ρ1, fr, h1, _, S1, F.ext e1, w1.2, fun ρ2 h2 H2 ds xs e2 S2 r2 w2 => ⟨ρ2, h2, d, ds, P, S2, Rp.ext e2 _ _ r1, r2, w2, c.step (e1.trans e2)⟩⟩
theorem se_bm {o e : Expr} {es : List Expr} {wo : WE} {wa : WA} {name : Str} {apos cpos : Pos} {T id : String} {g : D → List D → Hq → WK → Prop} (pa : PlainAttrs T) (slot : Slot T name id) (hty : typeOf (.builtin id) = pure (.type "method_descriptor"))
    (hm : MtR X id (liftM X.K g)) (ho : SE X o wo) (ha : SA X (e :: es) wa) (hbase : attributeBase o name X.env (eval o X.env) = eval o X.env)
    (hfew : ((backTo cpos (starEach (e :: es) X.env)).all (fun x => !x.1) && (backToKw cpos (keywordEach [] X.env)).all (fun x => x.1.isSome)
      && decide ((e :: es).length + ([] : List Keyword).length + (if ([] : List Keyword).isEmpty then 0 else 1) < 30)) = true)
    (hline : (apos.endLine == cpos.line) = true) (hs : starEach (e :: es) X.env = (false, eval e X.env) :: starEach es X.env) (hplain : (backTo cpos (starEach es X.env)).any (·.1) = false) :
    SE X (.Call (.Attribute o name apos) (e :: es) [] cpos) (wBM T g wo wa) :=
  PE.imp (pe_bm pa slot hty hm ho ha hbase hfew hline hs hplain) fun σ H Q q => bm_lift q
theorem se_bm0 {o : Expr} {wo : WE} {name : Str} {apos cpos : Pos} {T id : String} {g : D → List D → Hq → WK → Prop} (pa : PlainAttrs T) (slot : Slot T name id) (hty : typeOf (.builtin id) = pure (.type "method_descriptor"))
    (hm : MtR X id (liftM X.K g)) (ho : SE X o wo) (hbase : attributeBase o name X.env (eval o X.env) = eval o X.env) (hline : (apos.endLine == cpos.line) = true) :
    SE X (.Call (.Attribute o name apos) [] [] cpos) (wBM T g wo waNil) := by
  refine PE.imp (pe_bm0 pa slot hty hm ho hbase hline) fun σ H Q ⟨ρ, fr, h, P, S, F, w, c⟩ => ?_
  exact ⟨ρ, fr, h, _, S, F, w, fun ρ1 h1 H1 d v e1 S1 r1 w1 => ⟨tyB_ok S1 r1 w1.1, ρ1, h1, d, [], P, S1, r1, .nil, w1.2, c.step e1⟩⟩
def mAppend : D → List D → Hq → WK → Prop := fun d ds h P => match d, ds with
  | .ref n, [y] => (match lstAt h n with
    | some es => es.length < sizeLine ∧ P .non (h.set n (.lst (es ++ [y])))
    | none => False)
  | _, _ => False
theorem mg_append : MtR X "list.append" (liftM X.K mAppend) := by
  intro pins s σ H x xs v us Q I rx rv ⟨ρ, h, d, ds, P, S, r1, r2, w, c⟩
  unfold mAppend at w
  split at w
  · rename_i n y
    split at w
    · rename_i es he
      obtain ⟨ys, h1, l⟩ := S.lstAt he
      obtain ⟨z, rfl, rz⟩ := rpl1 r2
      obtain ⟨S2, e2⟩ := S.setL (lstAt_get he) (RpL.app l (RpL.cons rz .nil))
      exact mt_append pins s σ H x _ v us Q I rx rv ⟨_, ys, z, (rp_ref r1).2, rfl, h1, by rw [← l.length]; exact w.1, c ρ _ _ _ _ e2 S2 of_non w.2⟩
    · exact w.elim
  · exact w.elim
def mPop : D → List D → Hq → WK → Prop := fun d ds h P => match d, ds with
  | .ref n, [] => (match lstAt h n with
    | some es => (match es[es.length - 1]? with
      | some y => P y (h.set n (.lst es.dropLast))
      | none => False)
    | none => False)
  | _, _ => False
theorem RpL.dropLast {K H ρ n ds xs} (r : RpL K H ρ n ds xs) : RpL K H ρ n ds.dropLast xs.dropLast := by
  rw [List.dropLast_eq_take, List.dropLast_eq_take, ← r.length]
  exact r.take _
theorem mg_pop : MtR X "list.pop" (liftM X.K mPop) := by
  intro pins s σ H x xs v us Q I rx rv ⟨ρ, h, d, ds, P, S, r1, r2, w, c⟩
  unfold mPop at w
  split at w
  · rename_i n
    split at w
    · rename_i es he
      split at w
      · rename_i y hy
        obtain ⟨ys, h1, l⟩ := S.lstAt he
        unfold RpL at r2
        subst r2
        obtain ⟨z, hz, rz⟩ := l.get hy
        obtain ⟨S2, e2⟩ := S.setL (lstAt_get he) l.dropLast
        exact mt_pop pins s σ H x _ v us Q I rx rv ⟨_, ys, z, (rp_ref r1).2, rfl, h1, by rw [← l.length]; exact hz, c ρ _ _ _ _ e2 S2 (Rp.ext e2 _ _ rz) w⟩
      · exact w.elim
    · exact w.elim
  · exact w.elim
def mExtend : D → List D → Hq → WK → Prop := fun d ds h P => match d, ds with
  | .ref n, [.ref m] => (match lstAt h n, lstAt h m with
    | some a, some b => a.length + b.length ≤ sizeLine ∧ P .non (h.set n (.lst (a ++ b)))
    | _, _ => False)
  | _, _ => False
theorem mg_extend : MtR X "list.extend" (liftM X.K mExtend) := by
  intro pins s σ H x xs v us Q I rx rv ⟨ρ, h, d, ds, P, S, r1, r2, w, c⟩
  unfold mExtend at w
  split at w
  · rename_i n m
    split at w
    · rename_i a b ha hb
      obtain ⟨ys, h1, l⟩ := S.lstAt ha
      obtain ⟨zs, h2, l2⟩ := S.lstAt hb
      obtain ⟨z, rfl, rz⟩ := rpl1 r2
      obtain ⟨S2, e2⟩ := S.setL (lstAt_get ha) (RpL.app l l2)
      exact mt_extend pins s σ H x _ v us Q I rx rv ⟨_, _, ys, zs, (rp_ref r1).2, by rw [(rp_ref rz).2], h1, h2, by rw [← l.length, ← l2.length]; exact w.1, c ρ _ _ _ _ e2 S2 of_non w.2⟩
    · exact w.elim
  · exact w.elim
def mIndex : D → List D → Hq → WK → Prop := fun d ds h P => match d, ds with
  | .str s, [.str [c]] => c ∈ s ∧ P (.int (s.idxOf c : Nat)) h
  | _, _ => False
theorem mg_index : MtR X "str.index" (liftM X.K mIndex) := by
  intro pins s σ H x xs v us Q I rx rv ⟨ρ, h, d, ds, P, S, r1, r2, w, c⟩
  unfold mIndex at w
  split at w
  · rename_i t k
    obtain ⟨z, rfl, rz⟩ := rpl1 r2
    exact mt_sindex pins s σ H x _ v us Q I rx rv ⟨mkS t, ⟨#[k]⟩, t.idxOf k, [], (rp_str r1).1, by rw [(rp_str rz).1]; rfl, occ_index t k w.1, c ρ h H _ _ .refl S of_int w.2⟩
  · exact w.elim
def joinL (a : List Nat) : List (List Nat) → List Nat
  | [] => []
  | [x] => x
  | x :: y :: r => x ++ (a ++ joinL a (y :: r))
def mJoin : D → List D → Hq → WK → Prop := fun d ds h P => match d, ds with
  | .str a, [.ref n] => (match (lstAt h n).bind strsOf with
    | some ss => (ss.map List.length).sum + ss.length * a.length ≤ 16777216 ∧ P (.str (joinL a ss)) h
    | none => False)
  | .str a, [.tup es] => (match strsOf es with
    | some ss => (ss.map List.length).sum + ss.length * a.length ≤ 16777216 ∧ P (.str (joinL a ss)) h
    | none => False)
  | _, _ => False
theorem join_len (a : List Nat) : ∀ ss : List (List Nat), (joinL a ss).length ≤ (ss.map List.length).sum + ss.length * a.length
  | [] => Nat.zero_le _
  | [x] => by simp [joinL]
  | x :: y :: r => by
    have ih := join_len a (y :: r)
    simp only [joinL, List.length_append, List.map_cons, List.sum_cons, List.length_cons, Nat.add_mul, Nat.one_mul] at ih ⊢
    omega
theorem join_mem (a : List Nat) : ∀ (ss : List (List Nat)) (c : Nat), c ∈ joinL a ss → c ∈ a ∨ ∃ s ∈ ss, c ∈ s
  | [], c, h => by cases h
  | [x], c, h => .inr ⟨x, by simp, h⟩
  | x :: y :: r, c, h => by
    simp only [joinL, List.mem_append] at h
    rcases h with h | h | h
    · exact .inr ⟨x, by simp, h⟩
    · exact .inl h
    · rcases join_mem a (y :: r) c h with h | ⟨s, hs, h⟩
      · exact .inl h
      · exact .inr ⟨s, List.mem_cons_of_mem _ hs, h⟩
theorem join_str (a : List Nat) : ∀ ss : List (List Nat), Str.join (mkS a) (ss.map mkS) = mkS (joinL a ss)
  | [] => rfl
  | [x] => rfl
  | x :: y :: r => by
    show mkS x ++ mkS a ++ Str.join (mkS a) ((y :: r).map mkS) = _
    rw [join_str a (y :: r), str_app, str_app, joinL, List.append_assoc]
theorem join_txt (a : List Nat) (ss : List (List Nat)) : Txt.join (mkS a) (ss.map mkS) = mkS (joinL a ss) := by
  rw [show Txt.join (mkS a) (ss.map mkS) = Str.join (mkS a) (ss.map mkS) from PySem.StrLaws.glued_eq_join _ _, join_str]
theorem mg_join : MtR X "str.join" (liftM X.K mJoin) := by
  intro pins s σ H x xs v us Q I rx rv ⟨ρ, h, d, ds, P, S, r1, r2, w, c⟩
  have fin : ∀ (a : List Nat) (es : List D) (ss : List (List Nat)) (p : Addr) (ys : List V), x = .str (mkS a) → StrOk a → xs = [.ref p] → strsOf es = some ss → RpL X.K H ρ h.length es ys → (SqL X.K H p ys ∨ SqT X.K H p ys) → (ss.map List.length).sum + ss.length * a.length ≤ 16777216 → P (.str (joinL a ss)) h →
      wpAny (model X.prog X.w) X.A (call (.builtin "str.join") (v :: us)) (EP X pins σ Q) X.xe s := fun a es ss p ys hx oa hxs he l sq hz w => by
    obtain ⟨e1, o1⟩ := strs_rp he l
    subst e1
    have hl : (ss.map mkS).map (·.length) = ss.map List.length := by
      rw [List.map_map]; exact List.map_congr_left fun s _ => str_len s
    refine mt_join pins s σ H x xs v us Q I rx rv ⟨mkS a, p, ss.map mkS, hx, hxs, by rw [List.map_map]; exact sq, by rw [hl, List.length_map, str_len]; exact hz, ?_⟩
    rw [join_txt]
    refine c ρ h H _ _ .refl S (of_str ⟨Nat.le_trans (join_len a ss) hz, fun k hk => ?_⟩) w
    rcases join_mem a ss k hk with q | ⟨t, ht, q⟩
    · exact oa.2 k q
    · exact (o1 t ht).2 k q
  unfold mJoin at w
  split at w
  · rename_i a n
    obtain ⟨z, rfl, rz⟩ := rpl1 r2
    cases q : lstAt h n with
    | none => simp [q] at w
    | some es =>
      simp only [q, Option.bind_some] at w
      split at w
      · rename_i ss hs
        obtain ⟨ys, h1, l⟩ := S.lstAt q
        exact fin a es ss _ ys (rp_str r1).1 (rp_str r1).2 (by rw [(rp_ref rz).2]) hs l (.inl (.inl (.inl h1))) w.1 w.2
      · exact w.elim
  · rename_i a es
    obtain ⟨z, rfl, rz⟩ := rpl1 r2
    split at w
    · rename_i ss hs
      obtain ⟨p, ys, rfl, q, l⟩ := rp_tup rz
      exact fin a es ss p ys (rp_str r1).1 (rp_str r1).2 rfl hs l (.inr q) w.1 w.2
    · exact w.elim
  · exact w.elim
end
end MP

namespace MP
open PySem PySem.Spec PyProof.Rows L2

/-! ### zip over lists, tuples, texts -/
inductive Zc where
  | l (a : Addr) | t (a : Addr) | s (x : Str) (k : Tok)
def Zc.val : Zc → Value
  | .l a => .ref a
  | .t a => .ref a
  | .s x k => .str x k
def Zc.obj : Zc → Obj
  | .l a => { cls := .type "list_iterator", data := .fields #[.ref a, .int 0 0] }
  | .t a => { cls := .type "tuple_iterator", data := .fields #[.ref a, .int 0 0] }
  | .s x k => { cls := .type (strIterType x), data := .fields #[.str x k, .int 0 0] }
/-- what is there -/
def Zc.has (h : Heap) : Zc → Prop
  | .l a => ∃ its, h.IsList a its
  | .t a => ∃ its, h.IsTuple a its
  | .s _ _ => True
/-- the iterator stands at i -/
def Zc.st (it : Addr) (i : Nat) (h : Heap) : Zc → Prop
  | .l a => h.IsListIter it a i
  | .t a => h.IsTupleIter it a i
  | .s x k => h.IsStrIter it (strIterType x) x k i
theorem Zc.has_push {h : Heap} {o : Obj} : ∀ {c : Zc}, c.has h → c.has (h.push o)
  | .l a, ⟨its, q⟩ => ⟨its, q.push _⟩
  | .t a, ⟨its, q⟩ => ⟨its, q.push _⟩
  | .s _ _, _ => trivial
section
variable {prog : Program} {w : World} {A : Around} {E : Value → Shared → Prop} {s : Shared}
theorem Zc.iter {c : Zc} {Q : Value → Shared → Prop} (h : c.has s.heap) (hQ : Q (.ref s.heap.objs.size) { s with heap := s.heap.push c.obj }) : wpAny (model prog w) A (pyIter c.val) Q E s := by
  cases c with
  | l a => obtain ⟨its, q⟩ := h; exact wpAny_pyIter_list q hQ
  | t a => obtain ⟨its, q⟩ := h; exact wpAny_pyIter_tuple q hQ
  | s x k => exact wpAny_pyIter_strU hQ
end
abbrev zgH1 (h : Heap) (c1 : Zc) : Heap := h.push c1.obj
abbrev zgH2 (h : Heap) (c1 c2 : Zc) : Heap := (zgH1 h c1).push c2.obj
abbrev zgH3 (h : Heap) (c1 c2 : Zc) : Heap := (zgH2 h c1 c2).push { cls := .type "tuple", data := .seq #[.ref h.objs.size, .ref (zgH1 h c1).objs.size] }
abbrev zgH4 (h : Heap) (c1 c2 : Zc) : Heap := (zgH3 h c1 c2).push { cls := .type "tuple", data := .seq #[.none, .none] }
abbrev zgH5 (h : Heap) (c1 c2 : Zc) : Heap := (zgH4 h c1 c2).push { cls := .type "zip", data := .fields #[.none, .bool false, .bool false, .ref (zgH2 h c1 c2).objs.size, .ref (zgH3 h c1 c2).objs.size] }

set_option maxHeartbeats 1000000 in
theorem meets_zipG_new (c1 c2 : Zc) :
    Meets (Builtin.«zip.__new__» ⟨[.type "zip", c1.val, c2.val], []⟩) (fun _ R s => c1.has s.heap ∧ c2.has s.heap ∧
      R (.ok (.ret (.ref (zgH4 s.heap c1 c2).objs.size))) { s with heap := zgH5 s.heap c1 c2 }) :=
  .of_wp fun prog w A R s h => by
    obtain ⟨hp, g, d, tk, os⟩ := s; obtain ⟨hl1, hl2, h⟩ := h
    have hsub := sub_zip
    have hL1 : c1.has (Shared.heap ⟨hp, g, d, tk, os⟩) := hl1
    have hL2 : c2.has (Shared.heap ⟨hp.push c1.obj, g, d, tk, os⟩) := Zc.has_push hl2
    wp_walk using Zc.iter hL1, Zc.iter hL2
    exact ⟨_, rfl, h⟩

section
variable {prog : Program} {w : World} {A : Around} {E : Value → Shared → Prop} {s : Shared}
theorem Zc.st0 (c : Zc) {h : Heap} {it : Addr} (e : h.get? it = some c.obj) : c.st it 0 h := by
  cases c with
  | l a => exact ⟨_, e, rfl, rfl⟩
  | t a => exact ⟨_, e, rfl, rfl⟩
  | s x k => exact ⟨_, e, rfl, rfl⟩
theorem Zc.fields (c : Zc) : ∃ vs, c.obj.data = .fields vs := by cases c <;> exact ⟨_, rfl⟩
theorem Zc.notFreed (c : Zc) : c.obj.isFreed = false := by cases c <;> rfl
theorem call_zipG {c1 c2 : Zc} {Q : Value → Shared → Prop} (hl1 : c1.has s.heap) (hl2 : c2.has s.heap)
    (h : ∀ h', IsZip h' (s.heap.objs.size + 4) (s.heap.objs.size + 2) (s.heap.objs.size + 3) .none → IsPair h' (s.heap.objs.size + 2) (.ref s.heap.objs.size) (.ref (s.heap.objs.size + 1)) →
      IsPair h' (s.heap.objs.size + 3) .none .none → c1.st s.heap.objs.size 0 h' → c2.st (s.heap.objs.size + 1) 0 h' → h'.objs.size = s.heap.objs.size + 5 →
      (∀ c o, s.heap.get? c = some o → h'.get? c = some o) → Q (.ref (s.heap.objs.size + 4)) { s with heap := h' }) :
    wpAny (model prog w) A (call (.type "zip") [c1.val, c2.val]) Q E s := by
  refine callType_new F.called_zip (by decide) (F.typeCall_zip_2 _ _) (F.newCall_zip_2 _ _) (fun obj => F.args_object_init_3 obj _ _) F.entry_zip_new
    (meets_zipG_new c1 c2) ⟨hl1, hl2, ?_⟩
  have z1 : (zgH1 s.heap c1).objs.size = s.heap.objs.size + 1 := Heap.size_push ..
  have z2 : (zgH2 s.heap c1 c2).objs.size = s.heap.objs.size + 2 := by rw [Heap.size_push, z1]
  have z3 : (zgH3 s.heap c1 c2).objs.size = s.heap.objs.size + 3 := by rw [Heap.size_push, z2]
  have z4 : (zgH4 s.heap c1 c2).objs.size = s.heap.objs.size + 4 := by rw [Heap.size_push, z3]
  have z5 : (zgH5 s.heap c1 c2).objs.size = s.heap.objs.size + 5 := by rw [Heap.size_push, z4]
  have g5 : (zgH5 s.heap c1 c2).get? (zgH4 s.heap c1 c2).objs.size = some _ := Heap.get?_push_size _ rfl
  have g4 : (zgH5 s.heap c1 c2).get? (zgH3 s.heap c1 c2).objs.size = some _ := Heap.get?_push_of_some _ (Heap.get?_push_size _ rfl)
  have g3 : (zgH5 s.heap c1 c2).get? (zgH2 s.heap c1 c2).objs.size = some _ := Heap.get?_push_of_some _ (Heap.get?_push_of_some _ (Heap.get?_push_size _ rfl))
  have g2 : (zgH5 s.heap c1 c2).get? (zgH1 s.heap c1).objs.size = some _ := Heap.get?_push_of_some _ (Heap.get?_push_of_some _ (Heap.get?_push_of_some _ (Heap.get?_push_size _ c2.notFreed)))
  have g1 : (zgH5 s.heap c1 c2).get? s.heap.objs.size = some _ := Heap.get?_push_of_some _ (Heap.get?_push_of_some _ (Heap.get?_push_of_some _ (Heap.get?_push_of_some _ (Heap.get?_push_size _ c1.notFreed))))
  show _ ∧ _
  rw [z2, z3, z4] at g5
  rw [z1, z2] at g3
  rw [z3] at g4
  rw [z1] at g2
  rw [z4]
  exact ⟨⟨_, g5, rfl⟩, h _ g5 g3 g4 (c1.st0 g1) (c2.st0 g2) z5 fun c o x =>
    Heap.get?_push_of_some _ (Heap.get?_push_of_some _ (Heap.get?_push_of_some _ (Heap.get?_push_of_some _ (Heap.get?_push_of_some _ x))))⟩
end

/-! ### the turns of a zip -/
inductive Vc where
  | l (a : Addr) | t (a : Addr) | s (x : Str)
def Zc.vc : Zc → Vc
  | .l a => .l a
  | .t a => .t a
  | .s x _ => .s x
def Vc.at_ (K : PySem.W.Frag) (H : Hp) (i : Nat) (v : V) : Vc → Prop
  | .l a => ∃ xs, SqL K H a xs ∧ xs[i]? = some v
  | .t a => ∃ xs, SqT K H a xs ∧ xs[i]? = some v
  | .s x => ∃ c, x.cps[i]? = some c ∧ v = .str ⟨#[c]⟩
def Vc.must (K : PySem.W.Frag) (H : Hp) (i : Nat) (v : V) : Vc → Prop
  | .l a => ∀ xs, SqL K H a xs → xs[i]? = some v
  | .t a => ∀ xs, SqT K H a xs → xs[i]? = some v
  | .s x => ∃ c, x.cps[i]? = some c ∧ v = .str ⟨#[c]⟩
def Vc.no (K : PySem.W.Frag) (H : Hp) (i : Nat) : Vc → Prop
  | .l a => ∃ xs : List V, SqL K H a xs ∧ xs[i]? = none
  | .t a => ∃ xs : List V, SqT K H a xs ∧ xs[i]? = none
  | .s x => x.cps[i]? = none
def Vc.has (K : PySem.W.Frag) (H : Hp) (i : Nat) (d : Vc) : Prop := d.no K H i ∨ ∃ v, d.at_ K H i v
def Zc.fp (it : Addr) : Zc → List Addr
  | .l a => [it, a]
  | .t a => [it, a]
  | .s _ _ => [it]
def ItG (K : PySem.W.Frag) (d1 d2 : Vc) : It :=
  ⟨fun i H => ∃ x y, d1.at_ K H i x ∧ d2.at_ K H i y,
    fun i H v H' => ∃ T x y, v = .ref T ∧ H T = none ∧ H' = upd H T (.tup [x, y]) ∧ d1.must K H i x ∧ d2.must K H i y,
    fun i H => d1.no K H i ∧ d2.has K H i ∨ d2.no K H i ∧ d1.has K H i⟩
section
variable {X : Cx} {pins : List (Addr × Obj)} {σ : L2.St} {H : Hp} {s : Shared}
theorem Zc.st_kept {c : Zc} {it : Addr} {i : Nat} {h h' : Heap} (st : c.st it i h) (k : ∀ o, h.get? it = some o → h'.get? it = some o) : c.st it i h' := by
  cases c with
  | l a => exact Heap.IsListIter.at st k
  | t a => exact Heap.IsTupleIter.at st k
  | s x t => obtain ⟨o, ho, r⟩ := st; exact ⟨o, k o ho, r⟩
theorem Zc.st_obj {c : Zc} {it : Addr} {i : Nat} {h : Heap} (st : c.st it i h) : ∃ o, h.get? it = some o ∧ ∀ v, o.data ≠ .cell v := by
  cases c with
  | l a => obtain ⟨o, e, _, d⟩ := st; exact ⟨o, e, fun v q => by rw [d] at q; cases q⟩
  | t a => obtain ⟨o, e, _, d⟩ := st; exact ⟨o, e, fun v q => by rw [d] at q; cases q⟩
  | s x t => obtain ⟨o, e, _, d⟩ := st; exact ⟨o, e, fun v q => by rw [d] at q; cases q⟩
/-- the next one is there -/
theorem Zc.draw {c : Zc} {it : Addr} {i : Nat} {v : V} (I : Inv X pins σ H s) (hh : X.A.handled = none) (S : ∀ b ∈ c.fp it, b = it ∨ b ≠ it) (hne : ∀ a, (c = .l a ∨ c = .t a) → a ≠ it) (hat : c.vc.at_ X.K H i v) :
    ∃ n P St, Draws X.prog X.w X.A.in1 it (c.fp it) n P St ∧ i < n ∧ (∀ h, (∀ a, (c = .l a ∨ c = .t a) → h.get? a = s.heap.get? a) → c.st it i h → St i h) ∧ (∀ h, St (i + 1) h → c.st it (i + 1) h) ∧ (∀ u, P i u → RelV v u ∧ c.vc.must X.K H i v) := by
  cases c with
  | l a =>
    obtain ⟨xs, q, e⟩ := hat
    obtain ⟨its, r, p, hz⟩ := I.list q
    obtain ⟨u, hu, ru⟩ := r.get e
    refine ⟨_, _, _, Draws.list (A := X.A.in1) hh it a (hne a (.inl rfl)) its.toArray, ?_, fun h k st => ⟨st, ?_⟩, fun h st => st.1, fun u' hu' => ⟨?_, fun ys hy => by rw [I.list_inj hy q]; exact e⟩⟩
    · have := (List.getElem?_eq_some_iff.mp hu).1; simpa using this
    · obtain ⟨o, e1, e2⟩ := p.isList; exact ⟨o, by rw [k a (.inl rfl)]; exact e1, e2⟩
    · have : its[i]? = some u' := by simpa using hu'
      rw [hu] at this; cases this; exact ru
  | t a =>
    obtain ⟨xs, q, e⟩ := hat
    obtain ⟨its, r, p, hz⟩ := I.tuple q
    obtain ⟨u, hu, ru⟩ := r.get e
    refine ⟨_, _, _, Draws.tuple (A := X.A.in1) hh it a (hne a (.inr rfl)) its.toArray, ?_, fun h k st => ⟨st, ?_⟩, fun h st => st.1, fun u' hu' => ⟨?_, fun ys hy => by rw [I.tuple_inj hy q]; exact e⟩⟩
    · have := (List.getElem?_eq_some_iff.mp hu).1; simpa using this
    · obtain ⟨o, e1, e2⟩ := (show s.heap.IsTuple a its.toArray from p); exact ⟨o, by rw [k a (.inr rfl)]; exact e1, e2⟩
    · have : its[i]? = some u' := by simpa using hu'
      rw [hu] at this; cases this; exact ru
  | s x t =>
    obtain ⟨k, e, rfl⟩ := hat
    refine ⟨_, _, _, Draws.text (A := X.A.in1) hh it x t, ?_, fun h _ st => st, fun h st => st, fun u' hu' => ⟨?_, k, e, rfl⟩⟩
    · exact (Array.getElem?_eq_some_iff.mp e).1
    · obtain ⟨k', u, e', rfl⟩ := hu'
      rw [e] at e'; cases e'; exact ⟨u, rfl⟩
/-- it is at its end -/
theorem Zc.drawEnd {c : Zc} {it : Addr} {i : Nat} (I : Inv X pins σ H s) (hh : X.A.handled = none) (hno : c.vc.no X.K H i) :
    ∃ P St, Draws X.prog X.w X.A.in1 it (c.fp it) i P St ∧ (∀ h, (∀ a, (c = .l a ∨ c = .t a) → h.get? a = s.heap.get? a) → c.st it i h → St i h) := by
  cases c with
  | l a =>
    obtain ⟨xs, q, e⟩ := hno
    obtain ⟨its, r, p, hz⟩ := I.list q
    have en := r.none_of e
    refine ⟨fun _ _ => False, fun j h => j = i ∧ h.IsListIter it a i ∧ h.IsList a its.toArray, ⟨fun j h st => let ⟨o, ho, _⟩ := st.2.1; ⟨o, ho⟩, fun j h h' st hk => ⟨st.1, st.2.1.at fun o e => hk it (by simp [Zc.fp]) o e, st.2.2.at fun o e => hk a (by simp [Zc.fp]) o e⟩,
      fun j s Q E hj st => (by have := st.1; omega), fun s Q E st hE => wpAny_nextOf_list_end hh st.2.1 st.2.2 (by simpa using en) hE⟩, fun h k st => ⟨rfl, st, ?_⟩⟩
    obtain ⟨o, e1, e2⟩ := p.isList; exact ⟨o, by rw [k a (.inl rfl)]; exact e1, e2⟩
  | t a =>
    obtain ⟨xs, q, e⟩ := hno
    obtain ⟨its, r, p, hz⟩ := I.tuple q
    have en := r.none_of e
    refine ⟨fun _ _ => False, fun j h => j = i ∧ h.IsTupleIter it a i ∧ h.IsTuple a its.toArray, ⟨fun j h st => let ⟨o, ho, _⟩ := st.2.1; ⟨o, ho⟩, fun j h h' st hk => ⟨st.1, st.2.1.at fun o e => hk it (by simp [Zc.fp]) o e, st.2.2.at fun o e => hk a (by simp [Zc.fp]) o e⟩,
      fun j s Q E hj st => (by have := st.1; omega), fun s Q E st hE => wpAny_nextOf_tuple_end hh st.2.1 st.2.2 (by simpa using en) hE⟩, fun h k st => ⟨rfl, st, ?_⟩⟩
    obtain ⟨o, e1, e2⟩ := (show s.heap.IsTuple a its.toArray from p); exact ⟨o, by rw [k a (.inr rfl)]; exact e1, e2⟩
  | s x t =>
    have e : x.cps[i]? = none := hno
    refine ⟨fun _ _ => False, fun j h => j = i ∧ h.IsStrIter it (strIterType x) x t i, ⟨fun j h st => let ⟨o, ho, _⟩ := st.2; ⟨o, ho⟩, fun j h h' st hk => ⟨st.1, let ⟨o, ho, r⟩ := st.2; ⟨o, hk it (by simp [Zc.fp]) o ho, r⟩⟩,
      fun j s Q E hj st => (by have := st.1; omega), fun s Q E st hE => ?_⟩, fun h k st => ⟨rfl, st⟩⟩
    have st2 := st.2
    cases ha : x.cps.all (· < 128)
    · simp only [strIterType, ha, Bool.false_eq_true, if_false] at st2
      exact wpAny_nextOf_wide_end hh st2 e hE
    · simp only [strIterType, ha, if_true] at st2
      exact wpAny_nextOf_ascii_end hh st2 e hE
theorem turn_zipG {P : Program} {w : World} {K : PySem.W.Frag} {elts : List Expr} {kk : Nat} {tpos : Pos} {c1 c2 : Zc} {z TI TO i1 i2 : Addr} (D : ZipSep2 z TI TO i1 i2 (c1.fp i1) (c2.fp i2)) (hTI1 : ∀ a, (c1 = .l a ∨ c1 = .t a) → a ≠ i1) (hTI2 : ∀ a, (c2 = .l a ∨ c2 = .t a) → a ≠ i2) :
    Turn P w K (.Tuple elts kk tpos) (ItG K c1.vc c2.vc) [z, TI, TO, i1, i2] z (fun i h => IsZip h z TI TO .none ∧ IsTupOf2 h TI (.ref i1) (.ref i2) ∧ (∃ x y, IsTupOf2 h TO x y) ∧ c1.st i1 i h ∧ c2.st i2 i h) where
  mem := by simp
  obj := fun i h st c hc => by
    obtain ⟨hz, hTI, ⟨x, y, hTO⟩, s1, s2⟩ := st
    have e' : c = z ∨ c = TI ∨ c = TO ∨ c = i1 ∨ c = i2 := by simpa using hc
    rcases e' with q | q | q | q | q
    · rw [q]; exact ⟨_, hz, fun v q => nomatch q⟩
    · rw [q]; exact ⟨_, hTI, fun v q => nomatch q⟩
    · rw [q]; exact ⟨_, hTO, fun v q => nomatch q⟩
    · rw [q]; exact Zc.st_obj s1
    · rw [q]; exact Zc.st_obj s2
  keep := fun i h h' st k => by
    obtain ⟨hz, hTI, ⟨x, y, hTO⟩, h1, h2⟩ := st
    exact ⟨k z (by simp) _ hz, k TI (by simp) _ hTI, ⟨x, y, k TO (by simp) _ hTO⟩, Zc.st_kept h1 fun o q => k i1 (by simp) o q, Zc.st_kept h2 fun o q => k i2 (by simp) o q⟩
  item := by
    intro X hP hw hK hc i pins s σ H E I hf st hg
    subst hP hw hK
    obtain ⟨hz, hTI, ⟨x0, y0, hTO⟩, h1, h2⟩ := st
    obtain ⟨x, y, a1, a2⟩ := hg
    obtain ⟨n1, P1, St1, D1, l1, t1, b1, m1⟩ := Zc.draw (it := i1) I (I.ok.hd hc) (fun _ _ => Decidable.em _) hTI1 a1
    obtain ⟨n2, P2, St2, D2, l2, t2, b2, m2⟩ := Zc.draw (it := i2) I (I.ok.hd hc) (fun _ _ => Decidable.em _) hTI2 a2
    have hzl : z < s.heap.objs.size := Heap.lt_size hz
    refine wpAny_pyNext_zipD2_item D D1 D2 hz hTI hTO (t1 _ (fun _ _ => rfl) h1) (t2 _ (fun _ _ => rfl) h2) l1 l2 fun u u2 h' tk p1 p2 z' TO' s1' s2' hT hsz hk => ?_
    have h1' := b1 h' s1'
    have h2' := b2 h' s2'
    obtain ⟨ru, mu1⟩ := m1 u p1
    obtain ⟨ru2, mu2⟩ := m2 u2 p2
    refine ⟨_, rfl, wpAny_letOwnedTupleGo_zip (s := { s with heap := h', toks := tk }) z' fun h'' z'' sb => ?_⟩
    have hT2 : h''.get? s.heap.objs.size = some { cls := .type "tuple", data := .seq #[u, u2] } := (sb.2 _ (Nat.ne_of_gt hzl)).trans hT
    have new : ObjOk X.prog X.w (upd H s.heap.objs.size (.tup [x, y])) h'' s.heap.objs.size (.tup [x, y]) :=
      ⟨by show 2 ≤ sizeLine; decide, [u, u2], .cons ru (.cons ru2 .nil), ⟨_, hT2, rfl, _, rfl⟩⟩
    have I1 : Inv X pins σ (upd H s.heap.objs.size (.tup [x, y])) { s with heap := h'', toks := tk } :=
      I.turnedNew (t' := tk) (ch := [z, TI, TO, i1, i2]) (fun c o hb q => (sb.2 c (fun q' => hb (by simp [q']))).trans (hk c o (fun q' => hb (by simp [q'])) (fun q' => hb (by simp [q'])) (fun q' => hb (by simp [q'])) (fun q' => hb (by simp [q'])) q)) hf (Nat.le_refl _) new
    refine ⟨.ref s.heap.objs.size, _, I1, rfl, ⟨_, x, y, rfl, I.hok.fresh (Nat.le_refl _), rfl, mu1, mu2⟩, ⟨z'', ?_, ⟨u, u2, ?_⟩, ?_, ?_⟩, fun c hcm => ?_⟩
    · exact (sb.2 _ D.TIz).trans (hk _ _ D.TIz D.TITO D.TIi1 D.TIi2 hTI)
    · exact (sb.2 _ D.TOz).trans TO'
    · exact Zc.st_kept h1' fun o q => (sb.2 _ D.zi1.symm).trans q
    · exact Zc.st_kept h2' fun o q => (sb.2 _ D.zi2.symm).trans q
    · have hlt : c < s.heap.objs.size := by
        have e' : c = z ∨ c = TI ∨ c = TO ∨ c = i1 ∨ c = i2 := by simpa using hcm
        rcases e' with q | q | q | q | q
        · rw [q]; exact hzl
        · rw [q]; exact Heap.lt_size hTI
        · rw [q]; exact Heap.lt_size hTO
        · rw [q]; obtain ⟨_, e1, _⟩ := Zc.st_obj h1; exact Heap.lt_size e1
        · rw [q]; obtain ⟨_, e2, _⟩ := Zc.st_obj h2; exact Heap.lt_size e2
      rw [upd_ne (Nat.ne_of_lt hlt)]
      exact (hf c hcm).1
  done := by
    intro X hP hw hK hc i pins s σ H E I hf st hg
    subst hP hw hK
    obtain ⟨hz, hTI, ⟨x0, y0, hTO⟩, h1, h2⟩ := st
    have fin : ∀ h' tk, (∀ c o, c ≠ z → c ≠ TO → c ≠ i1 → c ≠ i2 → s.heap.get? c = some o → h'.get? c = some o) → (none : Option Value) = none ∧ Inv X pins σ H { s with heap := h', toks := tk } := fun h' tk hk =>
      ⟨rfl, I.turnedL (t' := tk) (ch := [z, TI, TO, i1, i2]) (fun c o hb q => hk c o (fun q' => hb (by simp [q'])) (fun q' => hb (by simp [q'])) (fun q' => hb (by simp [q'])) (fun q' => hb (by simp [q'])) q) hf⟩
    have e1 : c1.vc.no X.K H i → c2.vc.has X.K H i → wpAny (model X.prog X.w) X.A (pyNext (.ref z)) (fun r s1 => r = none ∧ Inv X pins σ H s1) E s := fun no has => by
      obtain ⟨P1, St1, D1, t1⟩ := Zc.drawEnd (it := i1) I (I.ok.hd hc) no
      rcases has with no2 | ⟨v, at2⟩
      · obtain ⟨P2, St2, D2, t2⟩ := Zc.drawEnd (it := i2) I (I.ok.hd hc) no2
        exact wpAny_pyNext_zipD2_end D D1 D2 hz hTI hTO (t1 _ (fun _ _ => rfl) h1) (t2 _ (fun _ _ => rfl) h2) (Nat.le_refl _) (Nat.le_refl _) (.inl rfl) fin
      · obtain ⟨n2, P2, St2, D2, l2, t2, _, _⟩ := Zc.draw (it := i2) I (I.ok.hd hc) (fun _ _ => Decidable.em _) hTI2 at2
        exact wpAny_pyNext_zipD2_end D D1 D2 hz hTI hTO (t1 _ (fun _ _ => rfl) h1) (t2 _ (fun _ _ => rfl) h2) (Nat.le_refl _) (Nat.le_of_lt l2) (.inl rfl) fin
    rcases hg with ⟨no, has⟩ | ⟨no, has⟩
    · exact e1 no has
    · rcases has with no1 | ⟨v, at1⟩
      · exact e1 no1 (.inl no)
      · obtain ⟨n1, P1, St1, D1, l1, t1, _, _⟩ := Zc.draw (it := i1) I (I.ok.hd hc) (fun _ _ => Decidable.em _) hTI1 at1
        obtain ⟨P2, St2, D2, t2⟩ := Zc.drawEnd (it := i2) I (I.ok.hd hc) no
        exact wpAny_pyNext_zipD2_end D D1 D2 hz hTI hTO (t1 _ (fun _ _ => rfl) h1) (t2 _ (fun _ _ => rfl) h2) (Nat.le_of_lt l1) (Nat.le_refl _) (.inr rfl) fin
  self := fun A i s Q E st h => wpAny_pyIter_zip st.1 h
end
end MP

namespace MP
open PySem PySem.Spec PyProof.Rows L2

/-! ### zip of anything -/
def srcOf (h : Hq) : D → Option Src
  | .tup ds => some (.fix ds)
  | .str s => some (.fix (s.map fun c => .str [c]))
  | .ref n => if (lstAt h n).isSome then some (.lst n) else none
  | _ => none
def CpOk (K : PySem.W.Frag) (ρ : Nat → Addr) (n : Nat) (H : Hp) (c : Vc) (s : Src) : Prop := ∀ ρ' h' H' i, Ext K ρ n H ρ' h'.length H' → Sim K ρ' h' H' →
  (s.tick h' i = some none → c.no K H' i) ∧ (∀ d, s.tick h' i = some (some d) → ∃ v, c.at_ K H' i v ∧ ∀ v', c.must K H' i v' → Rp K H' ρ' h'.length d v')
/-- a thing to be walked, with its value -/
theorem zc_of {K ρ h H d v u s} (S : Sim K ρ h H) (r : Rp K H ρ h.length d v) (ru : RelV v u) (e : srcOf h d = some s) :
    ∃ c : Zc, c.val = u ∧ CpOk K ρ h.length H c.vc s ∧ (∀ a, (c = .l a) → ∃ xs, H a = some (.lst xs)) ∧ (∀ a, c = .t a → ∃ xs, SqT K H a xs) := by
  cases d with
  | tup ds =>
    obtain ⟨a, xs, rfl, q, l⟩ := rp_tupT r
    have := Option.some.inj e
    subst this
    refine ⟨.t a, ru.symm, fun ρ' h' H' i e' S' => ?_, fun _ z => (by cases z), fun b z => (by cases z; exact ⟨xs, q.sq⟩)⟩
    have q' := e'.tp a xs q
    have l' := RpL.ext e' ds xs l
    refine ⟨fun z => ⟨xs, q'.sq, ?_⟩, fun d z => ?_⟩
    · have : ds[i]? = none := Option.some.inj z
      rw [List.getElem?_eq_none_iff] at this ⊢
      rw [← l'.length]; exact this
    · obtain ⟨x, hx, rx⟩ := l'.get (Option.some.inj z)
      refine ⟨x, ⟨xs, q'.sq, hx⟩, fun v' m => ?_⟩
      have := m xs q'.sq
      rw [hx] at this; cases this; exact rx
  | str t =>
    obtain ⟨rfl, o⟩ := rp_str r
    obtain ⟨k, rfl⟩ := ru
    have := Option.some.inj e
    subst this
    have hg : ∀ i : Nat, (mkS t).cps[i]? = t[i]? := fun i => by unfold mkS; simp
    refine ⟨.s (mkS t) k, rfl, fun ρ' h' H' i e' S' => ?_, fun _ z => (by cases z), fun _ z => (by cases z)⟩
    refine ⟨fun z => ?_, fun d z => ?_⟩
    · have z' : (t.map fun c => D.str [c])[i]? = none := Option.some.inj z
      rw [List.getElem?_map, Option.map_eq_none_iff] at z'
      show (mkS t).cps[i]? = none
      rw [hg]; exact z'
    · have z' : (t.map fun c => D.str [c])[i]? = some d := Option.some.inj z
      rw [List.getElem?_map, Option.map_eq_some_iff] at z'
      obtain ⟨c, hc, rfl⟩ := z'
      refine ⟨_, ⟨c, by rw [hg]; exact hc, rfl⟩, fun v' ⟨c', hc', e2⟩ => ?_⟩
      rw [hg, hc] at hc'
      cases hc'
      subst e2
      exact of_str (s := [c]) ⟨by show 1 ≤ _; decide, fun y hy => by
        have : y = c := by simpa using hy
        subst this; exact o.2 _ (List.mem_of_getElem? hc)⟩
  | ref m =>
    obtain ⟨hm, rfl⟩ := rp_ref r
    have e' : (if (lstAt h m).isSome then some (Src.lst m) else none) = some s := e
    split at e'
    · rename_i hs
      have := Option.some.inj e'
      subst this
      obtain ⟨ds, hd⟩ := Option.isSome_iff_exists.mp hs
      obtain ⟨xs0, hx0, _⟩ := S.lstAt hd
      refine ⟨.l (ρ m), ru.symm, fun ρ' h' H' i e' S' => ?_, fun b z => (by cases z; exact ⟨xs0, hx0⟩), fun _ z => (by cases z)⟩
      have em : ρ' m = ρ m := e'.ag m hm
      refine ⟨fun z => ?_, fun d z => ?_⟩
      · cases q : lstAt h' m with
        | none => simp [Src.tick, q] at z
        | some ds =>
          simp only [Src.tick, q, Option.map_some, Option.some.injEq] at z
          obtain ⟨xs, hx, l⟩ := S'.lstAt q
          rw [em] at hx
          refine ⟨xs, .inl (.inl hx), ?_⟩
          rw [List.getElem?_eq_none_iff] at z ⊢
          rw [← l.length]; exact z
      · cases q : lstAt h' m with
        | none => simp [Src.tick, q] at z
        | some ds =>
          simp only [Src.tick, q, Option.map_some, Option.some.injEq] at z
          obtain ⟨xs, hx, l⟩ := S'.lstAt q
          rw [em] at hx
          obtain ⟨x, h1, rx⟩ := l.get z
          refine ⟨x, ⟨xs, .inl (.inl hx), h1⟩, fun v' m' => ?_⟩
          have := m' xs (.inl (.inl hx))
          rw [h1] at this; cases this; exact rx
    · cases e'
  | _ => cases e
theorem itok_zip {K ρ n H c1 c2 s1 s2} (o1 : CpOk K ρ n H c1 s1) (o2 : CpOk K ρ n H c2 s2) : ItOk K ρ n H (ItG K c1 c2) (.zip s1 s2) := by
  intro ρ' h' H' i e S
  obtain ⟨n1, a1⟩ := o1 ρ' h' H' i e S
  obtain ⟨n2, a2⟩ := o2 ρ' h' H' i e S
  refine ⟨fun z => ?_, fun d z => ?_⟩
  · cases q1 : s1.tick h' i with
    | none => simp [Src.tick, q1] at z
    | some t1 =>
      cases t1 with
      | none =>
        cases q2 : s2.tick h' i with
        | none => simp [Src.tick, q1, q2] at z
        | some t2 =>
          refine .inl ⟨n1 q1, ?_⟩
          cases t2 with
          | none => exact .inl (n2 q2)
          | some d2 => obtain ⟨v, hv, _⟩ := a2 d2 q2; exact .inr ⟨v, hv⟩
      | some d1 =>
        cases q2 : s2.tick h' i with
        | none => simp [Src.tick, q1, q2] at z
        | some t2 =>
          cases t2 with
          | none => obtain ⟨v, hv, _⟩ := a1 d1 q1; exact .inr ⟨n2 q2, .inr ⟨v, hv⟩⟩
          | some d2 => simp [Src.tick, q1, q2] at z
  · cases q1 : s1.tick h' i with
    | none => simp [Src.tick, q1] at z
    | some t1 =>
      cases t1 with
      | none =>
        cases q2 : s2.tick h' i with
        | none => simp [Src.tick, q1, q2] at z
        | some t2 => simp [Src.tick, q1, q2] at z
      | some d1 =>
        cases q2 : s2.tick h' i with
        | none => simp [Src.tick, q1, q2] at z
        | some t2 =>
          cases t2 with
          | none => simp [Src.tick, q1, q2] at z
          | some d2 =>
            simp only [Src.tick, q1, q2, Option.some.injEq] at z
            obtain ⟨x, hx, mx⟩ := a1 d1 q1
            obtain ⟨y, hy, my⟩ := a2 d2 q2
            refine ⟨⟨x, y, hx, hy⟩, fun v H'' ⟨T, x', y', e1, nT, e2, m1, m2⟩ => ?_⟩
            subst e1 e2 z
            have ex : Ext K ρ' h'.length H' ρ' h'.length (upd H' T (.tup [x', y'])) := Ext.newTup nT
            refine ⟨ex, S.tup nT, ?_⟩
            unfold Rp
            exact ⟨T, [x', y'], rfl, .inl upd_same, RpL.ext ex _ _ (RpL.cons (mx x' m1) (RpL.cons (my y' m2) .nil))⟩
def wiZip (a : WA) : WI := fun fr h P => a fr h fun ds h1 => match ds with
  | [d, e] => (match srcOf h1 d, srcOf h1 e with
    | some s, some t => P (.zip s t) h1
    | _, _ => False)
  | _ => False
section
variable {X : Cx}
theorem zc_has {pins : List (Addr × Obj)} {σ : L2.St} {H : Hp} {s : Shared} {c : Zc} (I : Inv X pins σ H s) (hl : ∀ a, (c = .l a) → ∃ xs, H a = some (.lst xs)) (ht : ∀ a, c = .t a → ∃ xs, SqT X.K H a xs) :
    c.has s.heap ∧ ∀ a, (c = .l a ∨ c = .t a) → a < s.heap.objs.size := by
  cases c with
  | l a =>
    obtain ⟨xs, q⟩ := hl a rfl
    obtain ⟨its, r, p, _⟩ := I.list (.inl (.inl q))
    exact ⟨⟨_, p.isList⟩, fun b z => by rcases z with z | z <;> cases z; exact p.lt⟩
  | t a =>
    obtain ⟨xs, q⟩ := ht a rfl
    obtain ⟨its, r, p, _⟩ := I.tuple q
    exact ⟨⟨_, p⟩, fun b z => by rcases z with z | z <;> cases z; exact p.lt⟩
  | s x k => exact ⟨trivial, fun b z => by rcases z with z | z <;> cases z⟩
theorem fp_mem {c : Zc} {it b : Addr} (h : b ∈ c.fp it) : b = it ∨ (c = .l b ∨ c = .t b) := by
  cases c with
  | l a =>
    have : b = it ∨ b = a := by simpa [Zc.fp] using h
    rcases this with e | e
    · exact .inl e
    · subst e; exact .inr (.inl rfl)
  | t a =>
    have : b = it ∨ b = a := by simpa [Zc.fp] using h
    rcases this with e | e
    · exact .inl e
    · subst e; exact .inr (.inr rfl)
  | s x k => exact .inl (by simpa [Zc.fp] using h)
theorem nne {n a b : Nat} (h : a ≠ b) : (n + a : Nat) ≠ n + b := by omega
theorem nlt {n a b : Nat} (h : b < n) : (n + a : Nat) ≠ b := by omega
theorem nle5 {n b : Nat} (h : b = n + 4 ∨ b = n + 2 ∨ b = n + 3 ∨ b = n ∨ b = n + 1) : n ≤ b := by omega
theorem fp_self (c : Zc) (it : Addr) : it ∈ c.fp it := by cases c <;> simp [Zc.fp]
theorem si_zip {e e2 : Expr} {ta : WA} {p pos tpos : Pos} {elts : List Expr} {kk : Nat} (hg : Gl X "zip") (hm : X.mg "zip" = none) (ha : SA X [e, e2] ta)
    (hs : starEach [e, e2] X.env = (false, eval e X.env) :: starEach [e2] X.env) (hpl : (backTo pos (starEach [e2] X.env)).any (·.1) = false) :
    SI X (.Tuple elts kk tpos) (.Call (.Name "zip" p) [e, e2] [] pos) (wiZip ta) := by
  refine ⟨fun pins s σ H R I ⟨ρ, fr, h, P, S, F, w, c⟩ => ?_⟩
  refine Call_ (ld_blt I hg hm PyProof.Rows.boot_zip (PyProof.Rows.callWith_type1 (thn (ha.run pos pins s σ H (fun vs H1 => ∃ ρ1 h1 ds, Ext X.K ρ h.length H ρ1 h1.length H1 ∧ Sim X.K ρ1 h1 H1 ∧ RpL X.K H1 ρ1 h1.length ds vs ∧
    (match ds with | [d, e] => (match srcOf h1 d, srcOf h1 e with | some s, some t => P (.zip s t) h1 | _, _ => False) | _ => False)) I ⟨ρ, fr, h, _, S, F, w, fun ρ1 h1 H1 ds xs e1 S1 r1 w1 => ⟨ρ1, h1, ds, e1, S1, r1, w1⟩⟩) fun us s1 ⟨vs, H1, I1, r1, ρ1, h1, ds, e1, S1, l1, w1⟩ => ?_) hs hpl))
  split at w1
  · rename_i d d2
    split at w1
    · rename_i s1' s2' q1 q2
      obtain ⟨x, y, rfl, rx, ry⟩ := rpl2 l1
      obtain ⟨u1, u2, rfl, ru1, ru2⟩ := vals2 r1
      obtain ⟨c1, rfl, o1, hl1, ht1⟩ := zc_of S1 rx ru1 q1
      obtain ⟨c2, rfl, o2, hl2, ht2⟩ := zc_of S1 ry ru2 q2
      obtain ⟨has1, lt1⟩ := zc_has I1 hl1 ht1
      obtain ⟨has2, lt2⟩ := zc_has I1 hl2 ht2
      refine call_zipG has1 has2 fun h' hz hTI hTO st1 st2 hsz hk => wpAny_pyIter_zip hz ?_
      have I2 : Inv X pins σ H1 { s1 with heap := h' } := I1.kept (t' := s1.toks) hk
      have f1 : ∀ k : Nat, k ≠ 0 → s1.heap.objs.size + k ∉ c1.fp s1.heap.objs.size := fun k hk1 hm1 => by
        rcases fp_mem hm1 with z | z
        · exact nne (n := s1.heap.objs.size) (a := k) (b := 0) hk1 z
        · exact nlt (lt1 _ z) rfl
      have f2 : ∀ k : Nat, k ≠ 1 → s1.heap.objs.size + k ∉ c2.fp (s1.heap.objs.size + 1) := fun k hk1 hm1 => by
        rcases fp_mem hm1 with z | z
        · exact nne (n := s1.heap.objs.size) (a := k) (b := 1) hk1 z
        · exact nlt (lt2 _ z) rfl
      refine ⟨s1.heap.objs.size + 4, [s1.heap.objs.size + 4, s1.heap.objs.size + 2, s1.heap.objs.size + 3, s1.heap.objs.size, s1.heap.objs.size + 1], _, _, H1, rfl, I2,
        turn_zipG (c1 := c1) (c2 := c2) ⟨nne (by decide), nne (by decide), nne (by decide), nne (b := 0) (by decide), fp_self c1 _, f1 4 (by decide), f1 3 (by decide), nne (by decide), fp_self c2 _, f2 4 (by decide), f2 3 (by decide), f2 0 (by decide), f1 1 (by decide)⟩
          (fun a z => Nat.ne_of_lt (lt1 a z)) (fun a z => (nlt (lt2 a z)).symm), ⟨hz, hTI, ⟨_, _, hTO⟩, st1, st2⟩, fun b hb => ?_, ?_⟩
      · have e' : b = s1.heap.objs.size + 4 ∨ b = s1.heap.objs.size + 2 ∨ b = s1.heap.objs.size + 3 ∨ b = s1.heap.objs.size ∨ b = s1.heap.objs.size + 1 := by simpa using hb
        have hle : s1.heap.objs.size ≤ b := nle5 e'
        exact I1.fpOk hle (I1.hok.fresh hle)
      · exact c ρ1 h1 H1 _ _ e1 S1 (itok_zip o1 o2) w1
    · exact w1.elim
  · exact w1.elim
end
end MP

namespace MP
open PySem PySem.Spec PyProof.Rows L2

/-! ### targets of names alone -/
mutual
inductive Pat where
  | nm (i : Nat) | tp (ps : Pats)
inductive Pats where
  | nil | cons (p : Pat) (ps : Pats)
end
def Pats.len : Pats → Nat
  | .nil => 0
  | .cons _ ps => ps.len + 1
mutual
def bindP : Pat → D → Fr → Option Fr
  | .nm i, d, fr => some (fr.set i (some d))
  | .tp ps, .tup ds, fr => bindPs ps ds fr
  | .tp _, _, _ => none
def bindPs : Pats → List D → Fr → Option Fr
  | .nil, [], fr => some fr
  | .cons p ps, d :: ds, fr => (bindP p d fr).bind fun fr' => bindPs ps ds fr'
  | .nil, _ :: _, _ => none
  | .cons _ _, [], _ => none
end
mutual
def hPat (K : PySem.W.Frag) : Pat → TG
  | .nm i => L2.gName i
  | .tp ps => L2.gTup K ps.len (hPats K ps)
def hPats (K : PySem.W.Frag) : Pats → TGs
  | .nil => L2.gNil
  | .cons p ps => L2.gCons (hPat K p) (hPats K ps)
end
mutual
def Pat.within (vs : List Nat) : Pat → Bool
  | .nm i => vs.contains i
  | .tp ps => ps.within vs
def Pats.within (vs : List Nat) : Pats → Bool
  | .nil => true
  | .cons p ps => p.within vs && ps.within vs
end
theorem wipe_set {σ : L2.St} {i : Nat} {x : Option V} : ∀ {vs : List Nat}, i ∈ vs → wipe (σ.set i x) vs = wipe σ vs := by
  intro vs h
  apply List.ext_getElem?
  intro j
  have key : ∀ (σ : L2.St) (vs : List Nat) (j : Nat), (wipe σ vs)[j]? = if j ∈ vs then (if j < σ.length then some none else none) else σ[j]? := by
    intro σ vs
    induction vs with
    | nil => intro j; simp [wipe]
    | cons v vs ih =>
      intro j
      unfold wipe
      rw [List.getElem?_set]
      by_cases hv : v = j
      · subst hv
        simp [wipe_length]
      · rw [if_neg hv, ih j]
        have : (j ∈ v :: vs) ↔ j ∈ vs := by simp [Ne.symm hv]
        simp only [this]
  rw [key, key]
  by_cases hj : j ∈ vs
  · simp [hj]
  · simp only [hj, if_false]
    have : i ≠ j := fun e => hj (e ▸ h)
    rw [List.getElem?_set_ne this]
theorem wipe_idem {σ : L2.St} (vs : List Nat) : ∀ (us : List Nat), (∀ u ∈ us, u ∈ vs) → wipe (wipe σ us) vs = wipe σ vs
  | [], _ => rfl
  | u :: us, h => by
    show wipe ((wipe σ us).set u none) vs = wipe σ vs
    rw [wipe_set (h u (by simp))]
    exact wipe_idem vs us fun x hx => h x (by simp [hx])
def wipeF (fr : Fr) : List Nat → Fr
  | [] => fr
  | v :: vs => (wipeF fr vs).set v none
theorem FrR.wipe {K ρ n H fr σ} (F : FrR K ρ n H fr σ) : ∀ vs : List Nat, FrR K ρ n H (wipeF fr vs) (wipe σ vs)
  | [] => F
  | v :: vs => by
    have ih := FrR.wipe F vs
    refine ⟨by unfold wipeF L2.wipe; simp [ih.len], fun j e h => ?_⟩
    unfold wipeF at h
    unfold L2.wipe
    by_cases hj : v = j
    · subst hj
      rw [List.getElem?_set] at h
      split at h
      · split at h <;> cases h
      · rename_i q; exact (q rfl).elim
    · rw [List.getElem?_set_ne hj] at h ⊢
      exact ih.at_ j e h
mutual
theorem hPat_run {K ρ n H} {vs : List Nat} : ∀ (p : Pat) (d : D) (v : V) (fr fr' : Fr) (σ : L2.St) (Q : L2.St → Hp → Prop), p.within vs = true → FrR K ρ n H fr σ → Rp K H ρ n d v → bindP p d fr = some fr' →
    (∀ σ', FrR K ρ n H fr' σ' → wipe σ' vs = wipe σ vs → Q σ' H) → hPat K p v σ H Q
  | .nm i, d, v, fr, fr', σ, Q, hw, F, r, e, q => by
    simp only [bindP, Option.some.injEq] at e
    subst e
    unfold hPat
    simp only [Pat.within] at hw
    exact q _ (F.set r) (wipe_set (by simpa using hw))
  | .tp ps, d, v, fr, fr', σ, Q, hw, F, r, e, q => by
    cases d with
    | tup ds =>
      simp only [bindP] at e
      obtain ⟨a, xs, rfl, sq, l⟩ := rp_tup r
      unfold hPat
      simp only [Pat.within] at hw
      have hl : ds.length = ps.len := bindPs_len ps ds fr fr' e
      exact ⟨a, xs, rfl, sq, by rw [← l.length]; exact hl, hPats_run ps ds xs fr fr' σ Q hw F l e q⟩
    | _ => simp [bindP] at e
theorem hPats_run {K ρ n H} {vs : List Nat} : ∀ (ps : Pats) (ds : List D) (xs : List V) (fr fr' : Fr) (σ : L2.St) (Q : L2.St → Hp → Prop), ps.within vs = true → FrR K ρ n H fr σ → RpL K H ρ n ds xs → bindPs ps ds fr = some fr' →
    (∀ σ', FrR K ρ n H fr' σ' → wipe σ' vs = wipe σ vs → Q σ' H) → hPats K ps xs σ H Q
  | .nil, ds, xs, fr, fr', σ, Q, hw, F, r, e, q => by
    cases ds with
    | nil =>
      simp only [bindPs, Option.some.injEq] at e
      subst e
      unfold RpL at r
      unfold hPats
      exact ⟨r, q σ F rfl⟩
    | cons d ds => simp [bindPs] at e
  | .cons p ps, ds, xs, fr, fr', σ, Q, hw, F, r, e, q => by
    cases ds with
    | nil => simp [bindPs] at e
    | cons d ds =>
      simp only [bindPs] at e
      cases e1 : bindP p d fr with
      | none => simp [e1] at e
      | some fr1 =>
        simp only [e1, Option.bind_some] at e
        unfold RpL at r
        obtain ⟨x, r', rfl, r1, r2⟩ := r
        unfold hPats
        simp only [Pats.within, Bool.and_eq_true] at hw
        refine ⟨x, r', rfl, hPat_run p d x fr fr1 σ _ hw.1 F r1 e1 fun σ1 F1 w1 => ?_⟩
        exact hPats_run ps ds r' fr1 fr' σ1 Q hw.2 F1 r2 e fun σ2 F2 w2 => q σ2 F2 (w2.trans w1)
theorem bindPs_len : ∀ (ps : Pats) (ds : List D) (fr fr' : Fr), bindPs ps ds fr = some fr' → ds.length = ps.len
  | .nil, [], _, _, _ => rfl
  | .nil, d :: ds, fr, fr', e => by simp [bindPs] at e
  | .cons p ps, [], fr, fr', e => by simp [bindPs] at e
  | .cons p ps, d :: ds, fr, fr', e => by
    simp only [bindPs] at e
    cases e1 : bindP p d fr with
    | none => simp [e1] at e
    | some fr1 =>
      simp only [e1, Option.bind_some] at e
      simp [Pats.len, bindPs_len ps ds fr1 fr' e]
end

/-! ### list comprehensions -/
/-- the turns: n the new list's number; step d h keep skip -/
def lcN (s : Src) (n : Nat) (step : D → Hq → (D → Hq → Prop) → (Hq → Prop) → Prop) (P : WK) : Nat → Nat → Hq → Prop
  | 0, _, _ => False
  | k + 1, i, h => match s.tick h i with
    | some (some d) => step d h (fun y h4 => match lstAt h4 n with
      | some acc => acc.length < sizeLine ∧ lcN s n step P k (i + 1) (h4.set n (.lst (acc ++ [y])))
      | none => False) (fun h3 => lcN s n step P k (i + 1) h3)
    | some none => P (.ref n) h
    | none => False
def lcStep (p : Pat) (tt : WT) (te : WE) (fr : Fr) : D → Hq → (D → Hq → Prop) → (Hq → Prop) → Prop := fun d h kp sk =>
  match bindP p d fr with
  | some fr2 => tt fr2 h fun b h3 => if b = true then te fr2 h3 kp else sk h3
  | none => False
def wLc (wi : WI) (p : Pat) (tt : WT) (te : WE) (vs : List Nat) : WE := fun fr h P => wi fr h fun s h1 => ∃ k, lcN s h1.length (lcStep p tt te (wipeF fr vs)) P k 0 (h1 ++ [.lst []])
abbrev STs (X : Cx) (es : List Expr) (w : WT) : Prop := PTs X es (liftT X.K w)
def wtYes : WT := fun _ h P => P true h
theorem PTs.imp {X : Cx} {e : List Expr} {t t' : TT} (h : PTs X e t) (i : ∀ σ H Q, t' σ H Q → t σ H Q) : PTs X e t' := ⟨fun pins s σ H Q I q => h.run pins s σ H Q I (i σ H Q q)⟩
theorem sts_nil {X : Cx} : STs X [] wtYes := PTs.imp pts_nil fun σ H Q ⟨ρ, fr, h, P, S, F, w, c⟩ => c ρ h H true .refl S w
theorem sts_one {X : Cx} {c : Expr} {t : WT} (h : ST X c t) : STs X [c] t := pts_one h
theorem lc_lift {K : PySem.W.Frag} {wi : WI} {p : Pat} {tt : WT} {te : WE} {vs : List Nat} (hw : p.within vs = true) {σ H Q} (q : liftE K (wLc wi p tt te vs) σ H Q) : tLc (liftI K wi) (hPat K p) (liftT K tt) (liftE K te) vs σ H Q := by
  obtain ⟨ρ, fr, h, P, S, F, w, c⟩ := q
  refine ⟨ρ, fr, h, _, S, F, w, fun ρ1 h1 H1 J s e1 S1 o ⟨k, w1⟩ => fun D hD => ?_⟩
  have eD : Ext K ρ1 h1.length H1 (rho ρ1 h1.length D) (h1 ++ [Ob.lst []]).length (upd H1 D (.lst [])) := by
    rw [List.length_append]; exact Ext.newLst hD
  have SD := S1.lst (p := D) (ds := []) (xs := []) hD .nil
  have hlt : h1.length < (h1 ++ [Ob.lst []]).length := by simp
  have o' := o.ext eD
  refine ⟨fun i m H => ∃ ρ2 h2, Ext K (rho ρ1 h1.length D) (h1 ++ [Ob.lst []]).length (upd H1 D (.lst [])) ρ2 h2.length H ∧ Sim K ρ2 h2 H ∧ lcN s h1.length (lcStep p tt te (wipeF fr vs)) P m i h2, ⟨k, _, _, .refl, SD, w1⟩, ?_⟩
  rintro i m H2 ⟨ρ2, h2, e2, S2, w2⟩
  cases m with
  | zero => exact w2.elim
  | succ m =>
    unfold lcN at w2
    obtain ⟨o1, o2⟩ := o' ρ2 h2 H2 i e2 S2
    have eAll := e1.trans (eD.trans e2)
    split at w2
    · rename_i d hd
      obtain ⟨go, yl⟩ := o2 d hd
      refine .inr ⟨go, fun H3 => ∃ ρ3 h3, Ext K (rho ρ1 h1.length D) (h1 ++ [Ob.lst []]).length (upd H1 D (.lst [])) ρ3 h3.length H3 ∧ Sim K ρ3 h3 H3 ∧ lcN s h1.length (lcStep p tt te (wipeF fr vs)) P m (i + 1) h3, fun H3 q => ⟨m, Nat.lt_succ_self m, q⟩, fun x H3 hy => ?_⟩
      obtain ⟨e3, S3, r3⟩ := yl x H3 hy
      unfold lcStep at w2
      split at w2
      · rename_i fr2 hb
        have F3 : FrR K ρ2 h2.length H3 (wipeF fr vs) (wipe σ vs) := (F.ext (eAll.trans e3)).wipe vs
        refine hPat_run p d x _ fr2 (wipe σ vs) _ hw F3 r3 hb fun σ2 F4 w4 => ⟨w4.trans (wipe_idem vs vs fun _ h => h), ?_⟩
        refine ⟨ρ2, fr2, h2, _, S3, F4, w2, fun ρ5 h5 H5 b e5 S5 w5 => ?_⟩
        cases b with
        | true =>
          rw [if_pos rfl] at w5 ⊢
          refine ⟨ρ5, fr2, h5, _, S5, F4.ext e5, w5, fun ρ6 h6 H6 y yv e6 S6 r6 w6 => ?_⟩
          have e26 := e3.trans (e5.trans e6)
          have hn6 : h1.length < h6.length := Nat.lt_of_lt_of_le hlt (e2.trans e26).le
          split at w6
          · rename_i acc ha
            obtain ⟨xs, hx, l⟩ := S6.lstAt ha
            have eρ : ρ6 h1.length = D := by rw [(e2.trans e26).ag _ hlt, rho_new]
            rw [eρ] at hx
            refine ⟨xs, hx, by rw [← l.length]; exact w6.1, ?_⟩
            obtain ⟨S7, e7⟩ := S6.setL (lstAt_get ha) (RpL.app l (RpL.cons r6 .nil))
            rw [eρ] at S7 e7
            exact ⟨ρ6, _, (e2.trans e26).trans e7, S7, w6.2⟩
          · exact w6.elim
        | false =>
          rw [if_neg Bool.false_ne_true] at w5 ⊢
          exact ⟨ρ5, h5, e2.trans (e3.trans e5), S5, w5⟩
      · exact w2.elim
    · rename_i hd
      refine .inl ⟨o1 hd, c ρ2 h2 H2 _ _ eAll S2 ?_ w2⟩
      unfold Rp
      exact ⟨Nat.lt_of_lt_of_le hlt e2.le, by rw [e2.ag _ hlt, rho_new]⟩
    · exact w2.elim
section
variable {X : Cx}
theorem se_lc {elt tg iter : Expr} {ifs : List Expr} {scope : Scope} {own : List (Str × Nat)} {pos : Pos} {wi : WI} {p : Pat} {tt : WT} {te : WE} (hc : X.calm = true) (hN : X.N.Nodup) (hi : SI X tg iter wi) (ok : BlkOk X.N X.env.scope scope own)
    (hw : p.within (own.map (·.2)) = true)
    (hg : ∀ (s : Shared) (H : Hp) (C : Addr) (cl : List (Str × Addr)) (fp : List Addr), PG (X.blk s H scope (compEnvC scope cl C X.env) fp) tg (hPat X.K p)) (ht : ∀ (s : Shared) (H : Hp) (C : Addr) (cl : List (Str × Addr)) (fp : List Addr), STs (X.blk s H scope (compEnvC scope cl C X.env) fp) ifs tt)
    (he : ∀ (s : Shared) (H : Hp) (C : Addr) (cl : List (Str × Addr)) (fp : List Addr), SE (X.blk s H scope (compEnvC scope cl C X.env) fp) elt te) (hs : ∀ x, foldedSetIterable iter X.env x = pure x) :
    SE X (.ListComp elt [⟨tg, iter, ifs, 0⟩] scope pos) (wLc wi p tt te (own.map (·.2))) :=
  PE.imp (pe_lc hc hN hi ok hg ht he hs) fun σ H Q q => lc_lift hw q
theorem ss_setLc {i : Nat} {y : Str} {py : Pos} {elt tg iter : Expr} {ifs : List Expr} {scope : Scope} {own : List (Str × Nat)} {pos spos : Pos} {wi : WI} {p : Pat} {tt : WT} {te : WE} (hc : X.calm = true) (hN : X.N.Nodup) (hy : X.N[i]? = some y) (hyl : X.env.scope.names.lookup y = some .local)
    (hsw : swapsWith (.ListComp elt [⟨tg, iter, ifs, 0⟩] scope pos) (some (.Name y py)) spos.line X.env = pure true) (hi : SI X tg iter wi) (ok : BlkOk X.N X.env.scope scope own)
    (hw : p.within (own.map (·.2)) = true)
    (hg : ∀ (s : Shared) (H : Hp) (C : Addr) (cl : List (Str × Addr)) (fp : List Addr), PG (X.blk s H scope (compEnvC scope cl C X.env) fp) tg (hPat X.K p)) (ht : ∀ (s : Shared) (H : Hp) (C : Addr) (cl : List (Str × Addr)) (fp : List Addr), STs (X.blk s H scope (compEnvC scope cl C X.env) fp) ifs tt)
    (he : ∀ (s : Shared) (H : Hp) (C : Addr) (cl : List (Str × Addr)) (fp : List Addr), SE (X.blk s H scope (compEnvC scope cl C X.env) fp) elt te) (hs : ∀ x, foldedSetIterable iter X.env x = pure x) :
    SS X (.Assign [.Name y py] (.ListComp elt [⟨tg, iter, ifs, 0⟩] scope pos) spos) (wsAsg (gName i) (wLc wi p tt te (own.map (·.2)))) := by
  refine PS.imp (ps_setLc (tt := liftT X.K tt) (te := liftE X.K te) hc hN hy hyl hsw hi ok hg ht he hs) fun D σ H ⟨ρ, fr, h, M, S, F, w, c1, c2, c3, c4⟩ => ?_
  exact lc_lift hw ⟨ρ, fr, h, _, S, F, w, fun ρ1 h1 H1 d v e1 S1 r1 w1 => c1 ρ1 h1 H1 _ _ e1 S1 ((F.ext e1).set r1) w1⟩
end
end MP

namespace MP
open PySem PySem.Spec PyProof.Rows L2

/-! ### two clauses -/
def lc2N (s : Src) (n : Nat) (p : Pat) (tt : WT) (wi1 : WI) (p1 : Pat) (tt1 : WT) (te : WE) (vs1 : List Nat) (fr : Fr) (P : WK) : Nat → Nat → Hq → Prop
  | 0, _, _ => False
  | k + 1, i, h => match s.tick h i with
    | some (some d) => (match bindP p d fr with
      | some fr2 => tt fr2 h fun b h3 => if b = true then wi1 fr2 h3 fun s1 h4 => ∃ k1, lcN s1 n (lcStep p1 tt1 te (wipeF fr2 vs1)) (fun _ h5 => lc2N s n p tt wi1 p1 tt1 te vs1 fr P k (i + 1) h5) k1 0 h4
          else lc2N s n p tt wi1 p1 tt1 te vs1 fr P k (i + 1) h3
      | none => False)
    | some none => P (.ref n) h
    | none => False
def wLc2 (wi : WI) (p : Pat) (tt : WT) (wi1 : WI) (p1 : Pat) (tt1 : WT) (te : WE) (vs vs1 : List Nat) : WE := fun fr h P => wi fr h fun s h1 => ∃ k, lc2N s h1.length p tt wi1 p1 tt1 te vs1 (wipeF fr vs) P k 0 (h1 ++ [.lst []])
theorem lc2_lift {K : PySem.W.Frag} {wi wi1 : WI} {p p1 : Pat} {tt tt1 : WT} {te : WE} {vs vs1 : List Nat} (hw : p.within vs = true) (hw1 : p1.within vs1 = true) {σ H Q} (q : liftE K (wLc2 wi p tt wi1 p1 tt1 te vs vs1) σ H Q) :
    tLc2 (liftI K wi) (hPat K p) (liftT K tt) (liftI K wi1) (hPat K p1) (liftT K tt1) (liftE K te) vs vs1 σ H Q := by
  obtain ⟨ρ, fr, h, P, S, F, w, c⟩ := q
  refine ⟨ρ, fr, h, _, S, F, w, fun ρ1 h1 H1 J s e1 S1 o ⟨k, w1⟩ => fun D hD => ?_⟩
  have eD : Ext K ρ1 h1.length H1 (rho ρ1 h1.length D) (h1 ++ [Ob.lst []]).length (upd H1 D (.lst [])) := by
    rw [List.length_append]; exact Ext.newLst hD
  have SD := S1.lst (p := D) (ds := []) (xs := []) hD .nil
  have hlt : h1.length < (h1 ++ [Ob.lst []]).length := by simp
  have o' := o.ext eD
  refine ⟨fun i m H => ∃ ρ2 h2, Ext K (rho ρ1 h1.length D) (h1 ++ [Ob.lst []]).length (upd H1 D (.lst [])) ρ2 h2.length H ∧ Sim K ρ2 h2 H ∧ lc2N s h1.length p tt wi1 p1 tt1 te vs1 (wipeF fr vs) P m i h2, ⟨k, _, _, .refl, SD, w1⟩, ?_⟩
  rintro i m H2 ⟨ρ2, h2, e2, S2, w2⟩
  cases m with
  | zero => exact w2.elim
  | succ m =>
    unfold lc2N at w2
    obtain ⟨o1, o2⟩ := o' ρ2 h2 H2 i e2 S2
    have eAll := e1.trans (eD.trans e2)
    split at w2
    · rename_i d hd
      obtain ⟨go, yl⟩ := o2 d hd
      refine .inr ⟨go, fun H3 => ∃ ρ3 h3, Ext K (rho ρ1 h1.length D) (h1 ++ [Ob.lst []]).length (upd H1 D (.lst [])) ρ3 h3.length H3 ∧ Sim K ρ3 h3 H3 ∧ lc2N s h1.length p tt wi1 p1 tt1 te vs1 (wipeF fr vs) P m (i + 1) h3, fun H3 q => ⟨m, Nat.lt_succ_self m, q⟩, fun x H3 hy => ?_⟩
      obtain ⟨e3, S3, r3⟩ := yl x H3 hy
      split at w2
      · rename_i fr2 hb
        have F3 : FrR K ρ2 h2.length H3 (wipeF fr vs) (wipe σ vs) := (F.ext (eAll.trans e3)).wipe vs
        refine hPat_run p d x _ fr2 (wipe σ vs) _ hw F3 r3 hb fun σ2 F4 w4 => ⟨w4.trans (wipe_idem vs vs fun _ h => h), ?_⟩
        refine ⟨ρ2, fr2, h2, _, S3, F4, w2, fun ρ5 h5 H5 b e5 S5 w5 => ?_⟩
        cases b with
        | true =>
          rw [if_pos rfl] at w5 ⊢
          refine ⟨ρ5, fr2, h5, _, S5, F4.ext e5, w5, fun ρ6 h6 H6 J1 s1 e6 S6 oi ⟨k1, w6⟩ => ?_⟩
          have e36 := e3.trans (e5.trans e6)
          refine ⟨fun j m1 H => ∃ ρ7 h7, Ext K ρ6 h6.length H6 ρ7 h7.length H ∧ Sim K ρ7 h7 H ∧ lcN s1 h1.length (lcStep p1 tt1 te (wipeF fr2 vs1)) (fun _ h5 => lc2N s h1.length p tt wi1 p1 tt1 te vs1 (wipeF fr vs) P m (i + 1) h5) m1 j h7, ⟨k1, ρ6, h6, .refl, S6, w6⟩, ?_⟩
          rintro j m1 H7 ⟨ρ7, h7, e7, S7, w7⟩
          cases m1 with
          | zero => exact w7.elim
          | succ m1 =>
            unfold lcN at w7
            obtain ⟨q1, q2⟩ := oi ρ7 h7 H7 j e7 S7
            split at w7
            · rename_i d1 hd1
              obtain ⟨go1, yl1⟩ := q2 d1 hd1
              refine .inr ⟨go1, fun H8 => ∃ ρ8 h8, Ext K ρ6 h6.length H6 ρ8 h8.length H8 ∧ Sim K ρ8 h8 H8 ∧ lcN s1 h1.length (lcStep p1 tt1 te (wipeF fr2 vs1)) (fun _ h5 => lc2N s h1.length p tt wi1 p1 tt1 te vs1 (wipeF fr vs) P m (i + 1) h5) m1 (j + 1) h8, fun H8 q => ⟨m1, Nat.lt_succ_self m1, q⟩, fun x1 H8 hy1 => ?_⟩
              obtain ⟨e8, S8, r8⟩ := yl1 x1 H8 hy1
              unfold lcStep at w7
              split at w7
              · rename_i fr3 hb1
                have F8 : FrR K ρ7 h7.length H8 (wipeF fr2 vs1) (wipe σ2 vs1) := (F4.ext (e5.trans (e6.trans (e7.trans e8)))).wipe vs1
                refine hPat_run p1 d1 x1 _ fr3 (wipe σ2 vs1) _ hw1 F8 r8 hb1 fun σ3 F9 w9 => ⟨w9.trans (wipe_idem vs1 vs1 fun _ h => h), ?_⟩
                refine ⟨ρ7, fr3, h7, _, S8, F9, w7, fun ρ10 h10 H10 b1 e10 S10 w10 => ?_⟩
                cases b1 with
                | true =>
                  rw [if_pos rfl] at w10 ⊢
                  refine ⟨ρ10, fr3, h10, _, S10, F9.ext e10, w10, fun ρ11 h11 H11 y yv e11 S11 r11 w11 => ?_⟩
                  have e711 := e7.trans (e8.trans (e10.trans e11))
                  have eD11 := e2.trans (e36.trans e711)
                  split at w11
                  · rename_i acc ha
                    obtain ⟨xs, hx, l⟩ := S11.lstAt ha
                    have eρ : ρ11 h1.length = D := by rw [eD11.ag _ hlt, rho_new]
                    rw [eρ] at hx
                    refine ⟨xs, hx, by rw [← l.length]; exact w11.1, ?_⟩
                    obtain ⟨S12, e12⟩ := S11.setL (lstAt_get ha) (RpL.app l (RpL.cons r11 .nil))
                    rw [eρ] at S12 e12
                    exact ⟨ρ11, _, e711.trans e12, S12, w11.2⟩
                  · exact w11.elim
                | false =>
                  rw [if_neg Bool.false_ne_true] at w10 ⊢
                  exact ⟨ρ10, h10, e7.trans (e8.trans e10), S10, w10⟩
              · exact w7.elim
            · rename_i hd1
              exact .inl ⟨q1 hd1, ρ7, h7, e2.trans (e36.trans e7), S7, w7⟩
            · exact w7.elim
        | false =>
          rw [if_neg Bool.false_ne_true] at w5 ⊢
          exact ⟨ρ5, h5, e2.trans (e3.trans e5), S5, w5⟩
      · exact w2.elim
    · rename_i hd
      refine .inl ⟨o1 hd, c ρ2 h2 H2 _ _ eAll S2 ?_ w2⟩
      unfold Rp
      exact ⟨Nat.lt_of_lt_of_le hlt e2.le, by rw [e2.ag _ hlt, rho_new]⟩
    · exact w2.elim
section
variable {X : Cx}
theorem se_lc2 {elt tg iter tg1 iter1 : Expr} {ifs ifs1 : List Expr} {scope : Scope} {own : List (Str × Nat)} {vs1 : List Nat} {pos : Pos} {wi wi1 : WI} {p p1 : Pat} {tt tt1 : WT} {te : WE} (hc : X.calm = true) (hN : X.N.Nodup) (hi : SI X tg iter wi) (ok : BlkOk X.N X.env.scope scope own) (hv : ∀ i ∈ vs1, i ∈ own.map (·.2))
    (hw : p.within (own.map (·.2)) = true) (hw1 : p1.within vs1 = true)
    (hg : ∀ (s : Shared) (H : Hp) (C : Addr) (cl : List (Str × Addr)) (fp : List Addr), PG (X.blk s H scope (compEnvC scope cl C X.env) fp) tg (hPat X.K p)) (ht : ∀ (s : Shared) (H : Hp) (C : Addr) (cl : List (Str × Addr)) (fp : List Addr), STs (X.blk s H scope (compEnvC scope cl C X.env) fp) ifs tt)
    (hi1 : ∀ (s : Shared) (H : Hp) (C : Addr) (cl : List (Str × Addr)) (fp : List Addr), SI (X.blk s H scope (compEnvC scope cl C X.env) fp) tg1 iter1 wi1)
    (hg1 : ∀ (s : Shared) (H : Hp) (C : Addr) (cl : List (Str × Addr)) (fp : List Addr), PG (X.blk s H scope (compEnvC scope cl C X.env) fp) tg1 (hPat X.K p1)) (ht1 : ∀ (s : Shared) (H : Hp) (C : Addr) (cl : List (Str × Addr)) (fp : List Addr), STs (X.blk s H scope (compEnvC scope cl C X.env) fp) ifs1 tt1)
    (he : ∀ (s : Shared) (H : Hp) (C : Addr) (cl : List (Str × Addr)) (fp : List Addr), SE (X.blk s H scope (compEnvC scope cl C X.env) fp) elt te) (hs : ∀ x, foldedSetIterable iter X.env x = pure x) (hs1 : ∀ env x, foldedSetIterable iter1 env x = pure x) :
    SE X (.ListComp elt [⟨tg, iter, ifs, 0⟩, ⟨tg1, iter1, ifs1, 0⟩] scope pos) (wLc2 wi p tt wi1 p1 tt1 te (own.map (·.2)) vs1) :=
  PE.imp (pe_lc2 (tt := liftT X.K tt) (tt1 := liftT X.K tt1) (te := liftE X.K te) (wi1 := liftI X.K wi1) hc hN hi ok hv hg ht hi1 hg1 ht1 he hs hs1) fun σ H Q q => lc2_lift hw hw1 q
theorem ss_setLc2 {i : Nat} {y : Str} {py : Pos} {elt tg iter tg1 iter1 : Expr} {ifs ifs1 : List Expr} {scope : Scope} {own : List (Str × Nat)} {vs1 : List Nat} {pos spos : Pos} {wi wi1 : WI} {p p1 : Pat} {tt tt1 : WT} {te : WE} (hc : X.calm = true) (hN : X.N.Nodup) (hy : X.N[i]? = some y) (hyl : X.env.scope.names.lookup y = some .local)
    (hsw : swapsWith (.ListComp elt [⟨tg, iter, ifs, 0⟩, ⟨tg1, iter1, ifs1, 0⟩] scope pos) (some (.Name y py)) spos.line X.env = pure true) (hi : SI X tg iter wi) (ok : BlkOk X.N X.env.scope scope own) (hv : ∀ i ∈ vs1, i ∈ own.map (·.2))
    (hw : p.within (own.map (·.2)) = true) (hw1 : p1.within vs1 = true)
    (hg : ∀ (s : Shared) (H : Hp) (C : Addr) (cl : List (Str × Addr)) (fp : List Addr), PG (X.blk s H scope (compEnvC scope cl C X.env) fp) tg (hPat X.K p)) (ht : ∀ (s : Shared) (H : Hp) (C : Addr) (cl : List (Str × Addr)) (fp : List Addr), STs (X.blk s H scope (compEnvC scope cl C X.env) fp) ifs tt)
    (hi1 : ∀ (s : Shared) (H : Hp) (C : Addr) (cl : List (Str × Addr)) (fp : List Addr), SI (X.blk s H scope (compEnvC scope cl C X.env) fp) tg1 iter1 wi1)
    (hg1 : ∀ (s : Shared) (H : Hp) (C : Addr) (cl : List (Str × Addr)) (fp : List Addr), PG (X.blk s H scope (compEnvC scope cl C X.env) fp) tg1 (hPat X.K p1)) (ht1 : ∀ (s : Shared) (H : Hp) (C : Addr) (cl : List (Str × Addr)) (fp : List Addr), STs (X.blk s H scope (compEnvC scope cl C X.env) fp) ifs1 tt1)
    (he : ∀ (s : Shared) (H : Hp) (C : Addr) (cl : List (Str × Addr)) (fp : List Addr), SE (X.blk s H scope (compEnvC scope cl C X.env) fp) elt te) (hs : ∀ x, foldedSetIterable iter X.env x = pure x) (hs1 : ∀ env x, foldedSetIterable iter1 env x = pure x) :
    SS X (.Assign [.Name y py] (.ListComp elt [⟨tg, iter, ifs, 0⟩, ⟨tg1, iter1, ifs1, 0⟩] scope pos) spos) (wsAsg (gName i) (wLc2 wi p tt wi1 p1 tt1 te (own.map (·.2)) vs1)) := by
  refine PS.imp (ps_setLc2 (tt := liftT X.K tt) (tt1 := liftT X.K tt1) (te := liftE X.K te) (wi1 := liftI X.K wi1) hc hN hy hyl hsw hi ok hv hg ht hi1 hg1 ht1 he hs hs1) fun D σ H ⟨ρ, fr, h, M, S, F, w, c1, c2, c3, c4⟩ => ?_
  exact lc2_lift hw hw1 ⟨ρ, fr, h, _, S, F, w, fun ρ1 h1 H1 d v e1 S1 r1 w1 => c1 ρ1 h1 H1 _ _ e1 S1 ((F.ext e1).set r1) w1⟩
end

/-! ### what is made on the way is forgotten -/
mutual
def D.sc (n : Nat) : D → Bool
  | .ref m => decide (m < n)
  | .tup ds => D.scL n ds
  | _ => true
def D.scL (n : Nat) : List D → Bool
  | [] => true
  | d :: ds => d.sc n && D.scL n ds
end
mutual
theorem Rp.down {K H ρ n n'} : ∀ (d : D) (v : V), d.sc n' = true → Rp K H ρ n d v → Rp K H ρ n' d v
  | .non, v, _, h => by unfold Rp at *; exact h
  | .bl b, v, _, h => by unfold Rp at *; exact h
  | .int i, v, _, h => by unfold Rp at *; exact h
  | .str s, v, _, h => by unfold Rp at *; exact h
  | .con u, v, _, h => by unfold Rp at *; exact h
  | .ref m, v, e, h => by
    unfold Rp at *
    simp only [D.sc] at e
    exact ⟨of_decide_eq_true e, h.2⟩
  | .tup ds, v, e, h => by
    unfold Rp at *
    simp only [D.sc] at e
    obtain ⟨a, xs, h1, h2, h3⟩ := h
    exact ⟨a, xs, h1, h2, RpL.down ds xs e h3⟩
theorem RpL.down {K H ρ n n'} : ∀ (ds : List D) (xs : List V), D.scL n' ds = true → RpL K H ρ n ds xs → RpL K H ρ n' ds xs
  | [], xs, _, h => by unfold RpL at *; exact h
  | d :: ds, xs, e, h => by
    unfold RpL at *
    simp only [D.scL, Bool.and_eq_true] at e
    obtain ⟨x, r, h1, h2, h3⟩ := h
    exact ⟨x, r, h1, Rp.down d x e.1 h2, RpL.down ds r e.2 h3⟩
end
mutual
theorem Rp.scOf {K H ρ n} : ∀ (d : D) (v : V), Rp K H ρ n d v → d.sc n = true
  | .ref m, v, h => by unfold Rp at h; simp only [D.sc]; exact decide_eq_true h.1
  | .tup ds, v, h => by
    unfold Rp at h
    obtain ⟨a, xs, _, _, h3⟩ := h
    simp only [D.sc]; exact RpL.scOf ds xs h3
  | .non, v, h => rfl
  | .bl b, v, h => rfl
  | .int i, v, h => rfl
  | .str s, v, h => rfl
  | .con u, v, h => rfl
theorem RpL.scOf {K H ρ n} : ∀ (ds : List D) (xs : List V), RpL K H ρ n ds xs → D.scL n ds = true
  | [], xs, h => rfl
  | d :: ds, xs, h => by
    unfold RpL at h
    obtain ⟨x, r, _, h2, h3⟩ := h
    simp only [D.scL, Bool.and_eq_true]
    exact ⟨Rp.scOf d x h2, RpL.scOf ds r h3⟩
end
def Ob.sc (n : Nat) : Ob → Bool
  | .lst ds => D.scL n ds
  | .scr _ => true
  | .dct _ kvs => kvs.all fun kv => kv.1.sc n && kv.2.sc n
theorem ObR.cut {K H ρ n n' a} {o : Ob} (e : o.sc n' = true) (r : ObR K H ρ n a o) : ObR K H ρ n' a o := by
  cases o with
  | lst ds => obtain ⟨xs, h1, h2⟩ := r; exact ⟨xs, h1, RpL.down ds xs e h2⟩
  | scr ns => exact r
  | dct l k => exact r.elim
theorem ObR.scOf {K H ρ n a} {o : Ob} (r : ObR K H ρ n a o) : o.sc n = true := by
  cases o with
  | lst ds => obtain ⟨xs, h1, h2⟩ := r; exact RpL.scOf ds xs h2
  | scr ns => rfl
  | dct l k => exact r.elim
/-- a heap with some of its objects alone: r tells which -/
theorem Sim.part {K ρ h H} (S : Sim K ρ h H) {h2 : Hq} (r : Nat → Nat) (ob : ∀ (i : Nat) (o : Ob), h2[i]? = some o → ∃ o', h[r i]? = some o' ∧ o.mut = o'.mut ∧ (ObR K H ρ h.length (ρ (r i)) o' → ObR K H (fun i => ρ (r i)) h2.length (ρ (r i)) o))
    (inj : ∀ i j, i < h2.length → j < h2.length → r i = r j → i = j) : Sim K (fun i => ρ (r i)) h2 H := by
  refine ⟨fun i o hi => ?_, fun i j o u hi hj mi mj q => ?_⟩
  · obtain ⟨o', h1, _, h3⟩ := ob i o hi
    exact h3 (S.ob _ _ h1)
  · obtain ⟨o', h1, e1, _⟩ := ob i o hi
    obtain ⟨u', h2', e2, _⟩ := ob j u hj
    exact inj i j (get_lt hi) (get_lt hj) (S.inj _ _ o' u' h1 h2' (e1 ▸ mi) (e2 ▸ mj) q)
/-- the heap's first n objects -/
theorem Sim.take {K ρ H} {h2 g : Hq} (S : Sim K ρ (h2 ++ g) H) (hs : ∀ (i : Nat) (o : Ob), h2[i]? = some o → o.sc h2.length = true) : Sim K ρ h2 H := by
  refine ⟨fun i o hi => ?_, fun i j o u hi hj mi mj q => S.inj i j o u ?_ ?_ mi mj q⟩
  · have : (h2 ++ g)[i]? = some o := by rw [List.getElem?_append_left (get_lt hi)]; exact hi
    exact (S.ob i o this).cut (hs i o hi)
  · rw [List.getElem?_append_left (get_lt hi)]; exact hi
  · rw [List.getElem?_append_left (get_lt hj)]; exact hj
/-- forget all that was made: the heap of before stands ahead -/
def wGc (w : WE) : WE := fun fr h P => w fr h fun d h' => h'.take h.length = h ∧ d.sc h.length = true ∧ P d h
theorem se_gc {X : Cx} {e : Expr} {w : WE} (he : SE X e w) : SE X e (wGc w) := by
  refine PE.imp he fun σ H Q ⟨ρ, fr, h, P, S, F, w, c⟩ => ⟨ρ, fr, h, _, S, F, w, fun ρ1 h1 H1 d v e1 S1 r1 ⟨w1, w2, w3⟩ => ?_⟩
  have eh : h1 = h ++ h1.drop h.length := by
    have h0 := (List.take_append_drop h.length h1).symm
    rw [w1] at h0; exact h0
  have S2 : Sim X.K ρ1 h H1 := by
    rw [eh] at S1
    refine S1.take fun i o hi => ?_
    exact (S.ob i o hi).scOf
  refine c ρ1 h H1 d v ⟨Nat.le_refl _, e1.ag, e1.tp⟩ S2 (Rp.down d v w2 r1) w3
end MP

namespace MP
open PySem PySem.Spec PyProof.Rows L2

/-! ### products, powers -/
theorem tuple_mul1 (l : Addr) (items : Array Value) (n : Nat) (dd : Option Addr) (sl : Array (Option Value)) (u : Tok) :
    Meets (Builtin.«tuple.__mul__» ⟨[.ref l, .int 1 u], []⟩) (fun _ R s => s.heap.get? l = some { cls := .type "tuple", dict := dd, data := .seq items n, slots := sl } ∧
      R (.ok (.ret (Value.ref l))) s) :=
  .of_wp fun prog w A R s h => by
    obtain ⟨hp, g, d, tk, os⟩ := s
    obtain ⟨hl, h⟩ := h
    have f1 := AutoSeq1.idx_int
    have c1 : (items.isEmpty || (1 : Int) == 1) = true := by simp
    wp_walk using wpAny_loadPart' hl
    exact ⟨_, rfl, h⟩
section
variable {X : Cx}
theorem op_repT1 : OpR X (binaryOp .Mult) (fun x y H Q => ∃ l xs, x = .ref l ∧ y = .int 1 ∧ SqT X.K H l xs ∧ Q (.ref l) H) := by
  intro pins s σ H x y v u Q I rx ry h
  obtain ⟨l, xs, rfl, rfl, hT, q⟩ := h
  cases rx
  obtain ⟨t, rfl⟩ := ry
  obtain ⟨its, r, ⟨⟨cls, dd, data, sl⟩, ho, hc, n, hd⟩, hs⟩ := I.tuple hT
  simp only at hc hd
  subst hc hd
  refine wpAny_binaryOp_repeat_ref (T := "tuple") (U := "int") (by decide) ⟨_, ho, rfl⟩ (fun s' => typeIs_int s' 1 t) noFill_tuple_mul F.fills_int_mul F.slot_int_rmul repeat_tuple F.slot_int_index.lookup
    (call_meets F.slot_int_rmul (typeIs_int s 1 t) F.entry_int_rmul (F.args_int_rmul_2 _ _) (int_rmul_tuple 1 t l its.toArray n dd sl)
      ⟨ho, rfl, ⟨_, ho, rfl⟩, call_meets F.slot_tuple_mul ⟨_, ho, rfl⟩ F.entry_tuple_mul (F.args_tuple_mul_2 _ _) (tuple_mul1 l its.toArray n dd sl t) ⟨ho, ?_⟩⟩)
  exact ⟨.ref l, _, I, rfl, q⟩
end
theorem RpL.rep {K H ρ n ds xs} (h : RpL K H ρ n ds xs) : ∀ k : Nat, RpL K H ρ n (List.replicate k ds).flatten (List.replicate k xs).flatten
  | 0 => RpL.nil
  | k + 1 => by
    rw [List.replicate_succ, List.replicate_succ, List.flatten_cons, List.flatten_cons]
    exact h.app (RpL.rep h k)
def gMul : W2 := fun d e h P => match d, e with
  | .int i, .int j => CMul i j ∧ P (.int (i * j)) h
  | .tup a, .int k => (k = 1 ∧ P (.tup a) h) ∨ (a ≠ [] ∧ 2 ≤ k ∧ k ≤ 1000 ∧ a.length ≤ 1000 ∧ P (.tup (List.replicate k.toNat a).flatten) h)
  | .ref n, .int k => (match lstAt h n with
    | some a => 0 ≤ k ∧ k ≤ 1000000 ∧ a.length * k.toNat ≤ sizeLine ∧ P (.ref h.length) (h ++ [.lst (List.replicate k.toNat a).flatten])
    | none => False)
  | _, _ => False
def gPow : W2 := fun d e h P => match d, e with
  | .int i, .int j => CPow i j ∧ P (.int (i ^ j.toNat)) h
  | _, _ => False
section
variable {X : Cx}
theorem og_mul : OpR X (binaryOp .Mult) (lift2 X.K gMul) := by
  intro pins s σ H x y v u Q I rx ry ⟨ρ, h, d, e, P, S, r1, r2, w, c⟩
  unfold gMul at w
  split at w
  · have h1 := rp_int r1; have h2 := rp_int r2
    exact op_mul pins s σ H x y v u Q I rx ry ⟨_, _, h1, h2, w.1, c ρ h H _ _ .refl S of_int w.2⟩
  · obtain ⟨a, xs, h1, q1, l1⟩ := rp_tup r1
    have h2 := rp_int r2
    rcases w with ⟨rfl, w⟩ | ⟨ne, k2, k3, k4, w⟩
    · exact op_repT1 pins s σ H x y v u Q I rx ry ⟨a, xs, h1, h2, q1, by rw [← h1]; exact c ρ h H _ _ .refl S r1 w⟩
    · refine op_repT pins s σ H x y v u Q I rx ry ⟨a, _, xs, h1, h2, q1, fun e => ?_, k2, k3, by rw [← l1.length]; exact k4, new_tup S (l1.rep _) w c⟩
      have := l1.length
      rw [e] at this
      exact ne (List.eq_nil_of_length_eq_zero this)
  · rename_i n k
    split at w
    · rename_i a q
      have h2 := rp_int r2
      obtain ⟨_, h1⟩ := rp_ref r1
      obtain ⟨xs, q1, l1⟩ := S.lstAt q
      refine op_rep pins s σ H x y v u Q I rx ry ⟨_, k, xs, h1, h2, q1, by omega, by omega, by rw [← l1.length]; exact w.2.2.1, new_lst S (l1.rep _) w.2.2.2 c⟩
    · exact w.elim
  · exact w.elim
theorem og_pow : OpR X (binaryOp .Pow) (lift2 X.K gPow) := by
  intro pins s σ H x y v u Q I rx ry ⟨ρ, h, d, e, P, S, r1, r2, w, c⟩
  unfold gPow at w
  split at w
  · have h1 := rp_int r1; have h2 := rp_int r2
    exact op_pow pins s σ H x y v u Q I rx ry ⟨_, _, h1, h2, w.1, c ρ h H _ _ .refl S of_int w.2⟩
  · exact w.elim
/-! ### list of a text -/
theorem call_lstS (hc : X.calm = true) : CallR X (.type "list") (fun xs H Q => ∃ t, xs = [.str t] ∧ t.cps.size ≤ sizeLine ∧ ∀ l, H l = none → Q (.ref l) (upd H l (.lst (t.cps.toList.map fun c => .str ⟨#[c]⟩)))) := by
  intro pins s σ H xs us Q I r h
  obtain ⟨x, rfl, hz, q⟩ := h
  obtain ⟨u, rfl, rx⟩ := vals1 r
  obtain ⟨t, rfl⟩ := rx
  refine call_list_str (I.ok.hd hc) x t (hn := hz) fun h' tk acc' c' hk hS' hacc => ?_
  have hv : Vals (x.cps.toList.map fun c => V.str ⟨#[c]⟩) acc'.toList := by
    refine vals_of_at (by rw [List.length_map, Array.length_toList, Array.length_toList, hacc.1]) fun i a b ha hb => ?_
    obtain ⟨c, u, hc1, rfl⟩ := hacc.2 i b (by simpa using hb)
    rw [List.getElem?_map] at ha
    have : x.cps.toList[i]? = some c := by simpa using hc1
    rw [this] at ha
    cases ha
    exact ⟨u, rfl⟩
  exact ⟨.ref s.heap.objs.size, _, I.laid (t' := tk) hk (Nat.le_refl _) (show ObjOk X.prog X.w _ h' _ (.lst _) from ⟨by rw [List.length_map, Array.length_toList]; exact hz, acc'.toList, c', hv, by simpa using hS'⟩), rfl, q _ (I.hok.fresh (Nat.le_refl _))⟩
/-! ### a store into a list -/
def wgSub (wo wi : WE) : WG := fun d fr h P => wo fr h fun o h1 => wi fr h1 fun i h2 => match o, i with
  | .ref n, .int k => (match lstAt h2 n with
    | some ds => (match ixN ds.length k with
      | some j => P fr (h2.set n (.lst (ds.set j d)))
      | none => False)
    | none => False)
  | _, _ => False
theorem RpL.set {K H ρ n} : ∀ {ds : List D} {xs : List V} {d : D} {x : V} (j : Nat), RpL K H ρ n ds xs → Rp K H ρ n d x → RpL K H ρ n (ds.set j d) (xs.set j x)
  | [], xs, d, x, j, h, r => by unfold RpL at h; subst h; exact RpL.nil
  | e :: ds, xs, d, x, 0, h, r => by
    unfold RpL at h
    obtain ⟨y, r', rfl, r1, r2⟩ := h
    exact RpL.cons r r2
  | e :: ds, xs, d, x, j + 1, h, r => by
    unfold RpL at h
    obtain ⟨y, r', rfl, r1, r2⟩ := h
    exact RpL.cons r1 (RpL.set j r2 r)
theorem sg_sub {o i : Expr} {pos : Pos} {wo wi : WE} (ho : SE X o wo) (hi : SE X i wi) (hp : ∀ v, assign (.Subscript o i pos) X.env v = (do
      let ov ← holding [v] (eval o X.env)
      let iv ← holding [v, ov] (eval i X.env)
      standAt pos
      holding [v, ov, iv] (setItem ov iv v)
      release [v, ov, iv] [])) : SG X (.Subscript o i pos) (wgSub wo wi) := by
  refine PG.imp (pg_sub ho hi set_list hp) fun v σ H Q ⟨ρ, fr, h, d, P, S, F, r, w, c⟩ => ?_
  refine ⟨ρ, fr, h, _, S, F, w, fun ρ1 h1 H1 d1 v1 e1 S1 r1 w1 => ?_⟩
  refine ⟨ρ1, fr, h1, _, S1, F.ext e1, w1, fun ρ2 h2 H2 d2 v2 e2 S2 r2 w2 => ?_⟩
  split at w2
  · rename_i n k
    split at w2
    · rename_i ds q
      split at w2
      · rename_i j qj
        obtain ⟨_, e3⟩ := rp_ref (Rp.ext e2 _ _ r1)
        have e4 := rp_int r2
        obtain ⟨xs, q1, l1⟩ := S2.lstAt q
        obtain ⟨S3, e5⟩ := S2.setL (lstAt_get q) (RpL.set j l1 (Rp.ext (e1.trans e2) _ _ r))
        refine ⟨_, xs, k, j, e3, e4, q1, by rw [← l1.length]; exact qj, ?_⟩
        exact c ρ2 _ _ _ _ ((e1.trans e2).trans e5) S3 (F.ext ((e1.trans e2).trans e5)) w2
      · exact w2.elim
    · exact w2.elim
  · exact w2.elim
def bLstS : WL := fun ds h P => match ds with
  | [.str s] => P (.ref h.length) (h ++ [.lst (s.map fun c => .str [c])])
  | ds => bLst ds h P
theorem chars_rp {K H ρ n} : ∀ {s : List Nat}, (∀ c ∈ s, c < 0x110000) → RpL K H ρ n (s.map fun c => D.str [c]) (s.map fun c => V.str ⟨#[c]⟩)
  | [], _ => RpL.nil
  | c :: s, h => RpL.cons (of_str ⟨by rw [sizeLine_eq]; simp, fun z hz => by rw [List.mem_singleton.mp hz]; exact h c (by simp)⟩) (chars_rp fun z hz => h z (List.mem_cons_of_mem _ hz))
theorem cg_lstS (hc : X.calm = true) : CallR X (.type "list") (liftL X.K bLstS) := by
  intro pins s σ H xs us Q I r ⟨ρ, h, ds, P, S, r1, w, c⟩
  unfold bLstS at w
  split at w
  · rename_i t
    obtain ⟨x, rfl, rx⟩ := rpl1 r1
    obtain ⟨rfl, ok⟩ := rp_str rx
    refine call_lstS hc pins s σ H _ us Q I r ⟨mkS t, rfl, Nat.le_trans (Nat.le_of_eq (str_len t)) ok.1, ?_⟩
    rw [str_list]
    exact new_lst S (chars_rp ok.2) w c
  · exact cg_lst pins s σ H xs us Q I r ⟨ρ, h, _, P, S, r1, w, c⟩
end
end MP

namespace MP
open PySem PySem.Spec PyProof.Rows L2

section
variable {X : Cx} {pos : Pos}
/-! ### and, or, not as values -/
def wAnd (a b : WE) : WE := fun fr h P => a fr h fun x h1 => match tru h1 x with
  | some true => b fr h1 P
  | some false => P x h1
  | none => False
def wOr (a b : WE) : WE := fun fr h P => a fr h fun x h1 => match tru h1 x with
  | some true => P x h1
  | some false => b fr h1 P
  | none => False
def wNot (a : WE) : WE := fun fr h P => a fr h fun x h1 => match tru h1 x with
  | some k => P (.bl (!k)) h1
  | none => False
theorem se_one {op} {a : Expr} {w : WE} (h : SE X a w) : SE X (.BoolOp op [a] pos) w := pe_one h
theorem se_and {a b : Expr} {rest : List Expr} {wa wb : WE} (ha : SE X a wa) (hb : SE X (.BoolOp .And (b :: rest) pos) wb) : SE X (.BoolOp .And (a :: b :: rest) pos) (wAnd wa wb) := by
  refine PE.imp (pe_andT ha hb) fun σ H Q ⟨ρ, fr, h, P, S, F, w, c⟩ => ⟨ρ, fr, h, _, S, F, w, fun ρ1 h1 H1 d v e1 S1 r1 w1 => ?_⟩
  split at w1
  · rename_i q
    refine ⟨true, tru_ok' S1 r1 q, ?_⟩
    rw [if_pos rfl]
    exact ⟨ρ1, fr, h1, P, S1, F.ext e1, w1, c.step e1⟩
  · rename_i q
    refine ⟨false, tru_ok' S1 r1 q, ?_⟩
    rw [if_neg Bool.false_ne_true]
    exact c ρ1 h1 H1 d v e1 S1 r1 w1
  · exact w1.elim
theorem se_or {a b : Expr} {rest : List Expr} {wa wb : WE} (ha : SE X a wa) (hb : SE X (.BoolOp .Or (b :: rest) pos) wb) : SE X (.BoolOp .Or (a :: b :: rest) pos) (wOr wa wb) := by
  refine PE.imp (pe_orT ha hb) fun σ H Q ⟨ρ, fr, h, P, S, F, w, c⟩ => ⟨ρ, fr, h, _, S, F, w, fun ρ1 h1 H1 d v e1 S1 r1 w1 => ?_⟩
  split at w1
  · rename_i q
    refine ⟨true, tru_ok' S1 r1 q, ?_⟩
    rw [if_pos rfl]
    exact c ρ1 h1 H1 d v e1 S1 r1 w1
  · rename_i q
    refine ⟨false, tru_ok' S1 r1 q, ?_⟩
    rw [if_neg Bool.false_ne_true]
    exact ⟨ρ1, fr, h1, P, S1, F.ext e1, w1, c.step e1⟩
  · exact w1.elim
theorem se_not {a : Expr} {wa : WE} (ha : SE X a wa) : SE X (.UnaryOp .Not a pos) (wNot wa) := by
  refine PE.imp (pe_notT ha) fun σ H Q ⟨ρ, fr, h, P, S, F, w, c⟩ => ⟨ρ, fr, h, _, S, F, w, fun ρ1 h1 H1 d v e1 S1 r1 w1 => ?_⟩
  split at w1
  · rename_i k q
    exact ⟨k, tru_ok' S1 r1 q, c ρ1 h1 H1 _ _ e1 S1 of_bl w1⟩
  · exact w1.elim

/-! ### a star in a display -/
def waStar (w : WE) (r : WA) : WA := fun fr h P => w fr h fun d h1 => match seqOf h1 d with
  | some es => r fr h1 fun ds h2 => P (es ++ ds) h2
  | none => False
theorem sa_star {e : Expr} {es : List Expr} {p : Pos} {w : WE} {r : WA} (he : SE X e w) (hr : SA X es r) (hs : starEach (.Starred e p :: es) X.env = (true, eval e X.env) :: starEach es X.env) : SA X (.Starred e p :: es) (waStar w r) := by
  refine PA.imp (StX.pa_star he hr hs) fun σ H Q ⟨ρ, fr, h, P, S, F, w, c⟩ => ⟨ρ, fr, h, _, S, F, w, fun ρ1 h1 H1 d v e1 S1 r1 w1 => ?_⟩
  split at w1
  · rename_i ds q
    have fin : ∀ a xs, v = .ref a → (SqT X.K H1 a xs ∨ SqL X.K H1 a xs) → RpL X.K H1 ρ1 h1.length ds xs → _ := fun a xs hv sq l => by
      exact (⟨a, xs, hv, sq, ρ1, fr, h1, _, S1, F.ext e1, w1, fun ρ2 h2 H2 es ys e2 S2 r2 w2 => c ρ2 h2 H2 _ _ (e1.trans e2) S2 (RpL.app (RpL.ext e2 _ _ l) r2) w2⟩ : ∃ a xs, v = V.ref a ∧ (SqT X.K H1 a xs ∨ SqL X.K H1 a xs) ∧ liftA X.K r σ H1 fun ys H2 => Q (xs ++ ys) H2)
    cases d with
    | tup es' =>
      cases q
      obtain ⟨a, xs, hv, sq, l⟩ := rp_tup r1
      exact fin a xs hv (.inl sq) l
    | ref n =>
      obtain ⟨xs, hx, l⟩ := S1.lstAt q
      exact fin _ xs (rp_ref r1).2 (.inr (.inl (.inl hx))) l
    | _ => cases q
  · exact w1.elim

/-! ### over a tuple, a text, a list, as it comes -/
def wiAny (w : WE) : WI := fun fr h P => w fr h fun d h1 => match srcOf h1 d with
  | some s => P s h1
  | none => False
theorem si_any {tg e : Expr} {w : WE} (he : SE X e w) : SI X tg e (wiAny w) := by
  refine ⟨fun pins s σ H R I ⟨ρ, fr, h, P, S, F, w, c⟩ => ?_⟩
  refine thn (he.run pins s σ H (fun v H1 => ∃ ρ1 h1 d, Ext X.K ρ h.length H ρ1 h1.length H1 ∧ Sim X.K ρ1 h1 H1 ∧ Rp X.K H1 ρ1 h1.length d v ∧ (match srcOf h1 d with | some s => P s h1 | none => False)) I
    ⟨ρ, fr, h, _, S, F, w, fun ρ1 h1 H1 d v e1 S1 r1 w1 => ⟨ρ1, h1, d, e1, S1, r1, w1⟩⟩) fun v s1 ⟨x, H1, I1, r1, ρ1, h1, d, e1, S1, rx, w1⟩ => ?_
  split at w1
  · rename_i sr q
    cases d with
    | tup ds =>
      cases q
      obtain ⟨a, xs, rfl, sq, l⟩ := rp_tupT rx
      cases r1
      obtain ⟨its, rv, p, hz⟩ := I1.tuple sq.sq
      refine wpAny_pyIter_tuple (show s1.heap.IsTuple a its.toArray from p) ?_
      exact pi_one (tk := s1.toks) I1 _ (turn_tuple a _) ⟨_, Heap.get?_push_size _ rfl, rfl, rfl⟩ (c ρ1 h1 H1 _ _ e1 S1 (itok_tup sq l) w1)
    | str t =>
      cases q
      obtain ⟨rfl, o⟩ := rp_str rx
      obtain ⟨k, rfl⟩ := r1
      have qq := c ρ1 h1 H1 _ _ e1 S1 (itok_str o) w1
      cases ha : (mkS t).cps.all (· < 128)
      · exact wpAny_pyIter_wide ha (pi_one (tk := s1.toks) I1 _ (turn_str _ (mkS t) k "str_iterator" (.inr rfl)) ⟨_, Heap.get?_push_size _ rfl, rfl, rfl⟩ qq)
      · exact wpAny_pyIter_ascii ha (pi_one (tk := s1.toks) I1 _ (turn_str _ (mkS t) k "str_ascii_iterator" (.inl rfl)) ⟨_, Heap.get?_push_size _ rfl, rfl, rfl⟩ qq)
    | ref n =>
      have e' : (if (lstAt h1 n).isSome then some (Src.lst n) else none) = some sr := q
      split at e'
      · rename_i hs
        have := Option.some.inj e'
        subst this
        obtain ⟨ds, hd⟩ := Option.isSome_iff_exists.mp hs
        obtain ⟨xs, hx, _⟩ := S1.lstAt hd
        obtain ⟨hn, rfl⟩ := rp_ref rx
        cases r1
        obtain ⟨its, rv, p, hz⟩ := I1.list (.inl (.inl hx))
        refine wpAny_pyIter_list p.isList ?_
        exact pi_one (tk := s1.toks) I1 _ (turn_list _ _) ⟨_, Heap.get?_push_size _ rfl, rfl, rfl⟩ (c ρ1 h1 H1 _ _ e1 S1 (itok_lst hn) w1)
      · cases e'
    | _ => cases q
  · exact w1.elim
end

/-! ### defs -/
def liftF (K : PySem.W.Frag) (g : WL) : Sp := fun vs H Q _ => liftL K g vs H Q
/-- a def of the text that keeps the contract g, at most k calls deep -/
structure FE (P : Program) (w : World) (K : PySem.W.Frag) (mg : Str → Option Value) (base : Heap) (k : Nat) (x : Str) (g : WL) : Prop where
  ex : ∃ f fd ps, mg x = some (.ref f) ∧ PySem.W.keepIn K (.ref f) = true ∧ Binds K fd ps [] ∧ FnOk P w K mg base CX0 k f fd ps (liftF K g)
theorem FE.mono {P w K mg base j k x g} (F : FE P w K mg base j x g) (h : j ≤ k) : FE P w K mg base k x g := by
  obtain ⟨f, fd, ps, a, b, c, d⟩ := F.ex
  exact ⟨f, fd, ps, a, b, c, d.mono h⟩
theorem se_call {X : Cx} {k : Nat} {x : Str} {g : WL} {e : Expr} {es : List Expr} {p pos : Pos} {a : WA} (F : FE X.prog X.w X.K X.mg X.base k x g) (hr : Room k X.A) (hg : Gl X x) (ha : SA X (e :: es) a)
    (hdb : (x == ("__debug__" : Str)) = false) (he : starEach (e :: es) X.env = (false, eval e X.env) :: starEach es X.env) (hpl : (backTo pos (starEach es X.env)).any (·.1) = false) : SE X (.Call (.Name x p) (e :: es) [] pos) (wCB g a) := by
  obtain ⟨f, fd, ps, hm, hk, hb, hF⟩ := F.ex
  refine PE.imp (pe_call hF hr hg hm hk hb .nil pass0 ha hdb he hpl) fun σ H Q ⟨ρ, fr, h, P, S, F, w, c⟩ => ⟨ρ, fr, h, _, S, F, w, fun ρ1 h1 H1 ds xs e1 S1 r1 w1 => ?_⟩
  show liftL X.K g (xs ++ []) H1 Q
  rw [List.append_nil]
  exact ⟨ρ1, h1, ds, P, S1, r1, w1, c.step e1⟩

/-! ### what a def leaves to its caller -/
mutual
def D.ren (r : Nat → Nat) : D → D
  | .ref m => .ref (r m)
  | .tup ds => .tup (D.renL r ds)
  | .non => .non
  | .bl b => .bl b
  | .int i => .int i
  | .str s => .str s
  | .con v => .con v
def D.renL (r : Nat → Nat) : List D → List D
  | [] => []
  | d :: ds => d.ren r :: D.renL r ds
end
mutual
theorem D.ren_id {r : Nat → Nat} {n : Nat} (h : ∀ i, i < n → r i = i) : ∀ d : D, d.sc n = true → d.ren r = d
  | .ref m, e => by simp only [D.sc] at e; simp only [D.ren]; rw [h m (of_decide_eq_true e)]
  | .tup ds, e => by simp only [D.sc] at e; simp only [D.ren]; rw [D.renL_id h ds e]
  | .non, _ => rfl
  | .bl _, _ => rfl
  | .int _, _ => rfl
  | .str _, _ => rfl
  | .con _, _ => rfl
theorem D.renL_id {r : Nat → Nat} {n : Nat} (h : ∀ i, i < n → r i = i) : ∀ ds : List D, D.scL n ds = true → D.renL r ds = ds
  | [], _ => rfl
  | d :: ds, e => by
    simp only [D.scL, Bool.and_eq_true] at e
    simp only [D.renL]
    rw [D.ren_id h d e.1, D.renL_id h ds e.2]
end
mutual
theorem Rp.unren {K H ρ n n2} {r : Nat → Nat} : ∀ (d : D) (v : V), d.sc n2 = true → Rp K H ρ n (d.ren r) v → Rp K H (fun i => ρ (r i)) n2 d v
  | .ref m, v, e, h => by
    simp only [D.ren] at h
    simp only [D.sc] at e
    unfold Rp at *
    exact ⟨of_decide_eq_true e, h.2⟩
  | .tup ds, v, e, h => by
    simp only [D.ren] at h
    simp only [D.sc] at e
    unfold Rp at *
    obtain ⟨a, xs, h1, h2, h3⟩ := h
    exact ⟨a, xs, h1, h2, RpL.unren ds xs e h3⟩
  | .non, v, _, h => by simp only [D.ren] at h; unfold Rp at *; exact h
  | .bl _, v, _, h => by simp only [D.ren] at h; unfold Rp at *; exact h
  | .int _, v, _, h => by simp only [D.ren] at h; unfold Rp at *; exact h
  | .str _, v, _, h => by simp only [D.ren] at h; unfold Rp at *; exact h
  | .con _, v, _, h => by simp only [D.ren] at h; unfold Rp at *; exact h
theorem RpL.unren {K H ρ n n2} {r : Nat → Nat} : ∀ (ds : List D) (xs : List V), D.scL n2 ds = true → RpL K H ρ n (D.renL r ds) xs → RpL K H (fun i => ρ (r i)) n2 ds xs
  | [], xs, _, h => by simp only [D.renL] at h; unfold RpL at *; exact h
  | d :: ds, xs, e, h => by
    simp only [D.renL] at h
    simp only [D.scL, Bool.and_eq_true] at e
    unfold RpL at *
    obtain ⟨x, r', h1, h2, h3⟩ := h
    exact ⟨x, r', h1, Rp.unren d x e.1 h2, RpL.unren ds r' e.2 h3⟩
end
def Ob.ren (r : Nat → Nat) : Ob → Ob
  | .lst ds => .lst (D.renL r ds)
  | .scr ns => .scr ns
  | .dct l kvs => .dct l (kvs.map fun kv => (kv.1.ren r, kv.2.ren r))
theorem ObR.unren {K H ρ n n2 a} {r : Nat → Nat} {o : Ob} (e : o.sc n2 = true) (h : ObR K H ρ n a (o.ren r)) : ObR K H (fun i => ρ (r i)) n2 a o := by
  cases o with
  | lst ds => obtain ⟨xs, h1, h2⟩ := h; exact ⟨xs, h1, RpL.unren ds xs e h2⟩
  | scr ns => exact h
  | dct l k => exact h.elim
theorem Ob.ren_mut {r : Nat → Nat} (o : Ob) : (o.ren r).mut = o.mut := by cases o <;> rfl
theorem Ob.ren_id {r : Nat → Nat} {n : Nat} (h : ∀ i, i < n → r i = i) (o : Ob) (e : o.sc n = true) (hd : ∀ l k, o ≠ .dct l k) : o.ren r = o := by
  cases o with
  | lst ds => show Ob.lst _ = _; rw [D.renL_id h ds e]
  | scr ns => rfl
  | dct l k => exact (hd l k rfl).elim
/-- the heap h at the call; d, h' at the return: objects may be forgotten, numbered anew -/
def gcK (h : Hq) (P : WK) (d : D) (h' : Hq) : Prop :=
  ∃ (h2 : Hq) (d2 : D) (r : Nat → Nat), (∀ i, i < h.length → r i = i) ∧ h.length ≤ h2.length ∧ (∀ i j, i < h2.length → j < h2.length → r i = r j → i = j) ∧
    (∀ (i : Nat) (o : Ob), h2[i]? = some o → (h[i]? = some o ∧ h'[i]? = some o) ∨ (o.sc h2.length = true ∧ h'[r i]? = some (o.ren r))) ∧ d2.sc h2.length = true ∧ d = d2.ren r ∧ P d2 h2
theorem gc_ok {K ρ h H ρ' h' H' d v P Q} (S : Sim K ρ h H) (e : Ext K ρ h.length H ρ' h'.length H') (S' : Sim K ρ' h' H') (rv : Rp K H' ρ' h'.length d v) (g : gcK h P d h') (c : ClE K ρ h H P Q) : Q v H' := by
  obtain ⟨h2, d2, r, hr, hle, inj, ob, sc, ed, p⟩ := g
  subst ed
  have S2 : Sim K (fun i => ρ' (r i)) h2 H' := by
    refine S'.part r (fun i o hi => ?_) inj
    rcases ob i o hi with ⟨h1, h3⟩ | ⟨h1, h3⟩
    · have hlt := get_lt h1
      rw [hr i hlt]
      refine ⟨o, h3, rfl, fun x => ?_⟩
      have osc : o.sc h.length = true := (S.ob i o h1).scOf
      have e2 : Ext K ρ' h.length H' (fun i => ρ' (r i)) h2.length H' := ⟨hle, fun j hj => by show ρ' (r j) = ρ' j; rw [hr j hj], fun _ _ q => q⟩
      exact (ObR.cut osc x).ext e2 fun _ q _ => q
    · exact ⟨_, h3, (Ob.ren_mut o).symm, fun x => ObR.unren h1 x⟩
  exact c _ h2 H' d2 v ⟨hle, fun i hi => by show ρ' (r i) = ρ i; rw [hr i hi]; exact e.ag i hi, e.tp⟩ S2 (Rp.unren d2 v sc rv) p
/-- nothing of what was made is left -/
theorem gc_pure {h g : Hq} {P : WK} {d : D} (sc : d.sc h.length = true) (p : P d h) : gcK h P d (h ++ g) :=
  ⟨h, d, id, fun _ _ => rfl, Nat.le_refl _, fun _ _ _ _ e => e, fun i o hi => .inl ⟨hi, by rw [List.getElem?_append_left (get_lt hi)]; exact hi⟩, sc, (D.ren_id (fun _ _ => rfl) d sc).symm, p⟩
theorem gc_same {h : Hq} {P : WK} {d : D} (sc : d.sc h.length = true) (p : P d h) : gcK h P d h := by
  have := gc_pure (g := []) sc p
  rwa [List.append_nil] at this
mutual
theorem D.sc_le {n m : Nat} (h : n ≤ m) : ∀ d : D, d.sc n = true → d.sc m = true
  | .ref k, e => by simp only [D.sc] at *; exact decide_eq_true (Nat.lt_of_lt_of_le (of_decide_eq_true e) h)
  | .tup ds, e => by simp only [D.sc] at *; exact scL_le h ds e
  | .non, _ => rfl
  | .bl _, _ => rfl
  | .int _, _ => rfl
  | .str _, _ => rfl
  | .con _, _ => rfl
theorem scL_le {n m : Nat} (h : n ≤ m) : ∀ ds : List D, D.scL n ds = true → D.scL m ds = true
  | [], _ => rfl
  | d :: ds, e => by
    simp only [D.scL, Bool.and_eq_true] at *
    exact ⟨D.sc_le h d e.1, scL_le h ds e.2⟩
end
/-- one new list is left -/
theorem gc_lst {h h' : Hq} {P : WK} {m : Nat} {ds : List D} (pre : ∀ (i : Nat) (o : Ob), h[i]? = some o → h'[i]? = some o) (hm : h.length ≤ m) (hd : h'[m]? = some (.lst ds)) (sc : D.scL h.length ds = true) (p : P (.ref h.length) (h ++ [.lst ds])) : gcK h P (.ref m) h' := by
  have hlt : ∀ i, i < h.length → (if i = h.length then m else i) = i := fun i hi => if_neg (Nat.ne_of_lt hi)
  refine ⟨h ++ [.lst ds], .ref h.length, fun i => if i = h.length then m else i, hlt, by simp, fun i j hi hj e => ?_, fun i o hi => ?_, by simp [D.sc], by simp [D.ren], p⟩
  · have hi' : i < h.length + 1 := by simpa using hi
    have hj' : j < h.length + 1 := by simpa using hj
    have e' : (if i = h.length then m else i) = (if j = h.length then m else j) := e
    split at e' <;> split at e' <;> omega
  · rcases get_app hi with ⟨_, hi⟩ | ⟨rfl, rfl⟩
    · exact .inl ⟨hi, pre i o hi⟩
    · refine .inr ⟨?_, ?_⟩
      · have hl : h.length ≤ (h ++ [Ob.lst ds]).length := by simp
        exact scL_le hl ds sc
      · show h'[if h.length = h.length then m else h.length]? = some (Ob.lst (D.renL _ ds))
        rw [if_pos rfl, hd, D.renL_id hlt ds sc]
/-- objects of the caller's may have changed -/
theorem gc_mut {h h2 g : Hq} {P : WK} {d : D} (hl : h2.length = h.length) (ob : ∀ (i : Nat) (o : Ob), h2[i]? = some o → h[i]? = some o ∨ (o.sc h.length = true ∧ ∀ l k, o ≠ .dct l k)) (sc : d.sc h.length = true) (p : P d h2) : gcK h P d (h2 ++ g) := by
  refine ⟨h2, d, id, fun _ _ => rfl, by omega, fun _ _ _ _ e => e, fun i o hi => ?_, by rw [hl]; exact sc, (D.ren_id (fun _ _ => rfl) d sc).symm, p⟩
  have hi' : (h2 ++ g)[i]? = some o := by rw [List.getElem?_append_left (get_lt hi)]; exact hi
  rcases ob i o hi with q | ⟨q, nd⟩
  · exact .inl ⟨q, hi'⟩
  · refine .inr ⟨by rw [hl]; exact q, ?_⟩
    rw [Ob.ren_id (r := id) (n := h.length) (fun _ _ => rfl) o q nd]; exact hi'

/-! ### a def's body -/
def startF (n : Nat) (ds : List D) : Fr := ds.map some ++ List.replicate (n - ds.length) none
def wF (w : WS) (n np : Nat) : WL := fun ds h P => ds.length = np ∧ w { nx := fun _ h' => gcK h P .non h', rt := gcK h P } (startF n ds) h
theorem start_fr {K ρ n H} {N : List Str} {ds : List D} {vs : List V} (r : RpL K H ρ n ds vs) : FrR K ρ n H (startF N.length ds) (L2.start N vs) := by
  have hl := r.length
  refine ⟨by simp [startF, L2.start, hl], fun i d h => ?_⟩
  unfold startF at h
  rw [List.getElem?_append] at h
  split at h
  · rename_i hi
    have hi' : i < ds.length := by simpa using hi
    rw [List.getElem?_map, Option.map_eq_some_iff] at h
    obtain ⟨d', h1, h2⟩ := h
    cases h2
    obtain ⟨v, hv, rv⟩ := r.get h1
    refine ⟨v, ?_, rv⟩
    unfold L2.start
    rw [List.getElem?_append_left (by simp; omega), List.getElem?_map, hv]; rfl
  · rw [List.getElem?_replicate] at h
    split at h <;> cases h
end MP

namespace MP
open PySem PySem.Spec PyProof.Rows L2

/-! ### from the text to its meaning -/
structure CEnv where
  N : List Str
  fT : List (Str × WL)
  cT : List (Str × D)
structure Comp where
  e : Scope → Expr → Option WE
  t : Scope → Expr → Option WT
  i : Scope → Expr → Expr → Option WI
  s : Scope → Stmt → Option WS

def ixOf : List Str → Str → Option Nat
  | [], _ => none
  | y :: r, x => if y = x then some 0 else (ixOf r x).map (· + 1)
theorem ixOf_get : ∀ {N : List Str} {x : Str} {i : Nat}, ixOf N x = some i → N[i]? = some x
  | [], _, _, h => by cases h
  | y :: r, x, i, h => by
    unfold ixOf at h
    split at h
    · rename_i e; cases h; rw [e]; rfl
    · cases q : ixOf r x with
      | none => rw [q] at h; cases h
      | some j =>
        rw [q] at h
        have := Option.some.inj h
        subst this
        simpa using ixOf_get q
def bNames : List Str := ["len", "isinstance", "all", "any", "tuple", "list", "int", "min", "max", "range", "zip", "bool", "str", "dict", "enumerate", "sorted", "set"]
/-- what is known of the text's globals -/
structure Glo (P : Program) (w : World) (K : PySem.W.Frag) (mg : Str → Option Value) (base : Heap) (k : Nat) (Γ : CEnv) : Prop where
  bl : ∀ x ∈ bNames, mg x = none
  fe : ∀ x g, Γ.fT.lookup x = some g → FE P w K mg base k x g
  ct : ∀ x d, Γ.cT.lookup x = some d → ∃ u v, mg x = some u ∧ RelV v u ∧ ∀ H ρ n, Rp K H ρ n d v
  nd : Γ.N.Nodup
structure Good (P : Program) (w : World) (K : PySem.W.Frag) (mg : Str → Option Value) (base : Heap) (k : Nat) (N : List Str) (sc : Scope) (X : Cx) : Prop where
  prog : X.prog = P
  w : X.w = w
  K : X.K = K
  mg : X.mg = mg
  base : X.base = base
  N : X.N = N
  calm : X.calm = true
  room : Room k X.A
  loc : ∀ x, sc.names.lookup x = some .local → X.env.scope.names.lookup x = some .local
  cell : ∀ x, sc.names.lookup x = some .cell → X.env.scope.names.lookup x = some .cell
  free : ∀ x, sc.names.lookup x = some .free → X.env.scope.names.lookup x = some .free ∨ X.env.scope.names.lookup x = some .cell
  gl : ∀ x, sc.names.lookup x = some .globalImplicit → X.env.kindOf x = some .globalImplicit
  fn : ∀ x, sc.names.lookup x = some .local ∨ sc.names.lookup x = some .cell → X.fn x = true ∨ X.env.scope.names.lookup x = some .local
  own : PassesOwn (model X.prog X.w) X.A X.env X.xe
theorem relabel_keep {scope : Scope} {env : Env} {x : Str} {k : NameKind} (hk : k ≠ .free) (h : scope.names.lookup x = some k) : (relabel scope env).names.lookup x = some k :=
  lookup_relS_keep (sc := env.scope) hk h
theorem relabel_free {env : Env} : ∀ {names : List (Str × NameKind)} {x : Str}, names.lookup x = some .free →
    (names.map fun (n, k) => if (k == NameKind.free && env.scope.kind == .function && env.kindOf n == some .cell) then (n, NameKind.cell) else (n, k)).lookup x = some .free ∨
    (names.map fun (n, k) => if (k == NameKind.free && env.scope.kind == .function && env.kindOf n == some .cell) then (n, NameKind.cell) else (n, k)).lookup x = some .cell
  | [], x, h => by simp at h
  | (n, k) :: r, x, h => by
    rw [List.lookup_cons] at h
    rw [List.map_cons]
    cases q : x == n with
    | true =>
      rw [q] at h
      have hk : k = .free := Option.some.inj h
      subst hk
      dsimp only
      split
      · right; rw [List.lookup_cons, q]
      · left; rw [List.lookup_cons, q]
    | false =>
      rw [q] at h
      have ih := relabel_free (env := env) h
      dsimp only
      split
      · rw [List.lookup_cons, q]; exact ih
      · rw [List.lookup_cons, q]; exact ih
section
variable {P : Program} {w : World} {K : PySem.W.Frag} {mg : Str → Option Value} {base : Heap} {k : Nat} {Γ : CEnv} {sc scope : Scope} {X : Cx}
theorem Good.blk (G : Good P w K mg base k Γ.N sc X) (s : Shared) (H : Hp) (C : Addr) (cl : List (Str × Addr)) (fp : List Addr) : Good P w K mg base k Γ.N scope (X.blk s H scope (compEnvC scope cl C X.env) fp) := by
  refine ⟨G.prog, G.w, G.K, G.mg, G.base, G.N, G.calm, G.room, fun x h => relabel_keep (by decide) h, fun x h => relabel_keep (by decide) h, fun x h => relabel_free h, fun x h => relabel_keep (by decide) h, fun x h => ?_, PassesOwn.never⟩
  rcases h with h | h
  · right; exact relabel_keep (by decide) h
  · left
    show (scope.names.lookup x == some .cell) = true
    rw [h]; rfl
theorem Good.vis (G : Good P w K mg base k Γ.N sc X) {x : Str} (h : sc.names.lookup x = some .local ∨ sc.names.lookup x = some .cell ∨ sc.names.lookup x = some .free) : Vis X.env.scope x := by
  rcases h with h | h | h
  · exact .inl (G.loc x h)
  · exact .inr (.inl (G.cell x h))
  · exact (G.free x h).elim (fun q => .inr (.inr q)) fun q => .inr (.inl q)
theorem Good.locs (G : Good P w K mg base k Γ.N sc X) {x : Str} (h : sc.names.lookup x = some .local ∨ sc.names.lookup x = some .cell) : Loc X.env.scope x := by
  rcases h with h | h
  · exact .inl (G.loc x h)
  · exact .inr (G.cell x h)
theorem Good.u64 (G : Good P w K mg base k Γ.N sc X) : X.A.units + 64 < cLine := G.room.units
theorem Good.u65 (G : Good P w K mg base k Γ.N sc X) : X.A.units + 65 < cLine := by
  have := G.room.un
  omega
theorem Good.fe (G : Good P w K mg base k Γ.N sc X) {x : Str} {g : WL} (F : FE P w K mg base k x g) : FE X.prog X.w X.K X.mg X.base k x g := by
  rw [G.prog, G.w, G.K, G.mg, G.base]; exact F
end

/-- forms that are no star, no slice, no set -/
def plainE : Expr → Bool
  | .Starred .. => false
  | .Slice .. => false
  | .Set .. => false
  | _ => true
theorem plain_star {e : Expr} {es : List Expr} {env : Env} (h : plainE e = true) : starEach (e :: es) env = (false, eval e env) :: starEach es env := by
  cases e <;> first
    | rfl
    | cases h
theorem plain_behind {op : CmpOp} {e : Expr} (h : plainE e = true) : behindInMarks op e = false := by
  cases e <;> first
    | rfl
    | cases h
theorem plain_fold {e : Expr} {env : Env} (h : plainE e = true) (x : Value) : foldedSetIterable e env x = pure x := by
  cases e <;> first
    | rfl
    | cases h
theorem plain_ix {e : Expr} (h : plainE e = true) : PlainIx e := by
  cases e <;> first
    | (intro o i; rfl)
    | cases h
theorem plain_any {pos : Pos} {env : Env} : ∀ {es : List Expr}, es.all plainE = true → (backTo pos (starEach es env)).any (·.1) = false
  | [], _ => rfl
  | e :: es, h => by
    simp only [List.all_cons, Bool.and_eq_true] at h
    rw [plain_star h.1]
    have ih := plain_any (pos := pos) (env := env) h.2
    unfold backTo at ih ⊢
    simpa using ih
theorem plain_all {pos : Pos} {env : Env} : ∀ {es : List Expr}, es.all plainE = true → (backTo pos (starEach es env)).all (fun x => !x.1) = true
  | [], _ => rfl
  | e :: es, h => by
    simp only [List.all_cons, Bool.and_eq_true] at h
    rw [plain_star h.1]
    have ih := plain_all (pos := pos) (env := env) h.2
    unfold backTo at ih ⊢
    simpa using ih
/-- forms whose test is their value's truth -/
def valT : Expr → Bool
  | .UnaryOp .Not _ _ => false
  | .BoolOp .. => false
  | .IfExp .. => false
  | .Compare .. => false
  | _ => true
theorem valT_ok {e : Expr} {env : Env} (h : valT e = true) : ∀ whole, isTrue e env whole = (do let v ← whole; standAt e.pos; holding [v] (truthy v)) := by
  cases e with
  | UnaryOp op a p => cases op <;> first
    | (intro _; rfl)
    | cases h
  | BoolOp => cases h
  | IfExp => cases h
  | Compare => cases h
  | _ => intro _; rfl
def isComp : Expr → Bool
  | .ListComp .. => true
  | .SetComp .. => true
  | .DictComp .. => true
  | _ => false
theorem notComp_swaps {e : Expr} {t : Option Expr} {l : Nat} {env : Env} (h : isComp e = false) : swapsWith e t l env = pure false := by
  cases e <;> first
    | rfl
    | cases h
def isCall0 : Expr → Bool
  | .Call (.Name _ _) [] [] _ => true
  | _ => false
theorem notCall0_base {e : Expr} {f : Str} {env : Env} (h : isCall0 e = false) : attributeBase e f env (eval e env) = eval e env := by
  unfold attributeBase
  split
  · cases h
  · rfl

/-! ### expressions -/
def cmpW : CmpOp → W2
  | .Eq => gEq
  | .NotEq => gNe
  | .Lt => gLt
  | .LtE => gLe
  | .Gt => gGt
  | .GtE => gGe
  | .Is => isD false
  | .IsNot => isD true
  | .In => gIn false
  | .NotIn => gIn true
theorem cmpW_ok {X : Cx} (hu : X.A.units + 65 < cLine) : ∀ op : CmpOp, OpR X (compareOp op) (lift2 X.K (cmpW op))
  | .Eq => og_eq (by omega)
  | .NotEq => og_ne (by omega)
  | .Lt => og_lt
  | .LtE => og_le
  | .Gt => og_gt
  | .GtE => og_ge
  | .Is => og_is
  | .IsNot => og_isn
  | .In => og_in hu
  | .NotIn => og_notin hu
def binW : Operator → Option W2
  | .Add => some gAdd
  | .Sub => some gSub
  | .Mod => some gMod
  | .FloorDiv => some gFdiv
  | .Mult => some gMul
  | .Pow => some gPow
  | _ => none
theorem binW_ok {X : Cx} {op : Operator} {g : W2} (h : binW op = some g) : OpR X (binaryOp op) (lift2 X.K g) := by
  cases op <;> first
    | (cases h; done)
    | (cases h; first | exact og_add | exact og_sub | exact og_mod | exact og_fdiv | exact og_mul | exact og_pow)
def notDbg (x : Str) : Bool := !(x == ("__debug__" : Str)) && !(x == ("__classdict__" : Str)) && !(x == ("__name__" : Str))
def tyName (x : Str) : Option String :=
  if x = ("int" : Str) then some "int" else if x = ("bool" : Str) then some "bool" else if x = ("str" : Str) then some "str" else
  if x = ("tuple" : Str) then some "tuple" else if x = ("list" : Str) then some "list" else if x = ("dict" : Str) then some "dict" else none
def bW (x : Str) (n : Nat) : Option WL :=
  if x = ("len" : Str) then some bLen else if x = ("isinstance" : Str) then some bIsi else if x = ("all" : Str) then some bAll else if x = ("any" : Str) then some bAny else
  if x = ("tuple" : Str) then some bTup else if x = ("list" : Str) then some bLstS else if x = ("int" : Str) then some bInt else
  if x = ("min" : Str) then some bMin2 else if x = ("max" : Str) then some bMax2 else none
def cName (Γ : CEnv) (sc : Scope) (x : Str) : Option WE :=
  if notDbg x then match sc.names.lookup x with
    | some .local => (ixOf Γ.N x).map wVar
    | some .cell => (ixOf Γ.N x).map wVar
    | some .free => (ixOf Γ.N x).map wVar
    | some .globalImplicit => (match Γ.cT.lookup x with
      | some d => some (wC d)
      | none => if x ∈ bNames then (tyName x).map fun n => wC (.con (.ty n)) else none)
    | _ => none
  else none
section
variable {P : Program} {w : World} {K : PySem.W.Frag} {mg : Str → Option Value} {base : Heap} {k : Nat} {Γ : CEnv} {sc scope : Scope} {X : Cx}
theorem notDbg_ok {x : Str} (h : notDbg x = true) : (x == ("__debug__" : Str)) = false ∧ (x == ("__classdict__" : Str)) = false ∧ x ≠ "__name__" := by
  unfold notDbg at h
  simp only [Bool.and_eq_true, Bool.not_eq_true'] at h
  exact ⟨h.1.1, h.1.2, fun e => by rw [e] at h; simp at h⟩
theorem tyName_ok {x : Str} {n : String} (h : tyName x = some n) : bootBuiltins x = some (.type n) := by
  unfold tyName at h
  split at h
  · rename_i e; cases h; subst e; decide +kernel
  split at h
  · rename_i e; cases h; subst e; decide +kernel
  split at h
  · rename_i e; cases h; subst e; decide +kernel
  split at h
  · rename_i e; cases h; subst e; decide +kernel
  split at h
  · rename_i e; cases h; subst e; decide +kernel
  split at h
  · rename_i e; cases h; subst e; decide +kernel
  · cases h
theorem cName_ok (GL : Glo P w K mg base k Γ) (G : Good P w K mg base k Γ.N sc X) {x : Str} {p : Pos} {we : WE} (h : cName Γ sc x = some we) : SE X (.Name x p) we := by
  unfold cName at h
  split at h
  · rename_i hd
    obtain ⟨d1, d2, d3⟩ := notDbg_ok hd
    have var : (sc.names.lookup x = some .local ∨ sc.names.lookup x = some .cell ∨ sc.names.lookup x = some .free) → (ixOf Γ.N x).map wVar = some we → SE X (.Name x p) we := fun hv e => by
      rw [Option.map_eq_some_iff] at e
      obtain ⟨i, hi, rfl⟩ := e
      exact se_var (by rw [G.N]; exact ixOf_get hi) (G.vis hv) d1 d2
    split at h
    · rename_i q; exact var (.inl q) h
    · rename_i q; exact var (.inr (.inl q)) h
    · rename_i q; exact var (.inr (.inr q)) h
    · rename_i q
      split at h
      · rename_i d hc
        cases h
        obtain ⟨u, v, hm, r, rp⟩ := GL.ct x d hc
        exact se_c (pe_glob (G.gl x q) (by rw [G.mg]; exact hm) r d1) (by rw [G.K]; exact rp)
      · split at h
        · rename_i hb
          rw [Option.map_eq_some_iff] at h
          obtain ⟨n, hn, rfl⟩ := h
          exact se_c (pe_bltn (v := .ty n) (G.gl x q) (by rw [G.mg]; exact GL.bl x hb) (tyName_ok hn) rfl d3 d1) fun _ _ _ => of_con
        · cases h
    · cases h
  · cases h
theorem bW_ok (GL : Glo P w K mg base k Γ) (G : Good P w K mg base k Γ.N sc X) {x : Str} {n : Nat} {g : WL} {e : Expr} {es : List Expr} {a : WA} {p pos : Pos} (h : bW x n = some g) (hg : sc.names.lookup x = some .globalImplicit) (ha : SA X (e :: es) a)
    (he : plainE e = true) (hes : es.all plainE = true) : SE X (.Call (.Name x p) (e :: es) [] pos) (wCB g a) := by
  have m : ∀ y ∈ bNames, X.mg y = none := fun y hy => by rw [G.mg]; exact GL.bl y hy
  unfold bW at h
  split at h
  · rename_i e'; cases h; subst e'
    exact se_callB cg_len (G.gl _ hg) (m _ (by decide)) (by decide +kernel) ha (by decide) (by decide) (plain_star he) (plain_any hes)
  split at h
  · rename_i e'; cases h; subst e'
    exact se_callB cg_isi (G.gl _ hg) (m _ (by decide)) (by decide +kernel) ha (by decide) (by decide) (plain_star he) (plain_any hes)
  split at h
  · rename_i e'; cases h; subst e'
    exact se_callB (cg_all G.calm) (G.gl _ hg) (m _ (by decide)) (by decide +kernel) ha (by decide) (by decide) (plain_star he) (plain_any hes)
  split at h
  · rename_i e'; cases h; subst e'
    exact se_callB (cg_any G.calm) (G.gl _ hg) (m _ (by decide)) (by decide +kernel) ha (by decide) (by decide) (plain_star he) (plain_any hes)
  split at h
  · rename_i e'; cases h; subst e'
    exact se_callTy cg_tup (G.gl _ hg) (m _ (by decide)) (by decide +kernel) ha (by decide) (by decide) (plain_star he) (plain_any hes)
  split at h
  · rename_i e'; cases h; subst e'
    exact se_callTy (cg_lstS G.calm) (G.gl _ hg) (m _ (by decide)) (by decide +kernel) ha (by decide) (by decide) (plain_star he) (plain_any hes)
  split at h
  · rename_i e'; cases h; subst e'
    exact se_callTy cg_int (G.gl _ hg) (m _ (by decide)) (by decide +kernel) ha (by decide) (by decide) (plain_star he) (plain_any hes)
  split at h
  · rename_i e'; cases h; subst e'
    exact se_callB (cg_min2 G.calm) (G.gl _ hg) (m _ (by decide)) (by decide +kernel) ha (by decide) (by decide) (plain_star he) (plain_any hes)
  split at h
  · rename_i e'; cases h; subst e'
    exact se_callB (cg_max2 G.calm) (G.gl _ hg) (m _ (by decide)) (by decide +kernel) ha (by decide) (by decide) (plain_star he) (plain_any hes)
  · cases h
end
end MP

namespace MP
open PySem PySem.Spec PyProof.Rows L2

def cArgs (c : Comp) (sc : Scope) : List Expr → Option WA
  | [] => some waNil
  | e :: r => (c.e sc e).bind fun w => (cArgs c sc r).map fun a => waCons w a
def cItems (c : Comp) (sc : Scope) : List Expr → Option WA
  | [] => some waNil
  | .Starred e _ :: r => (c.e sc e).bind fun w => (cItems c sc r).map fun a => waStar w a
  | e :: r => (c.e sc e).bind fun w => (cItems c sc r).map fun a => waCons w a
def cBoolE (c : Comp) (sc : Scope) (g : WE → WE → WE) : List Expr → Option WE
  | [] => none
  | [a] => c.e sc a
  | a :: r => (c.e sc a).bind fun w => (cBoolE c sc g r).map fun u => g w u
def cBoolT (c : Comp) (sc : Scope) (g : WT → WT → WT) : List Expr → Option WT
  | [] => none
  | [a] => c.t sc a
  | a :: r => (c.t sc a).bind fun w => (cBoolT c sc g r).map fun u => g w u
def cOpt (c : Comp) (sc : Scope) : Option Expr → Option WO
  | none => some woNone
  | some e => (c.e sc e).map fun w => woSome w
mutual
def cPat (Γ : CEnv) (sc : Scope) : Nat → Expr → Option Pat
  | 0, _ => none
  | n + 1, e => match e with
    | .Name x _ => if sc.names.lookup x = some .local ∨ sc.names.lookup x = some .cell then (ixOf Γ.N x).map Pat.nm else none
    | .Tuple es _ _ => (cPats Γ sc n es).map Pat.tp
    | _ => none
def cPats (Γ : CEnv) (sc : Scope) : Nat → List Expr → Option Pats
  | 0, _ => none
  | n + 1, es => match es with
    | [] => some .nil
    | e :: es => (cPat Γ sc n e).bind fun p => (cPats Γ sc n es).map fun ps => Pats.cons p ps
end
def ownOf (N : List Str) (scope : Scope) : List (Str × Nat) := scope.names.filterMap fun y => match y.2 with
  | .local => (ixOf N y.1).map fun i => (y.1, i)
  | .cell => (ixOf N y.1).map fun i => (y.1, i)
  | _ => none
def cIfs (c : Comp) (sc : Scope) : List Expr → Option WT
  | [] => some wtYes
  | [t] => c.t sc t
  | _ => none
/-- a comprehension's parts -/
def cLc1 (c : Comp) (Γ : CEnv) (sc : Scope) (elt tg iter : Expr) (ifs : List Expr) (scope : Scope) : Option (WI × Pat × WT × WE) :=
  if blkC Γ.N sc scope (ownOf Γ.N scope) = true then
    (c.i sc tg iter).bind fun wi => (cPat Γ scope 8 tg).bind fun p => if p.within ((ownOf Γ.N scope).map (·.2)) = true then
      (cIfs c scope ifs).bind fun tt => (c.e scope elt).map fun te => (wi, p, tt, te)
    else none
  else none
mutual
def Pat.ixs : Pat → List Nat
  | .nm i => [i]
  | .tp ps => ps.ixs
def Pats.ixs : Pats → List Nat
  | .nil => []
  | .cons p ps => p.ixs ++ ps.ixs
end
def cLc2 (c : Comp) (Γ : CEnv) (sc : Scope) (elt tg iter : Expr) (ifs : List Expr) (tg1 iter1 : Expr) (ifs1 : List Expr) (scope : Scope) : Option (WI × Pat × WT × WI × Pat × WT × WE) :=
  if blkC Γ.N sc scope (ownOf Γ.N scope) = true then
    (c.i sc tg iter).bind fun wi => (cPat Γ scope 8 tg).bind fun p => if p.within ((ownOf Γ.N scope).map (·.2)) = true then
      (cIfs c scope ifs).bind fun tt => (c.i scope tg1 iter1).bind fun wi1 => (cPat Γ scope 8 tg1).bind fun p1 => if (p1.within p1.ixs && p1.ixs.all fun i => ((ownOf Γ.N scope).map (·.2)).contains i) = true then
        (cIfs c scope ifs1).bind fun tt1 => (c.e scope elt).map fun te => (wi, p, tt, wi1, p1, tt1, te)
      else none
    else none
  else none
def isLc : Expr → Bool
  | .ListComp .. => true
  | _ => false
/-- built-ins that leave nothing of a list made for them -/
def gcArg (x : Str) (es : List Expr) : Bool := x != ("list" : Str) && es.any isLc
def mW (m : Str) : Option (String × (D → List D → Hq → WK → Prop)) :=
  if m = ("append" : Str) then some ("list", mAppend) else if m = ("extend" : Str) then some ("list", mExtend) else
  if m = ("join" : Str) then some ("str", mJoin) else if m = ("index" : Str) then some ("str", mIndex) else none
def compE (c : Comp) (Γ : CEnv) (sc : Scope) : Expr → Option WE
  | .Name x _ => cName Γ sc x
  | .Constant (.int i) _ _ => some (wC (.int i))
  | .Constant (.bool b) _ _ => some (wC (.bl b))
  | .Constant .none _ _ => some (wC .non)
  | .Constant (.str x) _ _ => if strB x.cps.toList = true then some (wC (.str x.cps.toList)) else none
  | .BinOp a op b _ => (binW op).bind fun g => (c.e sc a).bind fun wa => (c.e sc b).map fun wb => wOp g wa wb
  | .UnaryOp .USub a _ => (c.e sc a).map fun w => wUn gNeg w
  | .UnaryOp .Not a _ => (c.e sc a).map fun w => wNot w
  | .BoolOp .And vs _ => cBoolE c sc wAnd vs
  | .BoolOp .Or vs _ => cBoolE c sc wOr vs
  | .Compare a [op] [b] _ => (c.e sc a).bind fun wa => (c.e sc b).map fun wb => wOp (cmpW op) wa wb
  | .Compare a [op, op'] [b, d] _ => (c.e sc a).bind fun wa => (c.e sc b).bind fun wb => (c.e sc d).map fun wd => wChain (cmpW op) (cmpW op') wa wb wd
  | .IfExp t a b _ => (c.t sc t).bind fun wt => (c.e sc a).bind fun wa => (c.e sc b).map fun wb => wIf wt wa wb
  | .Tuple es _ _ => (cItems c sc es).map fun a => wTup a
  | .List es _ => (cItems c sc es).map fun a => wLst a
  | .Subscript a (.Slice lo hi none _) _ => (c.e sc a).bind fun wa => (cOpt c sc lo).bind fun wl => (cOpt c sc hi).map fun wh => wSl wa wl wh
  | .Subscript a b _ => (c.e sc a).bind fun wa => (c.e sc b).map fun wb => wOp gIx wa wb
  | .Call (.Name x _) (e :: es) [] _ => if notDbg x = true then (if sc.names.lookup x = some .globalImplicit then (cArgs c sc (e :: es)).bind fun a => (match Γ.fT.lookup x with
      | some g => some (wCB g a)
      | none => (bW x (e :: es).length).map fun g => if gcArg x (e :: es) then wGc (wCB g a) else wCB g a) else none) else none
  | .Call (.Attribute o m apos) (e :: es) [] cpos => if (apos.endLine == cpos.line && !isCall0 o && decide ((e :: es).length < 30)) = true then
      (c.e sc o).bind fun wo => (cArgs c sc (e :: es)).bind fun a => (mW m).map fun g => if (e :: es).any isLc then wGc (wBM g.1 g.2 wo a) else wBM g.1 g.2 wo a else none
  | .Call (.Attribute o m apos) [] [] cpos => if (apos.endLine == cpos.line && !isCall0 o) = true then (if m = ("pop" : Str) then (c.e sc o).map fun wo => wBM "list" mPop wo waNil else none) else none
  | .ListComp elt [⟨tg, iter, ifs, a⟩] scope _ => if a = 0 then (cLc1 c Γ sc elt tg iter ifs scope).map fun q => wLc q.1 q.2.1 q.2.2.1 q.2.2.2 ((ownOf Γ.N scope).map (·.2)) else none
  | .ListComp elt [⟨tg, iter, ifs, a⟩, ⟨tg1, iter1, ifs1, b⟩] scope _ => if a = 0 ∧ b = 0 then (cLc2 c Γ sc elt tg iter ifs tg1 iter1 ifs1 scope).map fun q =>
      wLc2 q.1 q.2.1 q.2.2.1 q.2.2.2.1 q.2.2.2.2.1 q.2.2.2.2.2.1 q.2.2.2.2.2.2 ((ownOf Γ.N scope).map (·.2)) q.2.2.2.2.1.ixs else none
  | _ => none
def compT (c : Comp) (sc : Scope) : Expr → Option WT
  | .UnaryOp .Not a _ => (c.t sc a).map fun w => wtNot w
  | .BoolOp .And vs _ => cBoolT c sc wtAnd vs
  | .BoolOp .Or vs _ => cBoolT c sc wtOr vs
  | .Compare a [op] [b] _ => (c.e sc a).bind fun wa => (c.e sc b).map fun wb => wtB (wOp (cmpW op) wa wb)
  | .Compare a [op, op'] [b, d] _ => (c.e sc a).bind fun wa => (c.e sc b).bind fun wb => (c.e sc d).map fun wd => wtB (wChain (cmpW op) (cmpW op') wa wb wd)
  | e => if valT e = true then (c.e sc e).map fun w => wtTru w else none
def compI (c : Comp) (sc : Scope) (tg : Expr) : Expr → Option WI
  | .Call (.Name x p) es [] pos =>
    if sc.names.lookup x = some .globalImplicit ∧ x = ("range" : Str) then (match es with
      | [a] => (cArgs c sc [a]).map fun a => wiRng1 a
      | [a, b] => (cArgs c sc [a, b]).map fun a => wiRng2 a
      | _ => none)
    else if sc.names.lookup x = some .globalImplicit ∧ x = ("zip" : Str) then (match tg, es with
      | .Tuple _ _ _, [a, b] => (cArgs c sc [a, b]).map fun a => wiZip a
      | _, _ => none)
    else (c.e sc (.Call (.Name x p) es [] pos)).map fun w => wiAny w
  | e => (c.e sc e).map fun w => wiAny w

section
variable {P : Program} {w : World} {K : PySem.W.Frag} {mg : Str → Option Value} {base : Heap} {k : Nat} {Γ : CEnv}
/-- the recursion's parts are sound -/
structure CS (P : Program) (w : World) (K : PySem.W.Frag) (mg : Str → Option Value) (base : Heap) (k : Nat) (Γ : CEnv) (c : Comp) : Prop where
  pe : ∀ sc e we, c.e sc e = some we → plainE e = true
  e : ∀ sc e we X, c.e sc e = some we → Good P w K mg base k Γ.N sc X → SE X e we
  t : ∀ sc e wt X, c.t sc e = some wt → Good P w K mg base k Γ.N sc X → ST X e wt
  pi : ∀ sc tg e wi, c.i sc tg e = some wi → plainE e = true
  i : ∀ sc tg e wi X, c.i sc tg e = some wi → Good P w K mg base k Γ.N sc X → SI X tg e wi
  s : ∀ sc st ws X, c.s sc st = some ws → Good P w K mg base k Γ.N sc X → X.env.scope = sc → sc.kind = .function → SS X st ws
variable {c : Comp} {sc scope : Scope} {X : Cx}
theorem cArgs_ok (C : CS P w K mg base k Γ c) (G : Good P w K mg base k Γ.N sc X) : ∀ {es : List Expr} {a : WA}, cArgs c sc es = some a → SA X es a ∧ es.all plainE = true
  | [], a, h => by cases h; exact ⟨sa_nil, rfl⟩
  | e :: es, a, h => by
    unfold cArgs at h
    rw [Option.bind_eq_some_iff] at h
    obtain ⟨we, h1, h2⟩ := h
    rw [Option.map_eq_some_iff] at h2
    obtain ⟨a', h3, rfl⟩ := h2
    obtain ⟨i1, i2⟩ := cArgs_ok C G h3
    have pl := C.pe _ _ _ h1
    exact ⟨sa_cons (C.e _ _ _ X h1 G) i1 (plain_star pl), by simp [pl, i2]⟩
theorem cItems_ok (C : CS P w K mg base k Γ c) (G : Good P w K mg base k Γ.N sc X) : ∀ {es : List Expr} {a : WA}, cItems c sc es = some a → SA X es a
  | [], a, h => by cases h; exact sa_nil
  | e :: es, a, h => by
    have plain : (c.e sc e).bind (fun w => (cItems c sc es).map fun a => waCons w a) = some a → SA X (e :: es) a := fun h => by
      rw [Option.bind_eq_some_iff] at h
      obtain ⟨we, h1, h2⟩ := h
      rw [Option.map_eq_some_iff] at h2
      obtain ⟨a', h3, rfl⟩ := h2
      exact sa_cons (C.e _ _ _ X h1 G) (cItems_ok C G h3) (plain_star (C.pe _ _ _ h1))
    cases e with
    | Starred e p =>
      have h' : (c.e sc e).bind (fun w => (cItems c sc es).map fun a => waStar w a) = some a := h
      rw [Option.bind_eq_some_iff] at h'
      obtain ⟨we, h1, h2⟩ := h'
      rw [Option.map_eq_some_iff] at h2
      obtain ⟨a', h3, rfl⟩ := h2
      exact sa_star (C.e _ _ _ X h1 G) (cItems_ok C G h3) rfl
    | _ => exact plain h
theorem cOpt_ok (C : CS P w K mg base k Γ c) (G : Good P w K mg base k Γ.N sc X) : ∀ {o : Option Expr} {wo : WO}, cOpt c sc o = some wo → PO X o (liftO X.K wo)
  | none, wo, h => by cases h; exact so_none
  | some e, wo, h => by
    have h' : (c.e sc e).map (fun w => woSome w) = some wo := h
    rw [Option.map_eq_some_iff] at h'
    obtain ⟨we, h1, rfl⟩ := h'
    exact so_some (C.e _ _ _ X h1 G)
theorem cBoolE_and (C : CS P w K mg base k Γ c) (G : Good P w K mg base k Γ.N sc X) {pos : Pos} : ∀ {es : List Expr} {we : WE}, cBoolE c sc wAnd es = some we → SE X (.BoolOp .And es pos) we
  | [], _, h => by cases h
  | [a], we, h => se_one (C.e _ _ _ X h G)
  | a :: b :: r, we, h => by
    have h' : (c.e sc a).bind (fun w => (cBoolE c sc wAnd (b :: r)).map fun u => wAnd w u) = some we := h
    rw [Option.bind_eq_some_iff] at h'
    obtain ⟨wa, h1, h2⟩ := h'
    rw [Option.map_eq_some_iff] at h2
    obtain ⟨wb, h3, rfl⟩ := h2
    exact se_and (C.e _ _ _ X h1 G) (cBoolE_and C G h3)
theorem cBoolE_or (C : CS P w K mg base k Γ c) (G : Good P w K mg base k Γ.N sc X) {pos : Pos} : ∀ {es : List Expr} {we : WE}, cBoolE c sc wOr es = some we → SE X (.BoolOp .Or es pos) we
  | [], _, h => by cases h
  | [a], we, h => se_one (C.e _ _ _ X h G)
  | a :: b :: r, we, h => by
    have h' : (c.e sc a).bind (fun w => (cBoolE c sc wOr (b :: r)).map fun u => wOr w u) = some we := h
    rw [Option.bind_eq_some_iff] at h'
    obtain ⟨wa, h1, h2⟩ := h'
    rw [Option.map_eq_some_iff] at h2
    obtain ⟨wb, h3, rfl⟩ := h2
    exact se_or (C.e _ _ _ X h1 G) (cBoolE_or C G h3)
theorem cBoolT_and (C : CS P w K mg base k Γ c) (G : Good P w K mg base k Γ.N sc X) {pos : Pos} : ∀ {es : List Expr} {we : WT}, cBoolT c sc wtAnd es = some we → SW X (.BoolOp .And es pos) we
  | [], _, h => by cases h
  | [a], we, h => sw_and1 (C.t _ _ _ X h G)
  | a :: b :: r, we, h => by
    have h' : (c.t sc a).bind (fun w => (cBoolT c sc wtAnd (b :: r)).map fun u => wtAnd w u) = some we := h
    rw [Option.bind_eq_some_iff] at h'
    obtain ⟨wa, h1, h2⟩ := h'
    rw [Option.map_eq_some_iff] at h2
    obtain ⟨wb, h3, rfl⟩ := h2
    exact sw_and (C.t _ _ _ X h1 G) (cBoolT_and C G h3)
theorem cBoolT_or (C : CS P w K mg base k Γ c) (G : Good P w K mg base k Γ.N sc X) {pos : Pos} : ∀ {es : List Expr} {we : WT}, cBoolT c sc wtOr es = some we → SW X (.BoolOp .Or es pos) we
  | [], _, h => by cases h
  | [a], we, h => sw_or1 (C.t _ _ _ X h G)
  | a :: b :: r, we, h => by
    have h' : (c.t sc a).bind (fun w => (cBoolT c sc wtOr (b :: r)).map fun u => wtOr w u) = some we := h
    rw [Option.bind_eq_some_iff] at h'
    obtain ⟨wa, h1, h2⟩ := h'
    rw [Option.map_eq_some_iff] at h2
    obtain ⟨wb, h3, rfl⟩ := h2
    exact sw_or (C.t _ _ _ X h1 G) (cBoolT_or C G h3)
def noStar : Expr → Bool
  | .Starred .. => false
  | _ => true
theorem asg_cons {e : Expr} {es : List Expr} {env : Env} (h : noStar e = true) : assignEach (e :: es) env = (false, assign e env) :: assignEach es env := by
  cases e <;> first
    | rfl
    | cases h
mutual
theorem cPat_ok (GL : Glo P w K mg base k Γ) (G : Good P w K mg base k Γ.N sc X) : ∀ (n : Nat) {e : Expr} {p : Pat}, cPat Γ sc n e = some p → PG X e (hPat X.K p) ∧ noStar e = true
  | 0, _, _, h => by simp [cPat] at h
  | n + 1, e, p, h => by
    cases e with
    | Name x ps =>
      simp only [cPat] at h
      split at h
      · rename_i q
        rw [Option.map_eq_some_iff] at h
        obtain ⟨i, hi, rfl⟩ := h
        unfold hPat
        exact ⟨pg_name (by rw [G.N]; exact GL.nd) (by rw [G.N]; exact ixOf_get hi) (G.locs q) (G.fn x q), rfl⟩
      · cases h
    | Tuple es k' ps =>
      simp only [cPat] at h
      rw [Option.map_eq_some_iff] at h
      obtain ⟨q, hq, rfl⟩ := h
      obtain ⟨h1, h2, h3⟩ := cPats_ok GL G n hq
      unfold hPat
      exact ⟨pg_tup G.calm h1 h2 h3, rfl⟩
    | _ => simp [cPat] at h
theorem cPats_ok (GL : Glo P w K mg base k Γ) (G : Good P w K mg base k Γ.N sc X) : ∀ (n : Nat) {es : List Expr} {ps : Pats}, cPats Γ sc n es = some ps → PGs X es (hPats X.K ps) ∧ (assignEach es X.env).length = ps.len ∧ (assignEach es X.env).findIdx? (·.1) = none
  | 0, _, _, h => by simp [cPats] at h
  | n + 1, es, ps, h => by
    cases es with
    | nil =>
      simp only [cPats, Option.some.injEq] at h
      subst h
      unfold hPats
      exact ⟨pgs_nil, rfl, rfl⟩
    | cons e es =>
      simp only [cPats] at h
      rw [Option.bind_eq_some_iff] at h
      obtain ⟨p, h1, h2⟩ := h
      rw [Option.map_eq_some_iff] at h2
      obtain ⟨ps', h3, rfl⟩ := h2
      obtain ⟨a1, a2⟩ := cPat_ok GL G n h1
      obtain ⟨b1, b2, b3⟩ := cPats_ok GL G n h3
      have hc := asg_cons (es := es) (env := X.env) a2
      unfold hPats
      refine ⟨pgs_cons a1 b1 (by rw [hc]; rfl), by rw [hc]; simp [Pats.len, b2], ?_⟩
      rw [hc]
      simpa [List.findIdx?_cons] using b3
end
theorem cIfs_ok (C : CS P w K mg base k Γ c) (G : Good P w K mg base k Γ.N sc X) : ∀ {es : List Expr} {wt : WT}, cIfs c sc es = some wt → STs X es wt
  | [], _, h => by cases h; exact sts_nil
  | [t], _, h => sts_one (C.t _ _ _ X h G)
  | _ :: _ :: _, _, h => by cases h
theorem blk_ok (G : Good P w K mg base k Γ.N sc X) {own : List (Str × Nat)} (h : blkC Γ.N sc scope own = true) : BlkOk X.N X.env.scope scope own := by
  have b := blkOk_by h
  rw [G.N]
  refine ⟨b.kind, b.uniq, b.ix, fun y hy hf => ?_, b.own⟩
  rcases b.free y hy hf with q | q
  · exact .inl (G.cell _ q)
  · exact (G.free _ q).symm
end
end MP

namespace MP
open PySem PySem.Spec PyProof.Rows L2
section
variable {P : Program} {w : World} {K : PySem.W.Frag} {mg : Str → Option Value} {base : Heap} {k : Nat} {Γ : CEnv} {c : Comp} {sc scope : Scope} {X : Cx}
theorem mW_ok {m : Str} {T : String} {g : D → List D → Hq → WK → Prop} (h : mW m = some (T, g)) {o e : Expr} {es : List Expr} {wo : WE} {wa : WA} {apos cpos : Pos} (ho : SE X o wo) (ha : SA X (e :: es) wa) (hbase : isCall0 o = false)
    (hl : (apos.endLine == cpos.line) = true) (hn : decide ((e :: es).length < 30) = true) (he : plainE e = true) (hes : es.all plainE = true) : SE X (.Call (.Attribute o m apos) (e :: es) [] cpos) (wBM T g wo wa) := by
  have hfew : ((backTo cpos (starEach (e :: es) X.env)).all (fun x => !x.1) && (backToKw cpos (keywordEach [] X.env)).all (fun x => x.1.isSome)
      && decide ((e :: es).length + ([] : List Keyword).length + (if ([] : List Keyword).isEmpty then 0 else 1) < 30)) = true := by
    have h1 : (backTo cpos (starEach (e :: es) X.env)).all (fun x => !x.1) = true := plain_all (by simp [he, hes])
    rw [h1]
    have h2 : (backToKw cpos (keywordEach [] X.env)).all (fun x => x.1.isSome) = true := rfl
    rw [h2]
    simpa using hn
  unfold mW at h
  split at h
  · rename_i e'; cases h; subst e'
    exact se_bm PySem.F.plainAttrs_list PySem.F.slot_list_append PySem.F.type_list_append mg_append ho ha (notCall0_base hbase) hfew hl (plain_star he) (plain_any hes)
  split at h
  · rename_i e'; cases h; subst e'
    exact se_bm PySem.F.plainAttrs_list PySem.F.slot_list_extend PySem.F.type_list_extend mg_extend ho ha (notCall0_base hbase) hfew hl (plain_star he) (plain_any hes)
  split at h
  · rename_i e'; cases h; subst e'
    exact se_bm PySem.F.plainAttrs_str PySem.F.slot_str_join PySem.F.type_str_join mg_join ho ha (notCall0_base hbase) hfew hl (plain_star he) (plain_any hes)
  split at h
  · rename_i e'; cases h; subst e'
    exact se_bm PySem.F.plainAttrs_str PySem.F.slot_str_index PySem.F.type_str_index mg_index ho ha (notCall0_base hbase) hfew hl (plain_star he) (plain_any hes)
  · cases h
theorem cLc1_ok (GL : Glo P w K mg base k Γ) (C : CS P w K mg base k Γ c) (G : Good P w K mg base k Γ.N sc X) {elt tg iter : Expr} {ifs : List Expr} {wi : WI} {p : Pat} {tt : WT} {te : WE} (h : cLc1 c Γ sc elt tg iter ifs scope = some (wi, p, tt, te)) :
    SI X tg iter wi ∧ BlkOk X.N X.env.scope scope (ownOf Γ.N scope) ∧ p.within ((ownOf Γ.N scope).map (·.2)) = true ∧
    (∀ (s : Shared) (H : Hp) (C : Addr) (cl : List (Str × Addr)) (fp : List Addr), PG (X.blk s H scope (compEnvC scope cl C X.env) fp) tg (hPat X.K p)) ∧ (∀ (s : Shared) (H : Hp) (C : Addr) (cl : List (Str × Addr)) (fp : List Addr), STs (X.blk s H scope (compEnvC scope cl C X.env) fp) ifs tt) ∧
    (∀ (s : Shared) (H : Hp) (C : Addr) (cl : List (Str × Addr)) (fp : List Addr), SE (X.blk s H scope (compEnvC scope cl C X.env) fp) elt te) ∧ plainE iter = true := by
  unfold cLc1 at h
  split at h
  · rename_i hb
    rw [Option.bind_eq_some_iff] at h
    obtain ⟨wi', h1, h⟩ := h
    rw [Option.bind_eq_some_iff] at h
    obtain ⟨p', h2, h⟩ := h
    split at h
    · rename_i hw
      rw [Option.bind_eq_some_iff] at h
      obtain ⟨tt', h3, h⟩ := h
      rw [Option.map_eq_some_iff] at h
      obtain ⟨te', h4, h5⟩ := h
      cases h5
      exact ⟨C.i _ _ _ _ X h1 G, blk_ok G hb, hw, fun s H A cl fp => (cPat_ok GL (G.blk s H A cl fp) 8 h2).1, fun s H A cl fp => cIfs_ok C (G.blk s H A cl fp) h3, fun s H A cl fp => C.e _ _ _ _ h4 (G.blk s H A cl fp), C.pi _ _ _ _ h1⟩
    · cases h
  · cases h
theorem cLc2_ok (GL : Glo P w K mg base k Γ) (C : CS P w K mg base k Γ c) (G : Good P w K mg base k Γ.N sc X) {elt tg iter tg1 iter1 : Expr} {ifs ifs1 : List Expr} {wi wi1 : WI} {p p1 : Pat} {tt tt1 : WT} {te : WE} (h : cLc2 c Γ sc elt tg iter ifs tg1 iter1 ifs1 scope = some (wi, p, tt, wi1, p1, tt1, te)) :
    SI X tg iter wi ∧ BlkOk X.N X.env.scope scope (ownOf Γ.N scope) ∧ (p.within ((ownOf Γ.N scope).map (·.2)) = true ∧ p1.within p1.ixs = true ∧ ∀ i ∈ p1.ixs, i ∈ (ownOf Γ.N scope).map (·.2)) ∧
    (∀ (s : Shared) (H : Hp) (C : Addr) (cl : List (Str × Addr)) (fp : List Addr), PG (X.blk s H scope (compEnvC scope cl C X.env) fp) tg (hPat X.K p)) ∧ (∀ (s : Shared) (H : Hp) (C : Addr) (cl : List (Str × Addr)) (fp : List Addr), STs (X.blk s H scope (compEnvC scope cl C X.env) fp) ifs tt) ∧
    (∀ (s : Shared) (H : Hp) (C : Addr) (cl : List (Str × Addr)) (fp : List Addr), SI (X.blk s H scope (compEnvC scope cl C X.env) fp) tg1 iter1 wi1) ∧
    (∀ (s : Shared) (H : Hp) (C : Addr) (cl : List (Str × Addr)) (fp : List Addr), PG (X.blk s H scope (compEnvC scope cl C X.env) fp) tg1 (hPat X.K p1)) ∧ (∀ (s : Shared) (H : Hp) (C : Addr) (cl : List (Str × Addr)) (fp : List Addr), STs (X.blk s H scope (compEnvC scope cl C X.env) fp) ifs1 tt1) ∧
    (∀ (s : Shared) (H : Hp) (C : Addr) (cl : List (Str × Addr)) (fp : List Addr), SE (X.blk s H scope (compEnvC scope cl C X.env) fp) elt te) ∧ plainE iter = true ∧ plainE iter1 = true := by
  unfold cLc2 at h
  split at h
  · rename_i hb
    rw [Option.bind_eq_some_iff] at h
    obtain ⟨wi', h1, h⟩ := h
    rw [Option.bind_eq_some_iff] at h
    obtain ⟨p', h2, h⟩ := h
    split at h
    · rename_i hw
      rw [Option.bind_eq_some_iff] at h
      obtain ⟨tt', h3, h⟩ := h
      rw [Option.bind_eq_some_iff] at h
      obtain ⟨wi1', h4, h⟩ := h
      rw [Option.bind_eq_some_iff] at h
      obtain ⟨p1', h5, h⟩ := h
      split at h
      · rename_i hw1
        rw [Option.bind_eq_some_iff] at h
        obtain ⟨tt1', h6, h⟩ := h
        rw [Option.map_eq_some_iff] at h
        obtain ⟨te', h7, h8⟩ := h
        cases h8
        rw [Bool.and_eq_true] at hw1
        refine ⟨C.i _ _ _ _ X h1 G, blk_ok G hb, ⟨hw, hw1.1, fun i hi => ?_⟩, fun s H A cl fp => (cPat_ok GL (G.blk s H A cl fp) 8 h2).1, fun s H A cl fp => cIfs_ok C (G.blk s H A cl fp) h3, fun s H A cl fp => C.i _ _ _ _ _ h4 (G.blk s H A cl fp),
          fun s H A cl fp => (cPat_ok GL (G.blk s H A cl fp) 8 h5).1, fun s H A cl fp => cIfs_ok C (G.blk s H A cl fp) h6, fun s H A cl fp => C.e _ _ _ _ h7 (G.blk s H A cl fp), C.pi _ _ _ _ h1, C.pi _ _ _ _ h4⟩
        have := List.all_eq_true.mp hw1.2 i hi
        simpa using this
      · cases h
    · cases h
  · cases h

theorem compE_plain {e : Expr} {we : WE} (h : compE c Γ sc e = some we) : plainE e = true := by
  cases e <;> first
    | rfl
    | (simp [compE] at h)
theorem compE_ok (GL : Glo P w K mg base k Γ) (C : CS P w K mg base k Γ c) (G : Good P w K mg base k Γ.N sc X) {e : Expr} {we : WE} (h : compE c Γ sc e = some we) : SE X e we := by
  unfold compE at h
  split at h
  · exact cName_ok GL G h
  · cases h; exact se_int
  · cases h; exact se_bl
  · cases h; exact se_non
  · split at h
    · rename_i hb; cases h; exact se_str hb
    · cases h
  · -- BinOp
    rw [Option.bind_eq_some_iff] at h
    obtain ⟨g, h1, h⟩ := h
    rw [Option.bind_eq_some_iff] at h
    obtain ⟨wa, h2, h⟩ := h
    rw [Option.map_eq_some_iff] at h
    obtain ⟨wb, h3, rfl⟩ := h
    exact se_op (binW_ok h1) (C.e _ _ _ X h2 G) (C.e _ _ _ X h3 G)
  · rw [Option.map_eq_some_iff] at h
    obtain ⟨wa, h1, rfl⟩ := h
    exact se_un ug_neg (C.e _ _ _ X h1 G)
  · rw [Option.map_eq_some_iff] at h
    obtain ⟨wa, h1, rfl⟩ := h
    exact se_not (C.e _ _ _ X h1 G)
  · exact cBoolE_and C G h
  · exact cBoolE_or C G h
  · rw [Option.bind_eq_some_iff] at h
    obtain ⟨wa, h2, h⟩ := h
    rw [Option.map_eq_some_iff] at h
    obtain ⟨wb, h3, rfl⟩ := h
    exact se_cmp (cmpW_ok G.u65 _) (C.e _ _ _ X h2 G) (C.e _ _ _ X h3 G) (plain_behind (C.pe _ _ _ h3))
  · rw [Option.bind_eq_some_iff] at h
    obtain ⟨wa, h2, h⟩ := h
    rw [Option.bind_eq_some_iff] at h
    obtain ⟨wb, h3, h⟩ := h
    rw [Option.map_eq_some_iff] at h
    obtain ⟨wd, h4, rfl⟩ := h
    exact se_chain (cmpW_ok G.u65 _) (cmpW_ok G.u65 _) (C.e _ _ _ X h2 G) (C.e _ _ _ X h3 G) (C.e _ _ _ X h4 G) (plain_behind (C.pe _ _ _ h4))
  · rw [Option.bind_eq_some_iff] at h
    obtain ⟨wt, h2, h⟩ := h
    rw [Option.bind_eq_some_iff] at h
    obtain ⟨wa, h3, h⟩ := h
    rw [Option.map_eq_some_iff] at h
    obtain ⟨wb, h4, rfl⟩ := h
    exact se_if (C.t _ _ _ X h2 G) (C.e _ _ _ X h3 G) (C.e _ _ _ X h4 G)
  · rw [Option.map_eq_some_iff] at h
    obtain ⟨a, h1, rfl⟩ := h
    exact se_tup (cItems_ok C G h1)
  · rw [Option.map_eq_some_iff] at h
    obtain ⟨a, h1, rfl⟩ := h
    exact se_lst (cItems_ok C G h1)
  · rw [Option.bind_eq_some_iff] at h
    obtain ⟨wa, h2, h⟩ := h
    rw [Option.bind_eq_some_iff] at h
    obtain ⟨wl, h3, h⟩ := h
    rw [Option.map_eq_some_iff] at h
    obtain ⟨wh, h4, rfl⟩ := h
    exact se_slice (C.e _ _ _ X h2 G) (cOpt_ok C G h3) (cOpt_ok C G h4)
  · rw [Option.bind_eq_some_iff] at h
    obtain ⟨wa, h2, h⟩ := h
    rw [Option.map_eq_some_iff] at h
    obtain ⟨wb, h3, rfl⟩ := h
    exact se_ix ixg (C.e _ _ _ X h2 G) (C.e _ _ _ X h3 G) (plain_ix (C.pe _ _ _ h3))
  · -- Call name
    split at h
    · rename_i hd
      obtain ⟨d1, d2, d3⟩ := notDbg_ok hd
      split at h
      · rename_i hg
        rw [Option.bind_eq_some_iff] at h
        obtain ⟨a, h2, h⟩ := h
        obtain ⟨a1, a2⟩ := cArgs_ok C G h2
        simp only [List.all_cons, Bool.and_eq_true] at a2
        split at h
        · rename_i g hf
          cases h
          exact se_call (G.fe (GL.fe _ _ hf)) G.room (G.gl _ hg) a1 d1 (plain_star a2.1) (plain_any a2.2)
        · rw [Option.map_eq_some_iff] at h
          obtain ⟨g, h3, h4⟩ := h
          split at h4
          · subst h4; exact se_gc (bW_ok GL G h3 hg a1 a2.1 a2.2)
          · subst h4; exact bW_ok GL G h3 hg a1 a2.1 a2.2
      · cases h
    · cases h
  · -- method
    split at h
    · rename_i hc
      simp only [Bool.and_eq_true, Bool.not_eq_true'] at hc
      rw [Option.bind_eq_some_iff] at h
      obtain ⟨wo, h2, h⟩ := h
      rw [Option.bind_eq_some_iff] at h
      obtain ⟨a, h3, h⟩ := h
      obtain ⟨a1, a2⟩ := cArgs_ok C G h3
      simp only [List.all_cons, Bool.and_eq_true] at a2
      rw [Option.map_eq_some_iff] at h
      obtain ⟨⟨T, g⟩, h4, h5⟩ := h
      have base := mW_ok h4 (C.e _ _ _ X h2 G) a1 hc.1.2 hc.1.1 hc.2 a2.1 a2.2
      split at h5
      · subst h5; exact se_gc base
      · subst h5; exact base
    · cases h
  · split at h
    · rename_i hc
      simp only [Bool.and_eq_true, Bool.not_eq_true'] at hc
      split at h
      · rename_i hm
        subst hm
        rw [Option.map_eq_some_iff] at h
        obtain ⟨wo, h2, rfl⟩ := h
        exact se_bm0 PySem.F.plainAttrs_list PySem.F.slot_list_pop PySem.F.type_list_pop mg_pop (C.e _ _ _ X h2 G) (notCall0_base hc.2) hc.1
      · cases h
    · cases h
  · split at h
    · rename_i ha
      subst ha
      rw [Option.map_eq_some_iff] at h
      obtain ⟨⟨wi, p, tt, te⟩, h2, rfl⟩ := h
      obtain ⟨b1, b2, b3, b4, b5, b6, b7⟩ := cLc1_ok GL C G h2
      exact se_lc G.calm (by rw [G.N]; exact GL.nd) b1 b2 b3 b4 b5 b6 (plain_fold b7)
    · cases h
  · split at h
    · rename_i hab
      obtain ⟨rfl, rfl⟩ := hab
      rw [Option.map_eq_some_iff] at h
      obtain ⟨⟨wi, p, tt, wi1, p1, tt1, te⟩, h2, rfl⟩ := h
      obtain ⟨b1, b2, ⟨b3, b3', b3''⟩, b4, b5, b6, b7, b8, b9, b10, b11⟩ := cLc2_ok GL C G h2
      exact se_lc2 G.calm (by rw [G.N]; exact GL.nd) b1 b2 b3'' b3 b3' b4 b5 b6 b7 b8 b9 (plain_fold b10) (fun env => plain_fold b11)
    · cases h
  · cases h
theorem compT_ok (GL : Glo P w K mg base k Γ) (C : CS P w K mg base k Γ c) (G : Good P w K mg base k Γ.N sc X) {e : Expr} {wt : WT} (h : compT c sc e = some wt) : ST X e wt := by
  unfold compT at h
  split at h
  · rw [Option.map_eq_some_iff] at h
    obtain ⟨wa, h1, rfl⟩ := h
    exact st_not (C.t _ _ _ X h1 G)
  · exact (cBoolT_and C G h).pt
  · exact (cBoolT_or C G h).pt
  · rw [Option.bind_eq_some_iff] at h
    obtain ⟨wa, h2, h⟩ := h
    rw [Option.map_eq_some_iff] at h
    obtain ⟨wb, h3, rfl⟩ := h
    exact st_cmp (cmpW_ok G.u65 _) (C.e _ _ _ X h2 G) (C.e _ _ _ X h3 G) (plain_behind (C.pe _ _ _ h3))
  · rw [Option.bind_eq_some_iff] at h
    obtain ⟨wa, h2, h⟩ := h
    rw [Option.bind_eq_some_iff] at h
    obtain ⟨wb, h3, h⟩ := h
    rw [Option.map_eq_some_iff] at h
    obtain ⟨wd, h4, rfl⟩ := h
    exact st_chain (cmpW_ok G.u65 _) (cmpW_ok G.u65 _) (C.e _ _ _ X h2 G) (C.e _ _ _ X h3 G) (C.e _ _ _ X h4 G) (plain_behind (C.pe _ _ _ h4))
  · split at h
    · rename_i hv
      rw [Option.map_eq_some_iff] at h
      obtain ⟨wa, h1, rfl⟩ := h
      exact st_tru (C.e _ _ _ X h1 G) (valT_ok hv)
    · cases h
theorem compI_ok (GL : Glo P w K mg base k Γ) (C : CS P w K mg base k Γ c) (G : Good P w K mg base k Γ.N sc X) {tg e : Expr} {wi : WI} (h : compI c sc tg e = some wi) : SI X tg e wi := by
  have m : ∀ y ∈ bNames, X.mg y = none := fun y hy => by rw [G.mg]; exact GL.bl y hy
  unfold compI at h
  split at h
  · split at h
    · rename_i hx
      obtain ⟨hg, rfl⟩ := hx
      split at h
      · rw [Option.map_eq_some_iff] at h
        obtain ⟨a, h1, rfl⟩ := h
        obtain ⟨a1, a2⟩ := cArgs_ok C G h1
        simp only [List.all_cons, Bool.and_eq_true] at a2
        exact si_rng1 (G.gl _ hg) (m _ (by decide)) a1 (plain_star a2.1)
      · rw [Option.map_eq_some_iff] at h
        obtain ⟨a, h1, rfl⟩ := h
        obtain ⟨a1, a2⟩ := cArgs_ok C G h1
        simp only [List.all_cons, Bool.and_eq_true] at a2
        refine si_rng2 (G.gl _ hg) (m _ (by decide)) a1 ?_ (plain_star a2.2.1)
        rw [plain_star a2.1, plain_star a2.2.1]; rfl
      · cases h
    · split at h
      · rename_i hx
        obtain ⟨hg, rfl⟩ := hx
        split at h
        · rw [Option.map_eq_some_iff] at h
          obtain ⟨a, h1, rfl⟩ := h
          obtain ⟨a1, a2⟩ := cArgs_ok C G h1
          simp only [List.all_cons, Bool.and_eq_true] at a2
          exact si_zip (G.gl _ hg) (m _ (by decide)) a1 (plain_star a2.1) (plain_any (by simp [a2.2.1]))
        · cases h
      · rw [Option.map_eq_some_iff] at h
        obtain ⟨we, h1, rfl⟩ := h
        exact si_any (C.e _ _ _ X h1 G)
  · rw [Option.map_eq_some_iff] at h
    obtain ⟨we, h1, rfl⟩ := h
    exact si_any (C.e _ _ _ X h1 G)
theorem compI_plain (C : CS P w K mg base k Γ c) {tg e : Expr} {wi : WI} (h : compI c sc tg e = some wi) : plainE e = true := by
  unfold compI at h
  split at h
  · rfl
  · rw [Option.map_eq_some_iff] at h
    obtain ⟨we, h1, rfl⟩ := h
    exact C.pe _ _ _ h1
end
end MP

namespace MP
open PySem PySem.Spec PyProof.Rows L2

/-! ### statements -/
def wgPat (p : Pat) : WG := fun d fr h P => match bindP p d fr with
  | some fr' => P fr' h
  | none => False
mutual
theorem hPat_run0 {K ρ n H} : ∀ (p : Pat) (d : D) (v : V) (fr fr' : Fr) (σ : L2.St) (Q : L2.St → Hp → Prop), FrR K ρ n H fr σ → Rp K H ρ n d v → bindP p d fr = some fr' →
    (∀ σ', FrR K ρ n H fr' σ' → Q σ' H) → hPat K p v σ H Q
  | .nm i, d, v, fr, fr', σ, Q, F, r, e, q => by
    simp only [bindP, Option.some.injEq] at e
    subst e
    unfold hPat
    exact q _ (F.set r)
  | .tp ps, d, v, fr, fr', σ, Q, F, r, e, q => by
    cases d with
    | tup ds =>
      simp only [bindP] at e
      obtain ⟨a, xs, rfl, sq, l⟩ := rp_tup r
      unfold hPat
      have hl : ds.length = ps.len := bindPs_len ps ds fr fr' e
      exact ⟨a, xs, rfl, sq, by rw [← l.length]; exact hl, hPats_run0 ps ds xs fr fr' σ Q F l e q⟩
    | _ => simp [bindP] at e
theorem hPats_run0 {K ρ n H} : ∀ (ps : Pats) (ds : List D) (xs : List V) (fr fr' : Fr) (σ : L2.St) (Q : L2.St → Hp → Prop), FrR K ρ n H fr σ → RpL K H ρ n ds xs → bindPs ps ds fr = some fr' →
    (∀ σ', FrR K ρ n H fr' σ' → Q σ' H) → hPats K ps xs σ H Q
  | .nil, ds, xs, fr, fr', σ, Q, F, r, e, q => by
    cases ds with
    | nil =>
      simp only [bindPs, Option.some.injEq] at e
      subst e
      unfold RpL at r
      unfold hPats
      exact ⟨r, q σ F⟩
    | cons d ds => simp [bindPs] at e
  | .cons p ps, ds, xs, fr, fr', σ, Q, F, r, e, q => by
    cases ds with
    | nil => simp [bindPs] at e
    | cons d ds =>
      simp only [bindPs] at e
      cases e1 : bindP p d fr with
      | none => simp [e1] at e
      | some fr1 =>
        simp only [e1, Option.bind_some] at e
        unfold RpL at r
        obtain ⟨x, r', rfl, r1, r2⟩ := r
        unfold hPats
        refine ⟨x, r', rfl, hPat_run0 p d x fr fr1 σ _ F r1 e1 fun σ1 F1 => ?_⟩
        exact hPats_run0 ps ds r' fr1 fr' σ1 Q F1 r2 e fun σ2 F2 => q σ2 F2
end
theorem sg_pat {X : Cx} {tg : Expr} {p : Pat} (h : PG X tg (hPat X.K p)) : SG X tg (wgPat p) := by
  refine PG.imp h fun v σ H Q ⟨ρ, fr, h, d, P, S, F, r, w, c⟩ => ?_
  unfold wgPat at w
  split at w
  · rename_i fr' e
    exact hPat_run0 p d v fr fr' σ Q F r e fun σ' F' => c ρ h H fr' σ' .refl S F' w
  · exact w.elim
def wsPar3 (i j l : Nat) (a : WA) : WS := fun M fr h => a fr h fun ds h1 => match ds with
  | [x, y, z] => M.nx (((fr.set i (some x)).set j (some y)).set l (some z)) h1
  | _ => False
/-- which names are stored from the right, without a tuple -/
def swQ (sc : Scope) (ts vs : List Expr) : Option (Option (List Str)) :=
  if (!(ts.length == 2 || ts.length == 3) || vs.length != ts.length) = true then some none
  else if (vs.any fun | .Starred .. => true | _ => false) = true then some none
  else
    let line := (ts.head?.map (·.pos.line)).getD 0
    let names := ts.filterMap fun
      | .Name id pos => if (sc.names.lookup id == some .local && pos.line == line) = true then some id else none
      | _ => none
    if (names.length != ts.length || names.eraseDups.length != names.length) = true then some none
    else if vs.all (foldedForSure 8) = true then some none
    else if vs.all (constantsAlone 8) = true then none
    else some (some names)
theorem swQ_ok {sc : Scope} {env : Env} (hs : env.scope = sc) (hk : sc.kind = .function) {ts vs : List Expr} {r : Option (List Str)} {k1 k2 : Nat} {p1 p2 : Pos} (h : swQ sc ts vs = some r) : swappedStores [.Tuple ts k1 p1] (.Tuple vs k2 p2) env = pure r := by
  subst hs
  have hb : (env.blockKind != .function) = false := by
    unfold Env.blockKind
    rw [hk]; rfl
  unfold swQ at h
  unfold swappedStores
  simp only [hb, Bool.or_false]
  split at h
  · rename_i c1
    cases h
    rw [if_pos c1]
  · rename_i c1
    rw [if_neg c1]
    split at h
    · rename_i c2
      cases h
      exact if_pos c2
    · rename_i c2
      refine (if_neg c2).trans ?_
      dsimp only at h
      split at h
      · rename_i c3
        cases h
        exact if_pos c3
      · rename_i c3
        refine (if_neg c3).trans ?_
        split at h
        · rename_i c4
          cases h
          exact if_pos c4
        · rename_i c4
          refine (if_neg c4).trans ?_
          split at h
          · cases h
          · rename_i c5
            cases h
            exact if_neg c5

theorem swO_ok {tg e : Expr} {env : Env} (h : ∀ ts k p vs k2 p2, ¬ ((tg = .Tuple ts k p ∨ tg = .List ts p) ∧ e = .Tuple vs k2 p2)) : swappedStores [tg] e env = pure none := by
  unfold swappedStores
  split
  · rename_i heq
    split at heq
    · rename_i e1
      have e1' := List.cons.inj e1
      exact (h _ _ _ _ _ _ ⟨.inl e1'.1, rfl⟩).elim
    · rename_i e1
      have e1' := List.cons.inj e1
      exact (h _ 0 _ _ _ _ ⟨.inr e1'.1, rfl⟩).elim
    · cases heq
  · rfl
def cSs (c : Comp) (sc : Scope) : List Stmt → Option WS
  | [] => some wsNil
  | s :: r => (c.s sc s).bind fun w => (cSs c sc r).map fun u => wsSeq w u
def locB (sc : Scope) (x : Str) : Bool := match sc.names.lookup x with
  | some .local => true
  | _ => false
theorem locB_ok {sc : Scope} {x : Str} (h : locB sc x = true) : sc.names.lookup x = some .local := by
  unfold locB at h
  split at h
  · assumption
  · cases h
/-- stores at one target -/
def cAsg (c : Comp) (Γ : CEnv) (sc : Scope) (tg e : Expr) : Option WS :=
  if isComp e = true then none else (cPat Γ sc 8 tg).bind fun p => (c.e sc e).map fun w => wsAsg (wgPat p) w
def cPar (c : Comp) (Γ : CEnv) (sc : Scope) (ts vs : List Expr) (names : List Str) : Option WS := match ts, vs, names with
  | [.Name x _, .Name y _], [a, b], [x', y'] => if (x = x' ∧ y = y') ∧ locB sc x = true ∧ locB sc y = true then
      (ixOf Γ.N x).bind fun i => (ixOf Γ.N y).bind fun j => if i ≠ j then (cArgs c sc [a, b]).map fun w => wsPar i j w else none else none
  | [.Name x _, .Name y _, .Name z _], [a, b, d], [x', y', z'] => if (x = x' ∧ y = y' ∧ z = z') ∧ locB sc x = true ∧ locB sc y = true ∧ locB sc z = true then
      (ixOf Γ.N x).bind fun i => (ixOf Γ.N y).bind fun j => (ixOf Γ.N z).bind fun l => if i ≠ j ∧ i ≠ l ∧ j ≠ l then (cArgs c sc [a, b, d]).map fun w => wsPar3 i j l w else none else none
  | _, _, _ => none
def lcName (sc : Scope) (y : Str) (scope : Scope) (py lpos : Pos) : Bool := locB sc y && (py.line == lpos.line) && !(scope.names.any fun (n, k) => n == y && (k == .local || k == .cell))
def compS (c : Comp) (Γ : CEnv) (sc : Scope) : Stmt → Option WS
  | .Return (some e) _ => (c.e sc e).map fun w => wsRet w
  | .Return none _ => some wsRetN
  | .Expr e _ => if isComp e = true then none else (c.e sc e).map fun w => wsExpr w
  | .If t a b _ => (c.t sc t).bind fun wt => (cSs c sc a).bind fun wa => (cSs c sc b).map fun wb => wsIf wt wa wb
  | .While t b [] _ => (c.t sc t).bind fun wt => (cSs c sc b).map fun wb => wsWhile wt wb
  | .For tg it b [] _ => (c.i sc tg it).bind fun wi => (cPat Γ sc 8 tg).bind fun p => (cSs c sc b).map fun wb => wsFor wi (wgPat p) wb
  | .Pass _ => some wsPass
  | .Break _ => some wsBreak
  | .Continue _ => some wsCont
  | .AugAssign (.Name x _) .Add e _ => if sc.names.lookup x = some .local ∨ sc.names.lookup x = some .cell then (ixOf Γ.N x).bind fun i => (c.e sc e).map fun w => wsAug i gIadd w else none
  | .Raise _ _ _ => some wsNever
  | .Assign [.Name y py] (.ListComp elt gens scope lpos) pos => if lcName sc y scope py lpos = true then (match gens with
      | [⟨tg, iter, ifs, a⟩] => if a = 0 then (ixOf Γ.N y).bind fun i => (cLc1 c Γ sc elt tg iter ifs scope).map fun q => wsAsg (wgPat (.nm i)) (wLc q.1 q.2.1 q.2.2.1 q.2.2.2 ((ownOf Γ.N scope).map (·.2))) else none
      | [⟨tg, iter, ifs, a⟩, ⟨tg1, iter1, ifs1, b⟩] => if a = 0 ∧ b = 0 then (ixOf Γ.N y).bind fun i => (cLc2 c Γ sc elt tg iter ifs tg1 iter1 ifs1 scope).map fun q =>
          wsAsg (wgPat (.nm i)) (wLc2 q.1 q.2.1 q.2.2.1 q.2.2.2.1 q.2.2.2.2.1 q.2.2.2.2.2.1 q.2.2.2.2.2.2 ((ownOf Γ.N scope).map (·.2)) q.2.2.2.2.1.ixs) else none
      | _ => none) else none
  | .Assign [.Tuple ts k pt] (.Tuple vs k2 pt2) pos => (match swQ sc ts vs with
      | some none => cAsg c Γ sc (.Tuple ts k pt) (.Tuple vs k2 pt2)
      | some (some names) => cPar c Γ sc ts vs names
      | none => none)
  | .Assign [.Tuple ts k pt] e _ => (match e with
      | .Tuple _ _ _ => none
      | e => cAsg c Γ sc (.Tuple ts k pt) e)
  | .Assign [.Name y py] e _ => cAsg c Γ sc (.Name y py) e
  | .Assign [.Subscript o i _] e _ => if isComp e = true then none else (c.e sc o).bind fun wo => (c.e sc i).bind fun wi => (c.e sc e).map fun w => wsAsg (wgSub wo wi) w
  | _ => none
def compSt (c : Comp) (Γ : CEnv) (sc : Scope) (s : Stmt) : Option WS := match compS c Γ sc s with
  | some w => some w
  | none => some wsNever
def comp (Γ : CEnv) : Nat → Comp
  | 0 => ⟨fun _ _ => none, fun _ _ => none, fun _ _ _ => none, fun _ _ => none⟩
  | n + 1 => ⟨fun sc e => compE (comp Γ n) Γ sc e, fun sc e => compT (comp Γ n) sc e, fun sc tg e => compI (comp Γ n) sc tg e, fun sc s => compSt (comp Γ n) Γ sc s⟩
section
variable {P : Program} {w : World} {K : PySem.W.Frag} {mg : Str → Option Value} {base : Heap} {k : Nat} {Γ : CEnv} {c : Comp} {sc scope : Scope} {X : Cx}
theorem cSs_ok (C : CS P w K mg base k Γ c) (G : Good P w K mg base k Γ.N sc X) (hs : X.env.scope = sc) (hk : sc.kind = .function) : ∀ {ss : List Stmt} {ws : WS}, cSs c sc ss = some ws → SSs X ss ws
  | [], _, h => by cases h; exact ss_nil
  | s :: r, ws, h => by
    unfold cSs at h
    rw [Option.bind_eq_some_iff] at h
    obtain ⟨w1, h1, h⟩ := h
    rw [Option.map_eq_some_iff] at h
    obtain ⟨w2, h2, rfl⟩ := h
    exact ss_cons (C.s _ _ _ X h1 G hs hk) (cSs_ok C G hs hk h2)
theorem cPat_asg {tg : Expr} {n : Nat} {p : Pat} (h : cPat Γ sc n tg = some p) {env : Env} : (assignEach [tg] env).map (·.2) = [assign tg env] := by
  cases n with
  | zero => simp [cPat] at h
  | succ n =>
    cases tg <;> first
      | rfl
      | (simp [cPat] at h)
theorem cAsg_ok (GL : Glo P w K mg base k Γ) (C : CS P w K mg base k Γ c) (G : Good P w K mg base k Γ.N sc X) {tg e : Expr} {ws : WS} {pos : Pos} (h : cAsg c Γ sc tg e = some ws) (hw : swappedStores [tg] e X.env = pure none) : SS X (.Assign [tg] e pos) ws := by
  unfold cAsg at h
  split at h
  · cases h
  · rename_i hc
    rw [Option.bind_eq_some_iff] at h
    obtain ⟨p, h1, h⟩ := h
    rw [Option.map_eq_some_iff] at h
    obtain ⟨we, h2, rfl⟩ := h
    have hc' : isComp e = false := by
      cases q : isComp e with
      | true => exact (hc q).elim
      | false => rfl
    exact ss_asg (C.e _ _ _ X h2 G) (sg_pat (cPat_ok GL G 8 h1).1) (notComp_swaps hc') hw (cPat_asg h1)
theorem ss_par3 {i j l : Nat} {x y z : Str} {a b d : Expr} {ta : WA} {px py pz pt pos : Pos} {kt k2 pt2} (hc : X.calm = true) (hN : X.N.Nodup) (hi : X.N[i]? = some x) (hj : X.N[j]? = some y) (hl : X.N[l]? = some z) (hij : i ≠ j) (hil : i ≠ l) (hjl : j ≠ l)
    (hx : X.env.scope.names.lookup x = some .local) (hy : X.env.scope.names.lookup y = some .local) (hz : X.env.scope.names.lookup z = some .local) (ha : SA X [a, b, d] ta)
    (hw : swappedStores [.Tuple [.Name x px, .Name y py, .Name z pz] kt pt] (.Tuple [a, b, d] k2 pt2) X.env = pure (some [x, y, z]))
    (hs : swapsWithSole [.Tuple [.Name x px, .Name y py, .Name z pz] kt pt] (.Tuple [a, b, d] k2 pt2) pos.line X.env = pure false) :
    SS X (.Assign [.Tuple [.Name x px, .Name y py, .Name z pz] kt pt] (.Tuple [a, b, d] k2 pt2) pos) (wsPar3 i j l ta) := by
  refine PS.imp (ps_par3 hc hN hi hj hl hij hil hjl hx hy hz ha hw hs) fun D σ H ⟨ρ, fr, h, M, S, F, w, c1, c2, c3, c4⟩ => ⟨ρ, fr, h, _, S, F, w, fun ρ1 h1 H1 ds xs e1 S1 r1 w1 => ?_⟩
  split at w1
  · unfold RpL at r1
    obtain ⟨u, r', rfl, r2, r3⟩ := r1
    obtain ⟨v, t, rfl, r4, r5⟩ := rpl2 r3
    exact ⟨u, v, t, rfl, c1 ρ1 h1 H1 _ _ e1 S1 ((((F.ext e1).set r2).set r4).set r5) w1⟩
  · exact w1.elim
theorem cPar_ok (GL : Glo P w K mg base k Γ) (C : CS P w K mg base k Γ c) (G : Good P w K mg base k Γ.N sc X) {ts vs : List Expr} {names : List Str} {ws : WS} {kt k2 : Nat} {pt pt2 pos : Pos} (h : cPar c Γ sc ts vs names = some ws)
    (hw : swappedStores [.Tuple ts kt pt] (.Tuple vs k2 pt2) X.env = pure (some names)) : SS X (.Assign [.Tuple ts kt pt] (.Tuple vs k2 pt2) pos) ws := by
  have nd : X.N.Nodup := by rw [G.N]; exact GL.nd
  unfold cPar at h
  split at h
  · split at h
    · rename_i q
      obtain ⟨⟨rfl, rfl⟩, q1, q2⟩ := q
      rw [Option.bind_eq_some_iff] at h
      obtain ⟨i, h1, h⟩ := h
      rw [Option.bind_eq_some_iff] at h
      obtain ⟨j, h2, h⟩ := h
      split at h
      · rename_i hij
        rw [Option.map_eq_some_iff] at h
        obtain ⟨wa, h3, rfl⟩ := h
        exact ss_par G.calm nd (by rw [G.N]; exact ixOf_get h1) (by rw [G.N]; exact ixOf_get h2) hij (G.loc _ (locB_ok q1)) (G.loc _ (locB_ok q2)) (cArgs_ok C G h3).1 hw rfl
      · cases h
    · cases h
  · split at h
    · rename_i q
      obtain ⟨⟨rfl, rfl, rfl⟩, q1, q2, q3⟩ := q
      rw [Option.bind_eq_some_iff] at h
      obtain ⟨i, h1, h⟩ := h
      rw [Option.bind_eq_some_iff] at h
      obtain ⟨j, h2, h⟩ := h
      rw [Option.bind_eq_some_iff] at h
      obtain ⟨l, h3, h⟩ := h
      split at h
      · rename_i hij
        rw [Option.map_eq_some_iff] at h
        obtain ⟨wa, h4, rfl⟩ := h
        exact ss_par3 G.calm nd (by rw [G.N]; exact ixOf_get h1) (by rw [G.N]; exact ixOf_get h2) (by rw [G.N]; exact ixOf_get h3) hij.1 hij.2.1 hij.2.2 (G.loc _ (locB_ok q1)) (G.loc _ (locB_ok q2)) (G.loc _ (locB_ok q3)) (cArgs_ok C G h4).1 hw rfl
      · cases h
    · cases h
  · cases h
theorem lcName_ok {y : Str} {scope : Scope} {py lpos : Pos} {elt : Expr} {gs : List Comprehension} {l : Nat} (G : Good P w K mg base k Γ.N sc X) (hs : X.env.scope = sc) (hk : sc.kind = .function) (h : lcName sc y scope py lpos = true) :
    X.env.scope.names.lookup y = some .local ∧ swapsWith (.ListComp elt gs scope lpos) (some (.Name y py)) l X.env = pure true := by
  unfold lcName at h
  simp only [Bool.and_eq_true, Bool.not_eq_true'] at h
  have hl := G.loc _ (locB_ok h.1.1)
  exact ⟨hl, sw_true (by rw [hs]; exact hk) hl h.1.2 h.2⟩
theorem compS_ok (GL : Glo P w K mg base k Γ) (C : CS P w K mg base k Γ c) (G : Good P w K mg base k Γ.N sc X) (hs : X.env.scope = sc) (hk : sc.kind = .function) {st : Stmt} {ws : WS} (h : compS c Γ sc st = some ws) : SS X st ws := by
  have nd : X.N.Nodup := by rw [G.N]; exact GL.nd
  unfold compS at h
  split at h
  · rw [Option.map_eq_some_iff] at h
    obtain ⟨we, h1, rfl⟩ := h
    exact ss_ret (C.e _ _ _ X h1 G)
  · cases h; exact ss_retN
  · split at h
    · cases h
    · rename_i hc
      rw [Option.map_eq_some_iff] at h
      obtain ⟨we, h1, rfl⟩ := h
      exact ss_expr (C.e _ _ _ X h1 G) (notComp_swaps (by simpa using hc))
  · rw [Option.bind_eq_some_iff] at h
    obtain ⟨wt, h1, h⟩ := h
    rw [Option.bind_eq_some_iff] at h
    obtain ⟨wa, h2, h⟩ := h
    rw [Option.map_eq_some_iff] at h
    obtain ⟨wb, h3, rfl⟩ := h
    exact ss_if (C.t _ _ _ X h1 G) (cSs_ok C G hs hk h2) (cSs_ok C G hs hk h3)
  · rw [Option.bind_eq_some_iff] at h
    obtain ⟨wt, h1, h⟩ := h
    rw [Option.map_eq_some_iff] at h
    obtain ⟨wb, h3, rfl⟩ := h
    exact ss_while G.own (C.t _ _ _ X h1 G) (cSs_ok C G hs hk h3)
  · rw [Option.bind_eq_some_iff] at h
    obtain ⟨wi, h1, h⟩ := h
    rw [Option.bind_eq_some_iff] at h
    obtain ⟨p, h2, h⟩ := h
    rw [Option.map_eq_some_iff] at h
    obtain ⟨wb, h3, rfl⟩ := h
    exact ss_for G.own G.calm (C.i _ _ _ _ X h1 G) (sg_pat (cPat_ok GL G 8 h2).1) (cSs_ok C G hs hk h3) (plain_fold (C.pi _ _ _ _ h1))
  · cases h; exact ss_pass
  · cases h; exact ss_break
  · cases h; exact ss_cont
  · split at h
    · rename_i q
      rw [Option.bind_eq_some_iff] at h
      obtain ⟨i, h1, h⟩ := h
      rw [Option.map_eq_some_iff] at h
      obtain ⟨we, h2, rfl⟩ := h
      exact ss_aug nd (by rw [G.N]; exact ixOf_get h1) (G.locs q) (C.e _ _ _ X h2 G) og_iadd (G.fn _ q)
    · cases h
  · cases h; exact ss_never
  · split at h
    · rename_i hn
      split at h
      · split at h
        · rename_i ha
          subst ha
          rw [Option.bind_eq_some_iff] at h
          obtain ⟨i, h1, h⟩ := h
          rw [Option.map_eq_some_iff] at h
          obtain ⟨⟨wi, p, tt, te⟩, h2, rfl⟩ := h
          obtain ⟨b1, b2, b3, b4, b5, b6, b7⟩ := cLc1_ok GL C G h2
          obtain ⟨l1, l2⟩ := lcName_ok G hs hk hn
          exact ss_setLc G.calm nd (by rw [G.N]; exact ixOf_get h1) l1 l2 b1 b2 b3 b4 b5 b6 (plain_fold b7)
        · cases h
      · split at h
        · rename_i hab
          obtain ⟨rfl, rfl⟩ := hab
          rw [Option.bind_eq_some_iff] at h
          obtain ⟨i, h1, h⟩ := h
          rw [Option.map_eq_some_iff] at h
          obtain ⟨⟨wi, p, tt, wi1, p1, tt1, te⟩, h2, rfl⟩ := h
          obtain ⟨b1, b2, ⟨b3, b3', b3''⟩, b4, b5, b6, b7, b8, b9, b10, b11⟩ := cLc2_ok GL C G h2
          obtain ⟨l1, l2⟩ := lcName_ok G hs hk hn
          exact ss_setLc2 G.calm nd (by rw [G.N]; exact ixOf_get h1) l1 l2 b1 b2 b3'' b3 b3' b4 b5 b6 b7 b8 b9 (plain_fold b10) (fun env => plain_fold b11)
        · cases h
      · cases h
    · cases h
  · split at h
    · rename_i hq
      exact cAsg_ok GL C G h (swQ_ok hs hk hq)
    · rename_i names hq
      exact cPar_ok GL C G h (swQ_ok hs hk hq)
    · cases h
  · split at h
    · cases h
    · rename_i hne
      exact cAsg_ok GL C G h (swO_ok fun ts k p vs k2 p2 ⟨_, he⟩ => hne _ _ _ he)
  · refine cAsg_ok GL C G h (swO_ok fun ts k p vs k2 p2 ⟨ht, _⟩ => ?_)
    rcases ht with ht | ht <;> cases ht
  · rename_i o i _ e _
    split at h
    · cases h
    · rename_i hc
      rw [Option.bind_eq_some_iff] at h
      obtain ⟨wo, h1, h⟩ := h
      rw [Option.bind_eq_some_iff] at h
      obtain ⟨wi, h2, h⟩ := h
      rw [Option.map_eq_some_iff] at h
      obtain ⟨we, h3, rfl⟩ := h
      have hc' : isComp e = false := by
        cases q : isComp e with
        | true => exact (hc q).elim
        | false => rfl
      have pi := C.pe _ _ _ h2
      exact ss_asg (C.e _ _ _ X h3 G) (sg_sub (C.e _ _ _ X h1 G) (C.e _ _ _ X h2 G) (fun v => (by cases i <;> first | rfl | (cases pi)))) (by unfold swapsWithSole; exact notComp_swaps hc') (swO_ok fun ts k p vs k2 p2 ⟨ht, _⟩ => (by rcases ht with ht | ht <;> cases ht)) rfl
  · cases h
theorem compSt_ok (GL : Glo P w K mg base k Γ) (C : CS P w K mg base k Γ c) (G : Good P w K mg base k Γ.N sc X) (hs : X.env.scope = sc) (hk : sc.kind = .function) {st : Stmt} {ws : WS} (h : compSt c Γ sc st = some ws) : SS X st ws := by
  unfold compSt at h
  split at h
  · rename_i e
    cases h
    exact compS_ok GL C G hs hk e
  · cases h
    exact ss_never
theorem comp_ok (GL : Glo P w K mg base k Γ) : ∀ n, CS P w K mg base k Γ (comp Γ n)
  | 0 => ⟨fun _ _ _ h => (by cases h), fun _ _ _ _ h => (by cases h), fun _ _ _ _ h => (by cases h), fun _ _ _ _ h => (by cases h), fun _ _ _ _ _ h => (by cases h), fun _ _ _ _ h => (by cases h)⟩
  | n + 1 =>
    have C := comp_ok GL n
    ⟨fun _ _ _ h => compE_plain h, fun _ _ _ _ h G => compE_ok GL C G h, fun _ _ _ _ h G => compT_ok GL C G h, fun _ _ _ _ h => compI_plain C h, fun _ _ _ _ _ h G => compI_ok GL C G h, fun _ _ _ _ h G hs hk => compSt_ok GL C G hs hk h⟩
end
end MP

namespace MP
open PySem PySem.Spec PyProof.Rows L2
section
variable {P : Program} {w : World} {K : PySem.W.Frag} {mg : Str → Option Value} {base : Heap} {k : Nat} {Γ : CEnv}
/-- THE RULE: a def of the text keeps g if its meaning does -/
theorem def_ok (GL : Glo P w K mg base k Γ) {x qual : Str} {st : Stmt} {f : Addr} {fd : FuncData} {ps : List Str} {n : Nat} {ws : WS} {g : WL} (F : Fun K x qual st f fd) (S : FnScope Γ.N ps (defScope st))
    (hc : cSs (comp Γ n) (defScope st) (defBody st) = some ws) (hm : mg x = some (.ref f)) (hb : Binds K fd ps []) (hg : ∀ ds h P, g ds h P → wF ws Γ.N.length ps.length ds h P) : FE P w K mg base (k + 1) x g := by
  refine ⟨f, fd, ps, hm, F.kp, hb, F.ok S (fun vs H Q E ⟨ρ, h, ds, P', S', r, w', c⟩ => ?_) fun cdv A outer s H vs Q E hr ⟨ρ, h, ds, P', S', r, w', c⟩ => ?_⟩
  · rw [← r.length]; exact (hg ds h P' w').1
  · obtain ⟨_, hw⟩ := hg ds h P' w'
    have G : Good P w K mg base k Γ.N (defScope st) (cxOf CX0 P w K mg base Γ.N qual (defScope st) f cdv A outer s H E).nox :=
      ⟨rfl, rfl, rfl, rfl, rfl, rfl, rfl, hr, fun _ h => h, fun _ h => h, fun _ h => .inl h, fun _ h => h, fun _ _ => .inl rfl, PassesOwn.never⟩
    refine ⟨_, cSs_ok (comp_ok GL n) G rfl S.kind hc, ?_⟩
    refine ⟨ρ, startF Γ.N.length ds, h, _, S', start_fr r, hw, fun ρ1 h1 H1 fr1 σ1 e1 S1 F1 w1 => ?_, fun ρ1 h1 H1 d v e1 S1 r1 w1 => ?_, fun _ _ _ _ _ _ _ _ z => z.elim, fun _ _ _ _ _ _ _ _ z => z.elim⟩
    · exact gc_ok S' e1 S1 of_non w1 c
    · exact gc_ok S' e1 S1 r1 w1 c
end
end MP

namespace MP
open PySem PySem.Spec PyProof.Rows L2
/-! ### loops by invariants -/
theorem fo_inv {s : Src} {g : WG} {b : WS} {M : MEnds} {ds : List D} (Inv : Nat → Fr → Hq → Prop) {fr : Fr} {h : Hq} (ht : ∀ i fr h, Inv i fr h → s.tick h i = some ds[i]?) (h0 : Inv 0 fr h)
    (hs : ∀ i d fr h, Inv i fr h → ds[i]? = some d → ∀ k : Fr → Hq → Prop, (∀ fr' h', Inv (i + 1) fr' h' → k fr' h') → g d fr h fun fr1 h1 => b { M with nx := k, ct := k, bk := M.nx } fr1 h1)
    (he : ∀ fr h, Inv ds.length fr h → M.nx fr h) : ∃ n, foN s g b M n 0 fr h := by
  have key : ∀ (n i : Nat) (fr : Fr) (h : Hq), n + i = ds.length → Inv i fr h → foN s g b M (n + 1) i fr h := by
    intro n
    induction n with
    | zero =>
      intro i fr h e hi
      have e' : i = ds.length := by omega
      subst e'
      unfold foN
      rw [ht _ _ _ hi, List.getElem?_eq_none (Nat.le_refl _)]
      exact he _ _ hi
    | succ n ih =>
      intro i fr h e hi
      unfold foN
      have hlt : i < ds.length := by omega
      rw [ht _ _ _ hi, List.getElem?_eq_getElem hlt]
      exact hs i _ fr h hi (List.getElem?_eq_getElem hlt) _ fun fr' h' hi' => ih (i + 1) fr' h' (by omega) hi'
  exact ⟨ds.length + 1, key ds.length 0 fr h (by omega) h0⟩
theorem wh_inv {t : WT} {b : WS} {M : MEnds} (Inv : Nat → Fr → Hq → Prop) {fr : Fr} {h : Hq} {n : Nat} (h0 : Inv n fr h)
    (hs : ∀ n fr h, Inv n fr h → ∀ k : Fr → Hq → Prop, (∀ m fr' h', m < n → Inv m fr' h' → k fr' h') → t fr h fun c h1 => if c = true then b { M with nx := k, ct := k, bk := M.nx } fr h1 else M.nx fr h1) : wsWhile t b M fr h := by
  have key : ∀ (j : Nat) (n : Nat) (fr : Fr) (h : Hq), n ≤ j → Inv n fr h → whN t b M (j + 1) fr h := by
    intro j
    induction j with
    | zero =>
      intro n fr h e hi
      unfold whN
      exact hs n fr h hi _ fun m fr' h' hm _ => absurd hm (by omega)
    | succ j ih =>
      intro n fr h e hi
      unfold whN
      exact hs n fr h hi _ fun m fr' h' hm hi' => ih m fr' h' (by omega) hi'
  exact ⟨n + 1, key n n fr h (Nat.le_refl _) h0⟩
/-- a comprehension by an invariant over heap and list so far -/
theorem lc_inv {s : Src} {n : Nat} {step : D → Hq → (D → Hq → Prop) → (Hq → Prop) → Prop} {P : WK} {ds : List D} (Inv : Nat → List D → Hq → Prop) {h : Hq} (B : Nat) (acc0 : List D) (ht : ∀ i acc h, Inv i acc h → s.tick h i = some ds[i]?)
    (hacc : ∀ i acc h, Inv i acc h → lstAt h n = some acc ∧ acc.length ≤ B + i) (hz : B + ds.length ≤ sizeLine) (h0 : Inv 0 acc0 h)
    (hs : ∀ i d acc h, Inv i acc h → ds[i]? = some d → ∀ (kp : D → Hq → Prop) (sk : Hq → Prop), (∀ y h4, lstAt h4 n = some acc → Inv (i + 1) (acc ++ [y]) (h4.set n (.lst (acc ++ [y]))) → kp y h4) → (∀ h3, Inv (i + 1) acc h3 → sk h3) → step d h kp sk)
    (he : ∀ acc h, Inv ds.length acc h → P (.ref n) h) : ∃ k, lcN s n step P k 0 h := by
  have key : ∀ (m i : Nat) (acc : List D) (h : Hq), m + i = ds.length → Inv i acc h → lcN s n step P (m + 1) i h := by
    intro m
    induction m with
    | zero =>
      intro i acc h e hi
      have e' : i = ds.length := by omega
      subst e'
      unfold lcN
      rw [ht _ _ _ hi, List.getElem?_eq_none (Nat.le_refl _)]
      exact he _ _ hi
    | succ m ih =>
      intro i acc h e hi
      unfold lcN
      have hlt : i < ds.length := by omega
      rw [ht _ _ _ hi, List.getElem?_eq_getElem hlt]
      refine hs i _ acc h hi (List.getElem?_eq_getElem hlt) _ _ (fun y h4 e4 hi' => ?_) fun h3 hi' => ih (i + 1) acc h3 (by omega) hi'
      rw [e4]
      exact ⟨by have := (hacc _ _ _ hi).2; omega, ih (i + 1) _ _ (by omega) hi'⟩
  exact ⟨ds.length + 1, key ds.length 0 acc0 h (by omega) h0⟩
theorem lstAt_app {h : Hq} {ds : List D} : lstAt (h ++ [.lst ds]) h.length = some ds := by
  unfold lstAt; simp
theorem set_app {h : Hq} {a b : Ob} : (h ++ [a]).set h.length b = h ++ [b] := by simp
/-- a comprehension whose parts leave the heap alone -/
theorem lc_pure {s : Src} {step : D → Hq → (D → Hq → Prop) → (Hq → Prop) → Prop} {P : WK} {ds : List D} {h : Hq} (f : D → Option D) (hz : ds.length ≤ sizeLine) (ht : ∀ i acc, s.tick (h ++ [.lst acc]) i = some ds[i]?)
    (hs : ∀ d ∈ ds, ∀ acc (kp : D → Hq → Prop) (sk : Hq → Prop), (∀ y, f d = some y → kp y (h ++ [.lst acc])) → (f d = none → sk (h ++ [.lst acc])) → step d (h ++ [.lst acc]) kp sk)
    (he : P (.ref h.length) (h ++ [.lst (ds.filterMap f)])) : ∃ k, lcN s h.length step P k 0 (h ++ [.lst []]) := by
  refine lc_inv (ds := ds) (fun i acc h' => acc = (ds.take i).filterMap f ∧ h' = h ++ [.lst acc]) 0 [] (fun i acc h' ⟨_, e⟩ => by rw [e]; exact ht i acc)
    (fun i acc h' ⟨e1, e⟩ => ⟨by rw [e]; exact lstAt_app, by rw [e1]; exact Nat.le_trans (List.length_filterMap_le _ _) (by rw [List.length_take]; omega)⟩) (by omega) ⟨by simp, rfl⟩ (fun i d acc h' ⟨e1, e⟩ hd kp sk h1 h2 => ?_) fun acc h' ⟨e1, e⟩ => ?_
  · subst e
    have et : ds.take (i + 1) = ds.take i ++ [d] := by
      rw [List.take_add_one, hd]; rfl
    refine hs d (List.mem_of_getElem? hd) acc kp sk (fun y hy => h1 y _ lstAt_app ⟨?_, set_app⟩) fun hn => h2 _ ⟨?_, rfl⟩
    · rw [et, List.filterMap_append, e1]; simp [hy]
    · rw [et, List.filterMap_append, e1]; simp [hn]
  · subst e
    rw [List.take_length] at e1
    rw [e1]; exact he
end MP

namespace MP
open PySem PySem.Spec PyProof.Rows L2
/-! ### heaps that grow -/
theorem pre_lst {h h' : Hq} {n : Nat} {ds : List D} (p : h <+: h') (e : lstAt h n = some ds) : lstAt h' n = some ds := by
  obtain ⟨g, rfl⟩ := p
  have := lstAt_get e
  have hlt := get_lt this
  unfold lstAt
  rw [List.getElem?_append_left hlt, this]
theorem ty_lst {h : Hq} {n : Nat} {ds : List D} (e : lstAt h n = some ds) : tyB "list" h (.ref n) = true := by
  show (("list" : String) == "list" && (lstAt h n).isSome) = true
  rw [e]; rfl
theorem lst_lt {h : Hq} {n : Nat} {ds : List D} (e : lstAt h n = some ds) : n < h.length := get_lt (lstAt_get e)
theorem lst_of {h : Hq} {n : Nat} {ds : List D} (e : h[n]? = some (.lst ds)) : lstAt h n = some ds := by unfold lstAt; rw [e]
theorem lst_set {h : Hq} {n : Nat} {ds es : List D} (e : lstAt h n = some ds) : lstAt (h.set n (.lst es)) n = some es := lst_of (by rw [List.getElem?_set_self (lst_lt e)])
theorem lst_setNe {h : Hq} {n m : Nat} {ds : List D} {o : Ob} (e : lstAt h n = some ds) (hne : m ≠ n) : lstAt (h.set m o) n = some ds := lst_of (by rw [List.getElem?_set_ne hne, lstAt_get e])
theorem pre_set {h h' : Hq} {n : Nat} {o : Ob} (p : h <+: h') (hn : h.length ≤ n) : h <+: h'.set n o := by
  obtain ⟨g, rfl⟩ := p
  rw [List.set_append_right _ _ hn]
  exact ⟨_, rfl⟩
theorem pre_app {h h' g : Hq} (p : h <+: h') : h <+: h' ++ g := p.trans (List.prefix_append _ _)
theorem pre_refl {h : Hq} : h <+: h := List.prefix_refl h
theorem pre_len {h h' : Hq} (p : h <+: h') : h.length ≤ h'.length := p.length_le
theorem take_pre {h h' : Hq} (p : h <+: h') : h'.take h.length = h := by
  obtain ⟨g, rfl⟩ := p; simp
theorem src_lst {h : Hq} {n : Nat} {ds : List D} (e : lstAt h n = some ds) : srcOf h (.ref n) = some (.lst n) := by
  show (if (lstAt h n).isSome then _ else _) = _
  rw [e]; rfl
theorem eqH_ll {h : Hq} {a b : Nat} {xs ys : List D} (ea : lstAt h a = some xs) (eb : lstAt h b = some ys) (ox : xs.all (okD 40) = true) (oy : ys.all (okD 40) = true) : eqH h (.ref a) (.ref b) = some (deqL xs ys) := by
  show ((lstAt h a).bind fun a => (lstAt h b).bind fun b => if a.all (okD 40) && b.all (okD 40) then some (deqL a b) else none) = _
  rw [ea, eb]
  show (if xs.all (okD 40) && ys.all (okD 40) then some (deqL xs ys) else none) = _
  rw [ox, oy]; rfl
theorem lst_app1 {h : Hq} {n : Nat} {ds : List D} {g : Hq} (e : lstAt h n = some ds) : lstAt (h ++ g) n = some ds := pre_lst (List.prefix_append _ _) e
theorem mem_zw {α β γ : Type} {f : α → β → γ} {xs : List α} {ys : List β} {z : γ} (h : z ∈ List.zipWith f xs ys) : ∃ x ∈ xs, ∃ y ∈ ys, z = f x y := by
  rw [← List.map_uncurry_zip_eq_zipWith] at h
  obtain ⟨⟨x, y⟩, hp, rfl⟩ := List.mem_map.mp h
  exact ⟨x, (List.of_mem_zip hp).1, y, (List.of_mem_zip hp).2, rfl⟩
theorem cut_neg {α : Type} {xs : List α} {k : Nat} (h : 1 ≤ k) : cutL xs (some (-(k : Int))) none = xs.drop (xs.length - k) := by
  unfold cutL
  have e : HT.sIx xs.length 0 (some (-(k : Int))) = xs.length - k := by
    show (if -(k : Int) < 0 then (-(k : Int) + (xs.length : Int)).toNat else _) = _
    rw [if_pos (by omega)]; omega
  rw [e]
  show (xs.drop (xs.length - k)).take (xs.length - (xs.length - k)) = _
  exact List.take_of_length_le (by rw [List.length_drop]; omega)
theorem cut_pos {α : Type} {xs : List α} {i : Int} (h : 0 ≤ i) : cutL xs (some i) none = xs.drop i.toNat := by
  unfold cutL
  have e : HT.sIx xs.length 0 (some i) = min i.toNat xs.length := by
    show (if i < 0 then _ else min i.toNat xs.length) = _
    rw [if_neg (by omega)]
  rw [e]
  show (xs.drop (min i.toNat xs.length)).take (xs.length - min i.toNat xs.length) = _
  rw [List.take_of_length_le (by rw [List.length_drop]; omega)]
  by_cases hc : i.toNat ≤ xs.length
  · rw [Nat.min_eq_left hc]
  · rw [Nat.min_eq_right (by omega), List.drop_of_length_le (Nat.le_refl _), List.drop_of_length_le (by omega)]
theorem gc_pre {h h' : Hq} {P : WK} {d : D} (q : h <+: h') (sc : d.sc h.length = true) (p : P d h) : gcK h P d h' := by
  obtain ⟨g, rfl⟩ := q
  exact gc_pure sc p
theorem gc_lstp {h h' : Hq} {P : WK} {m : Nat} {ds : List D} (q : h <+: h') (hm : h.length ≤ m) (hd : lstAt h' m = some ds) (sc : D.scL h.length ds = true) (p : P (.ref h.length) (h ++ [.lst ds])) : gcK h P (.ref m) h' := by
  obtain ⟨g, rfl⟩ := q
  exact gc_lst (fun i o e => by rw [List.getElem?_append_left (get_lt e)]; exact e) hm (lstAt_get hd) sc p
theorem gc_mutp {h h' : Hq} {P : WK} {d : D} {n : Nat} {es : List D} (q : h.set n (.lst es) <+: h') (scE : D.scL h.length es = true) (sc : d.sc h.length = true) (p : P d (h.set n (.lst es))) : gcK h P d h' := by
  obtain ⟨g, rfl⟩ := q
  refine gc_mut (List.length_set ..) (fun i o e => ?_) sc p
  by_cases hi : n = i
  · subst hi
    have hlt := get_lt e
    rw [List.length_set] at hlt
    rw [List.getElem?_set_self hlt] at e
    cases e
    exact .inr ⟨scE, fun _ _ z => by cases z⟩
  · rw [List.getElem?_set_ne hi] at e
    exact .inl e
/-! ### all of a comprehension -/
theorem bls_rep : ∀ ds : List D, blsOf (ds.filterMap fun _ => some (.bl true)) = some (List.replicate ds.length true)
  | [] => rfl
  | d :: ds => by
    show (blsOf (ds.filterMap fun _ => some (.bl true))).map (true :: ·) = _
    rw [bls_rep ds]; rfl
theorem all_of {n : Nat} {bs : List Bool} {h : Hq} {P : WK} (e : (lstAt h n).bind blsOf = some bs) (p : P (.bl (bs.all id)) h) : bAll [.ref n] h P := by
  show (match (lstAt h n).bind blsOf with | some bs => P (.bl (bs.all id)) h | none => False)
  rw [e]; exact p
theorem all_lc {p : Pat} {te : WE} {s : Src} {ds : List D} {fr : Fr} {h : Hq} {R : WK} (hz : ds.length ≤ sizeLine) (ht : ∀ i acc, s.tick (h ++ [.lst acc]) i = some ds[i]?)
    (hs : ∀ d ∈ ds, ∀ acc (Q : WK), Q (.bl true) (h ++ [.lst acc]) → ∃ fr2, bindP p d fr = some fr2 ∧ te fr2 (h ++ [.lst acc]) Q) (q : R (.ref h.length) (h ++ [.lst (ds.filterMap fun _ => some (.bl true))])) : ∃ k, lcN s h.length (lcStep p wtYes te fr) R k 0 (h ++ [.lst []]) := by
  refine lc_pure (ds := ds) (fun _ => some (.bl true)) hz ht (fun d hd acc kp sk h1' h2' => ?_) q
  obtain ⟨fr2, e1, e2⟩ := hs d hd acc kp (h1' _ rfl)
  unfold lcStep
  rw [e1]
  exact e2
theorem lc2_true {s : Src} {p p1 : Pat} {wi1 : WI} {te : WE} {vs1 : List Nat} {fr : Fr} {h : Hq} {R : WK} (ds : List D) (B : Nat) (es : D → List D) (src1 : D → Src) (hz : ds.length * B ≤ sizeLine) (hB : ∀ d ∈ ds, (es d).length ≤ B)
    (ht : ∀ i acc, s.tick (h ++ [.lst acc]) i = some ds[i]?)
    (hs : ∀ d ∈ ds, ∃ fr2, bindP p d fr = some fr2 ∧ (∀ acc (Q : Src → Hq → Prop), Q (src1 d) (h ++ [.lst acc]) → wi1 fr2 (h ++ [.lst acc]) Q) ∧ (∀ i acc, (src1 d).tick (h ++ [.lst acc]) i = some (es d)[i]?) ∧
      ∀ e ∈ es d, ∀ acc (Q : WK), Q (.bl true) (h ++ [.lst acc]) → ∃ fr3, bindP p1 e (wipeF fr2 vs1) = some fr3 ∧ te fr3 (h ++ [.lst acc]) Q)
    (q : ∀ m, R (.ref h.length) (h ++ [.lst (List.replicate m (.bl true))])) : ∃ k, lc2N s h.length p wtYes wi1 p1 wtYes te vs1 fr R k 0 (h ++ [.lst []]) := by
  have key : ∀ (n i m : Nat), n + i = ds.length → m ≤ i * B → lc2N s h.length p wtYes wi1 p1 wtYes te vs1 fr R (n + 1) i (h ++ [.lst (List.replicate m (.bl true))]) := by
    intro n
    induction n with
    | zero =>
      intro i m e hm
      have e' : i = ds.length := by omega
      subst e'
      unfold lc2N
      rw [ht, List.getElem?_eq_none (Nat.le_refl _)]
      exact q m
    | succ n ih =>
      intro i m e hm
      have hlt : i < ds.length := by omega
      obtain ⟨fr2, e1, e2, e3, e4⟩ := hs ds[i] (List.getElem_mem hlt)
      unfold lc2N
      rw [ht, List.getElem?_eq_getElem hlt]
      dsimp only
      rw [e1]
      conv => whnf
      have hb := hB ds[i] (List.getElem_mem hlt)
      have hmB : m + (es ds[i]).length ≤ (i + 1) * B := by rw [Nat.succ_mul]; omega
      refine e2 _ _ (lc_inv (ds := es ds[i]) (fun j acc h' => acc = List.replicate (m + j) (.bl true) ∧ h' = h ++ [.lst acc]) m (List.replicate m (.bl true)) (fun j acc h' ⟨_, x⟩ => by rw [x]; exact e3 j acc) (fun j acc h' ⟨x, y⟩ => ⟨by rw [y]; exact lstAt_app, by rw [x]; simp⟩) ?_ ⟨rfl, rfl⟩ (fun j d acc h' ⟨x, y⟩ hd kp sk k1 k2 => ?_) fun acc h' ⟨x, y⟩ => ?_)
      · refine Nat.le_trans hmB (Nat.le_trans (Nat.mul_le_mul_right B (by omega)) hz)
      · subst y
        unfold lcStep
        obtain ⟨fr3, f1, f2⟩ := e4 d (List.mem_of_getElem? hd) acc kp (k1 _ _ lstAt_app ⟨by rw [x, ← Nat.add_assoc, List.replicate_succ'], set_app⟩)
        rw [f1]
        exact f2
      · subst y
        rw [x]
        exact ih (i + 1) _ (by omega) hmB
  exact ⟨ds.length + 1, key ds.length 0 0 (by omega) (by omega)⟩
theorem bls_repT : ∀ m : Nat, blsOf (List.replicate m (.bl true)) = some (List.replicate m true)
  | 0 => rfl
  | m + 1 => by
    show (blsOf (List.replicate m (.bl true))).map (true :: ·) = _
    rw [bls_repT m]; rfl
theorem bls_app2 {h : Hq} {m : Nat} : (lstAt (h ++ [.lst (List.replicate m (.bl true))]) h.length).bind blsOf = some (List.replicate m true) := by
  rw [lstAt_app, Option.bind_some, bls_repT]
theorem bls_app {h : Hq} {ds : List D} : (lstAt (h ++ [.lst (ds.filterMap fun _ => some (.bl true))]) h.length).bind blsOf = some (List.replicate ds.length true) := by
  rw [lstAt_app, Option.bind_some, bls_rep]
theorem all_rep {n : Nat} : (List.replicate n true).all id = true := by simp
theorem take_app {h g : Hq} : (h ++ g).take h.length = h := by simp
/-- a loop over a list, by what is done and what is left -/
theorem fo_list {α : Type} {s : Src} {g : WG} {b : WS} {M : MEnds} (xs : List α) (toD : α → D) (Inv : List α → Fr → Hq → Prop) {fr : Fr} {h : Hq} (ht : ∀ rest fr h i, Inv rest fr h → s.tick h i = some (xs.map toD)[i]?) (h0 : Inv xs fr h)
    (hs : ∀ a rest fr h, a ∈ xs → Inv (a :: rest) fr h → ∀ k : Fr → Hq → Prop, (∀ fr' h', Inv rest fr' h' → k fr' h') → g (toD a) fr h fun fr1 h1 => b { M with nx := k, ct := k, bk := M.nx } fr1 h1)
    (he : ∀ fr h, Inv [] fr h → M.nx fr h) : ∃ n, foN s g b M n 0 fr h := by
  refine fo_inv (ds := xs.map toD) (fun i fr h => i ≤ xs.length ∧ Inv (xs.drop i) fr h) (fun i fr h hi => ht _ fr h i hi.2) ⟨Nat.zero_le _, by rw [List.drop_zero]; exact h0⟩ (fun i d fr h ⟨h1, hi⟩ hd k hk => ?_) fun fr h hi => he fr h (by have := hi.2; rwa [List.length_map, List.drop_length] at this)
  rw [List.getElem?_map, Option.map_eq_some_iff] at hd
  obtain ⟨a, ha, rfl⟩ := hd
  obtain ⟨hlt, rfl⟩ := List.getElem?_eq_some_iff.mp ha
  refine hs _ (xs.drop (i + 1)) fr h (List.getElem_mem hlt) (by rw [← List.drop_eq_getElem_cons hlt]; exact hi) k fun fr' h' q => hk fr' h' ⟨hlt, q⟩
theorem tick_fix {ds : List D} {i : Nat} {h : Hq} : (Src.fix ds).tick h i = some ds[i]? := rfl
theorem tick_lst {h : Hq} {n i : Nat} {ds : List D} (e : lstAt h n = some ds) : (Src.lst n).tick h i = some ds[i]? := by
  show (lstAt h n).map _ = _
  rw [e]; rfl
theorem tick_zip {a b : Src} {h : Hq} {i : Nat} {ds es : List D} (ha : a.tick h i = some ds[i]?) (hb : b.tick h i = some es[i]?) : (Src.zip a b).tick h i = some (List.zipWith (fun x y => D.tup [x, y]) ds es)[i]? := by
  unfold Src.tick
  rw [ha, hb, List.getElem?_zipWith]
  cases ds[i]? <;> cases es[i]? <;> rfl
end MP

namespace MP
open PySem PySem.Spec PyProof.Rows L2
/-! ### services -/
structure Svc where
  asks : List Nat
  rows : List (List (Nat × Nat))
def stD (x : Nat × Nat) : D := .tup [.int x.1, .str [x.2]]
def rowD (l : List (Nat × Nat)) : D := .tup (l.map stD)
def Svc.d (s : Svc) : D := .tup [.str s.asks, .tup (s.rows.map rowD)]
def Lett (c : Nat) : Prop := 97 ≤ c ∧ c ≤ 122
structure Svc.Ok (s : Svc) : Prop where
  a1 : 1 ≤ s.asks.length
  a2 : s.asks.length ≤ 4
  az : ∀ c ∈ s.asks, Lett c
  asc : ∀ x ∈ List.zipWith (fun a b => D.tup [.str [a], .str [b]]) s.asks s.asks.tail, ∃ a b : Nat, x = .tup [.str [a], .str [b]] ∧ a < b
  r1 : 1 ≤ s.rows.length
  r2 : s.rows.length ≤ 40
  rl : ∀ l ∈ s.rows, l.length = s.asks.length
  st : ∀ l ∈ s.rows, ∀ x ∈ l, x.1 < s.rows.length ∧ Lett x.2
def Svc.step (s : Svc) (i c : Nat) : Nat × Nat := ((s.rows[i]?.getD [])[s.asks.idxOf c]?).getD (0, 97)
abbrev small : List Nat := [97, 98, 99, 100, 101, 102, 103, 104, 105, 106, 107, 108, 109, 110, 111, 112, 113, 114, 115, 116, 117, 118, 119, 120, 121, 122]
theorem small_mem {c : Nat} (h : Lett c) : decide (c ∈ small) = true := by
  obtain ⟨h1, h2⟩ := h
  refine decide_eq_true ?_
  simp only [small, List.mem_cons, List.not_mem_nil, or_false]
  omega
theorem sl63 {n : Nat} (h : n ≤ 1000) : n ≤ sizeLine := by rw [sizeLine_eq]; omega
theorem deq_int {a b : Int} (h : a = b) : deq (.int a) (.int b) = true := by subst h; show (a == a) = true; simp
theorem deq_intF {a b : Int} (h : a ≠ b) : deq (.int a) (.int b) = false := by show (a == b) = false; simpa using h
abbrev N_is_integer : List Str := ["value"]
def ws_is_integer : WS := (wsSeq (wsRet (wAnd (wCB bIsi (waCons (wVar 0) (waCons (wC (.con (.ty "int"))) waNil))) (wNot (wCB bIsi (waCons (wVar 0) (waCons (wC (.con (.ty "bool"))) waNil)))))) wsNil)
def g_is_integer : WL := fun ds h P => ∃ i, ds = [.int i] ∧ P (.bl true) h
theorem is_integer_ok : ∀ ds h P, g_is_integer ds h P → wF ws_is_integer 1 1 ds h P := by
  rintro ds h P ⟨i, rfl, p⟩
  refine ⟨rfl, ?_⟩
  (conv => whnf); (try dsimp only)
  refine ⟨(by first | rfl | decide), ?_⟩; (conv => whnf); (try dsimp only)
  refine ⟨(by first | rfl | decide), ?_⟩; (conv => whnf); (try dsimp only)
  exact gc_same rfl p
abbrev N_is_from : List Str := ["value", "low", "high"]
def ws_is_from : WS := (wsSeq (wsRet (wAnd (wCB g_is_integer (waCons (wVar 0) waNil)) (wChain gLe gLe (wVar 1) (wVar 0) (wVar 2)))) wsNil)
def g_is_from : WL := fun ds h P => ∃ i lo hi, ds = [.int i, .int lo, .int hi] ∧ (lo ≤ i ∧ i ≤ hi) ∧ P (.bl true) h
theorem is_from_ok : ∀ ds h P, g_is_from ds h P → wF ws_is_from 3 3 ds h P := by
  rintro ds h P ⟨i, lo, hi, rfl, ⟨h1, h2⟩, p⟩
  refine ⟨rfl, ?_⟩
  (conv => whnf); (try dsimp only)
  refine ⟨_, rfl, ?_⟩
  (conv => whnf); (try dsimp only)
  (generalize hdec : decide (lo ≤ i) = bdec; obtain rfl : bdec = true := hdec.symm.trans (decide_eq_true (h1)); clear hdec; (conv => whnf); (try dsimp only))
  (generalize hdec : decide (i ≤ hi) = bdec; obtain rfl : bdec = true := hdec.symm.trans (decide_eq_true (h2)); clear hdec; (conv => whnf); (try dsimp only))
  exact gc_same rfl p
abbrev N_is_letter : List Str := ["value"]
def ws_is_letter : WS := (wsSeq (wsRet (wAnd (wCB bIsi (waCons (wVar 0) (waCons (wC (.con (.ty "str"))) waNil))) (wAnd (wOp gEq (wCB bLen (waCons (wVar 0) waNil)) (wC (.int 1))) (wOp (gIn false) (wVar 0) (wC (.str [97, 98, 99, 100, 101, 102, 103, 104, 105, 106, 107, 108, 109, 110, 111, 112, 113, 114, 115, 116, 117, 118, 119, 120, 121, 122])))))) wsNil)
def g_is_letter : WL := fun ds h P => ∃ c, ds = [.str [c]] ∧ Lett c ∧ P (.bl true) h
theorem is_letter_ok : ∀ ds h P, g_is_letter ds h P → wF ws_is_letter 1 1 ds h P := by
  rintro ds h P ⟨c, rfl, hc, p⟩
  refine ⟨rfl, ?_⟩
  (conv => whnf); (try dsimp only)
  refine ⟨(by first | rfl | decide), ?_⟩; (conv => whnf); (try dsimp only)
  rw [small_mem hc]
  exact gc_same rfl p
abbrev N_is_asks : List Str := ["value", "one", "other", "sign"]
def ws_is_asks : WS := (wsSeq (wsIf (wtOr (wtNot (wtTru (wCB bIsi (waCons (wVar 0) (waCons (wC (.con (.ty "str"))) waNil))))) (wtOr (wtNot (wtB (wChain gLe gLe (wC (.int 1)) (wCB bLen (waCons (wVar 0) waNil)) (wC (.int 4))))) (wtNot (wtTru (wGc (wCB bAll (waCons (wLc (wiAny (wVar 0)) (.nm 3) wtYes (wOp (gIn false) (wVar 3) (wC (.str [97, 98, 99, 100, 101, 102, 103, 104, 105, 106, 107, 108, 109, 110, 111, 112, 113, 114, 115, 116, 117, 118, 119, 120, 121, 122]))) [3]) waNil))))))) (wsSeq (wsRet (wC (.bl false))) wsNil) wsNil) (wsSeq (wsRet (wGc (wCB bAll (waCons (wLc (wiZip (waCons (wVar 0) (waCons (wSl (wVar 0) (woSome (wC (.int 1))) woNone) waNil))) (.tp (.cons (.nm 1) (.cons (.nm 2) .nil))) wtYes (wOp gLt (wVar 1) (wVar 2)) [1, 2]) waNil)))) wsNil))
def g_is_asks : WL := fun ds h P => ∃ s : Svc, s.Ok ∧ ds = [.str s.asks] ∧ P (.bl true) h
theorem is_asks_ok : ∀ ds h P, g_is_asks ds h P → wF ws_is_asks 4 1 ds h P := by
  rintro ds h P ⟨s, ok, rfl, p⟩
  refine ⟨rfl, ?_⟩
  (conv => whnf); (try dsimp only)
  refine ⟨(by first | rfl | decide), ?_⟩; (conv => whnf); (try dsimp only)
  (generalize hdec : decide ((1 : Int) ≤ (s.asks.length : Int)) = bdec; obtain rfl : bdec = true := hdec.symm.trans (decide_eq_true (by have := ok.a1; omega)); clear hdec; (conv => whnf); (try dsimp only))
  (generalize hdec : decide ((s.asks.length : Int) ≤ 4) = bdec; obtain rfl : bdec = true := hdec.symm.trans (decide_eq_true (by have := ok.a2; omega)); clear hdec; (conv => whnf); (try dsimp only))
  refine all_lc (ds := s.asks.map fun c => .str [c]) (by have := ok.a2; refine sl63 ?_; rw [List.length_map]; omega) ?_ (fun d hd acc Q q => ?_) ?_
  · exact fun _ _ => rfl
  · obtain ⟨c, hc, rfl⟩ := List.mem_map.mp hd
    refine ⟨_, rfl, ?_⟩
    (conv => whnf); (try dsimp only)
    rw [small_mem (ok.az c hc)]
    exact q
  (conv => whnf); (try dsimp only); simp only [bls_app, bls_app2]; (conv => whnf); (try dsimp only); refine ⟨(by first | exact take_app | exact take_pre (by assumption) | exact take_pre (pre_app (by assumption)) | exact take_pre (pre_app (pre_app pre_refl))), rfl, ?_⟩; simp only [all_rep]; (conv => whnf); (try dsimp only)
  refine all_lc (ds := List.zipWith (fun x y => D.tup [x, y]) (s.asks.map fun c => .str [c]) ((cutL s.asks (some 1) none).map fun c => .str [c])) ?_ ?_ (fun d hd acc Q q => ?_) ?_
  · have := ok.a2
    refine sl63 ?_
    rw [List.length_zipWith, List.length_map]; omega
  · exact fun _ _ => tick_zip rfl rfl
  · have ec : cutL s.asks (some 1) none = s.asks.tail := by
      have h1 := ok.a1
      unfold cutL HT.sIx
      simp
      cases hs : s.asks with
      | nil => rw [hs] at h1; simp at h1
      | cons a r => simp
    rw [ec, List.zipWith_map] at hd
    obtain ⟨a, b, rfl, hab⟩ := ok.asc d hd
    refine ⟨_, rfl, ?_⟩
    (conv => whnf); (try dsimp only)
    rw [decide_eq_true (show [a] < [b] from List.cons_lt_cons_iff.mpr (.inl hab))]
    exact q
  · (conv => whnf); (try dsimp only); simp only [bls_app, bls_app2]; (conv => whnf); (try dsimp only); refine ⟨(by first | exact take_app | exact take_pre (by assumption) | exact take_pre (pre_app (by assumption)) | exact take_pre (pre_app (pre_app pre_refl))), rfl, ?_⟩; simp only [all_rep]; (conv => whnf); (try dsimp only)
    exact gc_same rfl p
abbrev N_is_step : List Str := ["size", "value"]
def ws_is_step : WS := (wsSeq (wsIf (wtOr (wtNot (wtTru (wCB bIsi (waCons (wVar 1) (waCons (wC (.con (.ty "tuple"))) waNil))))) (wtB (wOp gNe (wCB bLen (waCons (wVar 1) waNil)) (wC (.int 2))))) (wsSeq (wsRet (wC (.bl false))) wsNil) wsNil) (wsSeq (wsRet (wAnd (wCB g_is_from (waCons (wOp gIx (wVar 1) (wC (.int 0))) (waCons (wC (.int 0)) (waCons (wOp gSub (wVar 0) (wC (.int 1))) waNil)))) (wCB g_is_letter (waCons (wOp gIx (wVar 1) (wC (.int 1))) waNil)))) wsNil))
def g_is_step : WL := fun ds h P => ∃ (n : Nat) (x : Nat × Nat), ds = [.int n, stD x] ∧ x.1 < n ∧ Lett x.2 ∧ P (.bl true) h
theorem is_step_ok : ∀ ds h P, g_is_step ds h P → wF ws_is_step 2 2 ds h P := by
  rintro ds h P ⟨n, x, rfl, h1, h2, p⟩
  refine ⟨rfl, ?_⟩
  (conv => whnf); (try dsimp only)
  refine ⟨(by first | rfl | decide), ?_⟩; (conv => whnf); (try dsimp only)
  refine ⟨_, _, _, rfl, ⟨by omega, by omega⟩, ?_⟩
  (conv => whnf); (try dsimp only)
  refine ⟨_, rfl, h2, ?_⟩
  exact gc_same rfl p
theorem row_sc (n : Nat) (l : List (Nat × Nat)) : (rowD l).sc n = true := by
  have : ∀ l : List (Nat × Nat), D.scL n (l.map stD) = true := by
    intro l
    induction l with
    | nil => rfl
    | cons x l ih => simp [D.scL, stD, D.sc, ih]
  exact this l
theorem svc_sc (n : Nat) (s : Svc) : s.d.sc n = true := by
  have : ∀ l : List (List (Nat × Nat)), D.scL n (l.map rowD) = true := by
    intro l
    induction l with
    | nil => rfl
    | cons x l ih => simp [D.scL, row_sc, ih]
  simp [Svc.d, D.sc, D.scL, this]
abbrev N_is_service : List Str := ["value", "asks", "rows", "line", "step"]
def ws_is_service : WS := (wsSeq (wsIf (wtOr (wtNot (wtTru (wCB bIsi (waCons (wVar 0) (waCons (wC (.con (.ty "tuple"))) waNil))))) (wtOr (wtB (wOp gNe (wCB bLen (waCons (wVar 0) waNil)) (wC (.int 2)))) (wtNot (wtTru (wCB g_is_asks (waCons (wOp gIx (wVar 0) (wC (.int 0))) waNil)))))) (wsSeq (wsRet (wC (.bl false))) wsNil) wsNil) (wsSeq (wsAsg (wgPat (.tp (.cons (.nm 1) (.cons (.nm 2) .nil)))) (wVar 0)) (wsSeq (wsIf (wtOr (wtNot (wtTru (wCB bIsi (waCons (wVar 2) (waCons (wC (.con (.ty "tuple"))) waNil))))) (wtNot (wtB (wChain gLe gLe (wC (.int 1)) (wCB bLen (waCons (wVar 2) waNil)) (wC (.int 40)))))) (wsSeq (wsRet (wC (.bl false))) wsNil) wsNil) (wsSeq (wsIf (wtNot (wtTru (wGc (wCB bAll (waCons (wLc (wiAny (wVar 2)) (.nm 3) wtYes (wAnd (wCB bIsi (waCons (wVar 3) (waCons (wC (.con (.ty "tuple"))) waNil))) (wOp gEq (wCB bLen (waCons (wVar 3) waNil)) (wCB bLen (waCons (wVar 1) waNil)))) [3]) waNil))))) (wsSeq (wsRet (wC (.bl false))) wsNil) wsNil) (wsSeq (wsRet (wGc (wCB bAll (waCons (wLc2 (wiAny (wVar 2)) (.nm 3) wtYes (wiAny (wVar 3)) (.nm 4) wtYes (wCB g_is_step (waCons (wCB bLen (waCons (wVar 2) waNil)) (waCons (wVar 4) waNil))) [3, 4] [4]) waNil)))) wsNil)))))
def g_is_service : WL := fun ds h P => ∃ s : Svc, s.Ok ∧ ds = [s.d] ∧ P (.bl true) h
theorem is_service_ok : ∀ ds h P, g_is_service ds h P → wF ws_is_service 5 1 ds h P := by
  rintro ds h P ⟨s, ok, rfl, p⟩
  refine ⟨rfl, ?_⟩
  (conv => whnf); (try dsimp only)
  refine ⟨(by first | rfl | decide), ?_⟩; (conv => whnf); (try dsimp only)
  refine ⟨s, ok, rfl, ?_⟩
  (conv => whnf); (try dsimp only)
  refine ⟨(by first | rfl | decide), ?_⟩; (conv => whnf); (try dsimp only)
  have hlr : (s.rows.map rowD).length = s.rows.length := List.length_map _
  have hr1 := ok.r1
  have hr2 := ok.r2
  (generalize hdec : decide ((1 : Int) ≤ ((s.rows.map rowD).length : Int)) = bdec; obtain rfl : bdec = true := hdec.symm.trans (decide_eq_true (by rw [hlr]; omega)); clear hdec; (conv => whnf); (try dsimp only))
  (generalize hdec : decide (((s.rows.map rowD).length : Int) ≤ 40) = bdec; obtain rfl : bdec = true := hdec.symm.trans (decide_eq_true (by rw [hlr]; omega)); clear hdec; (conv => whnf); (try dsimp only))
  refine all_lc (ds := s.rows.map rowD) (by rw [hlr]; exact sl63 (by omega)) ?_ (fun d hd acc Q q => ?_) ?_
  · exact fun _ _ => rfl
  · obtain ⟨l, hl, rfl⟩ := List.mem_map.mp hd
    refine ⟨_, rfl, ?_⟩
    (conv => whnf); (try dsimp only)
    refine ⟨(by first | rfl | decide), ?_⟩; (conv => whnf); (try dsimp only)
    rw [deq_int (by rw [List.length_map, ok.rl l hl])]
    exact q
  · (conv => whnf); (try dsimp only); simp only [bls_app, bls_app2]; (conv => whnf); (try dsimp only); refine ⟨(by first | exact take_app | exact take_pre (by assumption) | exact take_pre (pre_app (by assumption)) | exact take_pre (pre_app (pre_app pre_refl))), rfl, ?_⟩; simp only [all_rep]; (conv => whnf); (try dsimp only)
    refine lc2_true (s.rows.map rowD) 4 (fun d => match d with | .tup l => l | _ => []) (fun d => match d with | .tup l => .fix l | _ => .fix []) (by rw [hlr]; exact sl63 (by omega)) (fun d hd => ?_) ?_ (fun d hd => ?_) fun m => ?_
    · obtain ⟨l, hl, rfl⟩ := List.mem_map.mp hd
      have := ok.rl l hl
      have := ok.a2
      show (l.map stD).length ≤ 4
      rw [List.length_map]; omega
    · exact fun _ _ => rfl
    · obtain ⟨l, hl, rfl⟩ := List.mem_map.mp hd
      refine ⟨_, rfl, fun acc Q q => q, fun i acc => rfl, fun e he acc Q q => ?_⟩
      obtain ⟨x, hx, rfl⟩ := List.mem_map.mp he
      refine ⟨_, rfl, ?_⟩
      (conv => whnf); (try dsimp only)
      obtain ⟨k1, k2⟩ := ok.st l hl x hx
      exact ⟨_, x, rfl, by rw [hlr]; exact k1, k2, q⟩
    · (conv => whnf); (try dsimp only); simp only [bls_app, bls_app2]; (conv => whnf); (try dsimp only); refine ⟨(by first | exact take_app | exact take_pre (by assumption) | exact take_pre (pre_app (by assumption)) | exact take_pre (pre_app (pre_app pre_refl))), rfl, ?_⟩; simp only [all_rep]; (conv => whnf); (try dsimp only)
      exact gc_same rfl p
abbrev N_step_of : List Str := ["service", "stand", "ask"]
def ws_step_of : WS := (wsSeq (wsRet (wOp gIx (wOp gIx (wOp gIx (wVar 0) (wC (.int 1))) (wVar 1)) (wBM "str" mIndex (wOp gIx (wVar 0) (wC (.int 0))) (waCons (wVar 2) waNil)))) wsNil)
def g_step_of : WL := fun ds h P => ∃ (s : Svc) (i c : Nat), s.Ok ∧ i < s.rows.length ∧ c ∈ s.asks ∧ ds = [s.d, .int i, .str [c]] ∧ P (stD (s.step i c)) h
theorem Svc.Ok.at_ {s : Svc} (ok : s.Ok) {i c : Nat} (hi : i < s.rows.length) (hc : c ∈ s.asks) : atI (s.rows.map rowD) (i : Int) = some (rowD (s.rows[i]?.getD [])) ∧ atI ((s.rows[i]?.getD []).map stD) (s.asks.idxOf c : Nat) = some (stD (s.step i c)) ∧
    s.step i c ∈ s.rows[i]?.getD [] ∧ s.rows[i]?.getD [] ∈ s.rows := by
  have e : s.rows[i]? = some s.rows[i] := List.getElem?_eq_getElem hi
  have hl := ok.rl s.rows[i] (List.getElem_mem hi)
  have hx : s.asks.idxOf c < s.rows[i].length := by rw [hl]; exact List.idxOf_lt_length_of_mem hc
  have e2 : s.rows[i][s.asks.idxOf c]? = some s.rows[i][s.asks.idxOf c] := List.getElem?_eq_getElem hx
  have e3 : s.step i c = s.rows[i][s.asks.idxOf c] := by unfold Svc.step; rw [e]; simp [e2]
  refine ⟨atI_nat (by rw [List.getElem?_map, e]; rfl), atI_nat (by rw [List.getElem?_map, e, e3]; simp [e2]), ?_, ?_⟩
  · rw [e3, e]; simp
  · rw [e]; simp
theorem step_of_ok : ∀ ds h P, g_step_of ds h P → wF ws_step_of 3 3 ds h P := by
  rintro ds h P ⟨s, i, c, ok, hi, hc, rfl, p⟩
  refine ⟨rfl, ?_⟩
  obtain ⟨e1, e2, e3, e4⟩ := ok.at_ hi hc
  (conv => whnf); (try dsimp only)
  rw [e1]
  (conv => whnf); (try dsimp only)
  refine ⟨rfl, hc, ?_⟩
  (conv => whnf); (try dsimp only)
  rw [e2]
  exact gc_same rfl p
end MP

namespace MP
open PySem PySem.Spec PyProof.Rows L2
/-! ### histories -/
inductive It where
  | ch (c : Nat) | bk (n : Nat)
def It.d : It → D
  | .ch c => .str [c]
  | .bk n => .int n
def chD (c : Nat) : D := .str [c]
def histD (l : List It) : D := .tup (l.map It.d)
def HOk (A : Nat → Prop) : Nat → List It → Prop
  | _, [] => True
  | m, .ch c :: r => A c ∧ HOk A (m + 1) r
  | m, .bk n :: r => 1 ≤ n ∧ n ≤ m ∧ HOk A m r
theorem HOk.imp {A B : Nat → Prop} (i : ∀ c, A c → B c) : ∀ {m : Nat} {l : List It}, HOk A m l → HOk B m l
  | _, [], _ => trivial
  | m, .ch c :: r, h => ⟨i c h.1, HOk.imp i h.2⟩
  | m, .bk n :: r, h => ⟨h.1, h.2.1, HOk.imp i h.2.2⟩
def tell (s : Svc) : Nat → List Nat → List Nat
  | _, [] => []
  | i, c :: r => (s.step i c).2 :: tell s (s.step i c).1 r
def firsts : List It → List Nat
  | [] => []
  | .ch c :: r => c :: firsts r
  | .bk _ :: r => firsts r
def mean : List Nat → List It → List Nat
  | _, [] => []
  | row, .ch c :: r => c :: mean (row ++ [c]) r
  | row, .bk n :: r => row[row.length - n]?.getD 0 :: mean row r
theorem mean_len : ∀ (row : List Nat) (l : List It), (mean row l).length = l.length
  | _, [] => rfl
  | row, .ch c :: r => by simp [mean, mean_len]
  | row, .bk n :: r => by simp [mean, mean_len]
theorem mean_in {A : Nat → Prop} : ∀ {row : List Nat} {l : List It}, (∀ c ∈ row, A c) → HOk A row.length l → ∀ c ∈ mean row l, A c
  | _, [], _, _, _, h => by simp [mean] at h
  | row, .ch c :: r, hr, h, x, hx => by
    rcases List.mem_cons.mp hx with rfl | hx
    · exact h.1
    · refine mean_in (row := row ++ [c]) (fun z hz => ?_) (by rw [List.length_append]; exact h.2) x hx
      rcases List.mem_append.mp hz with hz | hz
      · exact hr z hz
      · rw [List.mem_singleton.mp hz]; exact h.1
  | row, .bk n :: r, hr, h, x, hx => by
    rcases List.mem_cons.mp hx with rfl | hx
    · have hlt : row.length - n < row.length := by have := h.1; have := h.2.1; omega
      rw [List.getElem?_eq_getElem hlt]
      exact hr _ (List.getElem_mem hlt)
    · exact mean_in hr h.2.2 x hx
theorem Svc.Ok.lt {s : Svc} (ok : s.Ok) {i c : Nat} (hi : i < s.rows.length) (hc : c ∈ s.asks) : (s.step i c).1 < s.rows.length ∧ Lett (s.step i c).2 := by
  obtain ⟨_, _, e3, e4⟩ := ok.at_ hi hc
  exact ok.st _ e4 _ e3
abbrev N_answered : List Str := ["service", "row", "ask", "stand", "found", "answer"]
def ws_answered : WS := (wsSeq (wsAsg (wgPat (.tp (.cons (.nm 3) (.cons (.nm 4) .nil)))) (wTup (waCons (wC (.int 0)) (waCons (wC (.str [])) waNil)))) (wsSeq (wsFor (wiAny (wVar 1)) (wgPat (.nm 2)) (wsSeq (wsAsg (wgPat (.tp (.cons (.nm 3) (.cons (.nm 5) .nil)))) (wCB g_step_of (waCons (wVar 0) (waCons (wVar 3) (waCons (wVar 2) waNil))))) (wsSeq (wsAug 4 gIadd (wVar 5)) wsNil))) (wsSeq (wsRet (wVar 4)) wsNil)))
def g_answered : WL := fun ds h P => ∃ (s : Svc) (row : List Nat), s.Ok ∧ (∀ c ∈ row, c ∈ s.asks) ∧ row.length ≤ 1000 ∧ ds = [s.d, .str row] ∧ P (.str (tell s 0 row)) h
theorem answered_ok : ∀ ds h P, g_answered ds h P → wF ws_answered 6 2 ds h P := by
  rintro ds h P ⟨s, row, ok, hr, hz, rfl, p⟩
  refine ⟨rfl, ?_⟩
  (conv => whnf); (try dsimp only)
  refine ⟨(by first | rfl | decide), ?_⟩; (conv => whnf); (try dsimp only)
  refine fo_list row chD (fun rest fr h' => h' = h ∧ ∃ i f x y, fr = [some s.d, some (.str row), x, some (.int (i : Nat)), some (.str f), y] ∧ i < s.rows.length ∧ (∀ c ∈ rest, c ∈ s.asks) ∧ f ++ tell s i rest = tell s 0 row ∧ f.length + rest.length = row.length) ?_ ?_ ?_ ?_
  · exact fun _ _ _ _ _ => rfl
  · exact ⟨rfl, 0, [], none, none, rfl, by have := ok.r1; omega, hr, rfl, by simp⟩
  · rintro c rest fr h' hc ⟨rfl, i, f, x, y, rfl, hi, hin, he, hl⟩ k hk
    (conv => whnf); (try dsimp only)
    refine ⟨s, i, c, ok, hi, hin c (by simp), rfl, ?_⟩
    (conv => whnf); (try dsimp only)
    rw [List.length_cons] at hl
    refine ⟨sl63 (by simp; omega), ?_⟩
    refine hk _ _ ⟨rfl, _, _, _, _, rfl, (ok.lt hi (hin c (by simp))).1, fun z hz => hin z (by simp [hz]), ?_, ?_⟩
    · rw [← he, List.append_assoc]; rfl
    · rw [List.length_append, List.length_singleton]; omega
  · rintro fr h' ⟨rfl, i, f, x, y, rfl, hi, hin, he, hl⟩
    (conv => whnf); (try dsimp only)
    have : f = tell s 0 row := by rw [← he]; simp [tell]
    rw [this]
    exact gc_same rfl p
abbrev N_is_items : List Str := ["value", "many", "item"]
def ws_is_items : WS := (wsSeq (wsIf (wtOr (wtNot (wtTru (wCB bIsi (waCons (wVar 0) (waCons (wC (.con (.ty "tuple"))) waNil))))) (wtB (wOp gGt (wCB bLen (waCons (wVar 0) waNil)) (wC (.int 60))))) (wsSeq (wsRet (wC (.bl false))) wsNil) wsNil) (wsSeq (wsAsg (wgPat (.nm 1)) (wC (.int 0))) (wsSeq (wsFor (wiAny (wVar 0)) (wgPat (.nm 2)) (wsSeq (wsIf (wtTru (wCB bIsi (waCons (wVar 2) (waCons (wC (.con (.ty "str"))) waNil)))) (wsSeq (wsIf (wtOr (wtB (wOp gNe (wCB bLen (waCons (wVar 2) waNil)) (wC (.int 1)))) (wtB (wOp (gIn true) (wVar 2) (wC (.str [97, 98, 99, 100, 101, 102, 103, 104, 105, 106, 107, 108, 109, 110, 111, 112, 113, 114, 115, 116, 117, 118, 119, 120, 121, 122]))))) (wsSeq (wsRet (wC (.bl false))) wsNil) wsNil) (wsSeq (wsAug 1 gIadd (wC (.int 1))) wsNil)) (wsSeq (wsIf (wtOr (wtNot (wtTru (wCB g_is_integer (waCons (wVar 2) waNil)))) (wtNot (wtB (wChain gLe gLe (wC (.int 1)) (wVar 2) (wVar 1))))) (wsSeq (wsRet (wC (.bl false))) wsNil) wsNil) wsNil)) wsNil)) (wsSeq (wsRet (wC (.bl true))) wsNil))))
def g_is_items : WL := fun ds h P => ∃ hs : List It, HOk Lett 0 hs ∧ hs.length ≤ 60 ∧ ds = [histD hs] ∧ P (.bl true) h
theorem is_items_ok : ∀ ds h P, g_is_items ds h P → wF ws_is_items 3 1 ds h P := by
  rintro ds h P ⟨hs, ok, hz, rfl, p⟩
  refine ⟨rfl, ?_⟩
  (conv => whnf); (try dsimp only)
  refine ⟨(by first | rfl | decide), ?_⟩; (conv => whnf); (try dsimp only)
  have hlen : (hs.map It.d).length = hs.length := List.length_map _
  (generalize hdec : decide ((60 : Int) < ((hs.map It.d).length : Int)) = bdec; obtain rfl : bdec = false := hdec.symm.trans (decide_eq_false (by rw [hlen]; omega)); clear hdec; (conv => whnf); (try dsimp only))
  refine fo_list hs It.d (fun rest fr h' => h' = h ∧ ∃ (m : Nat) (x : Option D), fr = [some (histD hs), some (.int (m : Int)), x] ∧ HOk Lett m rest) ?_ ?_ ?_ ?_
  · exact fun _ _ _ _ _ => rfl
  · exact ⟨rfl, 0, none, rfl, ok⟩
  · rintro a rest fr h' ha ⟨rfl, m, x, rfl, hk⟩ k hk'
    cases a with
    | ch c =>
      (conv => whnf); (try dsimp only)
      refine ⟨(by first | rfl | decide), ?_⟩; (conv => whnf); (try dsimp only)
      rw [small_mem hk.1]
      (conv => whnf); (try dsimp only)
      exact hk' _ _ ⟨rfl, m + 1, _, rfl, hk.2⟩
    | bk n =>
      (conv => whnf); (try dsimp only)
      refine ⟨(by first | rfl | decide), ?_⟩; (conv => whnf); (try dsimp only)
      refine ⟨_, rfl, ?_⟩
      (conv => whnf); (try dsimp only)
      (generalize hdec : decide ((1 : Int) ≤ (n : Int)) = bdec; obtain rfl : bdec = true := hdec.symm.trans (decide_eq_true (by have := hk.1; omega)); clear hdec; (conv => whnf); (try dsimp only))
      (generalize hdec : decide ((n : Int) ≤ (m : Int)) = bdec; obtain rfl : bdec = true := hdec.symm.trans (decide_eq_true (by have := hk.2.1; omega)); clear hdec; (conv => whnf); (try dsimp only))
      exact hk' _ _ ⟨rfl, m, _, rfl, hk.2.2⟩
  · rintro fr h' ⟨rfl, m, x, rfl, hk⟩
    exact gc_same rfl p
abbrev N_firsts_of : List Str := ["history", "item"]
def ws_firsts_of : WS := (wsSeq (wsRet (wGc (wBM "str" mJoin (wC (.str [])) (waCons (wLc (wiAny (wVar 0)) (.nm 1) (wtTru (wCB bIsi (waCons (wVar 1) (waCons (wC (.con (.ty "str"))) waNil)))) (wVar 1) [1]) waNil)))) wsNil)
def g_firsts_of : WL := fun ds h P => ∃ hs : List It, hs.length ≤ 1000 ∧ ds = [histD hs] ∧ P (.str (firsts hs)) h
def isStr : D → Option D
  | .str s => some (.str s)
  | _ => none
theorem firsts_map : ∀ hs : List It, (hs.map It.d).filterMap isStr = (firsts hs).map chD
  | [] => rfl
  | .ch c :: r => by
    have := firsts_map r
    simp [It.d, isStr, firsts, this, chD]
  | .bk n :: r => by
    have := firsts_map r
    show (D.int (n : Int) :: r.map It.d).filterMap isStr = _
    rw [List.filterMap_cons_none rfl, this]; rfl
theorem strs_ch : ∀ l : List Nat, strsOf (l.map chD) = some (l.map fun c => [c])
  | [] => rfl
  | c :: l => by
    show (strsOf (l.map chD)).map ([c] :: ·) = _
    rw [strs_ch l]; rfl
theorem join_ch : ∀ l : List Nat, joinL [] (l.map fun c => [c]) = l
  | [] => rfl
  | [c] => rfl
  | c :: d :: l => by
    show [c] ++ ([] ++ joinL [] ((d :: l).map fun c => [c])) = _
    rw [join_ch (d :: l)]; rfl
theorem firsts_len : ∀ hs : List It, (firsts hs).length ≤ hs.length
  | [] => Nat.le_refl _
  | .ch c :: r => by simpa [firsts] using firsts_len r
  | .bk n :: r => by have := firsts_len r; simp [firsts]; omega
theorem join_app {h : Hq} {l : List Nat} : (lstAt (h ++ [.lst (l.map chD)]) h.length).bind strsOf = some (l.map fun c => [c]) := by
  rw [lstAt_app, Option.bind_some, strs_ch]
theorem sum_ones : ∀ l : List Nat, ((l.map fun c => [c]).map List.length).sum = l.length
  | [] => rfl
  | c :: l => by
    have := sum_ones l
    simp only [List.map_cons, List.sum_cons, List.length_cons, List.length_nil] at *
    omega
theorem firsts_of_ok : ∀ ds h P, g_firsts_of ds h P → wF ws_firsts_of 2 1 ds h P := by
  rintro ds h P ⟨hs, hz, rfl, p⟩
  refine ⟨rfl, ?_⟩
  (conv => whnf); (try dsimp only)
  refine ⟨(by first | rfl | decide), ?_⟩; (conv => whnf); (try dsimp only)
  refine lc_pure (ds := hs.map It.d) isStr (by rw [List.length_map]; exact sl63 hz) ?_ (fun d hd acc kp sk h1 h2 => ?_) ?_
  · exact fun _ _ => rfl
  · obtain ⟨a, ha, rfl⟩ := List.mem_map.mp hd
    cases a with
    | ch c =>
      (conv => whnf); (try dsimp only)
      refine ⟨(by first | rfl | decide), ?_⟩; (conv => whnf); (try dsimp only)
      exact h1 _ rfl
    | bk n =>
      (conv => whnf); (try dsimp only)
      refine ⟨(by first | rfl | decide), ?_⟩; (conv => whnf); (try dsimp only)
      exact h2 rfl
  · rw [firsts_map]
    (conv => whnf); (try dsimp only)
    rw [join_app]
    (conv => whnf); (try dsimp only)
    have hf := firsts_len hs
    refine ⟨by have := sum_ones (firsts hs); simp only [List.length_map, List.length_nil, Nat.mul_zero, Nat.add_zero]; omega, take_app, rfl, ?_⟩
    rw [join_ch]
    exact gc_same rfl p
abbrev N_meant : List Str := ["history", "item", "found", "row"]
def ws_meant : WS := (wsSeq (wsPar 2 3 (waCons (wLst waNil) (waCons (wC (.str [])) waNil))) (wsSeq (wsFor (wiAny (wVar 0)) (wgPat (.nm 1)) (wsSeq (wsIf (wtTru (wCB bIsi (waCons (wVar 1) (waCons (wC (.con (.ty "str"))) waNil)))) (wsSeq (wsAug 3 gIadd (wVar 1)) (wsSeq (wsExpr (wBM "list" mAppend (wVar 2) (waCons (wVar 1) waNil))) wsNil)) (wsSeq (wsExpr (wBM "list" mAppend (wVar 2) (waCons (wOp gIx (wVar 3) (wUn gNeg (wVar 1))) waNil))) wsNil)) wsNil)) (wsSeq (wsRet (wVar 2)) wsNil)))
def g_meant : WL := fun ds h P => ∃ hs : List It, HOk Lett 0 hs ∧ hs.length ≤ 1000 ∧ ds = [histD hs] ∧ P (.ref h.length) (h ++ [.lst ((mean [] hs).map chD)])
theorem chs_sc (n : Nat) : ∀ l : List Nat, D.scL n (l.map chD) = true
  | [] => rfl
  | c :: l => by simp [D.scL, chD, D.sc, chs_sc n l]
theorem atI_neg {α : Type} {xs : List α} {n : Nat} {v : α} (h1 : 1 ≤ n) (h2 : n ≤ xs.length) (h : xs[xs.length - n]? = some v) : atI xs (-(n : Int)) = some v := by
  unfold atI ixN
  rw [if_neg (by omega), if_pos (by omega)]
  show xs[(-(n : Int) + xs.length).toNat]? = _
  rw [show (-(n : Int) + (xs.length : Int)).toNat = xs.length - n by omega]; exact h
theorem meant_ok : ∀ ds h P, g_meant ds h P → wF ws_meant 4 1 ds h P := by
  rintro ds h P ⟨hs, ok, hz, rfl, p⟩
  refine ⟨rfl, ?_⟩
  (conv => whnf); (try dsimp only)
  refine ⟨(by first | rfl | decide), ?_⟩; (conv => whnf); (try dsimp only)
  refine fo_list hs It.d (fun rest fr h' => h <+: h' ∧ ∃ (row f : List Nat) (x : Option D), fr = [some (histD hs), x, some (.ref h.length), some (.str row)] ∧ lstAt h' h.length = some (f.map chD) ∧ HOk Lett row.length rest ∧ f ++ mean row rest = mean [] hs ∧ f.length + rest.length = hs.length ∧ row.length ≤ f.length) ?_ ?_ ?_ ?_
  · exact fun _ _ _ _ _ => rfl
  · exact ⟨pre_app pre_refl, [], [], none, rfl, lstAt_app, ok, rfl, by simp, Nat.le_refl _⟩
  · rintro a rest fr h' ha ⟨pre, row, f, x, rfl, hl, hk, he, hn, hr⟩ k hk'
    have hL := lst_lt hl
    rw [List.length_cons] at hn
    cases a with
    | ch c =>
      (conv => whnf); (try dsimp only)
      refine ⟨(by first | rfl | decide), ?_⟩; (conv => whnf); (try dsimp only)
      refine ⟨sl63 (by simp; omega), ?_⟩
      (conv => whnf); (try dsimp only)
      refine ⟨ty_lst hl, ?_⟩
      (conv => whnf); (try dsimp only)
      rw [hl]
      refine ⟨Nat.lt_of_lt_of_le (show (f.map chD).length < 1001 by rw [List.length_map]; omega) (by rw [sizeLine_eq]; omega), ?_⟩
      refine hk' _ _ ⟨pre_set pre (Nat.le_refl _), row ++ [c], f ++ [c], _, rfl, ?_, by rw [List.length_append]; exact hk.2, ?_, by rw [List.length_append, List.length_singleton]; omega, by simp; exact hr⟩
      · rw [lst_set hl, List.map_append]; rfl
      · rw [← he, List.append_assoc]; rfl
    | bk n =>
      (conv => whnf); (try dsimp only)
      refine ⟨(by first | rfl | decide), ?_⟩; (conv => whnf); (try dsimp only)
      have hx : row.length - n < row.length := by have := hk.1; have := hk.2.1; omega
      refine ⟨ty_lst hl, ?_⟩
      (conv => whnf); (try dsimp only)
      rw [atI_neg hk.1 hk.2.1 (List.getElem?_eq_getElem hx)]
      (conv => whnf); (try dsimp only)
      rw [hl]
      refine ⟨Nat.lt_of_lt_of_le (show (f.map chD).length < 1001 by rw [List.length_map]; omega) (by rw [sizeLine_eq]; omega), ?_⟩
      refine hk' _ _ ⟨pre_set pre (Nat.le_refl _), row, f ++ [row[row.length - n]], _, rfl, ?_, hk.2.2, ?_, by rw [List.length_append, List.length_singleton]; omega, by simp; omega⟩
      · rw [lst_set hl, List.map_append]; rfl
      · rw [← he, List.append_assoc]
        show f ++ ([_] ++ _) = f ++ (row[row.length - n]?.getD 0 :: _)
        rw [List.getElem?_eq_getElem hx]; rfl
  · rintro fr h' ⟨pre, row, f, x, rfl, hl, hk, he, hn, hr⟩
    have : f = mean [] hs := by rw [← he]; simp [mean]
    rw [this] at hl
    (conv => whnf); (try dsimp only)
    exact gc_lstp pre (Nat.le_refl _) hl (chs_sc _ _) p
end MP

namespace MP
open PySem PySem.Spec PyProof.Rows L2
abbrev N_need_service : List Str := ["value"]
def ws_need_service : WS := (wsSeq (wsIf (wtNot (wtTru (wCB g_is_service (waCons (wVar 0) waNil)))) (wsSeq wsNever wsNil) wsNil) wsNil)
def g_need_service : WL := fun ds h P => ∃ s : Svc, s.Ok ∧ ds = [s.d] ∧ P .non h
theorem need_service_ok : ∀ ds h P, g_need_service ds h P → wF ws_need_service 1 1 ds h P := by
  rintro ds h P ⟨s, ok, rfl, p⟩
  refine ⟨rfl, s, ok, rfl, ?_⟩
  (conv => whnf); (try dsimp only)
  exact gc_same rfl p
abbrev N_fits : List Str := ["service", "lot", "window", "value", "again", "item", "ask"]
def ws_fits : WS := (wsSeq (wsIf (wtOr (wtNot (wtTru (wCB g_is_items (waCons (wVar 3) waNil)))) (wtNot (wtTru (wGc (wCB bAll (waCons (wLc (wiAny (wCB g_meant (waCons (wVar 3) waNil))) (.nm 6) wtYes (wOp (gIn false) (wVar 6) (wOp gIx (wVar 0) (wC (.int 0)))) [6]) waNil)))))) (wsSeq (wsRet (wC (.bl false))) wsNil) wsNil) (wsSeq (wsAsg (wgPat (.nm 4)) (wLc (wiZip (waCons (wVar 3) (waCons (wCB g_meant (waCons (wVar 3) waNil)) waNil))) (.tp (.cons (.nm 5) (.cons (.nm 6) .nil))) (wtNot (wtTru (wCB bIsi (waCons (wVar 5) (waCons (wC (.con (.ty "str"))) waNil))))) (wTup (waCons (wVar 5) (waCons (wVar 6) waNil))) [5, 6])) (wsSeq (wsRet (wGc (wCB bAll (waCons (wLc (wiAny (wVar 4)) (.tp (.cons (.nm 5) (.cons (.nm 6) .nil))) wtYes (wAnd (wOp (gIn false) (wVar 6) (wVar 1)) (wOr (wOp (isD false) (wVar 2) (wC .non)) (wOp gLe (wVar 5) (wVar 2)))) [5, 6]) waNil)))) wsNil)))
def g_fits : WL := fun ds h P => ∃ (s : Svc) (hs : List It), s.Ok ∧ HOk (· ∈ s.asks) 0 hs ∧ hs.length ≤ 60 ∧ ds = [s.d, .str s.asks, .non, histD hs] ∧ P (.bl true) h
def isTI : D → Option D
  | .tup [.int n, a] => some (.tup [.int n, a])
  | _ => none
theorem fits_ok : ∀ ds h P, g_fits ds h P → wF ws_fits 7 4 ds h P := by
  rintro ds h P ⟨s, hs, ok, hk, hz, rfl, p⟩
  have hkl : HOk Lett 0 hs := hk.imp ok.az
  have hml : ((mean [] hs).map chD).length = hs.length := by rw [List.length_map, mean_len]
  have hmi : ∀ c ∈ mean [] hs, c ∈ s.asks := mean_in (row := []) (by simp) hk
  refine ⟨rfl, hs, hkl, hz, rfl, ?_⟩
  (conv => whnf); (try dsimp only)
  refine ⟨hs, hkl, by omega, rfl, ?_⟩
  (conv => whnf); (try dsimp only)
  simp only [src_lst lstAt_app]
  refine all_lc (h := h ++ [.lst ((mean [] hs).map chD)]) (ds := (mean [] hs).map chD) (by rw [hml]; exact sl63 (by omega)) (fun i acc => tick_lst (lst_app1 lstAt_app)) (fun d hd acc Q q => ?_) ?_
  · obtain ⟨c, hc, rfl⟩ := List.mem_map.mp hd
    refine ⟨_, rfl, ?_⟩
    (conv => whnf); (try dsimp only)
    rw [decide_eq_true (hmi c hc)]
    exact q
  · (conv => whnf); (try dsimp only); simp only [bls_app, bls_app2]; (conv => whnf); (try dsimp only); refine ⟨(by first | exact take_app | exact take_pre (by assumption) | exact take_pre (pre_app (by assumption)) | exact take_pre (pre_app (pre_app pre_refl))), rfl, ?_⟩; simp only [all_rep]; (conv => whnf); (try dsimp only)
    refine ⟨hs, hkl, by omega, rfl, ?_⟩
    (conv => whnf); (try dsimp only)
    simp only [src_lst lstAt_app, show srcOf (h ++ [.lst ((mean [] hs).map chD)]) (histD hs) = some (.fix (hs.map It.d)) from rfl]
    refine lc_pure (h := h ++ [.lst ((mean [] hs).map chD)]) (ds := List.zipWith (fun x y => D.tup [x, y]) (hs.map It.d) ((mean [] hs).map chD)) isTI (by rw [List.length_zipWith, hml, List.length_map]; exact sl63 (by omega)) (fun i acc => tick_zip (a := .fix (hs.map It.d)) (b := .lst h.length) rfl (tick_lst (lst_app1 lstAt_app))) (fun d hd acc kp sk h1 h2 => ?_) ?_
    · obtain ⟨x, hx, y, hy, rfl⟩ := mem_zw hd
      obtain ⟨c, hc, rfl⟩ := List.mem_map.mp hy
      obtain ⟨a, ha, rfl⟩ := List.mem_map.mp hx
      cases a with
      | ch z =>
        (conv => whnf); (try dsimp only)
        refine ⟨(by first | rfl | decide), ?_⟩; (conv => whnf); (try dsimp only)
        exact h2 rfl
      | bk n =>
        (conv => whnf); (try dsimp only)
        refine ⟨(by first | rfl | decide), ?_⟩; (conv => whnf); (try dsimp only)
        exact ⟨sl63 (by simp), h1 _ rfl⟩
    · (conv => whnf); (try dsimp only)
      simp only [src_lst lstAt_app]
      have hin : ∀ d ∈ (List.zipWith (fun x y => D.tup [x, y]) (hs.map It.d) ((mean [] hs).map chD)).filterMap isTI, ∃ (n : Int) (c : Nat), d = .tup [.int n, chD c] ∧ c ∈ s.asks := by
        intro d hd
        obtain ⟨e, he, hq⟩ := List.mem_filterMap.mp hd
        obtain ⟨x, hx, y, hy, rfl⟩ := mem_zw he
        obtain ⟨c, hc, rfl⟩ := List.mem_map.mp hy
        obtain ⟨a, ha, rfl⟩ := List.mem_map.mp hx
        cases a with
        | ch z => cases hq
        | bk n => cases hq; exact ⟨n, c, rfl, hmi c hc⟩
      have hfl : ((List.zipWith (fun x y => D.tup [x, y]) (hs.map It.d) ((mean [] hs).map chD)).filterMap isTI).length ≤ 60 := by
        refine Nat.le_trans (List.length_filterMap_le _ _) ?_
        rw [List.length_zipWith, hml, List.length_map]; omega
      generalize (List.zipWith (fun x y => D.tup [x, y]) (hs.map It.d) ((mean [] hs).map chD)).filterMap isTI = L at hin hfl
      refine all_lc (h := h ++ [.lst ((mean [] hs).map chD)] ++ [.lst L]) (ds := L) (sl63 (by omega)) (fun i acc => tick_lst (lst_app1 lstAt_app)) (fun d hd acc Q q => ?_) ?_
      · obtain ⟨n, c, rfl, hc⟩ := hin d hd
        refine ⟨_, rfl, ?_⟩
        (conv => whnf); (try dsimp only)
        (generalize hdec : decide (c ∈ s.asks) = bdec; obtain rfl : bdec = true := hdec.symm.trans (decide_eq_true (hc)); clear hdec; (conv => whnf); (try dsimp only))
        exact q
      · (conv => whnf); (try dsimp only); simp only [bls_app, bls_app2]; (conv => whnf); (try dsimp only); refine ⟨(by first | exact take_app | exact take_pre (by assumption) | exact take_pre (pre_app (by assumption)) | exact take_pre (pre_app (pre_app pre_refl))), rfl, ?_⟩; simp only [all_rep]; (conv => whnf); (try dsimp only)
        exact gc_pre (pre_app (pre_app pre_refl)) rfl p
abbrev N_need_history : List Str := ["service", "value"]
def ws_need_history : WS := (wsSeq (wsExpr (wCB g_need_service (waCons (wVar 0) waNil))) (wsSeq (wsIf (wtNot (wtTru (wCB g_fits (waCons (wVar 0) (waCons (wOp gIx (wVar 0) (wC (.int 0))) (waCons (wC .non) (waCons (wVar 1) waNil))))))) (wsSeq wsNever wsNil) wsNil) wsNil))
def g_need_history : WL := fun ds h P => ∃ (s : Svc) (hs : List It), s.Ok ∧ HOk (· ∈ s.asks) 0 hs ∧ hs.length ≤ 60 ∧ ds = [s.d, histD hs] ∧ P .non h
theorem need_history_ok : ∀ ds h P, g_need_history ds h P → wF ws_need_history 2 2 ds h P := by
  rintro ds h P ⟨s, hs, ok, hk, hz, rfl, p⟩
  refine ⟨rfl, s, ok, rfl, s, hs, ok, hk, hz, rfl, ?_⟩
  (conv => whnf); (try dsimp only)
  exact gc_same rfl p
abbrev N_need_clerk : List Str := ["value"]
def ws_need_clerk : WS := (wsSeq (wsIf (wtOr (wtNot (wtTru (wCB bIsi (waCons (wVar 0) (waCons (wC (.con (.ty "tuple"))) waNil))))) (wtOr (wtB (wOp gNe (wCB bLen (waCons (wVar 0) waNil)) (wC (.int 2)))) (wtNot (wtTru (wCB g_is_from (waCons (wOp gIx (wVar 0) (wC (.int 0))) (waCons (wC (.int 1)) (waCons (wC (.int 41)) waNil)))))))) (wsSeq wsNever wsNil) wsNil) (wsSeq (wsIf (wtNot (wtTru (wCB g_is_from (waCons (wOp gIx (wVar 0) (wC (.int 1))) (waCons (wC (.int 0)) (waCons (wC (.int 41)) waNil)))))) (wsSeq wsNever wsNil) wsNil) wsNil))
def clkD (m k : Nat) : D := .tup [.int m, .int k]
def g_need_clerk : WL := fun ds h P => ∃ m k : Nat, 1 ≤ m ∧ m ≤ 41 ∧ k ≤ 41 ∧ ds = [clkD m k] ∧ P .non h
theorem need_clerk_ok : ∀ ds h P, g_need_clerk ds h P → wF ws_need_clerk 1 1 ds h P := by
  rintro ds h P ⟨m, k, h1, h2, h3, rfl, p⟩
  refine ⟨rfl, ?_⟩
  (conv => whnf); (try dsimp only)
  refine ⟨(by first | rfl | decide), ?_⟩; (conv => whnf); (try dsimp only)
  refine ⟨_, _, _, rfl, ⟨by omega, by omega⟩, ?_⟩
  (conv => whnf); (try dsimp only)
  refine ⟨_, _, _, rfl, ⟨by omega, by omega⟩, ?_⟩
  (conv => whnf); (try dsimp only)
  exact gc_same rfl p
abbrev N_need_args : List Str := ["service", "clerk", "history"]
def ws_need_args : WS := (wsSeq (wsExpr (wCB g_need_history (waCons (wVar 0) (waCons (wTup waNil) waNil)))) (wsSeq (wsExpr (wCB g_need_clerk (waCons (wVar 1) waNil))) (wsSeq (wsExpr (wCB g_need_history (waCons (wVar 0) (waCons (wVar 2) waNil)))) wsNil)))
def g_need_args : WL := fun ds h P => ∃ (s : Svc) (m k : Nat) (hs : List It), s.Ok ∧ (1 ≤ m ∧ m ≤ 41 ∧ k ≤ 41) ∧ HOk (· ∈ s.asks) 0 hs ∧ hs.length ≤ 60 ∧ ds = [s.d, clkD m k, histD hs] ∧ P .non h
theorem need_args_ok : ∀ ds h P, g_need_args ds h P → wF ws_need_args 3 3 ds h P := by
  rintro ds h P ⟨s, m, k, hs, ok, ⟨h1, h2, h3⟩, hk, hz, rfl, p⟩
  refine ⟨rfl, ?_⟩
  (conv => whnf); (try dsimp only)
  refine ⟨Nat.zero_le _, s, [], ok, trivial, Nat.zero_le _, rfl, m, k, h1, h2, h3, rfl, s, hs, ok, hk, hz, rfl, ?_⟩
  exact gc_same rfl p
abbrev N_numbers_of : List Str := ["m", "history", "item", "found", "many"]
def ws_numbers_of : WS := (wsSeq (wsPar 3 4 (waCons (wLst waNil) (waCons (wC (.int 0)) waNil))) (wsSeq (wsFor (wiAny (wVar 1)) (wgPat (.nm 2)) (wsSeq (wsIf (wtTru (wCB bIsi (waCons (wVar 2) (waCons (wC (.con (.ty "str"))) waNil)))) (wsSeq (wsExpr (wBM "list" mAppend (wVar 3) (waCons (wOp gMod (wVar 4) (wVar 0)) waNil))) (wsSeq (wsAug 4 gIadd (wC (.int 1))) wsNil)) (wsSeq (wsExpr (wBM "list" mAppend (wVar 3) (waCons (wOp gMod (wOp gSub (wVar 4) (wVar 2)) (wVar 0)) waNil))) wsNil)) wsNil)) (wsSeq (wsRet (wVar 3)) wsNil)))
def nums (m : Nat) : Nat → List It → List Nat
  | _, [] => []
  | j, .ch _ :: r => j % m :: nums m (j + 1) r
  | j, .bk n :: r => (j - n) % m :: nums m j r
def intD (n : Nat) : D := .int n
theorem ints_sc (n : Nat) : ∀ l : List Nat, D.scL n (l.map intD) = true
  | [] => rfl
  | c :: l => by simp [D.scL, intD, D.sc, ints_sc n l]
theorem nums_len (m : Nat) : ∀ (j : Nat) (l : List It), (nums m j l).length = l.length
  | _, [] => rfl
  | j, .ch c :: r => by simp [nums, nums_len]
  | j, .bk n :: r => by simp [nums, nums_len]
def g_numbers_of : WL := fun ds h P => ∃ (m : Nat) (hs : List It), 1 ≤ m ∧ HOk Lett 0 hs ∧ hs.length ≤ 1000 ∧ ds = [.int m, histD hs] ∧ P (.ref h.length) (h ++ [.lst ((nums m 0 hs).map intD)])
theorem numbers_of_ok : ∀ ds h P, g_numbers_of ds h P → wF ws_numbers_of 5 2 ds h P := by
  rintro ds h P ⟨m, hs, hm, ok, hz, rfl, p⟩
  refine ⟨rfl, ?_⟩
  (conv => whnf); (try dsimp only)
  refine ⟨(by first | rfl | decide), ?_⟩; (conv => whnf); (try dsimp only)
  refine fo_list hs It.d (fun rest fr h' => h <+: h' ∧ ∃ (j : Nat) (f : List Nat) (x : Option D), fr = [some (.int m), some (histD hs), x, some (.ref h.length), some (.int (j : Int))] ∧ lstAt h' h.length = some (f.map intD) ∧ HOk Lett j rest ∧ f ++ nums m j rest = nums m 0 hs ∧ f.length + rest.length = hs.length) ?_ ?_ ?_ ?_
  · exact fun _ _ _ _ _ => rfl
  · exact ⟨pre_app pre_refl, 0, [], none, rfl, lstAt_app, ok, rfl, by simp⟩
  · rintro a rest fr h' ha ⟨pre, j, f, x, rfl, hl, hk, he, hn⟩ k hk'
    rw [List.length_cons] at hn
    have hL : (f.map intD).length < sizeLine := Nat.lt_of_lt_of_le (show (f.map intD).length < 1001 by rw [List.length_map]; omega) (by rw [sizeLine_eq]; omega)
    cases a with
    | ch c =>
      (conv => whnf); (try dsimp only)
      refine ⟨(by first | rfl | decide), ?_⟩; (conv => whnf); (try dsimp only)
      refine ⟨ty_lst hl, ?_⟩
      (conv => whnf); (try dsimp only)
      refine ⟨by omega, ?_⟩
      (conv => whnf); (try dsimp only)
      rw [hl]
      refine ⟨hL, ?_⟩
      refine hk' _ _ ⟨pre_set pre (Nat.le_refl _), j + 1, f ++ [j % m], _, rfl, ?_, hk.2, ?_, by rw [List.length_append, List.length_singleton]; omega⟩
      · rw [lst_set hl, List.map_append]; rfl
      · rw [← he, List.append_assoc]; rfl
    | bk n =>
      (conv => whnf); (try dsimp only)
      refine ⟨(by first | rfl | decide), ?_⟩; (conv => whnf); (try dsimp only)
      refine ⟨ty_lst hl, ?_⟩
      (conv => whnf); (try dsimp only)
      refine ⟨by omega, ?_⟩
      (conv => whnf); (try dsimp only)
      rw [hl]
      refine ⟨hL, ?_⟩
      refine hk' _ _ ⟨pre_set pre (Nat.le_refl _), j, f ++ [(j - n) % m], _, rfl, ?_, hk.2.2, ?_, by rw [List.length_append, List.length_singleton]; omega⟩
      · have hc : (j : Int) - (n : Int) = ((j - n : Nat) : Int) := by have := hk.2.1; omega
        rw [lst_set hl, List.map_append, hc]; rfl
      · rw [← he, List.append_assoc]; rfl
  · rintro fr h' ⟨pre, j, f, x, rfl, hl, hk, he, hn⟩
    have : f = nums m 0 hs := by rw [← he]; simp [nums]
    rw [this] at hl
    (conv => whnf); (try dsimp only)
    exact gc_lstp pre (Nat.le_refl _) hl (ints_sc _ _) p
abbrev N_need_number : List Str := ["value"]
def ws_need_number : WS := (wsSeq (wsIf (wtNot (wtTru (wCB g_is_from (waCons (wVar 0) (waCons (wC (.int 0)) (waCons (wC (.int 40)) waNil)))))) (wsSeq wsNever wsNil) wsNil) wsNil)
def g_need_number : WL := fun ds h P => ∃ n : Nat, n ≤ 40 ∧ ds = [.int n] ∧ P .non h
theorem need_number_ok : ∀ ds h P, g_need_number ds h P → wF ws_need_number 1 1 ds h P := by
  rintro ds h P ⟨n, h1, rfl, p⟩
  refine ⟨rfl, ?_⟩
  (conv => whnf); (try dsimp only)
  refine ⟨_, _, _, rfl, ⟨by omega, by omega⟩, ?_⟩
  (conv => whnf); (try dsimp only)
  exact gc_same rfl p
abbrev N_does_do : List Str := ["clerk", "window"]
def ws_does_do : WS := (wsSeq (wsRet (wAnd (wOp gGt (wOp gIx (wVar 0) (wC (.int 0))) (wVar 1)) (wOp gGe (wOp gIx (wVar 0) (wC (.int 1))) (wVar 1)))) wsNil)
def g_does_do : WL := fun ds h P => ∃ m k w : Nat, ds = [clkD m k, .int w] ∧ P (.bl (decide (w < m) && decide (w ≤ k))) h
theorem does_do_ok : ∀ ds h P, g_does_do ds h P → wF ws_does_do 2 2 ds h P := by
  rintro ds h P ⟨m, k, w, rfl, p⟩
  refine ⟨rfl, ?_⟩
  (conv => whnf); (try dsimp only)
  by_cases h1 : w < m
  · (generalize hdec : decide ((w : Int) < (m : Int)) = bdec; obtain rfl : bdec = true := hdec.symm.trans (decide_eq_true (by omega)); clear hdec; (conv => whnf); (try dsimp only))
    rw [decide_eq_true h1, Bool.true_and] at p
    have e : decide ((w : Int) ≤ (k : Int)) = decide (w ≤ k) := by simp
    rw [e]
    exact gc_same rfl p
  · (generalize hdec : decide ((w : Int) < (m : Int)) = bdec; obtain rfl : bdec = false := hdec.symm.trans (decide_eq_false (by omega)); clear hdec; (conv => whnf); (try dsimp only))
    rw [decide_eq_false h1, Bool.false_and] at p
    exact gc_same rfl p
abbrev N_is_enough : List Str := ["clerk", "window"]
def ws_is_enough : WS := (wsSeq (wsExpr (wCB g_need_clerk (waCons (wVar 0) waNil))) (wsSeq (wsExpr (wCB g_need_number (waCons (wVar 1) waNil))) (wsSeq (wsRet (wCB g_does_do (waCons (wVar 0) (waCons (wVar 1) waNil)))) wsNil)))
def g_is_enough : WL := fun ds h P => ∃ m k w : Nat, 1 ≤ m ∧ m ≤ 41 ∧ k ≤ 41 ∧ w ≤ 40 ∧ ds = [clkD m k, .int w] ∧ P (.bl (decide (w < m) && decide (w ≤ k))) h
theorem is_enough_ok : ∀ ds h P, g_is_enough ds h P → wF ws_is_enough 2 2 ds h P := by
  rintro ds h P ⟨m, k, w, h1, h2, h3, h4, rfl, p⟩
  refine ⟨rfl, m, k, h1, h2, h3, rfl, w, h4, rfl, m, k, w, rfl, ?_⟩
  exact gc_same rfl p
end MP

namespace MP
open PySem PySem.Spec PyProof.Rows L2
def toldL (x : Nat) (l : List (Nat × Nat)) : List Nat := (l.filter fun p => p.1 == x).map (·.2)
def lastOf (l : List Nat) : List Nat := match l.getLast? with
  | some a => [a]
  | none => []
def lastK (k : Nat) (l : List (Nat × Nat)) : List (Nat × Nat) := l.drop (l.length - k)
def srv (s : Svc) (m k : Nat) : Nat → Nat → List (Nat × Nat) → List (Nat × Nat) → List (List Nat)
  | _, _, _, [] => []
  | now, new, kept, (a, x) :: r => if x = new then [(s.step now a).2] :: srv s m k (s.step now a).1 ((new + 1) % m) (kept ++ [(x, (s.step now a).2)]) r
      else lastOf (toldL x (lastK k kept)) :: srv s m k now new kept r
def clerkL (s : Svc) (m k : Nat) (hs : List It) : List (List Nat) := srv s m k 0 0 [] (List.zip (mean [] hs) (nums m 0 hs))
def kD (p : Nat × Nat) : D := .tup [.int p.1, .str [p.2]]
theorem lastK_app (k : Nat) (l : List (Nat × Nat)) (x : Nat × Nat) (h : 1 ≤ k) : lastK k (lastK k l ++ [x]) = lastK k (l ++ [x]) := by
  unfold lastK
  by_cases hk : k ≤ l.length
  · rw [List.length_append, List.length_drop, List.length_append, List.length_singleton]
    rw [show l.length - (l.length - k) + 1 - k = 1 by omega, show l.length + 1 - k = (l.length - k) + 1 by omega]
    rw [List.drop_append_of_le_length (by rw [List.length_drop]; omega), List.drop_append_of_le_length (by omega), List.drop_drop]
  · rw [show l.length - k = 0 by omega, List.drop_zero]
theorem lastK_zero (l : List (Nat × Nat)) : lastK 0 l = [] := by unfold lastK; rw [Nat.sub_zero, List.drop_length]
theorem lastK_len (k : Nat) (l : List (Nat × Nat)) : (lastK k l).length ≤ l.length := by unfold lastK; rw [List.length_drop]; omega
theorem drop_map {α β : Type} (f : α → β) (l : List α) (n : Nat) : (l.map f).drop n = (l.drop n).map f := by rw [List.map_drop]
def isK (x : Nat) : D → Option D
  | .tup [.int y, a] => if y = (x : Int) then some a else none
  | _ => none
theorem isK_map (x : Nat) : ∀ l : List (Nat × Nat), (l.map kD).filterMap (isK x) = (toldL x l).map chD
  | [] => rfl
  | p :: l => by
    have ih := isK_map x l
    unfold toldL at *
    by_cases h : p.1 = x
    · have e : isK x (kD p) = some (chD p.2) := by show (if ((p.1 : Nat) : Int) = (x : Int) then some _ else none) = _; rw [if_pos (by omega)]; rfl
      rw [List.map_cons, List.filterMap_cons_some e, ih, List.filter_cons_of_pos (by simpa using h)]; rfl
    · have e : isK x (kD p) = none := by show (if ((p.1 : Nat) : Int) = (x : Int) then some _ else none) = _; rw [if_neg (by omega)]
      rw [List.map_cons, List.filterMap_cons_none e, ih, List.filter_cons_of_neg (by simpa using h)]
theorem chs_ok (n : Nat) : ∀ l : List Nat, (l.map chD).all (okD n) = true
  | [] => rfl
  | c :: l => by
    rw [List.map_cons, List.all_cons, chs_ok n l]
    cases n <;> rfl
theorem deqL_nil (l : List D) : deqL l [] = l.isEmpty := by cases l <;> rfl
def strD (l : List Nat) : D := .str l
theorem last_told (l : List Nat) (hne : l ≠ []) : ∃ a, l.getLast? = some a ∧ lastOf l = [a] ∧ atI (l.map chD) (-((1 : Nat) : Int)) = some (chD a) := by
  have hlen : 0 < l.length := List.length_pos_iff.mpr hne
  have e : l[l.length - 1]? = some (l.getLast hne) := by rw [← List.getLast?_eq_getElem?, List.getLast?_eq_some_getLast hne]
  refine ⟨l.getLast hne, List.getLast?_eq_some_getLast hne, by unfold lastOf; rw [List.getLast?_eq_some_getLast hne], ?_⟩
  refine atI_neg (Nat.le_refl _) (by rw [List.length_map]; omega) ?_
  rw [List.length_map, List.getElem?_map, e]; rfl
theorem strs_sc (n : Nat) : ∀ l : List (List Nat), D.scL n (l.map strD) = true
  | [] => rfl
  | c :: l => by simp [D.scL, strD, D.sc, strs_sc n l]
theorem zip_map (xs ys : List Nat) : (List.zip xs ys).map (fun y => D.tup [chD y.1, intD y.2]) = List.zipWith (fun x y => D.tup [x, y]) (xs.map chD) (ys.map intD) := by
  rw [List.zipWith_map, List.zip_eq_zipWith, List.map_zipWith]
theorem cut_kept (k : Nat) (kf : List (Nat × Nat)) (x a : Nat) (h : 1 ≤ k) : cutL ((lastK k kf).map kD ++ [.tup [.int (x : Int), .str [a]]]) (some (-(k : Int))) none = (lastK k (kf ++ [(x, a)])).map kD := by
  rw [cut_neg h, ← lastK_app k kf (x, a) h]
  have e : (lastK k kf).map kD ++ [.tup [.int (x : Int), .str [a]]] = (lastK k kf ++ [(x, a)]).map kD := by rw [List.map_append]; rfl
  rw [e, List.length_map]
  exact drop_map _ _ _
abbrev N_served : List Str := ["service", "clerk", "history", "m", "k", "now", "new", "kept", "found", "ask", "number", "told", "answer", "other", "one"]
def ws_served : WS := (wsSeq (wsAsg (wgPat (.tp (.cons (.nm 3) (.cons (.nm 4) .nil)))) (wVar 1)) (wsSeq (wsAsg (wgPat (.tp (.cons (.nm 5) (.cons (.nm 6) (.cons (.nm 7) (.cons (.nm 8) .nil)))))) (wTup (waCons (wC (.int 0)) (waCons (wC (.int 0)) (waCons (wLst waNil) (waCons (wLst waNil) waNil)))))) (wsSeq (wsFor (wiZip (waCons (wCB g_meant (waCons (wVar 2) waNil)) (waCons (wCB g_numbers_of (waCons (wVar 3) (waCons (wVar 2) waNil))) waNil))) (wgPat (.tp (.cons (.nm 9) (.cons (.nm 10) .nil)))) (wsSeq (wsIf (wtB (wOp gEq (wVar 10) (wVar 6))) (wsSeq (wsAsg (wgPat (.tp (.cons (.nm 5) (.cons (.nm 12) .nil)))) (wCB g_step_of (waCons (wVar 0) (waCons (wVar 5) (waCons (wVar 9) waNil))))) (wsSeq (wsAsg (wgPat (.nm 7)) (wIf (wtB (wOp gGt (wVar 4) (wC (.int 0)))) (wSl (wLst (waStar (wVar 7) (waCons (wTup (waCons (wVar 10) (waCons (wVar 12) waNil))) waNil))) (woSome (wUn gNeg (wVar 4))) woNone) (wLst waNil))) (wsSeq (wsAsg (wgPat (.nm 6)) (wOp gMod (wOp gAdd (wVar 6) (wC (.int 1))) (wVar 3))) wsNil))) (wsSeq (wsAsg (wgPat (.nm 11)) (wLc (wiAny (wVar 7)) (.tp (.cons (.nm 13) (.cons (.nm 14) .nil))) (wtB (wOp gEq (wVar 13) (wVar 10))) (wVar 14) [13, 14])) (wsSeq (wsAsg (wgPat (.nm 12)) (wIf (wtB (wOp gNe (wVar 11) (wLst waNil))) (wOp gIx (wVar 11) (wUn gNeg (wC (.int 1)))) (wC (.str [])))) wsNil))) (wsSeq (wsExpr (wBM "list" mAppend (wVar 8) (waCons (wVar 12) waNil))) wsNil))) (wsSeq (wsRet (wVar 8)) wsNil))))
def g_served : WL := fun ds h P => ∃ (s : Svc) (m k : Nat) (hs : List It), s.Ok ∧ 1 ≤ m ∧ HOk (· ∈ s.asks) 0 hs ∧ hs.length ≤ 60 ∧ ds = [s.d, clkD m k, histD hs] ∧ P (.ref h.length) (h ++ [.lst ((clerkL s m k hs).map strD)])
theorem served_ok : ∀ ds h P, g_served ds h P → wF ws_served 15 3 ds h P := by
  rintro ds h P ⟨s, m, k, hs, ok, hm, hk, hz, rfl, hP⟩
  have hkl : HOk Lett 0 hs := hk.imp ok.az
  refine ⟨rfl, ?_⟩
  (conv => whnf); (try dsimp only)
  refine ⟨sl63 (by simp), ?_⟩
  (conv => whnf); (try dsimp only)
  refine ⟨sl63 (by simp), ?_⟩
  (conv => whnf); (try dsimp only)
  refine ⟨sl63 (by simp), ?_⟩
  (conv => whnf); (try dsimp only)
  refine ⟨hs, hkl, by omega, rfl, ?_⟩
  (conv => whnf); (try dsimp only)
  refine ⟨m, hs, hm, hkl, by omega, rfl, ?_⟩
  (conv => whnf); (try dsimp only)
  have pre0 : h <+: h ++ [Ob.lst []] ++ [Ob.lst []] ++ [Ob.lst ((mean [] hs).map chD)] ++ [Ob.lst ((nums m 0 hs).map intD)] := pre_app (pre_app (pre_app (pre_app pre_refl)))
  have l1 : lstAt (h ++ [Ob.lst []] ++ [Ob.lst []] ++ [Ob.lst ((mean [] hs).map chD)] ++ [Ob.lst ((nums m 0 hs).map intD)]) h.length = some [] := lst_app1 (lst_app1 (lst_app1 lstAt_app))
  have l2 : lstAt (h ++ [Ob.lst []] ++ [Ob.lst []] ++ [Ob.lst ((mean [] hs).map chD)] ++ [Ob.lst ((nums m 0 hs).map intD)]) (h ++ [Ob.lst []]).length = some [] := lst_app1 (lst_app1 lstAt_app)
  have l3 : lstAt (h ++ [Ob.lst []] ++ [Ob.lst []] ++ [Ob.lst ((mean [] hs).map chD)] ++ [Ob.lst ((nums m 0 hs).map intD)]) (h ++ [Ob.lst []] ++ [Ob.lst []]).length = some ((mean [] hs).map chD) := lst_app1 lstAt_app
  have l4 : lstAt (h ++ [Ob.lst []] ++ [Ob.lst []] ++ [Ob.lst ((mean [] hs).map chD)] ++ [Ob.lst ((nums m 0 hs).map intD)]) (h ++ [Ob.lst []] ++ [Ob.lst []] ++ [Ob.lst ((mean [] hs).map chD)]).length = some ((nums m 0 hs).map intD) := lstAt_app
  simp only [src_lst l3, src_lst l4]
  have q1 : (h ++ [Ob.lst []]).length = h.length + 1 := by simp
  have q2 : (h ++ [Ob.lst []] ++ [Ob.lst []]).length = h.length + 2 := by simp
  have q3 : (h ++ [Ob.lst []] ++ [Ob.lst []] ++ [Ob.lst ((mean [] hs).map chD)]).length = h.length + 3 := by simp
  generalize (h ++ [Ob.lst []]).length = q at *
  generalize (h ++ [Ob.lst []] ++ [Ob.lst []]).length = pm at *
  generalize (h ++ [Ob.lst []] ++ [Ob.lst []] ++ [Ob.lst ((mean [] hs).map chD)]).length = pn at *
  generalize h ++ [Ob.lst []] ++ [Ob.lst []] ++ [Ob.lst ((mean [] hs).map chD)] ++ [Ob.lst ((nums m 0 hs).map intD)] = h0 at *
  have hzl : (List.zip (mean [] hs) (nums m 0 hs)).length = hs.length := by rw [List.length_zip, mean_len, nums_len, Nat.min_self]
  refine fo_list (List.zip (mean [] hs) (nums m 0 hs)) (fun y => D.tup [chD y.1, intD y.2]) (fun rest fr h' => h <+: h' ∧ ∃ (now new : Nat) (kf : List (Nat × Nat)) (f : List (List Nat)) (p : Nat) (x9 x10 x11 x12 : Option D),
    fr = [some s.d, some (clkD m k), some (histD hs), some (.int m), some (.int k), some (.int now), some (.int new), some (.ref p), some (.ref q), x9, x10, x11, x12, none, none] ∧
    lstAt h' p = some ((lastK k kf).map kD) ∧ p ≠ q ∧ lstAt h' q = some (f.map strD) ∧ lstAt h' pm = some ((mean [] hs).map chD) ∧ lstAt h' pn = some ((nums m 0 hs).map intD) ∧ now < s.rows.length ∧ (∀ y ∈ rest, y.1 ∈ s.asks) ∧
    f ++ srv s m k now new kf rest = clerkL s m k hs ∧ f.length + rest.length = hs.length ∧ kf.length ≤ f.length) ?_ ?_ ?_ ?_
  · rintro rest fr h' i ⟨pre, now, new, kf, f, p, x9, x10, x11, x12, rfl, e1, e2, e3, e4, e5, e6⟩
    rw [zip_map]
    exact tick_zip (tick_lst e4) (tick_lst e5)
  · exact ⟨pre0, 0, 0, [], [], h.length, none, none, none, none, rfl, (by rw [show lastK k [] = [] by simp [lastK]]; exact l1), by omega, l2, l3, l4, by have := ok.r1; omega, fun y hy => mean_in (row := []) (by simp) hk _ (List.of_mem_zip hy).1, rfl, by rw [hzl]; simp, Nat.le_refl _⟩
  · rintro ⟨a, x⟩ rest fr h' ha ⟨pre, now, new, kf, f, p, x9, x10, x11, x12, rfl, e1, e2, e3, e4, e5, e6, e7, e8, e9, e10⟩ K hK
    have hin := e7 (a, x) (by simp)
    have e7' : ∀ y ∈ rest, y.1 ∈ s.asks := fun y hy => e7 y (by simp [hy])
    rw [List.length_cons] at e9
    (conv => whnf); (try dsimp only)
    by_cases hxn : x = new
    · subst hxn
      (generalize hdec : deq (intD x) (.int (x : Int)) = bdec; obtain rfl : bdec = true := hdec.symm.trans (deq_int rfl); clear hdec; (conv => whnf); (try dsimp only))
      refine ⟨s, now, a, ok, e6, hin, rfl, ?_⟩
      (conv => whnf); (try dsimp only)
      by_cases hk0 : 0 < k
      · (generalize hdec : decide ((0 : Int) < (k : Int)) = bdec; obtain rfl : bdec = true := hdec.symm.trans (decide_eq_true (by omega)); clear hdec; (conv => whnf); (try dsimp only))
        simp only [show seqOf h' (.ref p) = some _ from e1]
        refine ⟨sl63 (by simp), ?_⟩
        (conv => whnf); (try dsimp only)
        refine ⟨sl63 (by have := lastK_len k kf; simp; omega), ?_⟩
        (conv => whnf); (try dsimp only)
        simp only [lstAt_app]
        (conv => whnf); (try dsimp only)
        refine ⟨by omega, ?_⟩
        (conv => whnf); (try dsimp only)
        refine ⟨ty_lst (lst_app1 (lst_app1 e3)), ?_⟩
        (conv => whnf); (try dsimp only)
        rw [lst_app1 (lst_app1 e3)]
        refine ⟨Nat.lt_of_lt_of_le (show (f.map strD).length < 1001 by rw [List.length_map]; omega) (by rw [sizeLine_eq]; omega), ?_⟩
        have hq := lst_lt e3
        refine hK _ _ ⟨pre_set (pre_app (pre_app pre)) (by omega), (s.step now a).1, (x + 1) % m, kf ++ [(x, (s.step now a).2)], f ++ [[(s.step now a).2]], _, _, _, _, _, rfl, ?_, ?_, ?_, lst_setNe (lst_app1 (lst_app1 e4)) (by omega), lst_setNe (lst_app1 (lst_app1 e5)) (by omega), (ok.lt e6 hin).1, e7', ?_, ?_, ?_⟩
        · refine lst_setNe ?_ ?_
          · rw [← cut_kept k kf x _ hk0]
            exact lstAt_app
          · rw [List.length_append]; omega
        · rw [List.length_append]; omega
        · rw [lst_set (lst_app1 (lst_app1 e3)), List.map_append]; rfl
        · rw [← e8, List.append_assoc]
          congr 1
          simp only [srv, if_pos]; rfl
        · rw [List.length_append, List.length_singleton]; omega
        · rw [List.length_append, List.length_append, List.length_singleton, List.length_singleton]; omega
      · (generalize hdec : decide ((0 : Int) < (k : Int)) = bdec; obtain rfl : bdec = false := hdec.symm.trans (decide_eq_false (by omega)); clear hdec; (conv => whnf); (try dsimp only))
        obtain rfl : k = 0 := by omega
        refine ⟨sl63 (by simp), ?_⟩
        (conv => whnf); (try dsimp only)
        refine ⟨by omega, ?_⟩
        (conv => whnf); (try dsimp only)
        refine ⟨ty_lst (lst_app1 e3), ?_⟩
        (conv => whnf); (try dsimp only)
        rw [lst_app1 e3]
        refine ⟨Nat.lt_of_lt_of_le (show (f.map strD).length < 1001 by rw [List.length_map]; omega) (by rw [sizeLine_eq]; omega), ?_⟩
        have hq := lst_lt e3
        refine hK _ _ ⟨pre_set (pre_app pre) (by omega), (s.step now a).1, (x + 1) % m, kf ++ [(x, (s.step now a).2)], f ++ [[(s.step now a).2]], _, _, _, _, _, rfl, ?_, ?_, ?_, lst_setNe (lst_app1 e4) (by omega), lst_setNe (lst_app1 e5) (by omega), (ok.lt e6 hin).1, e7', ?_, ?_, ?_⟩
        · rw [lastK_zero]
          exact lst_setNe lstAt_app (by omega)
        · omega
        · rw [lst_set (lst_app1 e3), List.map_append]; rfl
        · rw [← e8, List.append_assoc]
          congr 1
          simp only [srv, if_pos]; rfl
        · rw [List.length_append, List.length_singleton]; omega
        · rw [List.length_append, List.length_append, List.length_singleton, List.length_singleton]; omega
    · (generalize hdec : deq (intD x) (.int (new : Int)) = bdec; obtain rfl : bdec = false := hdec.symm.trans (deq_intF (by omega)); clear hdec; (conv => whnf); (try dsimp only))
      simp only [src_lst e1]
      have hq := lst_lt e3
      refine lc_pure (h := h') (ds := (lastK k kf).map kD) (isK x) (by have := lastK_len k kf; rw [List.length_map]; exact sl63 (by omega)) (fun i acc => tick_lst (lst_app1 e1)) (fun d hd acc kp sk h1 h2 => ?_) ?_
      · obtain ⟨y, hy, rfl⟩ := List.mem_map.mp hd
        (conv => whnf); (try dsimp only)
        by_cases hyx : y.1 = x
        · (generalize hdec : deq (.int (y.1 : Int)) (intD x) = bdec; obtain rfl : bdec = true := hdec.symm.trans (deq_int (by omega)); clear hdec; (conv => whnf); (try dsimp only))
          exact h1 _ (by show (if ((y.1 : Nat) : Int) = (x : Int) then some _ else none) = _; rw [if_pos (by omega)])
        · (generalize hdec : deq (.int (y.1 : Int)) (intD x) = bdec; obtain rfl : bdec = false := hdec.symm.trans (deq_intF (by omega)); clear hdec; (conv => whnf); (try dsimp only))
          exact h2 (by show (if ((y.1 : Nat) : Int) = (x : Int) then some _ else none) = _; rw [if_neg (by omega)])
      · rw [isK_map]
        (conv => whnf); (try dsimp only)
        refine ⟨sl63 (by simp), ?_⟩
        (conv => whnf); (try dsimp only)
        rw [eqH_ll (lst_app1 lstAt_app) lstAt_app (chs_ok _ _) rfl, deqL_nil]
        have e8' : f ++ (lastOf (toldL x (lastK k kf)) :: srv s m k now new kf rest) = clerkL s m k hs := by rw [← e8]; simp only [srv, if_neg hxn]
        rcases hT : toldL x (lastK k kf) with _ | ⟨t, ts⟩
        · rw [hT] at e8'
          (conv => whnf); (try dsimp only)
          refine ⟨ty_lst (lst_app1 (lst_app1 e3)), ?_⟩
          (conv => whnf); (try dsimp only)
          rw [lst_app1 (lst_app1 e3)]
          refine ⟨Nat.lt_of_lt_of_le (show (f.map strD).length < 1001 by rw [List.length_map]; omega) (by rw [sizeLine_eq]; omega), ?_⟩
          refine hK _ _ ⟨pre_set (pre_app (pre_app pre)) (by omega), now, new, kf, f ++ [[]], p, _, _, _, _, rfl, lst_setNe (lst_app1 (lst_app1 e1)) (Ne.symm e2), e2, ?_, lst_setNe (lst_app1 (lst_app1 e4)) (by omega), lst_setNe (lst_app1 (lst_app1 e5)) (by omega), e6, e7', ?_, ?_, ?_⟩
          · rw [lst_set (lst_app1 (lst_app1 e3)), List.map_append]; rfl
          · rw [← e8', List.append_assoc]; rfl
          · rw [List.length_append, List.length_singleton]; omega
          · rw [List.length_append]; omega
        · obtain ⟨z, g1, g2, g3⟩ := last_told (t :: ts) (by simp)
          rw [hT, g2] at e8'
          have g3' : atI ((t :: ts).map chD) (-1) = some (chD z) := g3
          (conv => whnf); (try dsimp only)
          simp only [lstAt_get (lst_app1 (g := [Ob.lst []]) (lstAt_app (h := h') (ds := (t :: ts).map chD)))]
          (conv => whnf); (try dsimp only)
          rw [g3']
          (conv => whnf); (try dsimp only)
          refine ⟨ty_lst (lst_app1 (lst_app1 e3)), ?_⟩
          (conv => whnf); (try dsimp only)
          rw [lst_app1 (lst_app1 e3)]
          refine ⟨Nat.lt_of_lt_of_le (show (f.map strD).length < 1001 by rw [List.length_map]; omega) (by rw [sizeLine_eq]; omega), ?_⟩
          refine hK _ _ ⟨pre_set (pre_app (pre_app pre)) (by omega), now, new, kf, f ++ [[z]], p, _, _, _, _, rfl, lst_setNe (lst_app1 (lst_app1 e1)) (Ne.symm e2), e2, ?_, lst_setNe (lst_app1 (lst_app1 e4)) (by omega), lst_setNe (lst_app1 (lst_app1 e5)) (by omega), e6, e7', ?_, ?_, ?_⟩
          · rw [lst_set (lst_app1 (lst_app1 e3)), List.map_append]; rfl
          · rw [← e8', List.append_assoc]; rfl
          · rw [List.length_append, List.length_singleton]; omega
          · rw [List.length_append]; omega
  · rintro fr h' ⟨pre, now, new, kf, f, p, x9, x10, x11, x12, rfl, e1, e2, e3, e4, e5, e6, e7, e8, e9, e10⟩
    have : f = clerkL s m k hs := by rw [← e8]; simp [srv]
    rw [this] at e3
    (conv => whnf); (try dsimp only)
    exact gc_lstp pre (by omega) e3 (strs_sc _ _) hP
theorem srv_len (s : Svc) (m k : Nat) : ∀ (now new : Nat) (kf r : List (Nat × Nat)), (srv s m k now new kf r).length = r.length
  | _, _, _, [] => rfl
  | now, new, kf, (a, x) :: r => by
    unfold srv
    split
    · rw [List.length_cons, srv_len, List.length_cons]
    · rw [List.length_cons, srv_len, List.length_cons]
theorem clerkL_len (s : Svc) (m k : Nat) (hs : List It) : (clerkL s m k hs).length = hs.length := by
  unfold clerkL
  rw [srv_len, List.length_zip, mean_len, nums_len, Nat.min_self]
abbrev N_clerked : List Str := ["service", "clerk", "history"]
def ws_clerked : WS := (wsSeq (wsExpr (wCB g_need_args (waCons (wVar 0) (waCons (wVar 1) (waCons (wVar 2) waNil))))) (wsSeq (wsRet (wCB bTup (waCons (wCB g_served (waCons (wVar 0) (waCons (wVar 1) (waCons (wVar 2) waNil)))) waNil))) wsNil))
def ClkOk (m k : Nat) : Prop := 1 ≤ m ∧ m ≤ 41 ∧ k ≤ 41
def g_clerked : WL := fun ds h P => ∃ (s : Svc) (m k : Nat) (hs : List It), s.Ok ∧ (1 ≤ m ∧ m ≤ 41 ∧ k ≤ 41) ∧ HOk (· ∈ s.asks) 0 hs ∧ hs.length ≤ 60 ∧ ds = [s.d, clkD m k, histD hs] ∧ P (.tup ((clerkL s m k hs).map strD)) h
theorem clerked_ok : ∀ ds h P, g_clerked ds h P → wF ws_clerked 3 3 ds h P := by
  rintro ds h P ⟨s, m, k, hs, ok, hmk, hk, hz, rfl, hP⟩
  refine ⟨rfl, s, m, k, hs, ok, hmk, hk, hz, rfl, ?_⟩
  (conv => whnf); (try dsimp only)
  refine ⟨s, m, k, hs, ok, hmk.1, hk, hz, rfl, ?_⟩
  (conv => whnf); (try dsimp only)
  simp only [lstAt_app]
  exact gc_pre (pre_app pre_refl) (strs_sc _ _) hP
abbrev N_wishes : List Str := ["service", "history", "item", "told", "found", "many"]
def ws_wishes : WS := (wsSeq (wsPar3 3 4 5 (waCons (wCB g_answered (waCons (wVar 0) (waCons (wCB g_firsts_of (waCons (wVar 1) waNil)) waNil))) (waCons (wLst waNil) (waCons (wC (.int 0)) waNil)))) (wsSeq (wsFor (wiAny (wVar 1)) (wgPat (.nm 2)) (wsSeq (wsIf (wtTru (wCB bIsi (waCons (wVar 2) (waCons (wC (.con (.ty "str"))) waNil)))) (wsSeq (wsExpr (wBM "list" mAppend (wVar 4) (waCons (wOp gIx (wVar 3) (wVar 5)) waNil))) (wsSeq (wsAug 5 gIadd (wC (.int 1))) wsNil)) (wsSeq (wsExpr (wBM "list" mAppend (wVar 4) (waCons (wOp gIx (wVar 3) (wOp gSub (wVar 5) (wVar 2))) waNil))) wsNil)) wsNil)) (wsSeq (wsRet (wVar 4)) wsNil)))
def wsh (t : List Nat) : Nat → List It → List (List Nat)
  | _, [] => []
  | j, .ch _ :: r => [t[j]?.getD 0] :: wsh t (j + 1) r
  | j, .bk n :: r => [t[j - n]?.getD 0] :: wsh t j r
def wishL (s : Svc) (hs : List It) : List (List Nat) := wsh (tell s 0 (firsts hs)) 0 hs
theorem tell_len (s : Svc) : ∀ (i : Nat) (l : List Nat), (tell s i l).length = l.length
  | _, [] => rfl
  | i, c :: l => by simp [tell, tell_len]
theorem firsts_in {A : Nat → Prop} : ∀ {m : Nat} {l : List It}, HOk A m l → ∀ c ∈ firsts l, A c
  | _, [], _, _, h => by simp [firsts] at h
  | m, .ch c :: r, h, x, hx => by
    rcases List.mem_cons.mp hx with rfl | hx
    · exact h.1
    · exact firsts_in h.2 x hx
  | m, .bk n :: r, h, x, hx => firsts_in h.2.2 x hx
def g_wishes : WL := fun ds h P => ∃ (s : Svc) (hs : List It), s.Ok ∧ HOk (· ∈ s.asks) 0 hs ∧ hs.length ≤ 60 ∧ ds = [s.d, histD hs] ∧ P (.ref h.length) (h ++ [.lst ((wishL s hs).map strD)])
theorem wishes_ok : ∀ ds h P, g_wishes ds h P → wF ws_wishes 6 2 ds h P := by
  rintro ds h P ⟨s, hs, ok, hk, hz, rfl, hP⟩
  have hfl := firsts_len hs
  refine ⟨rfl, ?_⟩
  (conv => whnf); (try dsimp only)
  refine ⟨hs, by omega, rfl, ?_⟩
  (conv => whnf); (try dsimp only)
  refine ⟨s, firsts hs, ok, firsts_in hk, by omega, rfl, ?_⟩
  (conv => whnf); (try dsimp only)
  refine ⟨sl63 (by simp), ?_⟩
  (conv => whnf); (try dsimp only)
  refine fo_list hs It.d (fun rest fr h' => h <+: h' ∧ ∃ (j : Nat) (f : List (List Nat)) (x : Option D), fr = [some s.d, some (histD hs), x, some (.str (tell s 0 (firsts hs))), some (.ref h.length), some (.int (j : Int))] ∧ lstAt h' h.length = some (f.map strD) ∧ HOk (· ∈ s.asks) j rest ∧ f ++ wsh (tell s 0 (firsts hs)) j rest = wishL s hs ∧ f.length + rest.length = hs.length ∧ j + (firsts rest).length = (tell s 0 (firsts hs)).length) ?_ ?_ ?_ ?_
  · exact fun _ _ _ _ _ => rfl
  · exact ⟨pre_app pre_refl, 0, [], none, rfl, lstAt_app, hk, rfl, by simp, by rw [tell_len]; omega⟩
  · rintro a rest fr h' ha ⟨pre, j, f, x, rfl, hl, hj, he, hn, hc⟩ k hk'
    rw [List.length_cons] at hn
    generalize tell s 0 (firsts hs) = T at *
    have hL : (f.map strD).length < sizeLine := Nat.lt_of_lt_of_le (show (f.map strD).length < 1001 by rw [List.length_map]; omega) (by rw [sizeLine_eq]; omega)
    cases a with
    | ch c =>
      have hlt : j < T.length := by simp only [firsts, List.length_cons] at hc; omega
      (conv => whnf); (try dsimp only)
      refine ⟨(by first | rfl | decide), ?_⟩; (conv => whnf); (try dsimp only)
      refine ⟨ty_lst hl, ?_⟩
      (conv => whnf); (try dsimp only)
      rw [atI_nat (List.getElem?_eq_getElem hlt)]
      (conv => whnf); (try dsimp only)
      rw [hl]
      refine ⟨hL, ?_⟩
      refine hk' _ _ ⟨pre_set pre (Nat.le_refl _), j + 1, f ++ [[T[j]]], _, rfl, ?_, hj.2, ?_, by rw [List.length_append, List.length_singleton]; omega, by simp only [firsts, List.length_cons] at hc; omega⟩
      · rw [lst_set hl, List.map_append]; rfl
      · rw [← he, List.append_assoc]
        show f ++ ([[T[j]]] ++ _) = f ++ ([T[j]?.getD 0] :: _)
        rw [List.getElem?_eq_getElem hlt]; rfl
    | bk n =>
      have h1 := hj.1
      have h2 := hj.2.1
      have hc' : j + (firsts rest).length = T.length := hc
      have hlt : j - n < T.length := by omega
      (conv => whnf); (try dsimp only)
      refine ⟨(by first | rfl | decide), ?_⟩; (conv => whnf); (try dsimp only)
      refine ⟨ty_lst hl, ?_⟩
      (conv => whnf); (try dsimp only)
      rw [show (j : Int) - (n : Int) = ((j - n : Nat) : Int) by omega, atI_nat (List.getElem?_eq_getElem hlt)]
      (conv => whnf); (try dsimp only)
      rw [hl]
      refine ⟨hL, ?_⟩
      refine hk' _ _ ⟨pre_set pre (Nat.le_refl _), j, f ++ [[T[j - n]]], _, rfl, ?_, hj.2.2, ?_, by rw [List.length_append, List.length_singleton]; omega, hc'⟩
      · rw [lst_set hl, List.map_append]; rfl
      · rw [← he, List.append_assoc]
        show f ++ ([[T[j - n]]] ++ _) = f ++ ([T[j - n]?.getD 0] :: _)
        rw [List.getElem?_eq_getElem hlt]; rfl
  · rintro fr h' ⟨pre, j, f, x, rfl, hl, hj, he, hn, hc⟩
    have : f = wishL s hs := by rw [← he]; simp [wsh]
    rw [this] at hl
    (conv => whnf); (try dsimp only)
    exact gc_lstp pre (Nat.le_refl _) hl (strs_sc _ _) hP
abbrev N_wished : List Str := ["service", "history"]
def ws_wished : WS := (wsSeq (wsExpr (wCB g_need_history (waCons (wVar 0) (waCons (wVar 1) waNil)))) (wsSeq (wsRet (wCB bTup (waCons (wCB g_wishes (waCons (wVar 0) (waCons (wVar 1) waNil))) waNil))) wsNil))
def g_wished : WL := fun ds h P => ∃ (s : Svc) (hs : List It), s.Ok ∧ HOk (· ∈ s.asks) 0 hs ∧ hs.length ≤ 60 ∧ ds = [s.d, histD hs] ∧ P (.tup ((wishL s hs).map strD)) h
theorem wished_ok : ∀ ds h P, g_wished ds h P → wF ws_wished 2 2 ds h P := by
  rintro ds h P ⟨s, hs, ok, hk, hz, rfl, hP⟩
  refine ⟨rfl, s, hs, ok, hk, hz, rfl, ?_⟩
  (conv => whnf); (try dsimp only)
  refine ⟨s, hs, ok, hk, hz, rfl, ?_⟩
  (conv => whnf); (try dsimp only)
  simp only [lstAt_app]
  exact gc_pre (pre_app pre_refl) (strs_sc _ _) hP
abbrev N_does_serve : List Str := ["service", "clerk", "history"]
def ws_does_serve : WS := (wsSeq (wsExpr (wCB g_need_args (waCons (wVar 0) (waCons (wVar 1) (waCons (wVar 2) waNil))))) (wsSeq (wsRet (wOp gEq (wCB g_served (waCons (wVar 0) (waCons (wVar 1) (waCons (wVar 2) waNil)))) (wCB g_wishes (waCons (wVar 0) (waCons (wVar 2) waNil))))) wsNil))
theorem strs_ok (n : Nat) : ∀ l : List (List Nat), (l.map strD).all (okD n) = true
  | [] => rfl
  | c :: l => by
    rw [List.map_cons, List.all_cons, strs_ok n l]
    cases n <;> rfl
theorem deqL_strs : ∀ a b : List (List Nat), deqL (a.map strD) (b.map strD) = decide (a = b)
  | [], [] => rfl
  | [], y :: b => by simp [deqL]
  | x :: a, [] => by simp [deqL]
  | x :: a, y :: b => by
    show ((x == y) && deqL (a.map strD) (b.map strD)) = _
    rw [deqL_strs a b]
    by_cases h1 : x = y
    · subst h1; simp
    · simp [h1]
def g_does_serve : WL := fun ds h P => ∃ (s : Svc) (m k : Nat) (hs : List It), s.Ok ∧ (1 ≤ m ∧ m ≤ 41 ∧ k ≤ 41) ∧ HOk (· ∈ s.asks) 0 hs ∧ hs.length ≤ 60 ∧ ds = [s.d, clkD m k, histD hs] ∧ P (.bl (decide (clerkL s m k hs = wishL s hs))) h
theorem does_serve_ok : ∀ ds h P, g_does_serve ds h P → wF ws_does_serve 3 3 ds h P := by
  rintro ds h P ⟨s, m, k, hs, ok, hmk, hk, hz, rfl, hP⟩
  refine ⟨rfl, s, m, k, hs, ok, hmk, hk, hz, rfl, ?_⟩
  (conv => whnf); (try dsimp only)
  refine ⟨s, m, k, hs, ok, hmk.1, hk, hz, rfl, ?_⟩
  (conv => whnf); (try dsimp only)
  refine ⟨s, hs, ok, hk, hz, rfl, ?_⟩
  (conv => whnf); (try dsimp only)
  rw [eqH_ll (lst_app1 lstAt_app) lstAt_app (strs_ok _ _) (strs_ok _ _), deqL_strs]
  exact gc_pre (pre_app (pre_app pre_refl)) rfl hP
end MP

namespace MP
open PySem PySem.Spec PyProof.Rows L2
/-! ### the ring -/
def rsz (m : Nat) : Nat := if m % 2 ≠ 0 then 2 else if m % 3 ≠ 0 then 3 else if m % 4 ≠ 0 then 4 else 5
theorem rsz_cases (m : Nat) : (rsz m = 2 ∧ m % 2 ≠ 0) ∨ (rsz m = 3 ∧ m % 2 = 0 ∧ m % 3 ≠ 0) ∨ (rsz m = 4 ∧ m % 2 = 0 ∧ m % 3 = 0 ∧ m % 4 ≠ 0) ∨ (rsz m = 5 ∧ m % 2 = 0 ∧ m % 3 = 0 ∧ m % 4 = 0) := by
  unfold rsz
  by_cases a : m % 2 = 0
  · rw [if_neg (by omega)]
    by_cases b : m % 3 = 0
    · rw [if_neg (by omega)]
      by_cases c : m % 4 = 0
      · rw [if_neg (by omega)]; omega
      · rw [if_pos c]; omega
    · rw [if_pos b]; omega
  · rw [if_pos a]; omega
theorem rsz_bd (m : Nat) : 2 ≤ rsz m ∧ rsz m ≤ 5 := by have := rsz_cases m; omega
theorem rsz_ne {m : Nat} (h1 : 1 ≤ m) (h2 : m ≤ 41) : m % rsz m ≠ 0 := by
  rcases rsz_cases m with ⟨e, h⟩ | ⟨e, _, h⟩ | ⟨e, _, _, h⟩ | ⟨e, a, b, c⟩
  · rw [e]; exact h
  · rw [e]; exact h
  · rw [e]; exact h
  · rw [e]; omega
theorem rsz_lt {m j : Nat} (h1 : 2 ≤ j) (h2 : j < rsz m) : m % j = 0 := by
  have hc := rsz_cases m
  have hj : j = 2 ∨ j = 3 ∨ j = 4 := by omega
  rcases hj with rfl | rfl | rfl <;> omega
def ringS (m : Nat) : Svc := ⟨[97], (List.range (rsz m)).map fun j => [((j + 1) % rsz m, if j = 0 then 97 else 98)]⟩
theorem ring_len (m : Nat) : (ringS m).rows.length = rsz m := by simp [ringS]
theorem ring_ok (m : Nat) : (ringS m).Ok := by
  have hb := rsz_bd m
  refine ⟨by simp [ringS], by simp [ringS], fun c hc => ?_, fun x hx => by simp [ringS] at hx, by rw [ring_len]; omega, by rw [ring_len]; omega, fun l hl => ?_, fun l hl x hx => ?_⟩
  · have : c = 97 := by simpa [ringS] using hc
    subst this; exact ⟨by omega, by omega⟩
  · simp only [ringS, List.mem_map] at hl
    obtain ⟨j, _, rfl⟩ := hl
    rfl
  · rw [ring_len]
    simp only [ringS, List.mem_map] at hl
    obtain ⟨j, _, rfl⟩ := hl
    have : x = ((j + 1) % rsz m, if j = 0 then 97 else 98) := by simpa using hx
    subst this
    refine ⟨Nat.mod_lt _ (by omega), ?_⟩
    show Lett (if j = 0 then 97 else 98)
    split <;> exact ⟨by omega, by omega⟩
def ringF (z : Nat) : D → Option D
  | .int i => some (.tup [.tup [.int ((i + 1) % (z : Int)), .str [if i = 0 then 97 else 98]]])
  | _ => none
theorem ring_map (z : Nat) : ∀ l : List Nat, (l.map fun j : Nat => D.int (j : Int)).filterMap (ringF z) = l.map fun j : Nat => rowD [((j + 1) % z, if j = 0 then 97 else 98)]
  | [] => rfl
  | j :: l => by
    have e : ringF z (.int (j : Int)) = some (rowD [((j + 1) % z, if j = 0 then 97 else 98)]) := by
      show some (D.tup [.tup [.int (((j : Int) + 1) % (z : Int)), .str [if (j : Int) = 0 then 97 else 98]]]) = some (.tup [.tup [.int (((j + 1) % z : Nat) : Int), .str [if j = 0 then 97 else 98]]])
      have e1 : ((j : Int) + 1) % (z : Int) = (((j + 1) % z : Nat) : Int) := by simp
      rw [e1]
      by_cases hj : j = 0
      · subst hj; rfl
      · rw [if_neg hj, if_neg (by omega)]
    rw [List.map_cons, List.filterMap_cons_some e, ring_map z l, List.map_cons]
abbrev N_ring : List Str := ["m", "size", "at"]
def ws_ring : WS := (wsSeq (wsAsg (wgPat (.nm 1)) (wC (.int 2))) (wsSeq (wsWhile (wtB (wOp gEq (wOp gMod (wVar 0) (wVar 1)) (wC (.int 0)))) (wsSeq (wsAug 1 gIadd (wC (.int 1))) wsNil)) (wsSeq (wsRet (wTup (waCons (wC (.str [97])) (waCons (wGc (wCB bTup (waCons (wLc (wiRng1 (waCons (wVar 1) waNil)) (.nm 2) wtYes (wTup (waCons (wTup (waCons (wOp gMod (wOp gAdd (wVar 2) (wC (.int 1))) (wVar 1)) (waCons (wIf (wtB (wOp gEq (wVar 2) (wC (.int 0)))) (wC (.str [97])) (wC (.str [98]))) waNil))) waNil)) [2]) waNil))) waNil)))) wsNil)))
def g_ring : WL := fun ds h P => ∃ m : Nat, 1 ≤ m ∧ m ≤ 41 ∧ ds = [.int m] ∧ P (ringS m).d h
theorem ring_ok' : ∀ ds h P, g_ring ds h P → wF ws_ring 3 1 ds h P := by
  rintro ds h P ⟨m, h1, h2, rfl, hP⟩
  have hb := rsz_bd m
  refine ⟨rfl, ?_⟩
  show wsWhile _ _ _ (startF 3 [.int (m : Int)] |>.set 1 (some (.int 2))) h
  refine wh_inv (fun n fr h' => h' = h ∧ ∃ z : Nat, fr = [some (.int (m : Int)), some (.int (z : Int)), none] ∧ 2 ≤ z ∧ z ≤ rsz m ∧ n = rsz m - z) (n := rsz m - 2) ⟨rfl, 2, rfl, by omega, by omega, rfl⟩ ?_
  rintro n fr h' ⟨rfl, z, rfl, z1, z2, rfl⟩ K hK
  (conv => whnf); (try dsimp only)
  refine ⟨by omega, ?_⟩
  (conv => whnf); (try dsimp only)
  have e0 : (m : Int) % (z : Int) = ((m % z : Nat) : Int) := by simp
  by_cases hz : z < rsz m
  · have e := rsz_lt z1 hz
    (generalize hdec : deq (.int ((m : Int) % (z : Int))) (.int 0) = bdec; obtain rfl : bdec = true := hdec.symm.trans (deq_int (by rw [e0, e]; rfl)); clear hdec; (conv => whnf); (try dsimp only))
    exact hK (rsz m - (z + 1)) _ _ (by omega) ⟨rfl, z + 1, rfl, by omega, by omega, rfl⟩
  · obtain rfl : z = rsz m := by omega
    have e := rsz_ne h1 h2
    (generalize hdec : deq (.int ((m : Int) % (rsz m : Int))) (.int 0) = bdec; obtain rfl : bdec = false := hdec.symm.trans (deq_intF (by rw [e0]; omega)); clear hdec; (conv => whnf); (try dsimp only))
    refine ⟨⟨by omega, by omega⟩, ?_⟩
    refine lc_pure (ds := (List.range (rsz m : Int).toNat).map fun i : Nat => D.int ((i : Nat) : Int)) (ringF (rsz m)) (by rw [List.length_map, List.length_range]; exact sl63 (by omega)) ?_ (fun d hd acc kp sk k1 k2 => ?_) ?_
    · exact fun _ _ => rfl
    · obtain ⟨i, hi, rfl⟩ := List.mem_map.mp hd
      (conv => whnf); (try dsimp only)
      refine ⟨by omega, ?_⟩
      by_cases hi0 : i = 0
      · subst hi0
        (conv => whnf); (try dsimp only)
        exact ⟨sl63 (by simp), sl63 (by simp), k1 _ rfl⟩
      · (conv => whnf); (try dsimp only)
        (generalize hdec : deq (.int (i : Int)) (.int 0) = bdec; obtain rfl : bdec = false := hdec.symm.trans (deq_intF (by omega)); clear hdec; (conv => whnf); (try dsimp only))
        refine ⟨sl63 (by simp), sl63 (by simp), k1 _ ?_⟩
        show some (D.tup [.tup [.int (((i : Int) + 1) % (rsz m : Int)), .str [if (i : Int) = 0 then 97 else 98]]]) = _
        rw [if_neg (by omega)]
    · (conv => whnf); (try dsimp only)
      simp only [lstAt_app]
      (conv => whnf); (try dsimp only)
      have e1 : (((List.range (rsz m : Int).toNat).map fun i : Nat => D.int ((i : Nat) : Int)).filterMap (ringF (rsz m))) = (ringS m).rows.map rowD := by
        rw [ring_map, Int.toNat_natCast]
        show _ = ((List.range (rsz m)).map _).map rowD
        rw [List.map_map]; rfl
      rw [e1]
      have hsc := svc_sc h'.length (ringS m)
      refine ⟨take_app, ?_, sl63 (by simp), gc_same (svc_sc _ _) hP⟩
      have : ((ringS m).d.sc h'.length) = (D.sc h'.length (.str [97]) && (D.sc h'.length (.tup ((ringS m).rows.map rowD)) && true)) := rfl
      rw [this] at hsc
      simpa [D.sc] using hsc
def brk (m w : Nat) : Nat := if m ≤ w then m else w
def brH (b : Nat) : List It := List.replicate b (.ch 97) ++ [.bk b]
theorem hist_sc (n : Nat) : ∀ l : List It, D.scL n (l.map It.d) = true
  | [] => rfl
  | .ch c :: l => by simp [D.scL, It.d, D.sc, hist_sc n l]
  | .bk c :: l => by simp [D.scL, It.d, D.sc, hist_sc n l]
theorem rep_flat (b : Nat) : (List.replicate b [D.str [97]]).flatten = (List.replicate b (It.ch 97)).map It.d := by
  induction b with
  | zero => rfl
  | succ b ih => rw [List.replicate_succ, List.flatten_cons, ih, List.replicate_succ]; rfl
abbrev N_clerk_breaks : List Str := ["clerk", "window", "back"]
def ws_clerk_breaks : WS := (wsSeq (wsExpr (wCB g_need_clerk (waCons (wVar 0) waNil))) (wsSeq (wsExpr (wCB g_need_number (waCons (wVar 1) waNil))) (wsSeq (wsIf (wtTru (wCB g_does_do (waCons (wVar 0) (waCons (wVar 1) waNil)))) (wsSeq (wsRet (wC .non)) wsNil) wsNil) (wsSeq (wsAsg (wgPat (.nm 2)) (wIf (wtB (wOp gLe (wOp gIx (wVar 0) (wC (.int 0))) (wVar 1))) (wOp gIx (wVar 0) (wC (.int 0))) (wVar 1))) (wsSeq (wsRet (wTup (waCons (wCB g_ring (waCons (wVar 2) waNil)) (waCons (wTup (waStar (wOp gMul (wTup (waCons (wC (.str [97])) waNil)) (wVar 2)) (waCons (wVar 2) waNil))) waNil)))) wsNil)))))
def g_clerk_breaks : WL := fun ds h P => ∃ m k w : Nat, (1 ≤ m ∧ m ≤ 41 ∧ k ≤ 41) ∧ w ≤ 40 ∧ ds = [clkD m k, .int w] ∧ ((w < m ∧ w ≤ k) → P .non h) ∧ (¬ (w < m ∧ w ≤ k) → P (.tup [(ringS (brk m w)).d, histD (brH (brk m w))]) h)
theorem clerk_breaks_ok : ∀ ds h P, g_clerk_breaks ds h P → wF ws_clerk_breaks 3 2 ds h P := by
  rintro ds h P ⟨m, k, w, hmk, hw, rfl, hP1, hP2⟩
  refine ⟨rfl, m, k, hmk.1, hmk.2.1, hmk.2.2, rfl, w, hw, rfl, m, k, w, rfl, ?_⟩
  by_cases hf : w < m ∧ w ≤ k
  · simp only [decide_eq_true hf.1, decide_eq_true hf.2]
    exact gc_same rfl (hP1 hf)
  · have e : (decide (w < m) && decide (w ≤ k)) = false := by
      rw [Bool.and_eq_false_iff, decide_eq_false_iff_not, decide_eq_false_iff_not]; omega
    rw [e]
    have hP := hP2 hf
    clear hP1 hP2 e
    have hb1 : 1 ≤ brk m w ∧ brk m w ≤ 41 := by unfold brk; split <;> omega
    have fin : ∀ (b : Nat), brk m w = b → wsSeq (wsRet (wTup (waCons (wCB g_ring (waCons (wVar 2) waNil)) (waCons (wTup (waStar (wOp gMul (wTup (waCons (wC (.str [97])) waNil)) (wVar 2)) (waCons (wVar 2) waNil))) waNil)))) wsNil { nx := fun _ h' => gcK h P .non h', rt := gcK h P } [some (clkD m k), some (.int w), some (.int (b : Int))] h := by
      rintro b hb
      rw [hb] at hb1 hP
      refine ⟨b, hb1.1, hb1.2, rfl, ?_⟩
      (conv => whnf); (try dsimp only)
      refine ⟨sl63 (by simp), ?_⟩
      have hlen : (histD (brH b)).sc h.length = true := hist_sc _ _
      have done : ∀ (L : List D), L = (List.replicate b (It.ch 97)).map It.d → (L ++ [D.int (b : Int)]).length ≤ sizeLine ∧ [(ringS b).d, D.tup (L ++ [D.int (b : Int)])].length ≤ sizeLine ∧ gcK h P (.tup [(ringS b).d, D.tup (L ++ [D.int (b : Int)])]) h := by
        rintro L rfl
        have e : (List.replicate b (It.ch 97)).map It.d ++ [D.int (b : Int)] = (brH b).map It.d := by unfold brH; rw [List.map_append]; rfl
        rw [e]
        refine ⟨sl63 (by unfold brH; simp; omega), sl63 (by simp), gc_same ?_ hP⟩
        have hs := svc_sc h.length (ringS b)
        have hs2 := hist_sc h.length (brH b)
        show (D.sc h.length (ringS b).d && (D.sc h.length (.tup ((brH b).map It.d)) && true)) = true
        rw [hs, show D.sc h.length (.tup ((brH b).map It.d)) = true from hs2]; rfl
      by_cases h1 : b = 1
      · subst h1
        refine .inl ⟨rfl, ?_⟩
        exact done _ rfl
      · refine .inr ⟨by simp, by omega, by omega, by simp, ?_⟩
        refine done _ ?_
        rw [Int.toNat_natCast]
        exact rep_flat b
    (conv => whnf); (try dsimp only)
    by_cases hmw : m ≤ w
    · (generalize hdec : decide ((m : Int) ≤ (w : Int)) = bdec; obtain rfl : bdec = true := hdec.symm.trans (decide_eq_true (by omega)); clear hdec; (conv => whnf); (try dsimp only))
      exact fin m (by unfold brk; rw [if_pos hmw])
    · (generalize hdec : decide ((m : Int) ≤ (w : Int)) = bdec; obtain rfl : bdec = false := hdec.symm.trans (decide_eq_false (by omega)); clear hdec; (conv => whnf); (try dsimp only))
      exact fin w (by unfold brk; rw [if_neg hmw])
end MP

namespace MP
open PySem PySem.Spec PyProof.Rows L2
/-! ### drawing -/
def RowD (sc : Nat) (r : List D) : Prop := ∃ a seed rest : Int, r = [.ref sc, .int a, .int seed, .int rest] ∧ 0 ≤ a ∧ 0 ≤ seed ∧ seed < 2147483647 ∧ 0 ≤ rest
structure RowAt (h : Hq) (n sc : Nat) (r : List D) : Prop where
  scr_ : ∃ ns, h[sc]? = some (.scr ns)
  at_ : lstAt h n = some r
  ok : RowD sc r
theorem RowAt.ne {h n sc r} (R : RowAt h n sc r) : sc ≠ n := by
  rintro rfl
  obtain ⟨ns, e⟩ := R.scr_
  rw [lstAt_get R.at_] at e
  cases e
theorem RowAt.set {h n sc r r'} (R : RowAt h n sc r) (ok : RowD sc r') : RowAt (h.set n (.lst r')) n sc r' := by
  obtain ⟨ns, e⟩ := R.scr_
  exact ⟨⟨ns, by rw [List.getElem?_set_ne (Ne.symm R.ne)]; exact e⟩, lst_set R.at_, ok⟩
theorem RowAt.pre {h h' n sc r} (R : RowAt h n sc r) (p : h <+: h') : RowAt h' n sc r := by
  obtain ⟨ns, e⟩ := R.scr_
  refine ⟨⟨ns, ?_⟩, pre_lst p R.at_, R.ok⟩
  obtain ⟨g, rfl⟩ := p
  rw [List.getElem?_append_left (get_lt e)]; exact e
theorem RowAt.scl {h n sc r} (R : RowAt h n sc r) {r' : List D} (ok : RowD sc r') : D.scL h.length r' = true := by
  obtain ⟨a, seed, rest, rfl, _⟩ := ok
  obtain ⟨ns, e⟩ := R.scr_
  simp [D.scL, D.sc, get_lt e]
theorem pre_setn {h h' : Hq} {n : Nat} {a b : Ob} (p : h.set n a <+: h') (hn : n < h.length) : h.set n b <+: h'.set n b := by
  obtain ⟨g, rfl⟩ := p
  rw [List.set_append_left _ _ (by rw [List.length_set]; exact hn), List.set_set]
  exact ⟨g, rfl⟩
theorem set_same {h : Hq} {n : Nat} {r : List D} (e : lstAt h n = some r) : h.set n (.lst r) = h := by
  have := lstAt_get e
  obtain ⟨hlt, he⟩ := List.getElem?_eq_some_iff.mp this
  rw [← he, List.set_getElem_self]
abbrev N_law_taken : List Str := ["_law_row", "_law_many", "_law_cell", "_law_found"]
def ws_law_taken : WS := (wsSeq (wsIf (wtB (wOp gGt (wOp gIx (wVar 0) (wC (.int 3))) (wC (.int 0)))) (wsSeq (wsAsg (wgPat (.nm 3)) (wOp gMod (wCB bInt (waCons (wOp gIx (wVar 0) (wC (.int 3))) waNil)) (wVar 1))) (wsSeq (wsAsg (wgSub (wVar 0) (wC (.int 3))) (wOp gFdiv (wOp gIx (wVar 0) (wC (.int 3))) (wVar 1))) (wsSeq (wsRet (wVar 3)) wsNil))) wsNil) (wsSeq (wsAsg (wgSub (wVar 0) (wC (.int 1))) (wOp gAdd (wOp gIx (wVar 0) (wC (.int 1))) (wC (.int 1)))) (wsSeq (wsIf (wtB (wOp gGt (wOp gIx (wVar 0) (wC (.int 1))) (wCB bLen (waCons (wOp gIx (wVar 0) (wC (.int 0))) waNil)))) (wsSeq (wsAsg (wgSub (wVar 0) (wC (.int 2))) (wOp gMod (wCB bInt (waCons (wOp gAdd (wOp gMul (wOp gIx (wVar 0) (wC (.int 2))) (wC (.int 48271))) (wC (.int 11))) waNil)) (wC (.int 2147483647)))) (wsSeq (wsRet (wOp gMod (wCB bInt (waCons (wOp gFdiv (wOp gIx (wVar 0) (wC (.int 2))) (wC (.int 7))) waNil)) (wVar 1))) wsNil)) wsNil) (wsSeq (wsAsg (wgPat (.nm 2)) (wOp gIx (wOp gIx (wVar 0) (wC (.int 0))) (wOp gSub (wOp gIx (wVar 0) (wC (.int 1))) (wC (.int 1))))) (wsSeq (wsAsg (wgSub (wVar 0) (wC (.int 2))) (wOp gMod (wCB bInt (waCons (wOp gAdd (wOp gAdd (wOp gMul (wOp gIx (wVar 0) (wC (.int 2))) (wC (.int 48271))) (wVar 2)) (wC (.int 11))) waNil)) (wC (.int 2147483647)))) (wsSeq (wsIf (wtB (wOp gGe (wVar 2) (wOp gPow (wC (.int 10)) (wC (.int 18))))) (wsSeq (wsAsg (wgSub (wVar 0) (wC (.int 3))) (wOp gFdiv (wVar 2) (wVar 1))) wsNil) wsNil) (wsSeq (wsRet (wOp gMod (wCB bInt (waCons (wVar 2) waNil)) (wVar 1))) wsNil)))))))
def g_law_taken : WL := fun ds h P => ∃ (n sc : Nat) (r : List D) (q : Nat), ds = [.ref n, .int q] ∧ RowAt h n sc r ∧ 1 ≤ q ∧ q < 1073741824 ∧ ∀ (z : Nat) (r' : List D), z < q → RowD sc r' → P (.int z) (h.set n (.lst r'))
theorem law_taken_ok : ∀ ds h P, g_law_taken ds h P → wF ws_law_taken 4 2 ds h P := by
  rintro ds h P ⟨n, sc, r, q, rfl, R, q1, q2, hP⟩
  obtain ⟨⟨ns, hs⟩, hn, a, seed, rest, rfl, a0, s0, s1, r0⟩ := R
  have R : RowAt h n sc [.ref sc, .int a, .int seed, .int rest] := ⟨⟨ns, hs⟩, hn, a, seed, rest, rfl, a0, s0, s1, r0⟩
  have fin : ∀ (z : Int) (r' : List D), 0 ≤ z → z < q → RowD sc r' → gcK h P (.int z) (h.set n (.lst r')) := by
    intro z r' z0 z1 ok
    have := hP z.toNat r' (by omega) ok
    rw [Int.toNat_of_nonneg z0] at this
    exact gc_mutp pre_refl (R.scl ok) rfl this
  refine ⟨rfl, ?_⟩
  (conv => whnf); (try dsimp only)
  simp only [lstAt_get hn]
  (conv => whnf); (try dsimp only)
  by_cases hr : 0 < rest
  · (generalize hdec : decide ((0 : Int) < rest) = bdec; obtain rfl : bdec = true := hdec.symm.trans (decide_eq_true (hr)); clear hdec; (conv => whnf); (try dsimp only))
    simp only [lstAt_get hn]
    (conv => whnf); (try dsimp only)
    refine ⟨by omega, ?_⟩
    (conv => whnf); (try dsimp only)
    simp only [lstAt_get hn]
    (conv => whnf); (try dsimp only)
    refine ⟨⟨by omega, by omega⟩, ?_⟩
    (conv => whnf); (try dsimp only)
    rw [hn]
    exact fin _ _ (Int.emod_nonneg _ (by omega)) (Int.emod_lt_of_pos _ (by omega)) ⟨a, seed, rest / q, rfl, a0, s0, s1, Int.ediv_nonneg r0 (by omega)⟩
  · (generalize hdec : decide ((0 : Int) < rest) = bdec; obtain rfl : bdec = false := hdec.symm.trans (decide_eq_false (hr)); clear hdec; (conv => whnf); (try dsimp only))
    simp only [lstAt_get hn]
    (conv => whnf); (try dsimp only)
    rw [hn]
    show wsSeq _ _ _ _ (h.set n (.lst [.ref sc, .int (a + 1), .int seed, .int rest]))
    have R1 : RowAt (h.set n (.lst [.ref sc, .int (a + 1), .int seed, .int rest])) n sc [.ref sc, .int (a + 1), .int seed, .int rest] := R.set ⟨a + 1, seed, rest, rfl, by omega, s0, s1, r0⟩
    have hs1 : (h.set n (.lst [.ref sc, .int (a + 1), .int seed, .int rest]))[sc]? = some (.scr ns) := by rw [List.getElem?_set_ne (Ne.symm R.ne)]; exact hs
    have fin1 : ∀ (z : Int) (r' : List D), 0 ≤ z → z < q → RowD sc r' → gcK h P (.int z) ((h.set n (.lst [.ref sc, .int (a + 1), .int seed, .int rest])).set n (.lst r')) := fun z r' z0 z1 ok => by rw [List.set_set]; exact fin z r' z0 z1 ok
    generalize h.set n (.lst [.ref sc, .int (a + 1), .int seed, .int rest]) = h1 at *
    have hn1 := R1.at_
    (conv => whnf); (try dsimp only)
    simp only [lstAt_get hn1]
    (conv => whnf); (try dsimp only)
    simp only [lstAt_get hn1]
    (conv => whnf); (try dsimp only)
    have hlen : lenD h1 (.ref sc) = some ns.length := by show h1[sc]?.bind obLen = _; rw [hs1]; rfl
    simp only [hlen]
    (conv => whnf); (try dsimp only)
    have seedok : ∀ x : Int, 0 ≤ x % 2147483647 ∧ x % 2147483647 < 2147483647 := fun x => ⟨Int.emod_nonneg _ (by omega), Int.emod_lt_of_pos _ (by omega)⟩
    by_cases hc : (ns.length : Int) < a + 1
    · (generalize hdec : decide ((ns.length : Int) < a + 1) = bdec; obtain rfl : bdec = true := hdec.symm.trans (decide_eq_true (hc)); clear hdec; (conv => whnf); (try dsimp only))
      simp only [lstAt_get hn1]
      (conv => whnf); (try dsimp only)
      refine ⟨.inr (by omega), ?_⟩
      (conv => whnf); (try dsimp only)
      refine ⟨by omega, ?_⟩
      (conv => whnf); (try dsimp only)
      rw [hn1]
      show wsSeq _ _ _ _ (h1.set n (.lst [.ref sc, .int (a + 1), .int ((seed * 48271 + 11) % 2147483647), .int rest]))
      (conv => whnf); (try dsimp only)
      simp only [lstAt_get (lst_set hn1)]
      (conv => whnf); (try dsimp only)
      refine ⟨⟨by omega, by omega⟩, ?_⟩
      (conv => whnf); (try dsimp only)
      refine ⟨by omega, ?_⟩
      exact fin1 _ _ (Int.emod_nonneg _ (by omega)) (Int.emod_lt_of_pos _ (by omega)) ⟨a + 1, _, rest, rfl, by omega, (seedok _).1, (seedok _).2, r0⟩
    · (generalize hdec : decide ((ns.length : Int) < a + 1) = bdec; obtain rfl : bdec = false := hdec.symm.trans (decide_eq_false (hc)); clear hdec; (conv => whnf); (try dsimp only))
      simp only [lstAt_get hn1]
      (conv => whnf); (try dsimp only)
      simp only [lstAt_get hn1]
      (conv => whnf); (try dsimp only)
      simp only [hs1]
      have hat : atI ns (a + 1 - 1) = some (ns[a.toNat]'(by omega)) := by
        have e : a + 1 - 1 = ((a.toNat : Nat) : Int) := by omega
        rw [e]
        exact atI_nat (List.getElem?_eq_getElem _)
      generalize ns[a.toNat]'(by omega) = cell at hat
      simp only [hat]
      (conv => whnf); (try dsimp only)
      simp only [lstAt_get hn1]
      (conv => whnf); (try dsimp only)
      refine ⟨.inr (by omega), ?_⟩
      (conv => whnf); (try dsimp only)
      refine ⟨by omega, ?_⟩
      (conv => whnf); (try dsimp only)
      rw [hn1]
      show wsSeq _ _ _ _ (h1.set n (.lst [.ref sc, .int (a + 1), .int ((seed * 48271 + cell + 11) % 2147483647), .int rest]))
      (conv => whnf); (try dsimp only)
      refine ⟨⟨by omega, by omega, by decide⟩, ?_⟩
      (conv => whnf); (try dsimp only)
      have e10 : (10 : Int) ^ (18 : Int).toNat = 1000000000000000000 := by decide
      by_cases hcl : (1000000000000000000 : Int) ≤ cell
      · (generalize hdec : decide ((10 : Int) ^ (18 : Int).toNat ≤ cell) = bdec; obtain rfl : bdec = true := hdec.symm.trans (decide_eq_true (by rw [e10]; exact hcl)); clear hdec; (conv => whnf); (try dsimp only))
        refine ⟨⟨by omega, by omega⟩, ?_⟩
        (conv => whnf); (try dsimp only)
        rw [lst_set hn1]
        show wsSeq _ _ _ _ ((h1.set n (.lst [.ref sc, .int (a + 1), .int ((seed * 48271 + cell + 11) % 2147483647), .int rest])).set n (.lst [.ref sc, .int (a + 1), .int ((seed * 48271 + cell + 11) % 2147483647), .int (cell / q)]))
        rw [List.set_set]
        (conv => whnf); (try dsimp only)
        refine ⟨by omega, ?_⟩
        exact fin1 _ _ (Int.emod_nonneg _ (by omega)) (Int.emod_lt_of_pos _ (by omega)) ⟨a + 1, _, cell / q, rfl, by omega, (seedok _).1, (seedok _).2, Int.ediv_nonneg (by omega) (by omega)⟩
      · (generalize hdec : decide ((10 : Int) ^ (18 : Int).toNat ≤ cell) = bdec; obtain rfl : bdec = false := hdec.symm.trans (decide_eq_false (by rw [e10]; exact hcl)); clear hdec; (conv => whnf); (try dsimp only))
        refine ⟨by omega, ?_⟩
        exact fin1 _ _ (Int.emod_nonneg _ (by omega)) (Int.emod_lt_of_pos _ (by omega)) ⟨a + 1, _, rest, rfl, by omega, (seedok _).1, (seedok _).2, r0⟩
abbrev N_law_pick : List Str := ["_law_row", "_law_things"]
def ws_law_pick : WS := (wsSeq (wsRet (wOp gIx (wVar 1) (wCB g_law_taken (waCons (wVar 0) (waCons (wCB bLen (waCons (wVar 1) waNil)) waNil))))) wsNil)
def g_law_pick : WL := fun ds h P => ∃ (n sc : Nat) (r : List D) (m : Nat) (es : List D), ds = [.ref n, .ref m] ∧ RowAt h n sc r ∧ lstAt h m = some es ∧ m ≠ n ∧ 1 ≤ es.length ∧ es.length ≤ 1000 ∧ D.scL h.length es = true ∧
  ∀ (z : Nat) (hz : z < es.length) (r' : List D), RowD sc r' → P es[z] (h.set n (.lst r'))
theorem scL_get {n : Nat} : ∀ {es : List D} {z : Nat} (hz : z < es.length), D.scL n es = true → es[z].sc n = true
  | e :: es, 0, _, h => by simp only [D.scL, Bool.and_eq_true] at h; exact h.1
  | e :: es, z + 1, hz, h => by
    simp only [D.scL, Bool.and_eq_true] at h
    exact scL_get (es := es) (by simpa using hz) h.2
theorem law_pick_ok : ∀ ds h P, g_law_pick ds h P → wF ws_law_pick 2 2 ds h P := by
  rintro ds h P ⟨n, sc, r, m, es, rfl, R, hm, hne, e1, e2, e3, hP⟩
  have hlen : lenD h (.ref m) = some es.length := by show h[m]?.bind obLen = _; rw [lstAt_get hm]; rfl
  refine ⟨rfl, ?_⟩
  (conv => whnf); (try dsimp only)
  simp only [hlen]
  refine ⟨n, sc, r, es.length, rfl, R, e1, by omega, fun z r' hz ok => ?_⟩
  (conv => whnf); (try dsimp only)
  simp only [lstAt_get (lst_setNe hm (Ne.symm hne))]
  simp only [atI_nat (List.getElem?_eq_getElem hz)]
  exact gc_mutp pre_refl (R.scl ok) (scL_get hz e3) (hP z hz r' ok)
end MP

namespace MP
open PySem PySem.Spec PyProof.Rows L2
/-! ### the law's own copies -/
abbrev N_law_step : List Str := ["_law_service_here", "_law_one", "_law_ask"]
def ws_law_step : WS := (wsSeq (wsRet (wOp gIx (wOp gIx (wOp gIx (wVar 0) (wC (.int 1))) (wVar 1)) (wBM "str" mIndex (wOp gIx (wVar 0) (wC (.int 0))) (waCons (wVar 2) waNil)))) wsNil)
def g_law_step : WL := g_step_of
theorem law_step_ok : ∀ ds h P, g_law_step ds h P → wF ws_law_step 3 3 ds h P := step_of_ok
abbrev N_law_told : List Str := ["_law_service_here", "_law_one", "_law_text", "_law_found", "_law_ask", "_law_answer"]
def ws_law_told : WS := (wsSeq (wsAsg (wgPat (.nm 3)) (wC (.str []))) (wsSeq (wsFor (wiAny (wVar 2)) (wgPat (.nm 4)) (wsSeq (wsAsg (wgPat (.tp (.cons (.nm 1) (.cons (.nm 5) .nil)))) (wCB g_law_step (waCons (wVar 0) (waCons (wVar 1) (waCons (wVar 4) waNil))))) (wsSeq (wsAsg (wgPat (.nm 3)) (wOp gAdd (wVar 3) (wVar 5))) wsNil))) (wsSeq (wsRet (wVar 3)) wsNil)))
def g_law_told : WL := fun ds h P => ∃ (s : Svc) (row : List Nat), s.Ok ∧ (∀ c ∈ row, c ∈ s.asks) ∧ row.length ≤ 1000 ∧ ds = [s.d, .int 0, .str row] ∧ P (.str (tell s 0 row)) h
theorem law_told_ok : ∀ ds h P, g_law_told ds h P → wF ws_law_told 6 3 ds h P := by
  rintro ds h P ⟨s, row, ok, hr, hz, rfl, p⟩
  refine ⟨rfl, ?_⟩
  (conv => whnf); (try dsimp only)
  refine fo_list row chD (fun rest fr h' => h' = h ∧ ∃ (i : Nat) (f : List Nat) (x y : Option D), fr = [some s.d, some (.int (i : Nat)), some (.str row), some (.str f), x, y] ∧ i < s.rows.length ∧ (∀ c ∈ rest, c ∈ s.asks) ∧ f ++ tell s i rest = tell s 0 row ∧ f.length + rest.length = row.length) ?_ ?_ ?_ ?_
  · exact fun _ _ _ _ _ => rfl
  · exact ⟨rfl, 0, [], none, none, rfl, by have := ok.r1; omega, hr, rfl, by simp⟩
  · rintro c rest fr h' hc ⟨rfl, i, f, x, y, rfl, hi, hin, he, hl⟩ k hk
    (conv => whnf); (try dsimp only)
    refine ⟨s, i, c, ok, hi, hin c (by simp), rfl, ?_⟩
    (conv => whnf); (try dsimp only)
    rw [List.length_cons] at hl
    refine ⟨sl63 (by simp; omega), ?_⟩
    refine hk _ _ ⟨rfl, _, _, _, _, rfl, (ok.lt hi (hin c (by simp))).1, fun z hz => hin z (by simp [hz]), ?_, ?_⟩
    · rw [← he, List.append_assoc]; rfl
    · rw [List.length_append, List.length_singleton]; omega
  · rintro fr h' ⟨rfl, i, f, x, y, rfl, hi, hin, he, hl⟩
    (conv => whnf); (try dsimp only)
    have : f = tell s 0 row := by rw [← he]; simp [tell]
    rw [this]
    exact gc_same rfl p
abbrev N_law_meant : List Str := ["_law_history_here", "_law_item", "_law_found", "_law_heads"]
def ws_law_meant : WS := (wsSeq (wsAsg (wgPat (.tp (.cons (.nm 2) (.cons (.nm 3) .nil)))) (wTup (waCons (wC (.str [])) (waCons (wC (.str [])) waNil)))) (wsSeq (wsFor (wiAny (wVar 0)) (wgPat (.nm 1)) (wsSeq (wsAsg (wgPat (.nm 3)) (wOp gAdd (wVar 3) (wIf (wtTru (wCB bIsi (waCons (wVar 1) (waCons (wC (.con (.ty "str"))) waNil)))) (wVar 1) (wC (.str []))))) (wsSeq (wsAsg (wgPat (.nm 2)) (wOp gAdd (wVar 2) (wIf (wtTru (wCB bIsi (waCons (wVar 1) (waCons (wC (.con (.ty "str"))) waNil)))) (wVar 1) (wOp gIx (wVar 3) (wOp gSub (wCB bLen (waCons (wVar 3) waNil)) (wVar 1)))))) wsNil))) (wsSeq (wsRet (wVar 2)) wsNil)))
def g_law_meant : WL := fun ds h P => ∃ hs : List It, HOk Lett 0 hs ∧ hs.length ≤ 1000 ∧ ds = [histD hs] ∧ P (.str (mean [] hs)) h
theorem law_meant_ok : ∀ ds h P, g_law_meant ds h P → wF ws_law_meant 4 1 ds h P := by
  rintro ds h P ⟨hs, ok, hz, rfl, p⟩
  refine ⟨rfl, ?_⟩
  (conv => whnf); (try dsimp only)
  refine ⟨sl63 (by simp), ?_⟩
  (conv => whnf); (try dsimp only)
  refine fo_list hs It.d (fun rest fr h' => h' = h ∧ ∃ (row f : List Nat) (x : Option D), fr = [some (histD hs), x, some (.str f), some (.str row)] ∧ HOk Lett row.length rest ∧ f ++ mean row rest = mean [] hs ∧ f.length + rest.length = hs.length ∧ row.length ≤ f.length) ?_ ?_ ?_ ?_
  · exact fun _ _ _ _ _ => rfl
  · exact ⟨rfl, [], [], none, rfl, ok, rfl, by simp, Nat.le_refl _⟩
  · rintro a rest fr h' ha ⟨rfl, row, f, x, rfl, hk, he, hn, hr⟩ k hk'
    rw [List.length_cons] at hn
    cases a with
    | ch c =>
      (conv => whnf); (try dsimp only)
      refine ⟨(by first | rfl | decide), ?_⟩; (conv => whnf); (try dsimp only)
      refine ⟨sl63 (by simp; omega), ?_⟩
      (conv => whnf); (try dsimp only)
      refine ⟨(by first | rfl | decide), ?_⟩; (conv => whnf); (try dsimp only)
      refine ⟨sl63 (by simp; omega), ?_⟩
      refine hk' _ _ ⟨rfl, row ++ [c], f ++ [c], _, rfl, by rw [List.length_append]; exact hk.2, ?_, by rw [List.length_append, List.length_singleton]; omega, by simp; exact hr⟩
      rw [← he, List.append_assoc]; rfl
    | bk n =>
      have hx : row.length - n < row.length := by have := hk.1; have := hk.2.1; omega
      (conv => whnf); (try dsimp only)
      refine ⟨(by first | rfl | decide), ?_⟩; (conv => whnf); (try dsimp only)
      refine ⟨sl63 (by simp; omega), ?_⟩
      (conv => whnf); (try dsimp only)
      refine ⟨(by first | rfl | decide), ?_⟩; (conv => whnf); (try dsimp only)
      have hlen : ((row.length : Nat) : Int) - (n : Int) = ((row.length - n : Nat) : Int) := by have := hk.2.1; omega
      rw [List.append_nil, hlen, atI_nat (List.getElem?_eq_getElem hx)]
      (conv => whnf); (try dsimp only)
      refine ⟨sl63 (by simp; omega), ?_⟩
      refine hk' _ _ ⟨rfl, row, f ++ [row[row.length - n]], _, rfl, hk.2.2, ?_, by rw [List.length_append, List.length_singleton]; omega, by simp; omega⟩
      rw [← he, List.append_assoc]
      show f ++ ([_] ++ _) = f ++ (row[row.length - n]?.getD 0 :: _)
      rw [List.getElem?_eq_getElem hx]; rfl
  · rintro fr h' ⟨rfl, row, f, x, rfl, hk, he, hn, hr⟩
    have : f = mean [] hs := by rw [← he]; simp [mean]
    subst this
    (conv => whnf); (try dsimp only)
    exact gc_same rfl p
abbrev N_law_firsts : List Str := ["_law_history_here", "_law_item"]
def ws_law_firsts : WS := (wsSeq (wsRet (wGc (wBM "str" mJoin (wC (.str [])) (waCons (wLc (wiAny (wVar 0)) (.nm 1) (wtTru (wCB bIsi (waCons (wVar 1) (waCons (wC (.con (.ty "str"))) waNil)))) (wVar 1) [1]) waNil)))) wsNil)
def g_law_firsts : WL := g_firsts_of
theorem law_firsts_ok : ∀ ds h P, g_law_firsts ds h P → wF ws_law_firsts 2 1 ds h P := firsts_of_ok
def WinOk (w : Nat) (hs : List It) : Prop := ∀ n, It.bk n ∈ hs → n ≤ w
abbrev N_law_fits : List Str := ["_law_history_here", "_law_lot", "_law_window", "_law_wrong", "_law_item", "_law_ask"]
def ws_law_fits : WS := (wsSeq (wsAsg (wgPat (.nm 3)) (wLc (wiZip (waCons (wVar 0) (waCons (wCB g_law_meant (waCons (wVar 0) waNil)) waNil))) (.tp (.cons (.nm 4) (.cons (.nm 5) .nil))) (wtAnd (wtNot (wtTru (wCB bIsi (waCons (wVar 4) (waCons (wC (.con (.ty "str"))) waNil))))) (wtB (wOp (gIn true) (wVar 5) (wVar 1)))) (wC (.int 1)) [4, 5])) (wsSeq (wsRet (wAnd (wOp gEq (wVar 3) (wLst waNil)) (wOp gEq (wLc (wiAny (wVar 0)) (.nm 4) (wtAnd (wtNot (wtTru (wCB bIsi (waCons (wVar 4) (waCons (wC (.con (.ty "str"))) waNil))))) (wtAnd (wtB (wOp (isD true) (wVar 2) (wC .non))) (wtB (wOp gGt (wVar 4) (wVar 2))))) (wVar 4) [4]) (wLst waNil)))) wsNil))
def g_law_fits : WL := fun ds h P => ∃ (s : Svc) (hs : List It) (w : Nat), s.Ok ∧ HOk (· ∈ s.asks) 0 hs ∧ hs.length ≤ 60 ∧ WinOk w hs ∧ ds = [histD hs, .str s.asks, .int w] ∧ P (.bl true) h
theorem fm_none (f : D → Option D) (l : List D) (h : ∀ d ∈ l, f d = none) : l.filterMap f = [] := List.filterMap_eq_nil_iff.mpr h
theorem law_fits_ok : ∀ ds h P, g_law_fits ds h P → wF ws_law_fits 6 3 ds h P := by
  rintro ds h P ⟨s, hs, w, ok, hk, hz, hw, rfl, p⟩
  have hkl : HOk Lett 0 hs := hk.imp ok.az
  have hml : ((mean [] hs).map chD).length = hs.length := by rw [List.length_map, mean_len]
  have hmi : ∀ c ∈ mean [] hs, c ∈ s.asks := mean_in (row := []) (by simp) hk
  refine ⟨rfl, hs, hkl, by omega, rfl, ?_⟩
  (conv => whnf); (try dsimp only)
  refine lc_pure (h := h) (ds := List.zipWith (fun x y => D.tup [x, y]) (hs.map It.d) ((mean [] hs).map chD)) (fun _ => none) (by rw [List.length_zipWith, hml, List.length_map]; exact sl63 (by omega)) (fun i acc => tick_zip (a := .fix (hs.map It.d)) (b := .fix ((mean [] hs).map chD)) rfl rfl) (fun d hd acc kp sk h1 h2 => ?_) ?_
  · obtain ⟨x, hx, y, hy, rfl⟩ := mem_zw hd
    obtain ⟨c, hc, rfl⟩ := List.mem_map.mp hy
    obtain ⟨a, ha, rfl⟩ := List.mem_map.mp hx
    cases a with
    | ch z =>
      (conv => whnf); (try dsimp only)
      refine ⟨(by first | rfl | decide), ?_⟩; (conv => whnf); (try dsimp only)
      exact h2 rfl
    | bk n =>
      (conv => whnf); (try dsimp only)
      refine ⟨(by first | rfl | decide), ?_⟩; (conv => whnf); (try dsimp only)
      (generalize hdec : decide (c ∈ s.asks) = bdec; obtain rfl : bdec = true := hdec.symm.trans (decide_eq_true (hmi c hc)); clear hdec; (conv => whnf); (try dsimp only))
      exact h2 rfl
  · rw [fm_none _ _ fun _ _ => rfl]
    (conv => whnf); (try dsimp only)
    refine ⟨sl63 (by simp), ?_⟩
    (conv => whnf); (try dsimp only)
    rw [eqH_ll (lst_app1 lstAt_app) lstAt_app rfl rfl]
    (conv => whnf); (try dsimp only)
    refine lc_pure (h := h ++ [.lst []] ++ [.lst []]) (ds := hs.map It.d) (fun _ => none) (by rw [List.length_map]; exact sl63 (by omega)) ?_ (fun d hd acc kp sk h1 h2 => ?_) ?_
    · exact fun _ _ => rfl
    · obtain ⟨a, ha, rfl⟩ := List.mem_map.mp hd
      cases a with
      | ch z =>
        (conv => whnf); (try dsimp only)
        refine ⟨(by first | rfl | decide), ?_⟩; (conv => whnf); (try dsimp only)
        exact h2 rfl
      | bk n =>
        (conv => whnf); (try dsimp only)
        refine ⟨(by first | rfl | decide), ?_⟩; (conv => whnf); (try dsimp only)
        (generalize hdec : decide ((w : Int) < (n : Int)) = bdec; obtain rfl : bdec = false := hdec.symm.trans (decide_eq_false (by have := hw n ha; omega)); clear hdec; (conv => whnf); (try dsimp only))
        exact h2 rfl
    · rw [fm_none _ _ fun _ _ => rfl]
      (conv => whnf); (try dsimp only)
      refine ⟨sl63 (by simp), ?_⟩
      (conv => whnf); (try dsimp only)
      rw [eqH_ll (lst_app1 lstAt_app) lstAt_app rfl rfl]
      exact gc_pre (pre_app (pre_app (pre_app (pre_app pre_refl)))) rfl p
abbrev N_law_wished : List Str := ["_law_service_here", "_law_history_here", "_law_item", "_law_alone", "_law_found", "_law_many"]
def ws_law_wished : WS := (wsSeq (wsPar3 3 4 5 (waCons (wCB g_law_told (waCons (wVar 0) (waCons (wC (.int 0)) (waCons (wCB g_law_firsts (waCons (wVar 1) waNil)) waNil)))) (waCons (wLst waNil) (waCons (wC (.int 0)) waNil)))) (wsSeq (wsFor (wiAny (wVar 1)) (wgPat (.nm 2)) (wsSeq (wsAsg (wgPat (.nm 5)) (wOp gAdd (wVar 5) (wCB bInt (waCons (wCB bIsi (waCons (wVar 2) (waCons (wC (.con (.ty "str"))) waNil))) waNil)))) (wsSeq (wsExpr (wBM "list" mAppend (wVar 4) (waCons (wOp gIx (wVar 3) (wOp gSub (wVar 5) (wIf (wtTru (wCB bIsi (waCons (wVar 2) (waCons (wC (.con (.ty "str"))) waNil)))) (wC (.int 1)) (wVar 2)))) waNil))) wsNil))) (wsSeq (wsRet (wCB bTup (waCons (wVar 4) waNil))) wsNil)))
def g_law_wished : WL := fun ds h P => ∃ (s : Svc) (hs : List It), s.Ok ∧ HOk (· ∈ s.asks) 0 hs ∧ hs.length ≤ 60 ∧ ds = [s.d, histD hs] ∧ P (.tup ((wishL s hs).map strD)) h
theorem law_wished_ok : ∀ ds h P, g_law_wished ds h P → wF ws_law_wished 6 2 ds h P := by
  rintro ds h P ⟨s, hs, ok, hk, hz, rfl, hP⟩
  have hfl := firsts_len hs
  refine ⟨rfl, ?_⟩
  (conv => whnf); (try dsimp only)
  refine ⟨hs, by omega, rfl, ?_⟩
  (conv => whnf); (try dsimp only)
  refine ⟨s, firsts hs, ok, firsts_in hk, by omega, rfl, ?_⟩
  (conv => whnf); (try dsimp only)
  refine ⟨sl63 (by simp), ?_⟩
  (conv => whnf); (try dsimp only)
  refine fo_list hs It.d (fun rest fr h' => h <+: h' ∧ ∃ (j : Nat) (f : List (List Nat)) (x : Option D), fr = [some s.d, some (histD hs), x, some (.str (tell s 0 (firsts hs))), some (.ref h.length), some (.int (j : Int))] ∧ lstAt h' h.length = some (f.map strD) ∧ HOk (· ∈ s.asks) j rest ∧ f ++ wsh (tell s 0 (firsts hs)) j rest = wishL s hs ∧ f.length + rest.length = hs.length ∧ j + (firsts rest).length = (tell s 0 (firsts hs)).length) ?_ ?_ ?_ ?_
  · exact fun _ _ _ _ _ => rfl
  · exact ⟨pre_app pre_refl, 0, [], none, rfl, lstAt_app, hk, rfl, by simp, by rw [tell_len]; omega⟩
  · rintro a rest fr h' ha ⟨pre, j, f, x, rfl, hl, hj, he, hn, hc⟩ k hk'
    rw [List.length_cons] at hn
    generalize tell s 0 (firsts hs) = T at *
    have hL : (f.map strD).length < sizeLine := Nat.lt_of_lt_of_le (show (f.map strD).length < 1001 by rw [List.length_map]; omega) (by rw [sizeLine_eq]; omega)
    cases a with
    | ch c =>
      have hlt : j < T.length := by simp only [firsts, List.length_cons] at hc; omega
      (conv => whnf); (try dsimp only)
      refine ⟨(by first | rfl | decide), ?_⟩; (conv => whnf); (try dsimp only)
      refine ⟨ty_lst hl, ?_⟩
      (conv => whnf); (try dsimp only)
      refine ⟨(by first | rfl | decide), ?_⟩; (conv => whnf); (try dsimp only)
      rw [show (if isTy "str" "str" = true then (1 : Int) else 0) = 1 from rfl]
      rw [show (j : Int) + 1 - 1 = ((j : Nat) : Int) by omega, atI_nat (List.getElem?_eq_getElem hlt)]
      (conv => whnf); (try dsimp only)
      rw [hl]
      refine ⟨hL, ?_⟩
      refine hk' _ _ ⟨pre_set pre (Nat.le_refl _), j + 1, f ++ [[T[j]]], _, rfl, ?_, hj.2, ?_, by rw [List.length_append, List.length_singleton]; omega, by simp only [firsts, List.length_cons] at hc; omega⟩
      · rw [lst_set hl, List.map_append]; rfl
      · rw [← he, List.append_assoc]
        show f ++ ([[T[j]]] ++ _) = f ++ ([T[j]?.getD 0] :: _)
        rw [List.getElem?_eq_getElem hlt]; rfl
    | bk n =>
      have h1 := hj.1
      have h2 := hj.2.1
      have hc' : j + (firsts rest).length = T.length := hc
      have hlt : j - n < T.length := by omega
      (conv => whnf); (try dsimp only)
      refine ⟨(by first | rfl | decide), ?_⟩; (conv => whnf); (try dsimp only)
      refine ⟨ty_lst hl, ?_⟩
      (conv => whnf); (try dsimp only)
      refine ⟨(by first | rfl | decide), ?_⟩; (conv => whnf); (try dsimp only)
      rw [show (if isTy "int" "str" = true then (1 : Int) else 0) = 0 from rfl]
      rw [show (j : Int) + 0 - (n : Int) = ((j - n : Nat) : Int) by omega, atI_nat (List.getElem?_eq_getElem hlt)]
      (conv => whnf); (try dsimp only)
      rw [hl]
      refine ⟨hL, ?_⟩
      refine hk' _ _ ⟨pre_set pre (Nat.le_refl _), j, f ++ [[T[j - n]]], _, (by show _ = _; simp only [Int.add_zero]; rfl), ?_, hj.2.2, ?_, by rw [List.length_append, List.length_singleton]; omega, hc'⟩
      · rw [lst_set hl, List.map_append]; rfl
      · rw [← he, List.append_assoc]
        show f ++ ([[T[j - n]]] ++ _) = f ++ ([T[j - n]?.getD 0] :: _)
        rw [List.getElem?_eq_getElem hlt]; rfl
  · rintro fr h' ⟨pre, j, f, x, rfl, hl, hj, he, hn, hc⟩
    have : f = wishL s hs := by rw [← he]; simp [wsh]
    rw [this] at hl
    (conv => whnf); (try dsimp only)
    rw [hl]
    exact gc_pre pre (strs_sc _ _) hP
end MP

namespace MP
open PySem PySem.Spec PyProof.Rows L2
abbrev N_law_clerked : List Str := ["_law_service_here", "_law_m", "_law_k", "_law_history_here", "_law_stand", "_law_new", "_law_kept", "_law_found", "_law_many", "_law_item", "_law_ask", "_law_number", "_law_told_here", "_law_answer", "_law_other", "_law_one"]
def ws_law_clerked : WS := (wsSeq (wsAsg (wgPat (.tp (.cons (.nm 4) (.cons (.nm 5) (.cons (.nm 6) (.cons (.nm 7) (.cons (.nm 8) .nil))))))) (wTup (waCons (wC (.int 0)) (waCons (wC (.int 0)) (waCons (wLst waNil) (waCons (wLst waNil) (waCons (wC (.int 0)) waNil))))))) (wsSeq (wsFor (wiZip (waCons (wVar 3) (waCons (wCB g_law_meant (waCons (wVar 3) waNil)) waNil))) (wgPat (.tp (.cons (.nm 9) (.cons (.nm 10) .nil)))) (wsSeq (wsAsg (wgPat (.nm 11)) (wIf (wtTru (wCB bIsi (waCons (wVar 9) (waCons (wC (.con (.ty "str"))) waNil)))) (wOp gMod (wVar 8) (wVar 1)) (wOp gMod (wOp gSub (wVar 8) (wVar 9)) (wVar 1)))) (wsSeq (wsAsg (wgPat (.nm 8)) (wOp gAdd (wVar 8) (wCB bInt (waCons (wCB bIsi (waCons (wVar 9) (waCons (wC (.con (.ty "str"))) waNil))) waNil)))) (wsSeq (wsIf (wtB (wOp gEq (wVar 11) (wVar 5))) (wsSeq (wsAsg (wgPat (.tp (.cons (.nm 4) (.cons (.nm 13) .nil)))) (wCB g_law_step (waCons (wVar 0) (waCons (wVar 4) (waCons (wVar 10) waNil))))) (wsSeq (wsAsg (wgPat (.nm 6)) (wOp gAdd (wVar 6) (wLst (waCons (wTup (waCons (wVar 11) (waCons (wVar 13) waNil))) waNil)))) (wsSeq (wsAsg (wgPat (.nm 5)) (wOp gMod (wOp gAdd (wVar 5) (wC (.int 1))) (wVar 1))) wsNil))) (wsSeq (wsAsg (wgPat (.nm 12)) (wLc (wiAny (wSl (wVar 6) (woSome (wCB bMax2 (waCons (wC (.int 0)) (waCons (wOp gSub (wCB bLen (waCons (wVar 6) waNil)) (wVar 2)) waNil)))) woNone)) (.tp (.cons (.nm 14) (.cons (.nm 15) .nil))) (wtB (wOp gEq (wVar 14) (wVar 11))) (wVar 15) [14, 15])) (wsSeq (wsAsg (wgPat (.nm 13)) (wIf (wtB (wOp gNe (wVar 12) (wLst waNil))) (wOp gIx (wVar 12) (wUn gNeg (wC (.int 1)))) (wC (.str [])))) wsNil))) (wsSeq (wsExpr (wBM "list" mAppend (wVar 7) (waCons (wVar 13) waNil))) wsNil))))) (wsSeq (wsRet (wCB bTup (waCons (wVar 7) waNil))) wsNil)))
def g_law_clerked : WL := fun ds h P => ∃ (s : Svc) (m k : Nat) (hs : List It), s.Ok ∧ 1 ≤ m ∧ HOk (· ∈ s.asks) 0 hs ∧ hs.length ≤ 60 ∧ ds = [s.d, .int m, .int k, histD hs] ∧ P (.tup ((clerkL s m k hs).map strD)) h
theorem zip_mapH (xs : List It) (ys : List Nat) : (List.zip xs ys).map (fun y => D.tup [y.1.d, chD y.2]) = List.zipWith (fun x y => D.tup [x, y]) (xs.map It.d) (ys.map chD) := by
  rw [List.zipWith_map, List.zip_eq_zipWith, List.map_zipWith]
theorem cut_full (k : Nat) (kf : List (Nat × Nat)) : cutL (kf.map kD) (some (if (kf.length : Int) - (k : Int) > 0 then (kf.length : Int) - (k : Int) else 0)) none = (lastK k kf).map kD := by
  rw [cut_pos (by split <;> omega)]
  have e : (if (kf.length : Int) - (k : Int) > 0 then (kf.length : Int) - (k : Int) else 0).toNat = kf.length - k := by split <;> omega
  rw [e]
  exact drop_map _ _ _
theorem law_clerked_ok : ∀ ds h P, g_law_clerked ds h P → wF ws_law_clerked 16 4 ds h P := by
  rintro ds h P ⟨s, m, k, hs, ok, hm, hk, hz, rfl, hP⟩
  have hkl : HOk Lett 0 hs := hk.imp ok.az
  have hml : (mean [] hs).length = hs.length := mean_len _ _
  refine ⟨rfl, ?_⟩
  (conv => whnf); (try dsimp only)
  refine ⟨sl63 (by simp), ?_⟩
  (conv => whnf); (try dsimp only)
  refine ⟨sl63 (by simp), ?_⟩
  (conv => whnf); (try dsimp only)
  refine ⟨sl63 (by simp), ?_⟩
  (conv => whnf); (try dsimp only)
  refine ⟨hs, hkl, by omega, rfl, ?_⟩
  (conv => whnf); (try dsimp only)
  have pre0 : h <+: h ++ [Ob.lst []] ++ [Ob.lst []] := pre_app (pre_app pre_refl)
  have l1 : lstAt (h ++ [Ob.lst []] ++ [Ob.lst []]) h.length = some [] := lst_app1 lstAt_app
  have l2 : lstAt (h ++ [Ob.lst []] ++ [Ob.lst []]) (h ++ [Ob.lst []]).length = some [] := lstAt_app
  have q1 : (h ++ [Ob.lst []]).length = h.length + 1 := by simp
  generalize (h ++ [Ob.lst []]).length = q at *
  generalize h ++ [Ob.lst []] ++ [Ob.lst []] = h0 at *
  have hzl : (List.zip hs (mean [] hs)).length = hs.length := by rw [List.length_zip, hml, Nat.min_self]
  refine fo_list (List.zip hs (mean [] hs)) (fun y => D.tup [y.1.d, chD y.2]) (fun rest fr h' => h <+: h' ∧ ∃ (now new j : Nat) (kf : List (Nat × Nat)) (f : List (List Nat)) (p : Nat) (x9 x10 x11 x12 x13 : Option D),
    fr = [some s.d, some (.int m), some (.int k), some (histD hs), some (.int now), some (.int new), some (.ref p), some (.ref q), some (.int j), x9, x10, x11, x12, x13, none, none] ∧
    lstAt h' p = some (kf.map kD) ∧ p ≠ q ∧ lstAt h' q = some (f.map strD) ∧ now < s.rows.length ∧ (∀ y ∈ rest, y.2 ∈ s.asks) ∧ HOk (· ∈ s.asks) j (rest.map (·.1)) ∧
    f ++ srv s m k now new kf (List.zip (rest.map (·.2)) (nums m j (rest.map (·.1)))) = clerkL s m k hs ∧ f.length + rest.length = hs.length ∧ kf.length ≤ f.length) ?_ ?_ ?_ ?_
  · rintro rest fr h' i _
    rw [zip_mapH]
    exact tick_zip (a := .fix (hs.map It.d)) (b := .fix ((mean [] hs).map chD)) rfl rfl
  · refine ⟨pre0, 0, 0, 0, [], [], h.length, none, none, none, none, none, rfl, l1, by omega, l2, by have := ok.r1; omega, fun y hy => mean_in (row := []) (by simp) hk _ (List.of_mem_zip hy).2, ?_, ?_, by rw [hzl]; simp, Nat.le_refl _⟩
    · rw [List.map_fst_zip (by omega)]; exact hk
    · rw [List.map_fst_zip (by omega), List.map_snd_zip (by omega)]; rfl
  · rintro ⟨a, c⟩ rest fr h' ha ⟨pre, now, new, j, kf, f, p, x9, x10, x11, x12, x13, rfl, e1, e2, e3, e6, e7, ej, e8, e9, e10⟩ K hK
    have hin : c ∈ s.asks := e7 (a, c) (by simp)
    have e7' : ∀ y ∈ rest, y.2 ∈ s.asks := fun y hy => e7 y (by simp [hy])
    rw [List.length_cons] at e9
    -- after the number is known
    have main : ∀ (x j2 : Nat) (xi ji : Int) (d9 : D), xi = (x : Int) → ji = (j2 : Int) → HOk (· ∈ s.asks) j2 (rest.map (·.1)) → f ++ srv s m k now new kf ((c, x) :: List.zip (rest.map (·.2)) (nums m j2 (rest.map (·.1)))) = clerkL s m k hs → 
        wsSeq (wsIf (wtB (wOp gEq (wVar 11) (wVar 5))) (wsSeq (wsAsg (wgPat (.tp (.cons (.nm 4) (.cons (.nm 13) .nil)))) (wCB g_law_step (waCons (wVar 0) (waCons (wVar 4) (waCons (wVar 10) waNil))))) (wsSeq (wsAsg (wgPat (.nm 6)) (wOp gAdd (wVar 6) (wLst (waCons (wTup (waCons (wVar 11) (waCons (wVar 13) waNil))) waNil)))) (wsSeq (wsAsg (wgPat (.nm 5)) (wOp gMod (wOp gAdd (wVar 5) (wC (.int 1))) (wVar 1))) wsNil))) (wsSeq (wsAsg (wgPat (.nm 12)) (wLc (wiAny (wSl (wVar 6) (woSome (wCB bMax2 (waCons (wC (.int 0)) (waCons (wOp gSub (wCB bLen (waCons (wVar 6) waNil)) (wVar 2)) waNil)))) woNone)) (.tp (.cons (.nm 14) (.cons (.nm 15) .nil))) (wtB (wOp gEq (wVar 14) (wVar 11))) (wVar 15) [14, 15])) (wsSeq (wsAsg (wgPat (.nm 13)) (wIf (wtB (wOp gNe (wVar 12) (wLst waNil))) (wOp gIx (wVar 12) (wUn gNeg (wC (.int 1)))) (wC (.str [])))) wsNil))) (wsSeq (wsExpr (wBM "list" mAppend (wVar 7) (waCons (wVar 13) waNil))) wsNil)
        { nx := K, rt := gcK h P, bk := wsSeq (wsRet (wCB bTup (waCons (wVar 7) waNil))) wsNil { nx := fun _ h' => gcK h P .non h', rt := gcK h P }, ct := K }
        [some s.d, some (.int m), some (.int k), some (histD hs), some (.int now), some (.int new), some (.ref p), some (.ref q), some (.int ji), some d9, some (chD c), some (.int xi), x12, x13, none, none] h' := by
      rintro x j2 _ _ d9 rfl rfl ej2 e8
      have hq := lst_lt e3
      have hp := lst_lt e1
      have hfl : (f.map strD).length < sizeLine := Nat.lt_of_lt_of_le (show (f.map strD).length < 1001 by rw [List.length_map]; omega) (by rw [sizeLine_eq]; omega)
      (conv => whnf); (try dsimp only)
      by_cases hxn : x = new
      · subst hxn
        (generalize hdec : deq (.int (x : Int)) (.int (x : Int)) = bdec; obtain rfl : bdec = true := hdec.symm.trans (deq_int rfl); clear hdec; (conv => whnf); (try dsimp only))
        refine ⟨s, now, c, ok, e6, hin, rfl, ?_⟩
        (conv => whnf); (try dsimp only)
        refine ⟨sl63 (by simp), ?_⟩
        (conv => whnf); (try dsimp only)
        refine ⟨sl63 (by simp), ?_⟩
        (conv => whnf); (try dsimp only)
        rw [lst_app1 e1, lstAt_app]
        (conv => whnf); (try dsimp only)
        refine ⟨sl63 (by simp; omega), ?_⟩
        (conv => whnf); (try dsimp only)
        refine ⟨by omega, ?_⟩
        (conv => whnf); (try dsimp only)
        refine ⟨ty_lst (lst_app1 (lst_app1 e3)), ?_⟩
        (conv => whnf); (try dsimp only)
        rw [lst_app1 (lst_app1 e3)]
        refine ⟨hfl, ?_⟩
        refine hK _ _ ⟨pre_set (pre_app (pre_app pre)) (by omega), (s.step now c).1, (x + 1) % m, j2, kf ++ [(x, (s.step now c).2)], f ++ [[(s.step now c).2]], _, _, _, _, _, _, rfl, ?_, ?_, ?_, (ok.lt e6 hin).1, e7', ej2, ?_, ?_, ?_⟩
        · refine lst_setNe ?_ ?_
          · rw [lstAt_app, List.map_append]; rfl
          · rw [List.length_append]; omega
        · rw [List.length_append]; omega
        · rw [lst_set (lst_app1 (lst_app1 e3)), List.map_append]; rfl
        · rw [← e8, List.append_assoc]
          congr 1
          simp only [srv, if_pos]; rfl
        · rw [List.length_append, List.length_singleton]; omega
        · rw [List.length_append, List.length_append, List.length_singleton, List.length_singleton]; omega
      · (generalize hdec : deq (.int (x : Int)) (.int (new : Int)) = bdec; obtain rfl : bdec = false := hdec.symm.trans (deq_intF (by omega)); clear hdec; (conv => whnf); (try dsimp only))
        have hlen : lenD h' (.ref p) = some kf.length := by show h'[p]?.bind obLen = _; rw [lstAt_get e1]; show some (kf.map kD).length = _; rw [List.length_map]
        simp only [hlen]
        (conv => whnf); (try dsimp only)
        rw [e1]
        (conv => whnf); (try dsimp only)
        rw [cut_full]
        simp only [src_lst lstAt_app]
        refine lc_pure (h := h' ++ [Ob.lst ((lastK k kf).map kD)]) (ds := (lastK k kf).map kD) (isK x) (by have := lastK_len k kf; rw [List.length_map]; exact sl63 (by omega)) (fun i acc => tick_lst (lst_app1 lstAt_app)) (fun d hd acc kp sk h1 h2 => ?_) ?_
        · obtain ⟨y, hy, rfl⟩ := List.mem_map.mp hd
          (conv => whnf); (try dsimp only)
          by_cases hyx : y.1 = x
          · (generalize hdec : deq (.int (y.1 : Int)) (.int (x : Int)) = bdec; obtain rfl : bdec = true := hdec.symm.trans (deq_int (by omega)); clear hdec; (conv => whnf); (try dsimp only))
            exact h1 _ (by show (if ((y.1 : Nat) : Int) = (x : Int) then some _ else none) = _; rw [if_pos (by omega)])
          · (generalize hdec : deq (.int (y.1 : Int)) (.int (x : Int)) = bdec; obtain rfl : bdec = false := hdec.symm.trans (deq_intF (by omega)); clear hdec; (conv => whnf); (try dsimp only))
            exact h2 (by show (if ((y.1 : Nat) : Int) = (x : Int) then some _ else none) = _; rw [if_neg (by omega)])
        · rw [isK_map]
          have pr3 : h' <+: h' ++ [Ob.lst ((lastK k kf).map kD)] := pre_app pre_refl
          have hl3 : h'.length ≤ (h' ++ [Ob.lst ((lastK k kf).map kD)]).length := pre_len pr3
          generalize h' ++ [Ob.lst ((lastK k kf).map kD)] = h3 at *
          have e1 := pre_lst pr3 e1
          have e3 := pre_lst pr3 e3
          have pre := pre.trans pr3
          (conv => whnf); (try dsimp only)
          refine ⟨sl63 (by simp), ?_⟩
          (conv => whnf); (try dsimp only)
          rw [eqH_ll (lst_app1 lstAt_app) lstAt_app (chs_ok _ _) rfl, deqL_nil]
          have e8' : f ++ (lastOf (toldL x (lastK k kf)) :: srv s m k now new kf (List.zip (rest.map (·.2)) (nums m j2 (rest.map (·.1))))) = clerkL s m k hs := by rw [← e8]; simp only [srv, if_neg hxn]
          rcases hT : toldL x (lastK k kf) with _ | ⟨t, ts⟩
          · rw [hT] at e8'
            (conv => whnf); (try dsimp only)
            refine ⟨ty_lst (lst_app1 (lst_app1 e3)), ?_⟩
            (conv => whnf); (try dsimp only)
            rw [lst_app1 (lst_app1 e3)]
            refine ⟨hfl, ?_⟩
            refine hK _ _ ⟨pre_set (pre_app (pre_app pre)) (by omega), now, new, j2, kf, f ++ [[]], p, _, _, _, _, _, rfl, lst_setNe (lst_app1 (lst_app1 e1)) (Ne.symm e2), e2, ?_, e6, e7', ej2, ?_, ?_, ?_⟩
            · rw [lst_set (lst_app1 (lst_app1 e3)), List.map_append]; rfl
            · rw [← e8', List.append_assoc]; rfl
            · rw [List.length_append, List.length_singleton]; omega
            · rw [List.length_append]; omega
          · obtain ⟨z, g1, g2, g3⟩ := last_told (t :: ts) (by simp)
            rw [hT, g2] at e8'
            have g3' : atI ((t :: ts).map chD) (-1) = some (chD z) := g3
            (conv => whnf); (try dsimp only)
            simp only [lstAt_get (lst_app1 (g := [Ob.lst []]) (lstAt_app (h := h3) (ds := (t :: ts).map chD)))]
            (conv => whnf); (try dsimp only)
            rw [g3']
            (conv => whnf); (try dsimp only)
            refine ⟨ty_lst (lst_app1 (lst_app1 e3)), ?_⟩
            (conv => whnf); (try dsimp only)
            rw [lst_app1 (lst_app1 e3)]
            refine ⟨hfl, ?_⟩
            refine hK _ _ ⟨pre_set (pre_app (pre_app pre)) (by omega), now, new, j2, kf, f ++ [[z]], p, _, _, _, _, _, rfl, lst_setNe (lst_app1 (lst_app1 e1)) (Ne.symm e2), e2, ?_, e6, e7', ej2, ?_, ?_, ?_⟩
            · rw [lst_set (lst_app1 (lst_app1 e3)), List.map_append]; rfl
            · rw [← e8', List.append_assoc]; rfl
            · rw [List.length_append, List.length_singleton]; omega
            · rw [List.length_append]; omega
    cases a with
    | ch z =>
      (conv => whnf); (try dsimp only)
      refine ⟨(by first | rfl | decide), ?_⟩; (conv => whnf); (try dsimp only)
      refine ⟨by omega, ?_⟩
      (conv => whnf); (try dsimp only)
      refine ⟨rfl, ?_⟩
      exact main (j % m) (j + 1) ((j : Int) % (m : Int)) ((j : Int) + (if isTy "str" "str" = true then 1 else 0)) (It.ch z).d (by simp) rfl ej.2 e8
    | bk n =>
      have h2 := ej.2.1
      (conv => whnf); (try dsimp only)
      refine ⟨(by first | rfl | decide), ?_⟩; (conv => whnf); (try dsimp only)
      refine ⟨by omega, ?_⟩
      (conv => whnf); (try dsimp only)
      refine ⟨rfl, ?_⟩
      exact main ((j - n) % m) j (((j : Int) - (n : Int)) % (m : Int)) ((j : Int) + (if isTy "int" "str" = true then 1 else 0)) (It.bk n).d (by rw [show (j : Int) - (n : Int) = ((j - n : Nat) : Int) by omega]; simp) (Int.add_zero _) ej.2.2 e8
  · rintro fr h' ⟨pre, now, new, j, kf, f, p, x9, x10, x11, x12, x13, rfl, e1, e2, e3, e6, e7, ej, e8, e9, e10⟩
    have : f = clerkL s m k hs := by rw [← e8]; simp [srv]
    rw [this] at e3
    (conv => whnf); (try dsimp only)
    rw [e3]
    exact gc_pre pre (strs_sc _ _) hP
end MP

namespace MP
open PySem PySem.Spec PyProof.Rows L2
def Scal (d e : D) : Prop := (∃ b, d = .bl b ∧ e = .bl b) ∨ (∃ s, d = .str s ∧ e = .str s)
def Alk : Nat → Hq → D → D → Prop
  | 0, _, d, e => Scal d e
  | n + 1, h, d, e => Scal d e ∨ (∃ xs ys, d = .tup xs ∧ e = .tup ys ∧ xs.length = ys.length ∧ ys.length ≤ 1000 ∧ ∀ (i : Nat) (x y : D), xs[i]? = some x → ys[i]? = some y → Alk n h x y) ∨
      (∃ a b xs ys, d = .ref a ∧ e = .ref b ∧ lstAt h a = some xs ∧ lstAt h b = some ys ∧ xs.length = ys.length ∧ ys.length ≤ 1000 ∧ ∀ (i : Nat) (x y : D), xs[i]? = some x → ys[i]? = some y → Alk n h x y)
theorem Alk.pre {h h' : Hq} (p : h <+: h') : ∀ {n : Nat} {d e : D}, Alk n h d e → Alk n h' d e
  | 0, _, _, k => k
  | n + 1, d, e, k => by
    rcases k with k | ⟨xs, ys, e1, e2, e3, e4, e5⟩ | ⟨a, b, xs, ys, e1, e2, l1, l2, e3, e4, e5⟩
    · exact .inl k
    · exact .inr (.inl ⟨xs, ys, e1, e2, e3, e4, fun i x y hx hy => Alk.pre p (e5 i x y hx hy)⟩)
    · exact .inr (.inr ⟨a, b, xs, ys, e1, e2, pre_lst p l1, pre_lst p l2, e3, e4, fun i x y hx hy => Alk.pre p (e5 i x y hx hy)⟩)
abbrev N_law_alike : List Str := ["_law_found", "_law_due", "_law_k", "_law_key"]
def ws_law_alike (g_law_alike : WL) : WS := (wsSeq (wsIf (wtTru (wCB bIsi (waCons (wVar 1) (waCons (wTup (waCons (wC (.con (.ty "tuple"))) (waCons (wC (.con (.ty "list"))) waNil))) waNil)))) (wsSeq (wsIf (wtOr (wtNot (wtTru (wCB bIsi (waCons (wVar 0) (waCons (wTup (waCons (wC (.con (.ty "tuple"))) (waCons (wC (.con (.ty "list"))) waNil))) waNil))))) (wtB (wOp gNe (wCB bIsi (waCons (wVar 0) (waCons (wC (.con (.ty "list"))) waNil))) (wCB bIsi (waCons (wVar 1) (waCons (wC (.con (.ty "list"))) waNil)))))) (wsSeq (wsRet (wC (.bl false))) wsNil) wsNil) (wsSeq (wsIf (wtB (wOp gNe (wCB bLen (waCons (wVar 0) waNil)) (wCB bLen (waCons (wVar 1) waNil)))) (wsSeq (wsRet (wC (.bl false))) wsNil) wsNil) (wsSeq (wsRet (wOp gEq (wLc (wiRng1 (waCons (wCB bLen (waCons (wVar 1) waNil)) waNil)) (.nm 2) (wtNot (wtTru (wCB g_law_alike (waCons (wOp gIx (wVar 0) (wVar 2)) (waCons (wOp gIx (wVar 1) (wVar 2)) waNil))))) (wVar 2) [2]) (wLst waNil))) wsNil))) wsNil) (wsSeq (wsIf (wtTru (wCB bIsi (waCons (wVar 1) (waCons (wC (.con (.ty "dict"))) waNil)))) (wsSeq wsNever (wsSeq (wsRet (wOp gEq (wLc (wiAny (wVar 1)) (.nm 3) (wtNot (wtTru (wCB g_law_alike (waCons (wOp gIx (wVar 0) (wVar 3)) (waCons (wOp gIx (wVar 1) (wVar 3)) waNil))))) (wVar 3) [3]) (wLst waNil))) wsNil)) wsNil) (wsSeq (wsIf (wtOr (wtB (wOp (isD false) (wVar 1) (wC .non))) (wtTru (wCB bIsi (waCons (wVar 1) (waCons (wC (.con (.ty "str"))) waNil))))) (wsSeq (wsRet (wAnd (wOp gEq (wVar 0) (wVar 1)) (wOp gEq (wCB bIsi (waCons (wVar 0) (waCons (wC (.con (.ty "str"))) waNil))) (wCB bIsi (waCons (wVar 1) (waCons (wC (.con (.ty "str"))) waNil)))))) wsNil) wsNil) (wsSeq (wsRet (wAnd (wCB bIsi (waCons (wVar 0) (waCons (wC (.con (.ty "int"))) waNil))) (wAnd (wOp gEq (wCB bIsi (waCons (wVar 0) (waCons (wC (.con (.ty "bool"))) waNil))) (wCB bIsi (waCons (wVar 1) (waCons (wC (.con (.ty "bool"))) waNil)))) (wOp gEq (wVar 0) (wVar 1))))) wsNil))))
def g_alk (n : Nat) : WL := fun ds h P => ∃ d e, Alk n h d e ∧ ds = [d, e] ∧ P (.bl true) h
theorem alk_scal {g : WL} {d e : D} {h : Hq} {P : WK} (k : Scal d e) (p : P (.bl true) h) : wF (ws_law_alike g) 4 2 [d, e] h P := by
  refine ⟨rfl, ?_⟩
  rcases k with ⟨b, rfl, rfl⟩ | ⟨s, rfl, rfl⟩
  · (conv => whnf); (try dsimp only)
    refine ⟨(by first | rfl | decide), ?_⟩; (conv => whnf); (try dsimp only)
    refine ⟨(by first | rfl | decide), ?_⟩; (conv => whnf); (try dsimp only)
    refine ⟨(by first | rfl | decide), ?_⟩; (conv => whnf); (try dsimp only)
    refine ⟨(by first | rfl | decide), ?_⟩; (conv => whnf); (try dsimp only)
    refine ⟨(by first | rfl | decide), ?_⟩; (conv => whnf); (try dsimp only)
    refine ⟨(by first | rfl | decide), ?_⟩; (conv => whnf); (try dsimp only)
    refine ⟨(by first | rfl | decide), ?_⟩; (conv => whnf); (try dsimp only)
    cases b
    · exact gc_same rfl p
    · exact gc_same rfl p
  · (conv => whnf); (try dsimp only)
    refine ⟨(by first | rfl | decide), ?_⟩; (conv => whnf); (try dsimp only)
    refine ⟨(by first | rfl | decide), ?_⟩; (conv => whnf); (try dsimp only)
    refine ⟨(by first | rfl | decide), ?_⟩; (conv => whnf); (try dsimp only)
    refine ⟨(by first | rfl | decide), ?_⟩; (conv => whnf); (try dsimp only)
    (generalize hdec : deq (.str s) (.str s) = bdec; obtain rfl : bdec = true := hdec.symm.trans (by show (s == s) = true; simp); clear hdec; (conv => whnf); (try dsimp only))
    refine ⟨(by first | rfl | decide), ?_⟩; (conv => whnf); (try dsimp only)
    refine ⟨(by first | rfl | decide), ?_⟩; (conv => whnf); (try dsimp only)
    exact gc_same rfl p
theorem alk_ok0 {g : WL} : ∀ ds h P, g_alk 0 ds h P → wF (ws_law_alike g) 4 2 ds h P := by
  rintro ds h P ⟨d, e, k, rfl, p⟩
  exact alk_scal k p
theorem alk_okS {n : Nat} : ∀ ds h P, g_alk (n + 1) ds h P → wF (ws_law_alike (g_alk n)) 4 2 ds h P := by
  rintro ds h P ⟨d, e, k, rfl, p⟩
  rcases k with k | ⟨xs, ys, rfl, rfl, e3, e4, e5⟩ | ⟨a, b, xs, ys, rfl, rfl, l1, l2, e3, e4, e5⟩
  · exact alk_scal k p
  · refine ⟨rfl, ?_⟩
    (conv => whnf); (try dsimp only)
    refine ⟨(by first | rfl | decide), ?_⟩; (conv => whnf); (try dsimp only)
    refine ⟨(by first | rfl | decide), ?_⟩; (conv => whnf); (try dsimp only)
    refine ⟨(by first | rfl | decide), ?_⟩; (conv => whnf); (try dsimp only)
    refine ⟨(by first | rfl | decide), ?_⟩; (conv => whnf); (try dsimp only)
    refine ⟨(by first | rfl | decide), ?_⟩; (conv => whnf); (try dsimp only)
    refine ⟨(by first | rfl | decide), ?_⟩; (conv => whnf); (try dsimp only)
    (generalize hdec : deq (.int (xs.length : Int)) (.int (ys.length : Int)) = bdec; obtain rfl : bdec = true := hdec.symm.trans (deq_int (by rw [e3])); clear hdec; (conv => whnf); (try dsimp only))
    refine ⟨⟨by omega, by omega⟩, ?_⟩
    refine lc_pure (ds := (List.range ((ys.length : Nat) : Int).toNat).map fun i : Nat => D.int ((i : Nat) : Int)) (fun _ => none) (by rw [List.length_map, List.length_range]; exact sl63 (by omega)) ?_ (fun d hd acc kp sk k1 k2 => ?_) ?_
    · exact fun _ _ => rfl
    · obtain ⟨i, hi, rfl⟩ := List.mem_map.mp hd
      have hi2 : i < ys.length := by have := List.mem_range.mp hi; omega
      have hi1 : i < xs.length := by omega
      (conv => whnf); (try dsimp only)
      simp only [atI_nat (List.getElem?_eq_getElem hi1)]
      (conv => whnf); (try dsimp only)
      simp only [atI_nat (List.getElem?_eq_getElem hi2)]
      refine ⟨_, _, (e5 i _ _ (List.getElem?_eq_getElem hi1) (List.getElem?_eq_getElem hi2)).pre (pre_app pre_refl), rfl, ?_⟩
      exact k2 rfl
    · rw [fm_none _ _ fun _ _ => rfl]
      (conv => whnf); (try dsimp only)
      refine ⟨sl63 (by simp), ?_⟩
      (conv => whnf); (try dsimp only)
      rw [eqH_ll (lst_app1 lstAt_app) lstAt_app rfl rfl]
      exact gc_pre (pre_app (pre_app pre_refl)) rfl p
  · refine ⟨rfl, ?_⟩
    have t1 : tyD h (.ref a) = some "list" := by show h[a]?.bind obTy = _; rw [lstAt_get l1]; rfl
    have t2 : tyD h (.ref b) = some "list" := by show h[b]?.bind obTy = _; rw [lstAt_get l2]; rfl
    have n1 : lenD h (.ref a) = some xs.length := by show h[a]?.bind obLen = _; rw [lstAt_get l1]; rfl
    have n2 : lenD h (.ref b) = some ys.length := by show h[b]?.bind obLen = _; rw [lstAt_get l2]; rfl
    (conv => whnf); (try dsimp only)
    refine ⟨(by first | rfl | decide), ?_⟩; (conv => whnf); (try dsimp only)
    simp only [t2]
    refine ⟨(by first | rfl | decide), ?_⟩; (conv => whnf); (try dsimp only)
    refine ⟨(by first | rfl | decide), ?_⟩; (conv => whnf); (try dsimp only)
    simp only [t1]
    refine ⟨(by first | rfl | decide), ?_⟩; (conv => whnf); (try dsimp only)
    simp only [t1]
    refine ⟨(by first | rfl | decide), ?_⟩; (conv => whnf); (try dsimp only)
    simp only [t2]
    refine ⟨(by first | rfl | decide), ?_⟩; (conv => whnf); (try dsimp only)
    simp only [n1]
    (conv => whnf); (try dsimp only)
    simp only [n2]
    (conv => whnf); (try dsimp only)
    (generalize hdec : deq (.int (xs.length : Int)) (.int (ys.length : Int)) = bdec; obtain rfl : bdec = true := hdec.symm.trans (deq_int (by rw [e3])); clear hdec; (conv => whnf); (try dsimp only))
    simp only [n2]
    refine ⟨⟨by omega, by omega⟩, ?_⟩
    refine lc_pure (ds := (List.range ((ys.length : Nat) : Int).toNat).map fun i : Nat => D.int ((i : Nat) : Int)) (fun _ => none) (by rw [List.length_map, List.length_range]; exact sl63 (by omega)) ?_ (fun d hd acc kp sk k1 k2 => ?_) ?_
    · exact fun _ _ => rfl
    · obtain ⟨i, hi, rfl⟩ := List.mem_map.mp hd
      have hi2 : i < ys.length := by have := List.mem_range.mp hi; omega
      have hi1 : i < xs.length := by omega
      (conv => whnf); (try dsimp only)
      simp only [lstAt_get (lst_app1 l1)]
      simp only [atI_nat (List.getElem?_eq_getElem hi1)]
      (conv => whnf); (try dsimp only)
      simp only [lstAt_get (lst_app1 l2)]
      simp only [atI_nat (List.getElem?_eq_getElem hi2)]
      refine ⟨_, _, (e5 i _ _ (List.getElem?_eq_getElem hi1) (List.getElem?_eq_getElem hi2)).pre (pre_app pre_refl), rfl, ?_⟩
      exact k2 rfl
    · rw [fm_none _ _ fun _ _ => rfl]
      (conv => whnf); (try dsimp only)
      refine ⟨sl63 (by simp), ?_⟩
      (conv => whnf); (try dsimp only)
      rw [eqH_ll (lst_app1 lstAt_app) lstAt_app rfl rfl]
      exact gc_pre (pre_app (pre_app pre_refl)) rfl p
end MP

namespace MP
open PySem PySem.Spec PyProof.Rows L2
/-- the heap h' since the entry at h: the row drawn on, some lists made -/
structure HF (h : Hq) (n sc : Nat) (h' : Hq) (L : List (Nat × List D)) : Prop where
  cur : ∃ r', RowD sc r' ∧ h.set n (.lst r') <+: h'
  lk : ∀ p ds, (p, ds) ∈ L → h.length ≤ p ∧ lstAt h' p = some ds
section
variable {h h' : Hq} {n sc : Nat} {r : List D} {L : List (Nat × List D)}
theorem HF.start (R : RowAt h n sc r) : HF h n sc h [] := ⟨⟨r, R.ok, by rw [set_same R.at_]; exact pre_refl⟩, fun _ _ z => by cases z⟩
theorem HF.row (F : HF h n sc h' L) (R : RowAt h n sc r) : ∃ r', RowAt h' n sc r' := by
  obtain ⟨r', ok, p⟩ := F.cur
  exact ⟨r', (R.set ok).pre p⟩
theorem HF.len (F : HF h n sc h' L) : h.length ≤ h'.length := by
  obtain ⟨r', ok, p⟩ := F.cur
  have := pre_len p
  rwa [List.length_set] at this
theorem HF.draw (F : HF h n sc h' L) (R : RowAt h n sc r) {r2 : List D} (ok2 : RowD sc r2) : HF h n sc (h'.set n (.lst r2)) L := by
  obtain ⟨r', ok, p⟩ := F.cur
  have hn := lst_lt R.at_
  exact ⟨⟨r2, ok2, pre_setn p hn⟩, fun q ds m => ⟨(F.lk q ds m).1, lst_setNe (F.lk q ds m).2 (by have := (F.lk q ds m).1; omega)⟩⟩
theorem HF.app (F : HF h n sc h' L) {g : Hq} : HF h n sc (h' ++ g) L := by
  obtain ⟨r', ok, p⟩ := F.cur
  exact ⟨⟨r', ok, pre_app p⟩, fun q ds m => ⟨(F.lk q ds m).1, lst_app1 (F.lk q ds m).2⟩⟩
theorem HF.new (F : HF h n sc h' L) {ds : List D} : HF h n sc (h' ++ [.lst ds]) ((h'.length, ds) :: L) := by
  refine ⟨F.app.cur, fun q es m => ?_⟩
  rcases List.mem_cons.mp m with e | m
  · cases e; exact ⟨F.len, lstAt_app⟩
  · exact F.app.lk q es m
theorem HF.put (F : HF h n sc h' L) {p : Nat} {ds : List D} (hp : h.length ≤ p) (e : lstAt h' p = some ds) (ne : ∀ q es, (q, es) ∈ L → p ≠ q) {es : List D} : HF h n sc (h'.set p (.lst es)) ((p, es) :: L) := by
  obtain ⟨r', ok, pr⟩ := F.cur
  refine ⟨⟨r', ok, pre_set pr (by rw [List.length_set]; exact hp)⟩, fun q fs m => ?_⟩
  rcases List.mem_cons.mp m with z | m
  · cases z; exact ⟨hp, lst_set e⟩
  · exact ⟨(F.lk q fs m).1, lst_setNe (F.lk q fs m).2 (ne q fs m)⟩
theorem HF.gc (F : HF h n sc h' L) (R : RowAt h n sc r) {P : WK} {d : D} (sc' : d.sc h.length = true) (p : ∀ r', RowD sc r' → P d (h.set n (.lst r'))) : gcK h P d h' := by
  obtain ⟨r', ok, pr⟩ := F.cur
  exact gc_mutp pr (R.scl ok) sc' (p r' ok)
end
def AskOk (a : List Nat) : Prop := 1 ≤ a.length ∧ a.length ≤ 4 ∧ (∀ c ∈ a, Lett c) ∧ ∀ x ∈ List.zipWith (fun a b => D.tup [.str [a], .str [b]]) a a.tail, ∃ a b : Nat, x = .tup [.str [a], .str [b]] ∧ a < b
theorem askOk : ∀ d ∈ [D.str [97], .str [97, 98], .str [97, 98], .str [97, 98], .str [98, 122], .str [97, 98, 99], .str [99, 100, 120]], ∃ a, d = .str a ∧ AskOk a := by
  have lets : ∀ a : List Nat, (a.all fun c => decide (97 ≤ c) && decide (c ≤ 122)) = true → ∀ c ∈ a, Lett c := fun a e c hc => by
    have := List.all_eq_true.mp e c hc
    simp only [Bool.and_eq_true, decide_eq_true_eq] at this
    exact this
  intro d hd
  simp only [List.mem_cons, List.not_mem_nil, or_false] at hd
  rcases hd with rfl | rfl | rfl | rfl | rfl | rfl | rfl
  · exact ⟨_, rfl, by simp, by simp, lets _ rfl, fun x hx => by simp at hx⟩
  · exact ⟨_, rfl, by simp, by simp, lets _ rfl, fun x hx => ⟨97, 98, by simpa using hx, by omega⟩⟩
  · exact ⟨_, rfl, by simp, by simp, lets _ rfl, fun x hx => ⟨97, 98, by simpa using hx, by omega⟩⟩
  · exact ⟨_, rfl, by simp, by simp, lets _ rfl, fun x hx => ⟨97, 98, by simpa using hx, by omega⟩⟩
  · exact ⟨_, rfl, by simp, by simp, lets _ rfl, fun x hx => ⟨98, 122, by simpa using hx, by omega⟩⟩
  · refine ⟨_, rfl, by simp, by simp, lets _ rfl, fun x hx => ?_⟩
    have hx' : x = .tup [.str [97], .str [98]] ∨ x = .tup [.str [98], .str [99]] := by simpa using hx
    rcases hx' with rfl | rfl
    · exact ⟨97, 98, rfl, by omega⟩
    · exact ⟨98, 99, rfl, by omega⟩
  · refine ⟨_, rfl, by simp, by simp, lets _ rfl, fun x hx => ?_⟩
    have hx' : x = .tup [.str [99], .str [100]] ∨ x = .tup [.str [100], .str [120]] := by simpa using hx
    rcases hx' with rfl | rfl
    · exact ⟨99, 100, rfl, by omega⟩
    · exact ⟨100, 120, rfl, by omega⟩
/-- a list of numbers drawn, one for each sign of a text -/
theorem lc_draw {h h1 : Hq} {n sc : Nat} {r : List D} {L : List (Nat × List D)} {ds : List D} {p : Pat} {te : WE} {fr : Fr} {R : WK} (q : Nat) (q1 : 1 ≤ q) (q2 : q < 1073741824) (Rw : RowAt h n sc r) (F : HF h n sc h1 L) (hz : ds.length ≤ 1000)
    (hL : ∀ p' es, (p', es) ∈ L → p' < h1.length)
    (hs : ∀ d ∈ ds, ∃ fr2, bindP p d fr = some fr2 ∧ ∀ h' Q, g_law_taken [.ref n, .int (q : Int)] h' Q → te fr2 h' Q)
    (he : ∀ (ws : List Nat) (h' : Hq), ws.length = ds.length → (∀ w ∈ ws, w < q) → HF h n sc h' ((h1.length, ws.map intD) :: L) → R (.ref h1.length) h') :
    ∃ k, lcN (.fix ds) h1.length (lcStep p wtYes te fr) R k 0 (h1 ++ [.lst []]) := by
  refine lc_inv (ds := ds) (fun i acc h' => ∃ ws : List Nat, acc = ws.map intD ∧ ws.length = i ∧ (∀ w ∈ ws, w < q) ∧ HF h n sc h' ((h1.length, acc) :: L)) 0 [] (fun _ _ _ _ => rfl) (fun i acc h' ⟨ws, e1, e2, e3, F'⟩ => ⟨(F'.lk _ _ (by simp)).2, by rw [e1, List.length_map]; omega⟩) (by have := sl63 hz; omega)
    ⟨[], rfl, rfl, by simp, F.new⟩ (fun i d acc h' ⟨ws, e1, e2, e3, F'⟩ hd kp sk k1 k2 => ?_) fun acc h' ⟨ws, e1, e2, e3, F'⟩ => by subst e1; exact he ws h' e2 e3 F'
  obtain ⟨fr2, b1, b2⟩ := hs d (List.mem_of_getElem? hd)
  unfold lcStep
  rw [b1]
  obtain ⟨r', R'⟩ := F'.row Rw
  refine b2 _ _ ⟨n, sc, r', q, rfl, R', q1, q2, fun z r2 hz ok => ?_⟩
  have F2 := F'.draw Rw ok
  have l2 := F2.lk h1.length acc (by simp)
  refine k1 _ _ l2.2 ⟨ws ++ [z], by rw [e1, List.map_append]; rfl, by rw [List.length_append, e2]; rfl, fun w hw => ?_, ?_⟩
  · rcases List.mem_append.mp hw with hw | hw
    · exact e3 w hw
    · rw [List.mem_singleton.mp hw]; exact hz
  · have F3 : HF h n sc (h'.set n (.lst r2)) L := ⟨F2.cur, fun p' es m => F2.lk p' es (List.mem_cons_of_mem _ m)⟩
    exact F3.put l2.1 l2.2 fun q' es m => by have := hL q' es m; omega
abbrev N_law_service : List Str := ["_law_row", "_law_most", "_law_asks", "_law_ways", "_law_ends", "_law_few", "_law_one", "_law_size", "_law_rows", "_law_line", "_law_ask", "_law_way", "_law_end", "_law_later"]
def ws_law_service : WS := (wsSeq (wsAsg (wgPat (.nm 2)) (wCB g_law_pick (waCons (wVar 0) (waCons (wLst (waCons (wC (.str [97])) (waCons (wC (.str [97, 98])) (waCons (wC (.str [97, 98])) (waCons (wC (.str [97, 98])) (waCons (wC (.str [98, 122])) (waCons (wC (.str [97, 98, 99])) (waCons (wC (.str [99, 100, 120])) waNil)))))))) waNil)))) (wsSeq (wsAsg (wgPat (.tp (.cons (.nm 7) (.cons (.nm 8) .nil)))) (wTup (waCons (wOp gAdd (wC (.int 1)) (wCB g_law_taken (waCons (wVar 0) (waCons (wVar 1) waNil)))) (waCons (wLst waNil) waNil)))) (wsSeq (wsAsg (wgPat (.nm 3)) (wLc (wiAny (wVar 2)) (.nm 10) wtYes (wCB g_law_taken (waCons (wVar 0) (waCons (wC (.int 3)) waNil))) [10])) (wsSeq (wsAsg (wgPat (.nm 4)) (wLc (wiAny (wVar 2)) (.nm 10) wtYes (wCB g_law_taken (waCons (wVar 0) (waCons (wVar 7) waNil))) [10])) (wsSeq (wsAsg (wgPat (.nm 5)) (wOp gAdd (wC (.int 1)) (wCB g_law_taken (waCons (wVar 0) (waCons (wC (.int 2)) waNil))))) (wsSeq (wsFor (wiRng1 (waCons (wVar 7) waNil)) (wgPat (.nm 6)) (wsSeq (wsAsg (wgPat (.nm 9)) (wLst waNil)) (wsSeq (wsFor (wiZip (waCons (wVar 3) (waCons (wVar 4) waNil))) (wgPat (.tp (.cons (.nm 11) (.cons (.nm 12) .nil)))) (wsSeq (wsAsg (wgPat (.nm 13)) (wIf (wtB (wOp gEq (wVar 11) (wC (.int 0)))) (wVar 12) (wIf (wtAnd (wtB (wOp gEq (wVar 11) (wC (.int 1)))) (wtB (wOp gEq (wCB g_law_taken (waCons (wVar 0) (waCons (wC (.int 2)) waNil))) (wC (.int 0))))) (wVar 6) (wCB g_law_taken (waCons (wVar 0) (waCons (wVar 7) waNil)))))) (wsSeq (wsExpr (wBM "list" mAppend (wVar 9) (waCons (wTup (waCons (wVar 13) (waCons (wOp gIx (wC (.str [120, 121, 122])) (wCB g_law_taken (waCons (wVar 0) (waCons (wOp gAdd (wVar 5) (wC (.int 1))) waNil)))) waNil))) waNil))) wsNil))) (wsSeq (wsExpr (wBM "list" mAppend (wVar 8) (waCons (wCB bTup (waCons (wVar 9) waNil)) waNil))) wsNil)))) (wsSeq (wsRet (wTup (waCons (wVar 2) (waCons (wCB bTup (waCons (wVar 8) waNil)) waNil)))) wsNil)))))))
def g_law_service : WL := fun ds h P => ∃ (n sc : Nat) (r : List D) (most : Nat), ds = [.ref n, .int most] ∧ RowAt h n sc r ∧ 1 ≤ most ∧ most ≤ 40 ∧ ∀ (s : Svc) (r' : List D), s.Ok → RowD sc r' → P s.d (h.set n (.lst r'))
theorem law_service_ok : ∀ ds h P, g_law_service ds h P → wF ws_law_service 14 2 ds h P := by
  rintro ds h P ⟨n, sc, r, most, rfl, R, m1, m2, hP⟩
  have F := HF.start R
  have hn := lst_lt R.at_
  refine ⟨rfl, ?_⟩
  (conv => whnf); (try dsimp only)
  refine ⟨sl63 (by simp), ?_⟩
  have F := F.app (g := [.lst [D.str [97], .str [97, 98], .str [97, 98], .str [97, 98], .str [98, 122], .str [97, 98, 99], .str [99, 100, 120]]])
  refine ⟨n, sc, r, h.length, _, rfl, R.pre (pre_app pre_refl), lstAt_app, by omega, by simp, by simp, rfl, fun z0 hz0 r0 ok0 => ?_⟩
  have F := F.draw R ok0
  obtain ⟨asks, ha, hask⟩ := askOk _ (List.getElem_mem hz0)
  rw [ha]
  generalize (h ++ [Ob.lst [D.str [97], D.str [97, 98], D.str [97, 98], D.str [97, 98], D.str [98, 122], D.str [97, 98, 99], D.str [99, 100, 120]]]).set n (Ob.lst r0) = h1 at F
  obtain ⟨r2, R2⟩ := F.row R
  (conv => whnf); (try dsimp only)
  refine ⟨n, sc, r2, most, rfl, R2, m1, by omega, fun z r3 hz ok => ?_⟩
  have F := F.draw R ok
  generalize h1.set n (Ob.lst r3) = h2 at F
  (conv => whnf); (try dsimp only)
  refine ⟨sl63 (by simp), ?_⟩
  (conv => whnf); (try dsimp only)
  refine ⟨sl63 (by simp), ?_⟩
  have F := F.new (ds := [])
  have hr2 : h2.length < (h2 ++ [Ob.lst []]).length := by simp
  have hr3 := F.len
  generalize h2.length = pr at F hr2
  generalize h2 ++ [Ob.lst []] = h3 at F hr2
  have hsz : (1 : Int) + (z : Int) = ((1 + z : Nat) : Int) := by omega
  rw [hsz]
  have hs1 : 1 ≤ 1 + z ∧ 1 + z ≤ 40 := by omega
  generalize 1 + z = size at hs1
  (conv => whnf); (try dsimp only)
  have hal : (asks.map fun c => D.str [c]).length = asks.length := List.length_map _
  refine lc_draw 3 (by omega) (by omega) R F (by rw [hal]; have := hask.2.1; omega) (fun p' es m => by rcases List.mem_singleton.mp m with e; cases e; exact hr2) (fun d hd => ⟨_, rfl, fun h' Q g => g⟩) fun ways h4 w1 w2 F => ?_
  rw [hal] at w1
  have hw2 := lst_lt (F.lk h3.length (ways.map intD) (by simp)).2
  generalize hpw : h3.length = pw at F hw2
  rw [hpw] at hr2
  (conv => whnf); (try dsimp only)
  refine lc_draw size (by omega) (by omega) R F (by rw [hal]; have := hask.2.1; omega) (fun p' es m => by
    have : (p', es) = (pw, ways.map intD) ∨ (p', es) = (pr, []) := by simpa using m
    rcases this with e | e <;> cases e <;> omega) (fun d hd => ⟨_, rfl, fun h' Q g => g⟩) fun ends h5 u1 u2 F => ?_
  rw [hal] at u1
  generalize hpe : h4.length = pe at F
  rw [hpe] at hw2
  (conv => whnf); (try dsimp only)
  obtain ⟨r5, R5⟩ := F.row R
  refine ⟨n, sc, r5, 2, rfl, R5, by omega, by omega, fun t r6 ht ok6 => ?_⟩
  have F := F.draw R ok6
  generalize h5.set n (Ob.lst r6) = h6 at F
  have hfew : (1 : Int) + (t : Int) = ((1 + t : Nat) : Int) := by omega
  rw [show ∀ Q, gAdd (D.int 1) (D.int (t : Int)) h6 Q = Q (.int ((1 + t : Nat) : Int)) h6 from fun Q => by rw [← hfew]; rfl]
  have ht2 : 1 + t ≤ 2 := by omega
  generalize 1 + t = few at ht2
  (conv => whnf); (try dsimp only)
  refine ⟨⟨by omega, by omega⟩, ?_⟩
  -- the rows
  refine fo_list (List.range size) (fun i : Nat => D.int (i : Int)) (fun rest fr h' => (∀ i ∈ rest, i < size) ∧ ∃ (x6 x9 x10 x11 x12 x13 : Option D) (rws : List (List (Nat × Nat))), fr = [some (.ref n), some (.int most), some (.str asks), some (.ref pw), some (.ref pe), some (.int few), x6, some (.int size), some (.ref pr), x9, x10, x11, x12, x13] ∧
    HF h n sc h' [(pr, rws.map rowD), (pw, ways.map intD), (pe, ends.map intD)] ∧ rws.length + rest.length = size ∧ (∀ l ∈ rws, l.length = asks.length) ∧ (∀ l ∈ rws, ∀ x ∈ l, x.1 < size ∧ Lett x.2)) ?_ ?_ ?_ ?_
  · intro rest fr h' i _
    rw [show ((size : Int)).toNat = size by omega]
    rfl
  · refine ⟨fun i hi => List.mem_range.mp hi, none, none, none, none, none, none, [], rfl, ⟨F.cur, fun p' es m => F.lk p' es ?_⟩, by simp, by simp, by simp⟩
    have : (p', es) = (pr, []) ∨ (p', es) = (pw, ways.map intD) ∨ (p', es) = (pe, ends.map intD) := by simpa using m
    rcases this with e | e | e <;> cases e <;> simp
  · rintro one rest fr h' _ ⟨hin, x6, x9, x10, x11, x12, x13, rws, rfl, F, g1, g2, g3⟩ K hK
    have hone := hin one (by simp)
    rw [List.length_cons] at g1
    (conv => whnf); (try dsimp only)
    refine ⟨sl63 (by simp), ?_⟩
    have hlt : ∀ p' es, (p', es) ∈ [(pr, rws.map rowD), (pw, ways.map intD), (pe, ends.map intD)] → p' < h'.length := fun p' es m => lst_lt (F.lk p' es m).2
    have F := F.new (ds := [])
    generalize hpl : h'.length = pl at F
    rw [hpl] at hlt
    generalize h' ++ [Ob.lst []] = h7 at F
    have lw := F.lk pw (ways.map intD) (by simp)
    have le := F.lk pe (ends.map intD) (by simp)
    (conv => whnf); (try dsimp only)
    simp only [src_lst lw.2, src_lst le.2]
    refine fo_list (List.zip ways ends) (fun y => D.tup [intD y.1, intD y.2]) (fun rest2 fr h' => (∀ y ∈ rest2, y.2 < size) ∧ ∃ (x10 x11 x12 x13 : Option D) (l : List (Nat × Nat)), fr = [some (.ref n), some (.int most), some (.str asks), some (.ref pw), some (.ref pe), some (.int few), some (.int one), some (.int size), some (.ref pr), some (.ref pl), x10, x11, x12, x13] ∧
      HF h n sc h' [(pl, l.map stD), (pr, rws.map rowD), (pw, ways.map intD), (pe, ends.map intD)] ∧ l.length + rest2.length = asks.length ∧ (∀ x ∈ l, x.1 < size ∧ Lett x.2)) ?_ ?_ ?_ ?_
    · rintro rest2 fr h' i ⟨_, x10, x11, x12, x13, l, _, F, _⟩
      have e : (List.zip ways ends).map (fun y => D.tup [intD y.1, intD y.2]) = List.zipWith (fun x y => D.tup [x, y]) (ways.map intD) (ends.map intD) := by
        rw [List.zipWith_map, List.zip_eq_zipWith, List.map_zipWith]
      rw [e]
      exact tick_zip (tick_lst (F.lk pw (ways.map intD) (by simp)).2) (tick_lst (F.lk pe (ends.map intD) (by simp)).2)
    · exact ⟨fun y hy => u2 _ (List.of_mem_zip hy).2, _, _, _, _, [], rfl, F, by rw [List.length_zip, w1, u1]; simp, by simp⟩
    · rintro ⟨wy, en⟩ rest2 fr h' _ ⟨hin2, x10, x11, x12, x13, l, rfl, F, k1, k2⟩ K2 hK2
      have hen := hin2 (wy, en) (by simp)
      rw [List.length_cons] at k1
      have main : ∀ (x : Nat) (hh : Hq) (y11 y12 : D) (B : Fr → Hq → Prop), x < size → HF h n sc hh [(pl, l.map stD), (pr, rws.map rowD), (pw, ways.map intD), (pe, ends.map intD)] →
          wsExpr (wBM "list" mAppend (wVar 9) (waCons (wTup (waCons (wVar 13) (waCons (wOp gIx (wC (.str [120, 121, 122])) (wCB g_law_taken (waCons (wVar 0) (waCons (wOp gAdd (wVar 5) (wC (.int 1))) waNil)))) waNil))) waNil)) { nx := K2, rt := gcK h P, bk := B, ct := K2 }
            [some (.ref n), some (.int most), some (.str asks), some (.ref pw), some (.ref pe), some (.int few), some (.int one), some (.int size), some (.ref pr), some (.ref pl), x10, some y11, some y12, some (.int x)] hh := by
        intro x hh y11 y12 B hx F
        (conv => whnf); (try dsimp only)
        refine ⟨ty_lst (F.lk pl (l.map stD) (by simp)).2, ?_⟩
        (conv => whnf); (try dsimp only)
        obtain ⟨r', R'⟩ := F.row R
        refine ⟨n, sc, r', few + 1, rfl, R', by omega, by omega, fun v r'' hv ok' => ?_⟩
        have F := F.draw R ok'
        generalize hh.set n (Ob.lst r'') = h8 at F
        have hv3 : v < [120, 121, 122].length := by simp; omega
        have hlet : Lett ([120, 121, 122][v]) := by
          have : v = 0 ∨ v = 1 ∨ v = 2 := by omega
          rcases this with rfl | rfl | rfl <;> exact ⟨by simp, by simp⟩
        (conv => whnf); (try dsimp only)
        rw [atI_nat (List.getElem?_eq_getElem hv3)]
        generalize [120, 121, 122][v] = ans at hlet
        (conv => whnf); (try dsimp only)
        refine ⟨sl63 (by simp), ?_⟩
        (conv => whnf); (try dsimp only)
        have ll := F.lk pl (l.map stD) (by simp)
        rw [ll.2]
        have hask2 := hask.2.1
        refine ⟨Nat.lt_of_lt_of_le (show (l.map stD).length < 1001 by rw [List.length_map]; omega) (by rw [sizeLine_eq]; omega), ?_⟩
        refine hK2 _ _ ⟨fun y hy => hin2 y (by simp [hy]), _, _, _, _, l ++ [(x, ans)], rfl, ?_, by rw [List.length_append, List.length_singleton]; omega, fun y hy => ?_⟩
        · have F0 : HF h n sc h8 [(pr, rws.map rowD), (pw, ways.map intD), (pe, ends.map intD)] := ⟨F.cur, fun p' es m => F.lk p' es (List.mem_cons_of_mem _ m)⟩
          rw [List.map_append]
          exact F0.put ll.1 ll.2 fun q es m => by have := hlt q es m; omega
        · rcases List.mem_append.mp hy with hy | hy
          · exact k2 y hy
          · rw [List.mem_singleton.mp hy]; exact ⟨hx, hlet⟩
      (conv => whnf); (try dsimp only)
      by_cases hw0 : wy = 0
      · (generalize hdec : deq (intD wy) (.int 0) = bdec; obtain rfl : bdec = true := hdec.symm.trans (deq_int (by omega)); clear hdec; (conv => whnf); (try dsimp only))
        exact main en h' _ _ _ hen F
      · (generalize hdec : deq (intD wy) (.int 0) = bdec; obtain rfl : bdec = false := hdec.symm.trans (deq_intF (by omega)); clear hdec; (conv => whnf); (try dsimp only))
        by_cases hw1 : wy = 1
        · (generalize hdec : deq (intD wy) (.int 1) = bdec; obtain rfl : bdec = true := hdec.symm.trans (deq_int (by omega)); clear hdec; (conv => whnf); (try dsimp only))
          obtain ⟨r', R'⟩ := F.row R
          refine ⟨n, sc, r', 2, rfl, R', by omega, by omega, fun v r'' hv ok' => ?_⟩
          have F := F.draw R ok'
          (conv => whnf); (try dsimp only)
          by_cases hv0 : v = 0
          · (generalize hdec : deq (.int (v : Int)) (.int 0) = bdec; obtain rfl : bdec = true := hdec.symm.trans (deq_int (by omega)); clear hdec; (conv => whnf); (try dsimp only))
            exact main one _ _ _ _ hone F
          · (generalize hdec : deq (.int (v : Int)) (.int 0) = bdec; obtain rfl : bdec = false := hdec.symm.trans (deq_intF (by omega)); clear hdec; (conv => whnf); (try dsimp only))
            obtain ⟨r', R'⟩ := F.row R
            refine ⟨n, sc, r', size, rfl, R', by omega, by omega, fun v r'' hv ok' => ?_⟩
            exact main v _ _ _ _ hv (F.draw R ok')
        · (generalize hdec : deq (intD wy) (.int 1) = bdec; obtain rfl : bdec = false := hdec.symm.trans (deq_intF (by omega)); clear hdec; (conv => whnf); (try dsimp only))
          obtain ⟨r', R'⟩ := F.row R
          refine ⟨n, sc, r', size, rfl, R', by omega, by omega, fun v r'' hv ok' => ?_⟩
          exact main v _ _ _ _ hv (F.draw R ok')
    · rintro fr h' ⟨_, x10, x11, x12, x13, l, rfl, F, k1, k2⟩
      have lr := F.lk pr (rws.map rowD) (by simp)
      (conv => whnf); (try dsimp only)
      refine ⟨ty_lst lr.2, ?_⟩
      (conv => whnf); (try dsimp only)
      simp only [(F.lk pl (l.map stD) (by simp)).2]
      (conv => whnf); (try dsimp only)
      rw [lr.2]
      refine ⟨Nat.lt_of_lt_of_le (show (rws.map rowD).length < 1001 by rw [List.length_map]; omega) (by rw [sizeLine_eq]; omega), ?_⟩
      refine hK _ _ ⟨fun i hi => hin i (by simp [hi]), _, _, _, _, _, _, rws ++ [l], rfl, ?_, by rw [List.length_append, List.length_singleton]; omega, fun m hm => ?_, fun m hm => ?_⟩
      · have F0 : HF h n sc h' [(pw, ways.map intD), (pe, ends.map intD)] := ⟨F.cur, fun p' es m => F.lk p' es (List.mem_cons_of_mem _ (List.mem_cons_of_mem _ m))⟩
        rw [List.map_append]
        refine F0.put lr.1 lr.2 fun q es m => ?_
        have : (q, es) = (pw, ways.map intD) ∨ (q, es) = (pe, ends.map intD) := by simpa using m
        rcases this with e | e <;> cases e <;> omega
      · rcases List.mem_append.mp hm with hm | hm
        · exact g2 m hm
        · rw [List.mem_singleton.mp hm]; simpa using k1
      · rcases List.mem_append.mp hm with hm | hm
        · exact g3 m hm
        · rw [List.mem_singleton.mp hm]; exact k2
  · rintro fr h' ⟨_, x6, x9, x10, x11, x12, x13, rws, rfl, F, g1, g2, g3⟩
    have lr := F.lk pr (rws.map rowD) (by simp)
    (conv => whnf); (try dsimp only)
    simp only [lr.2]
    refine ⟨sl63 (by simp), ?_⟩
    have hlr : rws.length = size := by simpa using g1
    exact F.gc R (svc_sc _ ⟨asks, rws⟩) fun r' ok' => hP ⟨asks, rws⟩ r' ⟨hask.1, hask.2.1, hask.2.2.1, hask.2.2.2, by show 1 ≤ rws.length; omega, by show rws.length ≤ 40; omega, g2, fun l hl x hx => by show x.1 < rws.length ∧ _; rw [hlr]; exact g3 l hl x hx⟩ ok'
end MP

namespace MP
open PySem PySem.Spec PyProof.Rows L2
theorem HOk.appCh {A : Nat → Prop} {c : Nat} (hc : A c) : ∀ {m : Nat} {l : List It}, HOk A m l → HOk A m (l ++ [.ch c])
  | _, [], _ => ⟨hc, trivial⟩
  | m, .ch _ :: r, h => ⟨h.1, HOk.appCh hc h.2⟩
  | m, .bk _ :: r, h => ⟨h.1, h.2.1, HOk.appCh hc h.2.2⟩
theorem HOk.appBk {A : Nat → Prop} {b : Nat} (h1 : 1 ≤ b) : ∀ {m : Nat} {l : List It}, HOk A m l → b ≤ m + (firsts l).length → HOk A m (l ++ [.bk b])
  | m, [], _, hb => ⟨h1, by simpa [firsts] using hb, trivial⟩
  | m, .ch _ :: r, h, hb => ⟨h.1, HOk.appBk h1 h.2 (by simp only [firsts, List.length_cons] at hb; omega)⟩
  | m, .bk _ :: r, h, hb => ⟨h.1, h.2.1, HOk.appBk h1 h.2.2 hb⟩
theorem firsts_app : ∀ (a b : List It), firsts (a ++ b) = firsts a ++ firsts b
  | [], _ => rfl
  | .ch c :: a, b => by simp [firsts, firsts_app a b]
  | .bk c :: a, b => by simp [firsts, firsts_app a b]
theorem fm_some (l : List D) : l.filterMap some = l := by simp
theorem rng_ok (n : Nat) : ∀ l : List Nat, (l.map fun k : Nat => D.int ((1 : Int) + ((k : Nat) : Int))).all (okD n) = true
  | [] => rfl
  | c :: l => by
    rw [List.map_cons, List.all_cons, rng_ok n l]
    cases n <;> rfl
theorem rng_sc (n : Nat) : ∀ l : List Nat, D.scL n (l.map fun k : Nat => D.int ((1 : Int) + ((k : Nat) : Int))) = true
  | [] => rfl
  | c :: l => by simp [D.scL, D.sc, rng_sc n l]
abbrev N_law_history : List Str := ["_law_row", "_law_asks", "_law_lot", "_law_window", "_law_most", "_law_turn", "_law_found", "_law_heads", "_law_size", "_law_backs", "_law_ask", "_law_back"]
def ws_law_history : WS := (wsSeq (wsAsg (wgPat (.tp (.cons (.nm 6) (.cons (.nm 7) .nil)))) (wTup (waCons (wTup waNil) (waCons (wC (.str [])) waNil)))) (wsSeq (wsFor (wiRng1 (waCons (wCB g_law_taken (waCons (wVar 0) (waCons (wOp gAdd (wVar 4) (wC (.int 1))) waNil))) waNil)) (wgPat (.nm 5)) (wsSeq (wsAsg (wgPat (.nm 8)) (wIf (wtB (wOp (isD false) (wVar 3) (wC .non))) (wCB bLen (waCons (wVar 7) waNil)) (wCB bMin2 (waCons (wCB bLen (waCons (wVar 7) waNil)) (waCons (wVar 3) waNil))))) (wsSeq (wsAsg (wgPat (.nm 9)) (wLc (wiRng2 (waCons (wC (.int 1)) (waCons (wOp gAdd (wVar 8) (wC (.int 1))) waNil))) (.nm 11) (wtB (wOp (gIn false) (wOp gIx (wVar 7) (wOp gSub (wCB bLen (waCons (wVar 7) waNil)) (wVar 11))) (wVar 2))) (wVar 11) [11])) (wsSeq (wsIf (wtAnd (wtB (wOp gNe (wVar 9) (wLst waNil))) (wtB (wOp gEq (wCB g_law_taken (waCons (wVar 0) (waCons (wC (.int 2)) waNil))) (wC (.int 0))))) (wsSeq (wsAsg (wgPat (.nm 6)) (wOp gAdd (wVar 6) (wTup (waCons (wCB g_law_pick (waCons (wVar 0) (waCons (wVar 9) waNil))) waNil)))) wsNil) (wsSeq (wsAsg (wgPat (.nm 10)) (wCB g_law_pick (waCons (wVar 0) (waCons (wCB bLstS (waCons (wVar 1) waNil)) waNil)))) (wsSeq (wsAsg (wgPat (.tp (.cons (.nm 6) (.cons (.nm 7) .nil)))) (wTup (waCons (wOp gAdd (wVar 6) (wTup (waCons (wVar 10) waNil))) (waCons (wOp gAdd (wVar 7) (wVar 10)) waNil)))) wsNil))) wsNil)))) (wsSeq (wsRet (wVar 6)) wsNil)))
def g_law_history : WL := fun ds h P => ∃ (n sc : Nat) (r : List D) (s : Svc) (w most : Nat), ds = [.ref n, .str s.asks, .str s.asks, .int w, .int most] ∧ RowAt h n sc r ∧ s.Ok ∧ w ≤ 40 ∧ most ≤ 40 ∧
  ∀ (hs : List It) (r' : List D), HOk (· ∈ s.asks) 0 hs → WinOk w hs → hs.length ≤ most → RowD sc r' → P (histD hs) (h.set n (.lst r'))
theorem law_history_ok : ∀ ds h P, g_law_history ds h P → wF ws_law_history 12 5 ds h P := by
  rintro ds h P ⟨n, sc, r, s, w, most, rfl, R, ok, hw, hm, hP⟩
  have F := HF.start R
  have hn := lst_lt R.at_
  have hal1 := ok.a1
  have hal2 := ok.a2
  refine ⟨rfl, ?_⟩
  (conv => whnf); (try dsimp only)
  refine ⟨sl63 (by simp), ?_⟩
  (conv => whnf); (try dsimp only)
  refine ⟨sl63 (by simp), ?_⟩
  (conv => whnf); (try dsimp only)
  refine ⟨n, sc, r, most + 1, rfl, R, by omega, by omega, fun tot r1 htot ok1 => ?_⟩
  have F := F.draw R ok1
  generalize h.set n (Ob.lst r1) = h1 at F
  (conv => whnf); (try dsimp only)
  refine ⟨⟨by omega, by omega⟩, ?_⟩
  refine fo_list (List.range tot) (fun i : Nat => D.int (i : Int)) (fun rest fr h' => ∃ (x5 x8 x9 x10 x11 : Option D) (hs : List It) (heads : List Nat), fr = [some (.ref n), some (.str s.asks), some (.str s.asks), some (.int w), some (.int most), x5, some (.tup (hs.map It.d)), some (.str heads), x8, x9, x10, x11] ∧
    HF h n sc h' [] ∧ HOk (· ∈ s.asks) 0 hs ∧ WinOk w hs ∧ hs.length + rest.length ≤ most ∧ (∀ c ∈ heads, c ∈ s.asks) ∧ heads.length = (firsts hs).length) ?_ ?_ ?_ ?_
  · intro rest fr h' i _
    rw [show ((tot : Int)).toNat = tot by omega]
    rfl
  · exact ⟨none, none, none, none, none, [], [], rfl, F, trivial, (fun k hk => by cases hk), (by simp; omega), (by simp), rfl⟩
  · rintro turn rest fr h' _ ⟨x5, x8, x9, x10, x11, hs, heads, rfl, F, j1, j2, j3, j4, j5⟩ K hK
    rw [List.length_cons] at j3
    have hfl := firsts_len hs
    have hsl : (hs.map It.d).length = hs.length := List.length_map _
    -- the ask
    have main : ∀ (hh : Hq) (x5 x8 x9 : Option D) (B : Fr → Hq → Prop), HF h n sc hh [] →
        wsSeq (wsAsg (wgPat (.nm 10)) (wCB g_law_pick (waCons (wVar 0) (waCons (wCB bLstS (waCons (wVar 1) waNil)) waNil)))) (wsSeq (wsAsg (wgPat (.tp (.cons (.nm 6) (.cons (.nm 7) .nil)))) (wTup (waCons (wOp gAdd (wVar 6) (wTup (waCons (wVar 10) waNil))) (waCons (wOp gAdd (wVar 7) (wVar 10)) waNil)))) wsNil) { nx := wsNil { nx := K, rt := gcK h P, bk := B, ct := K }, rt := gcK h P, bk := B, ct := K }
          [some (.ref n), some (.str s.asks), some (.str s.asks), some (.int w), some (.int most), x5, some (.tup (hs.map It.d)), some (.str heads), x8, x9, x10, x11] hh := by
      intro hh x5 x8 x9 B F
      have hlen := F.len
      obtain ⟨r', R'⟩ := F.row R
      (conv => whnf); (try dsimp only)
      have F := F.app (g := [.lst (s.asks.map fun c => D.str [c])])
      refine ⟨n, sc, r', hh.length, _, rfl, R'.pre (pre_app pre_refl), lstAt_app, by omega, by rw [List.length_map]; exact hal1, by rw [List.length_map]; omega, chs_sc _ _, fun z hz r'' ok' => ?_⟩
      have F := F.draw R ok'
      rw [List.length_map] at hz
      have ez : (s.asks.map fun c => D.str [c])[z]'(by rw [List.length_map]; exact hz) = .str [s.asks[z]] := by simp
      simp only [ez]
      have hin : s.asks[z] ∈ s.asks := List.getElem_mem hz
      generalize s.asks[z] = c at hin
      (conv => whnf); (try dsimp only)
      refine ⟨sl63 (by simp), ?_⟩
      (conv => whnf); (try dsimp only)
      refine ⟨sl63 (by simp; omega), ?_⟩
      (conv => whnf); (try dsimp only)
      refine ⟨sl63 (by simp; omega), ?_⟩
      (conv => whnf); (try dsimp only)
      refine ⟨sl63 (by simp), ?_⟩
      refine hK _ _ ⟨_, _, _, _, _, hs ++ [.ch c], heads ++ [c], (by rw [List.map_append]; rfl), F, j1.appCh hin, fun k hk => ?_, by rw [List.length_append, List.length_singleton]; omega, fun y hy => ?_, by rw [firsts_app, List.length_append, List.length_append, j5]; rfl⟩
      · rcases List.mem_append.mp hk with hk | hk
        · exact j2 k hk
        · cases List.mem_singleton.mp hk
      · rcases List.mem_append.mp hy with hy | hy
        · exact j4 y hy
        · rw [List.mem_singleton.mp hy]; exact hin
    (conv => whnf); (try dsimp only)
    have hmin : (if (w : Int) < (heads.length : Int) then (w : Int) else (heads.length : Int)) = ((min heads.length w : Nat) : Int) := by
      rw [Nat.min_def]; split <;> split <;> omega
    have hsz1 : min heads.length w ≤ heads.length := Nat.min_le_left _ _
    have hsz2 : min heads.length w ≤ w := Nat.min_le_right _ _
    rw [hmin]
    generalize min heads.length w = sz at hsz1 hsz2
    refine ⟨⟨by omega, by omega, by omega, by omega⟩, ?_⟩
    have hrl : ((List.range (((sz : Nat) : Int) + 1 - 1).toNat).map fun k : Nat => D.int ((1 : Int) + ((k : Nat) : Int))).length = sz := by
      rw [List.length_map, List.length_range]; omega
    refine lc_pure (h := h') (ds := (List.range (((sz : Nat) : Int) + 1 - 1).toNat).map fun k : Nat => D.int ((1 : Int) + ((k : Nat) : Int))) some (by rw [hrl]; exact sl63 (by omega)) ?_ (fun d hd acc kp sk k1 k2 => ?_) ?_
    · exact fun _ _ => rfl
    · obtain ⟨i, hi, rfl⟩ := List.mem_map.mp hd
      have hi2 : i < sz := by have := List.mem_range.mp hi; omega
      have hx : heads.length - (1 + i) < heads.length := by omega
      (conv => whnf); (try dsimp only)
      rw [show (heads.length : Int) - (1 + (i : Int)) = ((heads.length - (1 + i) : Nat) : Int) by omega]
      rw [atI_nat (List.getElem?_eq_getElem hx)]
      have hin := j4 _ (List.getElem_mem hx)
      generalize heads[heads.length - (1 + i)] = c at hin
      (conv => whnf); (try dsimp only)
      (generalize hdec : decide (c ∈ s.asks) = bdec; obtain rfl : bdec = true := hdec.symm.trans (decide_eq_true (hin)); clear hdec; (conv => whnf); (try dsimp only))
      exact k1 _ rfl
    · rw [fm_some]
      have hq := F.len
      have F1 := F.new (ds := (List.range (((sz : Nat) : Int) + 1 - 1).toNat).map fun k : Nat => D.int ((1 : Int) + ((k : Nat) : Int)))
      generalize hpq : h'.length = pq at F1 hq
      generalize h' ++ [Ob.lst ((List.range (((sz : Nat) : Int) + 1 - 1).toNat).map fun k : Nat => D.int ((1 : Int) + ((k : Nat) : Int)))] = h2 at F1
      have hl2 := (F1.lk _ _ (List.mem_singleton.mpr rfl)).2
      (conv => whnf); (try dsimp only)
      refine ⟨sl63 (by simp), ?_⟩
      (conv => whnf); (try dsimp only)
      rw [eqH_ll (lst_app1 hl2) lstAt_app (rng_ok _ _) rfl, deqL_nil]
      have F2 := F1.app (g := [Ob.lst []])
      have F20 : HF h n sc (h2 ++ [Ob.lst []]) [] := ⟨F2.cur, fun _ _ z => by cases z⟩
      by_cases hs0 : sz = 0
      · subst hs0
        exact main _ _ _ _ _ F20
      · have hne : ((List.range (((sz : Nat) : Int) + 1 - 1).toNat).map fun k : Nat => D.int ((1 : Int) + ((k : Nat) : Int))).isEmpty = false := by
          cases hE : ((List.range (((sz : Nat) : Int) + 1 - 1).toNat).map fun k : Nat => D.int ((1 : Int) + ((k : Nat) : Int))) with
          | nil => rw [hE] at hrl; simp at hrl; omega
          | cons a b => rfl
        rw [hne]
        (conv => whnf); (try dsimp only)
        obtain ⟨r', R'⟩ := F2.row R
        refine ⟨n, sc, r', 2, rfl, R', by omega, by omega, fun v r2 hv ok2 => ?_⟩
        have F3 := F2.draw R ok2
        have F30 := F20.draw R ok2
        generalize (h2 ++ [Ob.lst []]).set n (Ob.lst r2) = h3 at F3 F30
        (conv => whnf); (try dsimp only)
        by_cases hv0 : v = 0
        · (generalize hdec : deq (.int (v : Int)) (.int 0) = bdec; obtain rfl : bdec = true := hdec.symm.trans (deq_int (by omega)); clear hdec; (conv => whnf); (try dsimp only))
          obtain ⟨r', R'⟩ := F3.row R
          have hl3 := (F3.lk _ _ (List.mem_singleton.mpr rfl)).2
          refine ⟨n, sc, r', pq, _, rfl, R', hl3, by omega, by omega, by omega, rng_sc _ _, fun z hz r3 ok3 => ?_⟩
          have F4 := F30.draw R ok3
          rw [hrl] at hz
          have ez : ((List.range (((sz : Nat) : Int) + 1 - 1).toNat).map fun k : Nat => D.int ((1 : Int) + ((k : Nat) : Int)))[z]'(by rw [hrl]; exact hz) = .int ((1 + z : Nat) : Int) := by simp
          simp only [ez]
          (conv => whnf); (try dsimp only)
          refine ⟨sl63 (by simp), ?_⟩
          (conv => whnf); (try dsimp only)
          refine ⟨sl63 (by simp; omega), ?_⟩
          refine hK _ _ ⟨_, _, _, _, _, hs ++ [.bk (1 + z)], heads, (by rw [List.map_append]; rfl), F4, j1.appBk (by omega) (by omega), fun k hk => ?_, by rw [List.length_append, List.length_singleton]; omega, j4, by rw [firsts_app]; simpa [firsts] using j5⟩
          rcases List.mem_append.mp hk with hk | hk
          · exact j2 k hk
          · cases List.mem_singleton.mp hk
            omega
        · (generalize hdec : deq (.int (v : Int)) (.int 0) = bdec; obtain rfl : bdec = false := hdec.symm.trans (deq_intF (by omega)); clear hdec; (conv => whnf); (try dsimp only))
          exact main _ _ _ _ _ F30
  · rintro fr h' ⟨x5, x8, x9, x10, x11, hs, heads, rfl, F, j1, j2, j3, j4, j5⟩
    exact F.gc R (hist_sc _ _) fun r' ok' => hP hs r' j1 j2 (by simpa using j3) ok'
end MP

namespace MP
/-! ### the plain law: a fair clerk tells what was wished -/
def kfO (m : Nat) : Nat → List Nat → List (Nat × Nat)
  | _, [] => []
  | j, t :: r => (j % m, t) :: kfO m (j + 1) r
theorem kfO_len (m : Nat) : ∀ (j : Nat) (l : List Nat), (kfO m j l).length = l.length
  | _, [] => rfl
  | j, t :: r => by rw [kfO, List.length_cons, kfO_len m (j + 1) r, List.length_cons]
theorem kfO_app (m : Nat) : ∀ (j : Nat) (l r : List Nat), kfO m j (l ++ r) = kfO m j l ++ kfO m (j + l.length) r
  | j, [], r => by simp [kfO]
  | j, t :: l, r => by
    rw [List.cons_append, kfO, kfO_app m (j + 1) l r, kfO, List.cons_append, List.length_cons, Nat.add_right_comm, Nat.add_assoc]
theorem kfO_drop (m : Nat) : ∀ (d j : Nat) (l : List Nat), (kfO m j l).drop d = kfO m (j + d) (l.drop d)
  | 0, _, _ => rfl
  | d + 1, j, [] => by simp [kfO]
  | d + 1, j, t :: r => by
    rw [kfO, List.drop_succ_cons, kfO_drop m d (j + 1) r, List.drop_succ_cons, Nat.add_right_comm, Nat.add_assoc]
theorem toldL_app (x : Nat) (a b : List (Nat × Nat)) : toldL x (a ++ b) = toldL x a ++ toldL x b := by
  unfold toldL; rw [List.filter_append, List.map_append]
theorem toldL_none (m x : Nat) : ∀ (j : Nat) (l : List Nat), (∀ d, d < l.length → (j + d) % m ≠ x) → toldL x (kfO m j l) = []
  | _, [], _ => rfl
  | j, t :: r, h => by
    have h0 : (j % m == x) = false := by simpa using h 0 (by simp)
    have ih := toldL_none m x (j + 1) r fun d hd => by
      have := h (d + 1) (by simpa using hd)
      rwa [show j + (d + 1) = j + 1 + d by omega] at this
    unfold toldL at *
    rw [kfO, List.filter_cons_of_neg (by simp [h0]), ih]
theorem lastOf_snoc (l : List Nat) (t : Nat) : lastOf (l ++ [t]) = [t] := by
  unfold lastOf; rw [List.getLast?_concat]
theorem mod_ne {m j n : Nat} (h1 : 1 ≤ n) (h2 : n < m) (h3 : n ≤ j) : (j - n) % m ≠ j % m := by
  intro e
  have := Nat.sub_mod_eq_zero_of_mod_eq e.symm
  rw [show j - (j - n) = n by omega, Nat.mod_eq_of_lt h2] at this
  omega
theorem fair_rec (s : Svc) {m k w : Nat} (hw : w < m) (hk : w ≤ k) : ∀ (rest : List It) (T1 row : List Nat) (now : Nat), HOk (fun _ => True) row.length rest → WinOk w rest → T1.length = row.length →
    srv s m k now (row.length % m) (kfO m 0 T1) (List.zip (mean row rest) (nums m row.length rest)) = wsh (T1 ++ tell s now (firsts rest)) row.length rest
  | [], _, _, _, _, _, _ => rfl
  | .ch c :: r, T1, row, now, h1, h2, h3 => by
    have ih := fair_rec s hw hk r (T1 ++ [(s.step now c).2]) (row ++ [c]) (s.step now c).1 (by rw [List.length_append]; exact h1.2) (fun n hn => h2 n (List.mem_cons_of_mem _ hn)) (by simp [h3])
    rw [List.length_append, List.length_singleton] at ih
    show srv s m k now (row.length % m) (kfO m 0 T1) ((c, row.length % m) :: List.zip (mean (row ++ [c]) r) (nums m (row.length + 1) r)) = [(T1 ++ (s.step now c).2 :: tell s (s.step now c).1 (firsts r))[row.length]?.getD 0] :: wsh (T1 ++ (s.step now c).2 :: tell s (s.step now c).1 (firsts r)) (row.length + 1) r
    unfold srv
    rw [if_pos rfl, Nat.mod_add_mod]
    have e1 : kfO m 0 (T1 ++ [(s.step now c).2]) = kfO m 0 T1 ++ [(row.length % m, (s.step now c).2)] := by
      rw [kfO_app, h3, Nat.zero_add]; rfl
    rw [← e1, ih, List.append_assoc]
    have e2 : (T1 ++ (s.step now c).2 :: tell s (s.step now c).1 (firsts r))[row.length]? = some (s.step now c).2 := by
      rw [List.getElem?_append_right (by omega), h3, Nat.sub_self]; rfl
    rw [e2]; rfl
  | .bk n :: r, T1, row, now, h1, h2, h3 => by
    have hn := h2 n (by simp)
    have n1 := h1.1
    have n2 := h1.2.1
    have ih := fair_rec s hw hk r T1 row now h1.2.2 (fun n hn => h2 n (List.mem_cons_of_mem _ hn)) h3
    show srv s m k now (row.length % m) (kfO m 0 T1) ((row[row.length - n]?.getD 0, (row.length - n) % m) :: List.zip (mean row r) (nums m row.length r)) = [(T1 ++ tell s now (firsts r))[row.length - n]?.getD 0] :: wsh (T1 ++ tell s now (firsts r)) row.length r
    unfold srv
    rw [if_neg (mod_ne n1 (by omega) n2), ih]
    congr 1
    have hlt : row.length - n < T1.length := by omega
    rw [List.getElem?_append_left hlt, List.getElem?_eq_getElem hlt]
    show lastOf (toldL ((row.length - n) % m) (lastK k (kfO m 0 T1))) = [T1[row.length - n]]
    unfold lastK
    rw [kfO_len, kfO_drop, Nat.zero_add]
    have e : T1.drop (T1.length - k) = (T1.drop (T1.length - k)).take (row.length - n - (T1.length - k)) ++ (T1[row.length - n] :: T1.drop (row.length - n + 1)) := by
      have e1 := (List.take_append_drop (row.length - n - (T1.length - k)) (T1.drop (T1.length - k))).symm
      rw [List.drop_drop, show T1.length - k + (row.length - n - (T1.length - k)) = row.length - n by omega, List.drop_eq_getElem_cons hlt] at e1
      exact e1
    rw [e, kfO_app, toldL_app]
    have elen : T1.length - k + ((T1.drop (T1.length - k)).take (row.length - n - (T1.length - k))).length = row.length - n := by
      rw [List.length_take, List.length_drop]; omega
    rw [elen, kfO]
    have e3 : toldL ((row.length - n) % m) (((row.length - n) % m, T1[row.length - n]) :: kfO m (row.length - n + 1) (T1.drop (row.length - n + 1))) = [T1[row.length - n]] := by
      have e4 := toldL_none m ((row.length - n) % m) (row.length - n + 1) (T1.drop (row.length - n + 1)) fun d hd => by
        rw [List.length_drop] at hd
        have := mod_ne (m := m) (j := row.length - n + 1 + d) (n := 1 + d) (by omega) (by omega) (by omega)
        rw [show row.length - n + 1 + d - (1 + d) = row.length - n by omega] at this
        exact Ne.symm this
      unfold toldL at *
      rw [List.filter_cons_of_pos (by simp), List.map_cons, e4]
    rw [e3, lastOf_snoc]
theorem fair_eq (s : Svc) {m k w : Nat} {hs : List It} (ok : HOk (· ∈ s.asks) 0 hs) (win : WinOk w hs) (hw : w < m) (hk : w ≤ k) : clerkL s m k hs = wishL s hs := by
  have := fair_rec s hw hk hs [] [] 0 (ok.imp fun _ _ => trivial) win rfl
  rw [List.length_nil, Nat.zero_mod] at this
  exact this
/-! ### an unfair clerk breaks at the ring -/
def aft (s : Svc) : Nat → List Nat → Nat
  | i, [] => i
  | i, c :: r => aft s (s.step i c).1 r
theorem srv_chs (s : Svc) (m k c : Nat) (tl : List It) : ∀ (q : Nat) (T1 row : List Nat) (now : Nat), T1.length = row.length →
    ∃ L T2, L.length = q ∧ T2.length = row.length + q ∧ srv s m k now (row.length % m) (kfO m 0 T1) (List.zip (mean row (List.replicate q (.ch c) ++ tl)) (nums m row.length (List.replicate q (.ch c) ++ tl))) =
      L ++ srv s m k (aft s now (List.replicate q c)) ((row.length + q) % m) (kfO m 0 T2) (List.zip (mean (row ++ List.replicate q c) tl) (nums m (row.length + q) tl))
  | 0, T1, row, now, h => ⟨[], T1, rfl, h, by simp [aft]⟩
  | q + 1, T1, row, now, h => by
    obtain ⟨L, T2, h1, h2, h3⟩ := srv_chs s m k c tl q (T1 ++ [(s.step now c).2]) (row ++ [c]) (s.step now c).1 (by simp [h])
    rw [List.length_append, List.length_singleton] at h2 h3
    refine ⟨[(s.step now c).2] :: L, T2, by simp [h1], by omega, ?_⟩
    rw [List.replicate_succ, List.cons_append]
    show srv s m k now (row.length % m) (kfO m 0 T1) ((c, row.length % m) :: List.zip (mean (row ++ [c]) (List.replicate q (.ch c) ++ tl)) (nums m (row.length + 1) (List.replicate q (.ch c) ++ tl))) = _
    rw [srv, if_pos rfl, Nat.mod_add_mod]
    have e1 : kfO m 0 (T1 ++ [(s.step now c).2]) = kfO m 0 T1 ++ [(row.length % m, (s.step now c).2)] := by
      rw [kfO_app, h, Nat.zero_add]; rfl
    rw [← e1, h3, List.cons_append]
    congr 2
    rw [show row.length + 1 + q = row.length + (q + 1) by omega, List.append_assoc]
    rfl
theorem wsh_chs (T : List Nat) (c : Nat) (tl : List It) : ∀ (q j : Nat), ∃ L, L.length = q ∧ wsh T j (List.replicate q (.ch c) ++ tl) = L ++ wsh T (j + q) tl
  | 0, j => ⟨[], rfl, by simp⟩
  | q + 1, j => by
    obtain ⟨L, h1, h2⟩ := wsh_chs T c tl q (j + 1)
    refine ⟨[T[j]?.getD 0] :: L, by simp [h1], ?_⟩
    rw [List.replicate_succ, List.cons_append]
    show [T[j]?.getD 0] :: wsh T (j + 1) (List.replicate q (.ch c) ++ tl) = _
    rw [h2, show j + 1 + q = j + (q + 1) by omega]; rfl
theorem ring_step (b i : Nat) (h : i < rsz b) : (ringS b).step i 97 = ((i + 1) % rsz b, if i = 0 then 97 else 98) := by
  have e : (ringS b).rows[i]? = some [((i + 1) % rsz b, if i = 0 then 97 else 98)] := by
    show ((List.range (rsz b)).map _)[i]? = _
    rw [List.getElem?_map, List.getElem?_range h]; rfl
  unfold Svc.step
  rw [e]
  rfl
theorem ring_aft (b : Nat) : ∀ (q i : Nat), i < rsz b → aft (ringS b) i (List.replicate q 97) = (i + q) % rsz b
  | 0, i, h => (Nat.mod_eq_of_lt h).symm
  | q + 1, i, h => by
    have hb := rsz_bd b
    rw [List.replicate_succ]
    show aft (ringS b) ((ringS b).step i 97).1 (List.replicate q 97) = _
    rw [ring_step b i h, ring_aft b q _ (Nat.mod_lt _ (by omega)), Nat.mod_add_mod, show i + 1 + q = i + (q + 1) by omega]
theorem firsts_brH (b : Nat) : firsts (brH b) = List.replicate b 97 := by
  unfold brH
  rw [firsts_app]
  show firsts (List.replicate b (.ch 97)) ++ [] = _
  rw [List.append_nil]
  induction b with
  | zero => rfl
  | succ b ih => rw [List.replicate_succ, List.replicate_succ, firsts, ih]
theorem brH_ok (b : Nat) (h : 1 ≤ b) : HOk (· ∈ (ringS b).asks) 0 (brH b) := by
  have : ∀ q m : Nat, HOk (· ∈ (ringS b).asks) m (List.replicate q (.ch 97)) := by
    intro q
    induction q with
    | zero => intro m; trivial
    | succ q ih => intro m; exact ⟨by show 97 ∈ [97]; simp, ih (m + 1)⟩
  refine (this b 0).appBk h ?_
  have := firsts_brH b
  unfold brH at this
  rw [firsts_app] at this
  have e : firsts (List.replicate b (.ch 97)) = List.replicate b 97 := by simpa [firsts] using this
  rw [e]; simp
theorem brH_len (b : Nat) : (brH b).length = b + 1 := by unfold brH; simp
theorem brH_win (b w : Nat) (h : b ≤ w) : WinOk w (brH b) := fun n hn => by
  unfold brH at hn
  rcases List.mem_append.mp hn with hn | hn
  · cases (List.mem_replicate.mp hn).2
  · cases List.mem_singleton.mp hn; exact h
theorem brk_ne {m k w : Nat} (h1 : 1 ≤ m) (h2 : m ≤ 41) (hw : w ≤ 40) (hf : ¬ (w < m ∧ w ≤ k)) : clerkL (ringS (brk m w)) m k (brH (brk m w)) ≠ wishL (ringS (brk m w)) (brH (brk m w)) := by
  have hb1 : 1 ≤ brk m w ∧ brk m w ≤ 41 := by unfold brk; split <;> omega
  have hbr : (m ≤ w ∧ brk m w = m) ∨ (w < m ∧ brk m w = w ∧ k < w) := by unfold brk; split <;> omega
  generalize brk m w = b at hb1 hbr
  have hz := rsz_bd b
  intro e
  unfold clerkL wishL at e
  rw [firsts_brH] at e
  obtain ⟨L, T2, l1, l2, l3⟩ := srv_chs (ringS b) m k 97 [.bk b] b [] [] 0 rfl
  obtain ⟨L', l1', l3'⟩ := wsh_chs (tell (ringS b) 0 (List.replicate b 97)) 97 [.bk b] b 0
  rw [List.length_nil, Nat.zero_mod] at l3
  have e' := (l3.symm.trans e).trans l3'
  have e2 := (List.append_inj e' (by omega)).2
  rw [ring_aft b b 0 (by omega), Nat.zero_add, List.nil_append] at e2
  have eT : (tell (ringS b) 0 (List.replicate b 97))[b - b]?.getD 0 = 97 := by
    obtain ⟨q, rfl⟩ : ∃ q, b = q + 1 := ⟨b - 1, by omega⟩
    rw [List.replicate_succ, Nat.sub_self]
    show (((ringS (q + 1)).step 0 97).2 :: _)[0]?.getD 0 = 97
    rw [ring_step _ _ (by omega)]; rfl
  have er : (List.replicate b 97)[b - b]?.getD 0 = 97 := by
    obtain ⟨q, rfl⟩ : ∃ q, b = q + 1 := ⟨b - 1, by omega⟩
    rw [List.replicate_succ, Nat.sub_self]; rfl
  have e3 : srv (ringS b) m k (b % rsz b) (b % m) (kfO m 0 T2) [((List.replicate b 97)[(List.replicate b 97).length - b]?.getD 0, (b - b) % m)] = [[(tell (ringS b) 0 (List.replicate b 97))[b - b]?.getD 0]] := by
    have := e2
    simpa [mean, nums, wsh] using this
  rw [List.length_replicate, er, eT, Nat.sub_self, Nat.zero_mod] at e3
  unfold srv at e3
  rcases hbr with ⟨c1, rfl⟩ | ⟨c1, rfl, c3⟩
  · rw [Nat.mod_self, if_pos rfl, ring_step _ _ (Nat.mod_lt _ (by omega)), if_neg (rsz_ne hb1.1 hb1.2)] at e3
    simp at e3
  · rw [Nat.mod_eq_of_lt c1, if_neg (by omega)] at e3
    have ht : toldL 0 (lastK k (kfO m 0 T2)) = [] := by
      unfold lastK
      rw [kfO_len, kfO_drop, Nat.zero_add]
      refine toldL_none m 0 _ _ fun d hd => ?_
      rw [List.length_drop] at hd
      simp only [List.length_nil, Nat.zero_add] at l2
      rw [Nat.mod_eq_of_lt (by omega)]; omega
    rw [ht] at e3
    simp [lastOf] at e3
end MP

namespace MP
open PySem PySem.Spec PyProof.Rows L2
def g_law_alike : WL := g_alk 2
theorem eqH_tt {h : Hq} {a b : List (List Nat)} : eqH h (.tup (a.map strD)) (.tup (b.map strD)) = some (decide (a = b)) := by
  have e : eqH h (.tup (a.map strD)) (.tup (b.map strD)) = if okD 40 (.tup (a.map strD)) && okD 40 (.tup (b.map strD)) then some (deq (.tup (a.map strD)) (.tup (b.map strD))) else none := rfl
  have o : ∀ a : List (List Nat), okD 40 (.tup (a.map strD)) = true := fun a => strs_ok 39 a
  rw [e, o, o]
  show some (deqL (a.map strD) (b.map strD)) = _
  rw [deqL_strs]
theorem alk_self {n : Nat} {h : Hq} {xs : List D} (k : ∀ x ∈ xs, Alk n h x x) : ∀ (i : Nat) (x y : D), xs[i]? = some x → xs[i]? = some y → Alk n h x y := by
  intro i x y hx hy
  rw [hx] at hy
  cases hy
  exact k x (List.mem_of_getElem? hx)
theorem alk_strs {h : Hq} {l : List (List Nat)} (hl : l.length ≤ 1000) : Alk 1 h (.tup (l.map strD)) (.tup (l.map strD)) :=
  .inr (.inl ⟨_, _, rfl, rfl, rfl, by rw [List.length_map]; exact hl, alk_self fun x hx => by
    obtain ⟨y, _, rfl⟩ := List.mem_map.mp hx
    exact .inr ⟨y, rfl, rfl⟩⟩)
theorem HF.preH {h h' : Hq} {x : Ob} {sc : Nat} {L : List (Nat × List D)} (F : HF (h ++ [x]) h.length sc h' L) : h <+: h' := by
  obtain ⟨r', _, p⟩ := F.cur
  rw [set_app] at p
  exact (List.prefix_append _ _).trans p
theorem pickM {m : Nat} (h1 : 1 ≤ m) (h2 : m ≤ 41) : ∀ d ∈ [D.int (m : Int), .int 40, .int 41, .int 24], ∃ v : Nat, d = .int v ∧ 1 ≤ v ∧ v ≤ 41 := by
  intro d hd
  simp only [List.mem_cons, List.not_mem_nil, or_false] at hd
  rcases hd with rfl | rfl | rfl | rfl
  · exact ⟨m, rfl, h1, h2⟩
  · exact ⟨40, rfl, by omega, by omega⟩
  · exact ⟨41, rfl, by omega, by omega⟩
  · exact ⟨24, rfl, by omega, by omega⟩
theorem pickK {k : Nat} (h2 : k ≤ 41) : ∀ d ∈ [D.int (k : Int), .int 40, .int 39], ∃ v : Nat, d = .int v ∧ v ≤ 41 := by
  intro d hd
  simp only [List.mem_cons, List.not_mem_nil, or_false] at hd
  rcases hd with rfl | rfl | rfl
  · exact ⟨k, rfl, h2⟩
  · exact ⟨40, rfl, by omega⟩
  · exact ⟨39, rfl, by omega⟩
theorem pickW {w : Nat} (h2 : w ≤ 40) : ∀ d ∈ [D.int (w : Int), .int 40, .int 39, .int 24], ∃ v : Nat, d = .int v ∧ v ≤ 40 := by
  intro d hd
  simp only [List.mem_cons, List.not_mem_nil, or_false] at hd
  rcases hd with rfl | rfl | rfl | rfl
  · exact ⟨w, rfl, h2⟩
  · exact ⟨40, rfl, by omega⟩
  · exact ⟨39, rfl, by omega⟩
  · exact ⟨24, rfl, by omega⟩
abbrev N_law : List Str := ["_law_script", "_law_row", "_law_service_here", "_law_history_here", "_law_is_fair", "_law_found", "_law_m", "_law_k", "_law_window", "_law_due", "_law_wish", "_law_other", "_law_told_here"]
def ws_law : WS := (wsSeq (wsAsg (wgPat (.nm 1)) (wLst (waCons (wVar 0) (waCons (wC (.int 0)) (waCons (wC (.int 7708)) (waCons (wC (.int 0)) waNil)))))) (wsSeq (wsAsg (wgPat (.nm 2)) (wCB g_law_service (waCons (wVar 1) (waCons (wC (.int 4)) waNil)))) (wsSeq (wsPar3 6 7 8 (waCons (wOp gAdd (wC (.int 1)) (wCB g_law_taken (waCons (wVar 1) (waCons (wC (.int 6)) waNil)))) (waCons (wCB g_law_taken (waCons (wVar 1) (waCons (wC (.int 6)) waNil))) (waCons (wCB g_law_taken (waCons (wVar 1) (waCons (wC (.int 6)) waNil))) waNil)))) (wsSeq (wsAsg (wgPat (.nm 3)) (wCB g_law_history (waCons (wVar 1) (waCons (wOp gIx (wVar 2) (wC (.int 0))) (waCons (wOp gIx (wVar 2) (wC (.int 0))) (waCons (wVar 8) (waCons (wC (.int 16)) waNil))))))) (wsSeq (wsPar 9 10 (waCons (wCB g_law_clerked (waCons (wVar 2) (waCons (wVar 6) (waCons (wVar 7) (waCons (wVar 3) waNil))))) (waCons (wCB g_law_wished (waCons (wVar 2) (waCons (wVar 3) waNil))) waNil))) (wsSeq (wsIf (wtNot (wtTru (wCB g_law_alike (waCons (wLst (waCons (wCB g_clerked (waCons (wVar 2) (waCons (wTup (waCons (wVar 6) (waCons (wVar 7) waNil))) (waCons (wVar 3) waNil)))) (waCons (wCB g_wished (waCons (wVar 2) (waCons (wVar 3) waNil))) waNil))) (waCons (wLst (waCons (wVar 9) (waCons (wVar 10) waNil))) waNil))))) (wsSeq (wsRet (wC (.bl false))) wsNil) wsNil) (wsSeq (wsAsg (wgPat (.nm 4)) (wAnd (wOp gGt (wVar 6) (wVar 8)) (wOp gGe (wVar 7) (wVar 8)))) (wsSeq (wsIf (wtNot (wtTru (wCB g_law_alike (waCons (wLst (waCons (wCB g_does_serve (waCons (wVar 2) (waCons (wTup (waCons (wVar 6) (waCons (wVar 7) waNil))) (waCons (wVar 3) waNil)))) (waCons (wCB g_is_enough (waCons (wTup (waCons (wVar 6) (waCons (wVar 7) waNil))) (waCons (wVar 8) waNil))) waNil))) (waCons (wLst (waCons (wOp gEq (wVar 9) (wVar 10)) (waCons (wVar 4) waNil))) waNil))))) (wsSeq (wsRet (wC (.bl false))) wsNil) wsNil) (wsSeq (wsIf (wtAnd (wtTru (wVar 4)) (wtB (wOp gNe (wVar 9) (wVar 10)))) (wsSeq (wsRet (wC (.bl false))) wsNil) wsNil) (wsSeq (wsPar3 6 7 8 (waCons (wCB g_law_pick (waCons (wVar 1) (waCons (wLst (waCons (wVar 6) (waCons (wC (.int 40)) (waCons (wC (.int 41)) (waCons (wC (.int 24)) waNil))))) waNil))) (waCons (wCB g_law_pick (waCons (wVar 1) (waCons (wLst (waCons (wVar 7) (waCons (wC (.int 40)) (waCons (wC (.int 39)) waNil)))) waNil))) (waCons (wCB g_law_pick (waCons (wVar 1) (waCons (wLst (waCons (wVar 8) (waCons (wC (.int 40)) (waCons (wC (.int 39)) (waCons (wC (.int 24)) waNil))))) waNil))) waNil)))) (wsSeq (wsAsg (wgPat (.nm 5)) (wCB g_clerk_breaks (waCons (wTup (waCons (wVar 6) (waCons (wVar 7) waNil))) (waCons (wVar 8) waNil)))) (wsSeq (wsIf (wtAnd (wtB (wOp gGt (wVar 6) (wVar 8))) (wtB (wOp gGe (wVar 7) (wVar 8)))) (wsSeq (wsRet (wAnd (wOp (isD false) (wVar 5) (wC .non)) (wOp (isD false) (wCB g_is_enough (waCons (wTup (waCons (wVar 6) (waCons (wVar 7) waNil))) (waCons (wVar 8) waNil))) (wC (.bl true))))) wsNil) wsNil) (wsSeq (wsAsg (wgPat (.tp (.cons (.nm 11) (.cons (.nm 12) .nil)))) (wVar 5)) (wsSeq (wsIf (wtOr (wtB (wOp (isD true) (wCB g_is_service (waCons (wVar 11) waNil)) (wC (.bl true)))) (wtOr (wtNot (wtTru (wCB g_law_fits (waCons (wVar 12) (waCons (wOp gIx (wVar 11) (wC (.int 0))) (waCons (wVar 8) waNil)))))) (wtB (wOp gGt (wCB bLen (waCons (wVar 12) waNil)) (wC (.int 60)))))) (wsSeq (wsRet (wC (.bl false))) wsNil) wsNil) (wsSeq (wsRet (wAnd (wOp gNe (wCB g_law_clerked (waCons (wVar 11) (waCons (wVar 6) (waCons (wVar 7) (waCons (wVar 12) waNil))))) (wCB g_law_wished (waCons (wVar 11) (waCons (wVar 12) waNil)))) (wOp (isD false) (wCB g_does_serve (waCons (wVar 11) (waCons (wTup (waCons (wVar 6) (waCons (wVar 7) waNil))) (waCons (wVar 12) waNil)))) (wC (.bl false))))) wsNil)))))))))))))))
def ws_law_t7 : WS := (wsSeq (wsIf (wtNot (wtTru (wCB g_law_alike (waCons (wLst (waCons (wCB g_does_serve (waCons (wVar 2) (waCons (wTup (waCons (wVar 6) (waCons (wVar 7) waNil))) (waCons (wVar 3) waNil)))) (waCons (wCB g_is_enough (waCons (wTup (waCons (wVar 6) (waCons (wVar 7) waNil))) (waCons (wVar 8) waNil))) waNil))) (waCons (wLst (waCons (wOp gEq (wVar 9) (wVar 10)) (waCons (wVar 4) waNil))) waNil))))) (wsSeq (wsRet (wC (.bl false))) wsNil) wsNil) (wsSeq (wsIf (wtAnd (wtTru (wVar 4)) (wtB (wOp gNe (wVar 9) (wVar 10)))) (wsSeq (wsRet (wC (.bl false))) wsNil) wsNil) (wsSeq (wsPar3 6 7 8 (waCons (wCB g_law_pick (waCons (wVar 1) (waCons (wLst (waCons (wVar 6) (waCons (wC (.int 40)) (waCons (wC (.int 41)) (waCons (wC (.int 24)) waNil))))) waNil))) (waCons (wCB g_law_pick (waCons (wVar 1) (waCons (wLst (waCons (wVar 7) (waCons (wC (.int 40)) (waCons (wC (.int 39)) waNil)))) waNil))) (waCons (wCB g_law_pick (waCons (wVar 1) (waCons (wLst (waCons (wVar 8) (waCons (wC (.int 40)) (waCons (wC (.int 39)) (waCons (wC (.int 24)) waNil))))) waNil))) waNil)))) (wsSeq (wsAsg (wgPat (.nm 5)) (wCB g_clerk_breaks (waCons (wTup (waCons (wVar 6) (waCons (wVar 7) waNil))) (waCons (wVar 8) waNil)))) (wsSeq (wsIf (wtAnd (wtB (wOp gGt (wVar 6) (wVar 8))) (wtB (wOp gGe (wVar 7) (wVar 8)))) (wsSeq (wsRet (wAnd (wOp (isD false) (wVar 5) (wC .non)) (wOp (isD false) (wCB g_is_enough (waCons (wTup (waCons (wVar 6) (waCons (wVar 7) waNil))) (waCons (wVar 8) waNil))) (wC (.bl true))))) wsNil) wsNil) (wsSeq (wsAsg (wgPat (.tp (.cons (.nm 11) (.cons (.nm 12) .nil)))) (wVar 5)) (wsSeq (wsIf (wtOr (wtB (wOp (isD true) (wCB g_is_service (waCons (wVar 11) waNil)) (wC (.bl true)))) (wtOr (wtNot (wtTru (wCB g_law_fits (waCons (wVar 12) (waCons (wOp gIx (wVar 11) (wC (.int 0))) (waCons (wVar 8) waNil)))))) (wtB (wOp gGt (wCB bLen (waCons (wVar 12) waNil)) (wC (.int 60)))))) (wsSeq (wsRet (wC (.bl false))) wsNil) wsNil) (wsSeq (wsRet (wAnd (wOp gNe (wCB g_law_clerked (waCons (wVar 11) (waCons (wVar 6) (waCons (wVar 7) (waCons (wVar 12) waNil))))) (wCB g_law_wished (waCons (wVar 11) (waCons (wVar 12) waNil)))) (wOp (isD false) (wCB g_does_serve (waCons (wVar 11) (waCons (wTup (waCons (wVar 6) (waCons (wVar 7) waNil))) (waCons (wVar 12) waNil)))) (wC (.bl false))))) wsNil))))))))
def ws_law_t9 : WS := (wsSeq (wsPar3 6 7 8 (waCons (wCB g_law_pick (waCons (wVar 1) (waCons (wLst (waCons (wVar 6) (waCons (wC (.int 40)) (waCons (wC (.int 41)) (waCons (wC (.int 24)) waNil))))) waNil))) (waCons (wCB g_law_pick (waCons (wVar 1) (waCons (wLst (waCons (wVar 7) (waCons (wC (.int 40)) (waCons (wC (.int 39)) waNil)))) waNil))) (waCons (wCB g_law_pick (waCons (wVar 1) (waCons (wLst (waCons (wVar 8) (waCons (wC (.int 40)) (waCons (wC (.int 39)) (waCons (wC (.int 24)) waNil))))) waNil))) waNil)))) (wsSeq (wsAsg (wgPat (.nm 5)) (wCB g_clerk_breaks (waCons (wTup (waCons (wVar 6) (waCons (wVar 7) waNil))) (waCons (wVar 8) waNil)))) (wsSeq (wsIf (wtAnd (wtB (wOp gGt (wVar 6) (wVar 8))) (wtB (wOp gGe (wVar 7) (wVar 8)))) (wsSeq (wsRet (wAnd (wOp (isD false) (wVar 5) (wC .non)) (wOp (isD false) (wCB g_is_enough (waCons (wTup (waCons (wVar 6) (waCons (wVar 7) waNil))) (waCons (wVar 8) waNil))) (wC (.bl true))))) wsNil) wsNil) (wsSeq (wsAsg (wgPat (.tp (.cons (.nm 11) (.cons (.nm 12) .nil)))) (wVar 5)) (wsSeq (wsIf (wtOr (wtB (wOp (isD true) (wCB g_is_service (waCons (wVar 11) waNil)) (wC (.bl true)))) (wtOr (wtNot (wtTru (wCB g_law_fits (waCons (wVar 12) (waCons (wOp gIx (wVar 11) (wC (.int 0))) (waCons (wVar 8) waNil)))))) (wtB (wOp gGt (wCB bLen (waCons (wVar 12) waNil)) (wC (.int 60)))))) (wsSeq (wsRet (wC (.bl false))) wsNil) wsNil) (wsSeq (wsRet (wAnd (wOp gNe (wCB g_law_clerked (waCons (wVar 11) (waCons (wVar 6) (waCons (wVar 7) (waCons (wVar 12) waNil))))) (wCB g_law_wished (waCons (wVar 11) (waCons (wVar 12) waNil)))) (wOp (isD false) (wCB g_does_serve (waCons (wVar 11) (waCons (wTup (waCons (wVar 6) (waCons (wVar 7) waNil))) (waCons (wVar 12) waNil)))) (wC (.bl false))))) wsNil))))))
def ws_law_t12 : WS := (wsSeq (wsAsg (wgPat (.tp (.cons (.nm 11) (.cons (.nm 12) .nil)))) (wVar 5)) (wsSeq (wsIf (wtOr (wtB (wOp (isD true) (wCB g_is_service (waCons (wVar 11) waNil)) (wC (.bl true)))) (wtOr (wtNot (wtTru (wCB g_law_fits (waCons (wVar 12) (waCons (wOp gIx (wVar 11) (wC (.int 0))) (waCons (wVar 8) waNil)))))) (wtB (wOp gGt (wCB bLen (waCons (wVar 12) waNil)) (wC (.int 60)))))) (wsSeq (wsRet (wC (.bl false))) wsNil) wsNil) (wsSeq (wsRet (wAnd (wOp gNe (wCB g_law_clerked (waCons (wVar 11) (waCons (wVar 6) (waCons (wVar 7) (waCons (wVar 12) waNil))))) (wCB g_law_wished (waCons (wVar 11) (waCons (wVar 12) waNil)))) (wOp (isD false) (wCB g_does_serve (waCons (wVar 11) (waCons (wTup (waCons (wVar 6) (waCons (wVar 7) waNil))) (waCons (wVar 12) waNil)))) (wC (.bl false))))) wsNil)))
section
variable {h : Hq} {P : WK} {x0 : Ob} {sc : Nat} {r : List D}
theorem law_t12 (hP : P (.bl true) h) {H : Hq} {L : List (Nat × List D)} (F : HF (h ++ [x0]) h.length sc H L) {m k w : Nat} (hm : 1 ≤ m ∧ m ≤ 41 ∧ k ≤ 41) (hw : w ≤ 40) (hf : ¬ (w < m ∧ w ≤ k)) {y0 y1 y2 y3 y4 y9 y10 y11 y12 : Option D} :
    ws_law_t12 { nx := fun _ h' => gcK h P .non h', rt := gcK h P } [y0, y1, y2, y3, y4, some (.tup [(ringS (brk m w)).d, histD (brH (brk m w))]), some (.int m), some (.int k), some (.int w), y9, y10, y11, y12] H := by
  have hne := brk_ne hm.1 hm.2.1 hw hf
  have hb : 1 ≤ brk m w ∧ brk m w ≤ 41 ∧ brk m w ≤ w := by unfold brk; split <;> omega
  generalize brk m w = b at *
  have h1 := brH_ok b hb.1
  have h2 := brH_len b
  (conv => whnf); (try dsimp only)
  refine ⟨ringS b, ring_ok b, rfl, ?_⟩
  (conv => whnf); (try dsimp only)
  refine ⟨ringS b, brH b, w, ring_ok b, h1, by omega, brH_win b w hb.2.2, rfl, ?_⟩
  (conv => whnf); (try dsimp only)
  (generalize hdec : decide ((60 : Int) < (((brH b).map It.d).length : Int)) = bdec; obtain rfl : bdec = false := hdec.symm.trans (decide_eq_false (by rw [List.length_map, h2]; omega)); clear hdec; (conv => whnf); (try dsimp only))
  refine ⟨ringS b, m, k, brH b, ring_ok b, hm.1, h1, by omega, rfl, ?_⟩
  (conv => whnf); (try dsimp only)
  refine ⟨ringS b, brH b, ring_ok b, h1, by omega, rfl, ?_⟩
  (conv => whnf); (try dsimp only)
  rw [eqH_tt]
  simp only [decide_eq_false hne]
  (conv => whnf); (try dsimp only)
  refine ⟨sl63 (by simp), ?_⟩
  (conv => whnf); (try dsimp only)
  refine ⟨ringS b, m, k, brH b, ring_ok b, hm, h1, by omega, rfl, ?_⟩
  simp only [decide_eq_false hne]
  exact gc_pre F.preH rfl hP
theorem law_t9 (hP : P (.bl true) h) (R : RowAt (h ++ [x0]) h.length sc r) {H : Hq} {L : List (Nat × List D)} (F : HF (h ++ [x0]) h.length sc H L) {m k w : Nat} (hm : 1 ≤ m ∧ m ≤ 41 ∧ k ≤ 41) (hw : w ≤ 40) {y0 y2 y3 y4 y5 y9 y10 y11 y12 : Option D} :
    ws_law_t9 { nx := fun _ h' => gcK h P .non h', rt := gcK h P } [y0, some (.ref h.length), y2, y3, y4, y5, some (.int m), some (.int k), some (.int w), y9, y10, y11, y12] H := by
  have hn : h.length < (h ++ [x0]).length := by simp
  (conv => whnf); (try dsimp only)
  refine ⟨sl63 (by simp), ?_⟩
  have hlen := F.len
  have F := F.app (g := [Ob.lst [D.int (m : Int), .int 40, .int 41, .int 24]])
  obtain ⟨r', R'⟩ := F.row R
  refine ⟨h.length, sc, r', H.length, _, rfl, R', lstAt_app, by omega, by simp, by simp, by simp [D.scL, D.sc], fun z hz r2 ok => ?_⟩
  have F := F.draw R ok
  obtain ⟨m2, em, hm2⟩ := pickM hm.1 hm.2.1 _ (List.getElem_mem hz)
  simp only [em]
  generalize (H ++ [Ob.lst [D.int (m : Int), .int 40, .int 41, .int 24]]).set h.length (Ob.lst r2) = H1 at F
  (conv => whnf); (try dsimp only)
  refine ⟨sl63 (by simp), ?_⟩
  have hlen := F.len
  have F := F.app (g := [Ob.lst [D.int (k : Int), .int 40, .int 39]])
  obtain ⟨r', R'⟩ := F.row R
  refine ⟨h.length, sc, r', H1.length, _, rfl, R', lstAt_app, by omega, by simp, by simp, by simp [D.scL, D.sc], fun z hz r2 ok => ?_⟩
  have F := F.draw R ok
  obtain ⟨k2, ek, hk2⟩ := pickK hm.2.2 _ (List.getElem_mem hz)
  simp only [ek]
  generalize (H1 ++ [Ob.lst [D.int (k : Int), .int 40, .int 39]]).set h.length (Ob.lst r2) = H2 at F
  (conv => whnf); (try dsimp only)
  refine ⟨sl63 (by simp), ?_⟩
  have hlen := F.len
  have F := F.app (g := [Ob.lst [D.int (w : Int), .int 40, .int 39, .int 24]])
  obtain ⟨r', R'⟩ := F.row R
  refine ⟨h.length, sc, r', H2.length, _, rfl, R', lstAt_app, by omega, by simp, by simp, by simp [D.scL, D.sc], fun z hz r2 ok => ?_⟩
  have F := F.draw R ok
  obtain ⟨w2, ew, hw2⟩ := pickW hw _ (List.getElem_mem hz)
  simp only [ew]
  generalize (H2 ++ [Ob.lst [D.int (w : Int), .int 40, .int 39, .int 24]]).set h.length (Ob.lst r2) = H3 at F
  (conv => whnf); (try dsimp only)
  refine ⟨sl63 (by simp), ?_⟩
  (conv => whnf); (try dsimp only)
  have hmk : 1 ≤ m2 ∧ m2 ≤ 41 ∧ k2 ≤ 41 := ⟨hm2.1, hm2.2, hk2⟩
  refine ⟨m2, k2, w2, hmk, hw2, rfl, fun hf => ?_, fun hf => ?_⟩
  · (conv => whnf); (try dsimp only)
    (generalize hdec : decide ((w2 : Int) < (m2 : Int)) = bdec; obtain rfl : bdec = true := hdec.symm.trans (decide_eq_true (by omega)); clear hdec; (conv => whnf); (try dsimp only))
    (generalize hdec : decide ((w2 : Int) ≤ (k2 : Int)) = bdec; obtain rfl : bdec = true := hdec.symm.trans (decide_eq_true (by omega)); clear hdec; (conv => whnf); (try dsimp only))
    refine ⟨sl63 (by simp), ?_⟩
    (conv => whnf); (try dsimp only)
    refine ⟨m2, k2, w2, hmk.1, hmk.2.1, hmk.2.2, hw2, rfl, ?_⟩
    simp only [decide_eq_true hf.1, decide_eq_true hf.2]
    exact gc_pre F.preH rfl hP
  · (conv => whnf); (try dsimp only)
    by_cases h1 : w2 < m2
    · (generalize hdec : decide ((w2 : Int) < (m2 : Int)) = bdec; obtain rfl : bdec = true := hdec.symm.trans (decide_eq_true (by omega)); clear hdec; (conv => whnf); (try dsimp only))
      (generalize hdec : decide ((w2 : Int) ≤ (k2 : Int)) = bdec; obtain rfl : bdec = false := hdec.symm.trans (decide_eq_false (by omega)); clear hdec; (conv => whnf); (try dsimp only))
      exact law_t12 hP F hmk hw2 hf
    · (generalize hdec : decide ((w2 : Int) < (m2 : Int)) = bdec; obtain rfl : bdec = false := hdec.symm.trans (decide_eq_false (by omega)); clear hdec; (conv => whnf); (try dsimp only))
      exact law_t12 hP F hmk hw2 hf
theorem law_t7 (hP : P (.bl true) h) (R : RowAt (h ++ [x0]) h.length sc r) {H : Hq} {L : List (Nat × List D)} (F : HF (h ++ [x0]) h.length sc H L) {m k w : Nat} {s : Svc} {hs : List It} (ok : s.Ok) (hk : HOk (· ∈ s.asks) 0 hs) (hz : hs.length ≤ 60) (hwin : WinOk w hs) (hm : 1 ≤ m ∧ m ≤ 41 ∧ k ≤ 41) (hw : w ≤ 40) {y0 y5 y11 y12 : Option D} :
    ws_law_t7 { nx := fun _ h' => gcK h P .non h', rt := gcK h P } [y0, some (.ref h.length), some s.d, some (histD hs), some (.bl (decide (w < m) && decide (w ≤ k))), y5, some (.int m), some (.int k), some (.int w), some (.tup ((clerkL s m k hs).map strD)), some (.tup ((wishL s hs).map strD)), y11, y12] H := by
  (conv => whnf); (try dsimp only)
  refine ⟨sl63 (by simp), ?_⟩
  (conv => whnf); (try dsimp only)
  refine ⟨s, m, k, hs, ok, hm, hk, hz, rfl, ?_⟩
  (conv => whnf); (try dsimp only)
  refine ⟨sl63 (by simp), ?_⟩
  (conv => whnf); (try dsimp only)
  refine ⟨m, k, w, hm.1, hm.2.1, hm.2.2, hw, rfl, ?_⟩
  (conv => whnf); (try dsimp only)
  refine ⟨sl63 (by simp), ?_⟩
  (conv => whnf); (try dsimp only)
  rw [eqH_tt]
  (conv => whnf); (try dsimp only)
  refine ⟨sl63 (by simp), ?_⟩
  (conv => whnf); (try dsimp only)
  refine ⟨_, _, .inr (.inr ⟨_, _, _, _, rfl, rfl, lst_app1 lstAt_app, lstAt_app, rfl, by simp, alk_self fun x hx => ?_⟩), rfl, ?_⟩
  · simp only [List.mem_cons, List.not_mem_nil, or_false] at hx
    rcases hx with rfl | rfl
    · exact .inl (.inl ⟨_, rfl, rfl⟩)
    · exact .inl (.inl ⟨_, rfl, rfl⟩)
  · have F2 := (F.app (g := [Ob.lst [D.bl (decide (clerkL s m k hs = wishL s hs)), .bl (decide (w < m) && decide (w ≤ k))]])).app (g := [Ob.lst [D.bl (decide (clerkL s m k hs = wishL s hs)), .bl (decide (w < m) && decide (w ≤ k))]])
    generalize H ++ [Ob.lst [D.bl (decide (clerkL s m k hs = wishL s hs)), .bl (decide (w < m) && decide (w ≤ k))]] ++ [Ob.lst [D.bl (decide (clerkL s m k hs = wishL s hs)), .bl (decide (w < m) && decide (w ≤ k))]] = H2 at F2 ⊢
    (conv => whnf); (try dsimp only)
    by_cases hf : w < m ∧ w ≤ k
    · (generalize hdec : (decide (w < m) && decide (w ≤ k)) = bdec; obtain rfl : bdec = true := hdec.symm.trans (by rw [decide_eq_true hf.1, decide_eq_true hf.2]; rfl); clear hdec; (conv => whnf); (try dsimp only))
      rw [eqH_tt]
      (conv => whnf); (try dsimp only)
      (generalize hdec : decide (clerkL s m k hs = wishL s hs) = bdec; obtain rfl : bdec = true := hdec.symm.trans (decide_eq_true (fair_eq s hk hwin hf.1 hf.2)); clear hdec; (conv => whnf); (try dsimp only))
      exact law_t9 hP R F2 hm hw
    · (generalize hdec : (decide (w < m) && decide (w ≤ k)) = bdec; obtain rfl : bdec = false := hdec.symm.trans (by rw [Bool.and_eq_false_iff, decide_eq_false_iff_not, decide_eq_false_iff_not]; omega); clear hdec; (conv => whnf); (try dsimp only))
      exact law_t9 hP R F2 hm hw
end
def g_law : WL := fun ds h P => ∃ (sc : Nat) (ns : List Int), ds = [.ref sc] ∧ h[sc]? = some (.scr ns) ∧ P (.bl true) h
theorem law_ok : ∀ ds h P, g_law ds h P → wF ws_law 13 1 ds h P := by
  rintro ds h P ⟨sc, ns, rfl, hs, hP⟩
  refine ⟨rfl, ?_⟩
  (conv => whnf); (try dsimp only)
  refine ⟨sl63 (by simp), ?_⟩
  have R : RowAt (h ++ [Ob.lst [D.ref sc, .int 0, .int 7708, .int 0]]) h.length sc [D.ref sc, .int 0, .int 7708, .int 0] :=
    ⟨⟨ns, by rw [List.getElem?_append_left (get_lt hs)]; exact hs⟩, lstAt_app, 0, 7708, 0, rfl, by omega, by omega, by omega, by omega⟩
  have F := HF.start R
  (conv => whnf); (try dsimp only)
  refine ⟨h.length, sc, _, 4, rfl, R, by omega, by omega, fun s r1 ok ok1 => ?_⟩
  have F := F.draw R ok1
  generalize (h ++ [Ob.lst [D.ref sc, .int 0, .int 7708, .int 0]]).set h.length (Ob.lst r1) = H1 at F
  (conv => whnf); (try dsimp only)
  obtain ⟨r', R'⟩ := F.row R
  refine ⟨h.length, sc, r', 6, rfl, R', by omega, by omega, fun z1 r2 hz1 ok2 => ?_⟩
  have F := F.draw R ok2
  generalize H1.set h.length (Ob.lst r2) = H2 at F
  (conv => whnf); (try dsimp only)
  obtain ⟨r', R'⟩ := F.row R
  refine ⟨h.length, sc, r', 6, rfl, R', by omega, by omega, fun k r3 hk0 ok3 => ?_⟩
  have F := F.draw R ok3
  generalize H2.set h.length (Ob.lst r3) = H3 at F
  (conv => whnf); (try dsimp only)
  obtain ⟨r', R'⟩ := F.row R
  refine ⟨h.length, sc, r', 6, rfl, R', by omega, by omega, fun w r4 hw0 ok4 => ?_⟩
  have F := F.draw R ok4
  generalize H3.set h.length (Ob.lst r4) = H4 at F
  (conv => whnf); (try dsimp only)
  rw [show (1 : Int) + (z1 : Int) = ((1 + z1 : Nat) : Int) by omega]
  have hm0 : 1 ≤ 1 + z1 ∧ 1 + z1 ≤ 6 := by omega
  generalize 1 + z1 = m at hm0
  have hmk : 1 ≤ m ∧ m ≤ 41 ∧ k ≤ 41 := by omega
  obtain ⟨r', R'⟩ := F.row R
  refine ⟨h.length, sc, r', s, w, 16, rfl, R', ok, by omega, by omega, fun hs r5 hk hwin hz ok5 => ?_⟩
  have F := F.draw R ok5
  generalize H4.set h.length (Ob.lst r5) = H5 at F
  (conv => whnf); (try dsimp only)
  refine ⟨s, m, k, hs, ok, hmk.1, hk, by omega, rfl, ?_⟩
  (conv => whnf); (try dsimp only)
  refine ⟨s, hs, ok, hk, by omega, rfl, ?_⟩
  (conv => whnf); (try dsimp only)
  refine ⟨sl63 (by simp), ?_⟩
  (conv => whnf); (try dsimp only)
  refine ⟨s, m, k, hs, ok, hmk, hk, by omega, rfl, ?_⟩
  (conv => whnf); (try dsimp only)
  refine ⟨s, hs, ok, hk, by omega, rfl, ?_⟩
  (conv => whnf); (try dsimp only)
  refine ⟨sl63 (by simp), ?_⟩
  (conv => whnf); (try dsimp only)
  refine ⟨sl63 (by simp), ?_⟩
  (conv => whnf); (try dsimp only)
  refine ⟨_, _, .inr (.inr ⟨_, _, _, _, rfl, rfl, lst_app1 lstAt_app, lstAt_app, rfl, by simp, alk_self fun x hx => ?_⟩), rfl, ?_⟩
  · have hcl := clerkL_len s m k hs
    have hwl : ∀ (T : List Nat) (j : Nat) (l : List It), (wsh T j l).length = l.length := by
      intro T j l
      induction l generalizing j with
      | nil => rfl
      | cons a l ih => cases a <;> simp [wsh, ih]
    simp only [List.mem_cons, List.not_mem_nil, or_false] at hx
    rcases hx with rfl | rfl
    · exact alk_strs (by omega)
    · exact alk_strs (by unfold wishL; rw [hwl]; omega)
  · have F2 := (F.app (g := [Ob.lst [D.tup ((clerkL s m k hs).map strD), .tup ((wishL s hs).map strD)]])).app (g := [Ob.lst [D.tup ((clerkL s m k hs).map strD), .tup ((wishL s hs).map strD)]])
    (conv => whnf); (try dsimp only)
    by_cases h1 : w < m
    · (generalize hdec : decide ((w : Int) < (m : Int)) = bdec; obtain rfl : bdec = true := hdec.symm.trans (decide_eq_true (by omega)); clear hdec; (conv => whnf); (try dsimp only))
      rw [show decide ((w : Int) ≤ (k : Int)) = (decide (w < m) && decide (w ≤ k)) by rw [decide_eq_true h1, Bool.true_and]; simp]
      exact law_t7 hP R F2 ok hk (by omega) hwin hmk (by omega)
    · (generalize hdec : decide ((w : Int) < (m : Int)) = bdec; obtain rfl : bdec = false := hdec.symm.trans (decide_eq_false (by omega)); clear hdec; (conv => whnf); (try dsimp only))
      have e : (decide (w < m) && decide (w ≤ k)) = false := by rw [decide_eq_false h1, Bool.false_and]
      have := law_t7 (h := h) (P := P) (m := m) (k := k) (w := w) (s := s) (hs := hs) (y0 := some (.ref sc)) (y5 := none) (y11 := none) (y12 := none) hP R F2 ok hk (by omega) hwin hmk (by omega)
      rw [e] at this
      exact this
end MP

namespace MP
open PySem PySem.Spec PyProof.Rows L2
section
variable {P : Program} {w : World} {K : PySem.W.Frag} {mg : Str → Option Value} {base : Heap} {k : Nat} {Γ : CEnv}
theorem def_fn (GL : Glo P w K mg base k Γ) {x qual : Str} {st : Stmt} {f : Addr} {fd : FuncData} {ps : List Str} {n : Nat} {ws : WS} {g : WL} (F : Fun K x qual st f fd) (S : FnScope Γ.N ps (defScope st))
    (hc : cSs (comp Γ n) (defScope st) (defBody st) = some ws) (hg : ∀ ds h P, g ds h P → wF ws Γ.N.length ps.length ds h P) : FnOk P w K mg base CX0 (k + 1) f fd ps (liftF K g) := by
  refine F.ok S (fun vs H Q E ⟨ρ, h, ds, P', S', r, w', c⟩ => ?_) fun cdv A outer s H vs Q E hr ⟨ρ, h, ds, P', S', r, w', c⟩ => ?_
  · rw [← r.length]; exact (hg ds h P' w').1
  · obtain ⟨_, hw⟩ := hg ds h P' w'
    have G : Good P w K mg base k Γ.N (defScope st) (cxOf CX0 P w K mg base Γ.N qual (defScope st) f cdv A outer s H E).nox :=
      ⟨rfl, rfl, rfl, rfl, rfl, rfl, rfl, hr, fun _ h => h, fun _ h => h, fun _ h => .inl h, fun _ h => h, fun _ _ => .inl rfl, PassesOwn.never⟩
    refine ⟨_, cSs_ok (comp_ok GL n) G rfl S.kind hc, ?_⟩
    refine ⟨ρ, startF Γ.N.length ds, h, _, S', start_fr r, hw, fun ρ1 h1 H1 fr1 σ1 e1 S1 F1 w1 => ?_, fun ρ1 h1 H1 d v e1 S1 r1 w1 => ?_, fun _ _ _ _ _ _ _ _ z => z.elim, fun _ _ _ _ _ _ _ _ z => z.elim⟩
    · exact gc_ok S' e1 S1 of_non w1 c
    · exact gc_ok S' e1 S1 r1 w1 c
/-- where a def of the text stands -/
structure DefIn (K : PySem.W.Frag) (x : Str) (st : Stmt) : Prop where
  ex : ∃ (f : Addr) (oc : Value) (od : Option Addr) (kV dc pm : Value) (an : Option Addr) (cd ct : Value) (sl : Array (Option Value)), PySem.W.nsIn K mainGlobals x = some (some (.ref f)) ∧
    K.lookup f = some ⟨oc, od, .func (PySem.W.fnOf x x (defArgs st) (defBody st) (defScope st) .none kV dc pm an cd ct), sl⟩ ∧ PySem.W.codeIn K cd x = true ∧ PySem.W.keepIn K (.ref f) = true
theorem DefIn.of {x : Str} {st : Stmt} {f : Addr} {oc : Value} {od : Option Addr} {kV dc pm : Value} {an : Option Addr} {cd ct : Value} {sl : Array (Option Value)} (a : PySem.W.nsIn K mainGlobals x = some (some (.ref f)))
    (l : K.lookup f = some ⟨oc, od, .func (PySem.W.fnOf x x (defArgs st) (defBody st) (defScope st) .none kV dc pm an cd ct), sl⟩) (c : PySem.W.codeIn K cd x = true) (kp : PySem.W.keepIn K (.ref f) = true) : DefIn K x st :=
  ⟨f, oc, od, kV, dc, pm, an, cd, ct, sl, a, l, c, kp⟩
structure Tp (K : PySem.W.Frag) (mg : Str → Option Value) (x : Str) (st : Stmt) (ps : List Str) : Prop where
  ex : ∃ (f : Addr) (fd : FuncData), Fun K x x st f fd ∧ mg x = some (.ref f) ∧ Binds K fd ps []
theorem DefIn.tp {x : Str} {st : Stmt} {h : Heap} (D : DefIn K x st) (X : K.In h) (G : h.Ns mainGlobals mg) {ps : List Str}
    (hb : ∀ (kV doc pm : Value) (an : Option Addr) (cdv ct : Value) (us : List Value), us.length = ps.length → bindArgs (PySem.W.fnOf x x (defArgs st) (defBody st) (defScope st) .none kV doc pm an cdv ct) ⟨us, []⟩ = pure (ps.zip us)) : Tp K mg x st ps := by
  obtain ⟨f, oc, od, kV, dc, pm, an, cd, ct, sl, a, l, c, kp⟩ := D.ex
  have F := fun_mk (st := st) l c kp
  exact ⟨f, _, F, PySem.W.mg_of X G a, F.binds hb⟩
theorem fe_of {x : Str} {st : Stmt} {ps : List Str} {n : Nat} {ws : WS} {g : WL} (T : Tp K mg x st ps) (GL : Glo P w K mg base k Γ) (S : FnScope Γ.N ps (defScope st))
    (hc : cSs (comp Γ n) (defScope st) (defBody st) = some ws) (hg : ∀ ds h P, g ds h P → wF ws Γ.N.length ps.length ds h P) : FE P w K mg base (k + 1) x g := by
  obtain ⟨f, fd, F, hm, hb⟩ := T.ex
  exact def_ok GL F S hc hm hb hg
theorem fe_none {x : Str} {st : Stmt} {ps : List Str} (T : Tp K mg x st ps) : FE P w K mg base k x (fun _ _ _ => False) := by
  obtain ⟨f, fd, F, hm, hb⟩ := T.ex
  have no : ∀ vs H Q E, ¬ liftF K (fun _ _ _ => False) vs H Q E := fun vs H Q E ⟨_, _, _, _, _, _, z, _⟩ => z
  exact ⟨f, fd, ps, hm, F.kp, hb, fun vs H Q E h => absurd h (no vs H Q E), fun A outer s H args us vs Q E _ _ _ _ h => absurd h (no vs H Q E)⟩
theorem fe_nil : ∀ x g, ([] : List (Str × WL)).lookup x = some g → FE P w K mg base k x g := fun _ _ h => by cases h
theorem fe_cons {y : Str} {g0 : WL} {r : List (Str × WL)} (h : FE P w K mg base k y g0) (t : ∀ x g, r.lookup x = some g → FE P w K mg base k x g) : ∀ x g, ((y, g0) :: r).lookup x = some g → FE P w K mg base k x g := by
  intro x g e
  rw [List.lookup_cons] at e
  split at e
  · rename_i q
    have := eq_of_beq q
    subst this
    cases e
    exact h
  · exact t x g e
def CtIn (K : PySem.W.Frag) (mg : Str → Option Value) (x : Str) (d : D) : Prop := ∃ u v, mg x = some u ∧ RelV v u ∧ ∀ H ρ n, Rp K H ρ n d v
theorem ct_nil : ∀ x d, ([] : List (Str × D)).lookup x = some d → CtIn K mg x d := fun _ _ h => by cases h
theorem ct_cons {y : Str} {d0 : D} {r : List (Str × D)} (h : CtIn K mg y d0) (t : ∀ x d, r.lookup x = some d → CtIn K mg x d) : ∀ x d, ((y, d0) :: r).lookup x = some d → CtIn K mg x d := by
  intro x g e
  rw [List.lookup_cons] at e
  split at e
  · rename_i q
    have := eq_of_beq q
    subst this
    cases e
    exact h
  · exact t x g e
theorem ct_int {h : Heap} (X : K.In h) (G : h.Ns mainGlobals mg) {x : Str} {i : Int} {t : Tok} (e : PySem.W.nsIn K mainGlobals x = some (some (.int i t))) : CtIn K mg x (.int i) :=
  ⟨_, .int i, PySem.W.mg_of X G e, ⟨t, rfl⟩, fun _ _ _ => of_int⟩
theorem ct_str {h : Heap} (X : K.In h) (G : h.Ns mainGlobals mg) {x : Str} {s : Str} {t : Tok} {l : List Nat} (e : PySem.W.nsIn K mainGlobals x = some (some (.str s t))) (hs : s = mkS l) (ok : StrOk l) : CtIn K mg x (.str l) :=
  ⟨_, .str s, PySem.W.mg_of X G e, ⟨t, rfl⟩, fun _ _ _ => by subst hs; exact of_str ok⟩
/-- what law(script) promises -/
def gLaw : WL := fun ds h P => ∃ (sc : Nat) (ns : List Int), ds = [.ref sc] ∧ h[sc]? = some (.scr ns) ∧ P (.bl true) h
theorem law_sp {g : WL} (hg : ∀ ds h P, gLaw ds h P → g ds h P) {H : Hp} {a : Addr} {ns : List Int} (hS : SqL K H a (ns.map V.int)) (hO : Only H) : liftF K g [.ref a] H (fun v _ => v = .bl true) (fun _ _ _ => False) := by
  refine ⟨fun _ => a, [.scr ns], [.ref 0], fun d _ => d = .bl true, ⟨fun i o e => ?_, fun i j o u e1 e2 m1 m2 _ => ?_⟩, RpL.cons (by unfold Rp; exact ⟨by simp, rfl⟩) RpL.nil, hg _ _ _ ⟨0, ns, rfl, rfl, rfl⟩, fun ρ' h' H' d v _ _ r e => ?_⟩
  · have hi : i = 0 := by
      have := get_lt e
      simp at this; omega
    subst hi
    cases e
    rcases hS with hS | hS
    · rcases hS with hS | hS
      · rcases hO a with z | ⟨o, xs, z⟩
        · rw [z] at hS; cases hS
        · rw [z] at hS; cases hS
      · exact .inl hS
    · exact .inr hS
  · have hi : i = 0 := by
      have := get_lt e1
      simp at this; omega
    subst hi
    cases e1
    cases m1
  · subst e
    exact rp_bl r
end
end MP

namespace MP
open PySem PySem.Spec PyProof.Rows L2
def top (i : Nat) : Stmt := PySem.Challenge.pw_oftenasked_k08_clerks_exactly.main.body.getD i (.Pass ⟨0, 0, 0, 0⟩)
abbrev s_is_integer : Stmt := top 10
def E_is_integer : CEnv := ⟨N_is_integer, [], []⟩
theorem cc_is_integer : cSs (comp E_is_integer 30) (defScope s_is_integer) (defBody s_is_integer) = some ws_is_integer := by rfl
theorem sc_is_integer : FnScope N_is_integer ["value"] (defScope s_is_integer) := ⟨rfl, rfl, rfl, by decide +kernel, rfl, by decide +kernel, by decide +kernel⟩
abbrev s_is_from : Stmt := top 11
def E_is_from : CEnv := ⟨N_is_from, [("is_integer", g_is_integer)], []⟩
theorem cc_is_from : cSs (comp E_is_from 30) (defScope s_is_from) (defBody s_is_from) = some ws_is_from := by rfl
theorem sc_is_from : FnScope N_is_from ["value", "low", "high"] (defScope s_is_from) := ⟨rfl, rfl, rfl, by decide +kernel, rfl, by decide +kernel, by decide +kernel⟩
abbrev s_is_letter : Stmt := top 12
def E_is_letter : CEnv := ⟨N_is_letter, [], [("SMALL", (.str [97, 98, 99, 100, 101, 102, 103, 104, 105, 106, 107, 108, 109, 110, 111, 112, 113, 114, 115, 116, 117, 118, 119, 120, 121, 122]))]⟩
theorem cc_is_letter : cSs (comp E_is_letter 30) (defScope s_is_letter) (defBody s_is_letter) = some ws_is_letter := by rfl
theorem sc_is_letter : FnScope N_is_letter ["value"] (defScope s_is_letter) := ⟨rfl, rfl, rfl, by decide +kernel, rfl, by decide +kernel, by decide +kernel⟩
abbrev s_is_asks : Stmt := top 13
def E_is_asks : CEnv := ⟨N_is_asks, [], [("MOST_ASKS", (.int 4)), ("SMALL", (.str [97, 98, 99, 100, 101, 102, 103, 104, 105, 106, 107, 108, 109, 110, 111, 112, 113, 114, 115, 116, 117, 118, 119, 120, 121, 122]))]⟩
theorem cc_is_asks : cSs (comp E_is_asks 30) (defScope s_is_asks) (defBody s_is_asks) = some ws_is_asks := by rfl
theorem sc_is_asks : FnScope N_is_asks ["value"] (defScope s_is_asks) := ⟨rfl, rfl, rfl, by decide +kernel, rfl, by decide +kernel, by decide +kernel⟩
abbrev s_is_step : Stmt := top 14
def E_is_step : CEnv := ⟨N_is_step, [("is_from", g_is_from), ("is_letter", g_is_letter)], []⟩
theorem cc_is_step : cSs (comp E_is_step 30) (defScope s_is_step) (defBody s_is_step) = some ws_is_step := by rfl
theorem sc_is_step : FnScope N_is_step ["size", "value"] (defScope s_is_step) := ⟨rfl, rfl, rfl, by decide +kernel, rfl, by decide +kernel, by decide +kernel⟩
abbrev s_is_service : Stmt := top 15
def E_is_service : CEnv := ⟨N_is_service, [("is_asks", g_is_asks), ("is_step", g_is_step)], [("MOST_STANDS", (.int 40))]⟩
theorem cc_is_service : cSs (comp E_is_service 30) (defScope s_is_service) (defBody s_is_service) = some ws_is_service := by rfl
theorem sc_is_service : FnScope N_is_service ["value"] (defScope s_is_service) := ⟨rfl, rfl, rfl, by decide +kernel, rfl, by decide +kernel, by decide +kernel⟩
abbrev s_need_service : Stmt := top 16
def E_need_service : CEnv := ⟨N_need_service, [("is_service", g_is_service)], []⟩
theorem cc_need_service : cSs (comp E_need_service 30) (defScope s_need_service) (defBody s_need_service) = some ws_need_service := by rfl
theorem sc_need_service : FnScope N_need_service ["value"] (defScope s_need_service) := ⟨rfl, rfl, rfl, by decide +kernel, rfl, by decide +kernel, by decide +kernel⟩
abbrev s_step_of : Stmt := top 17
def E_step_of : CEnv := ⟨N_step_of, [], []⟩
theorem cc_step_of : cSs (comp E_step_of 30) (defScope s_step_of) (defBody s_step_of) = some ws_step_of := by rfl
theorem sc_step_of : FnScope N_step_of ["service", "stand", "ask"] (defScope s_step_of) := ⟨rfl, rfl, rfl, by decide +kernel, rfl, by decide +kernel, by decide +kernel⟩
abbrev s_answered : Stmt := top 18
def E_answered : CEnv := ⟨N_answered, [("step_of", g_step_of)], []⟩
theorem cc_answered : cSs (comp E_answered 30) (defScope s_answered) (defBody s_answered) = some ws_answered := by rfl
theorem sc_answered : FnScope N_answered ["service", "row"] (defScope s_answered) := ⟨rfl, rfl, rfl, by decide +kernel, rfl, by decide +kernel, by decide +kernel⟩
abbrev s_is_items : Stmt := top 22
def E_is_items : CEnv := ⟨N_is_items, [("is_integer", g_is_integer)], [("MOST_ITEMS", (.int 60)), ("SMALL", (.str [97, 98, 99, 100, 101, 102, 103, 104, 105, 106, 107, 108, 109, 110, 111, 112, 113, 114, 115, 116, 117, 118, 119, 120, 121, 122]))]⟩
theorem cc_is_items : cSs (comp E_is_items 30) (defScope s_is_items) (defBody s_is_items) = some ws_is_items := by rfl
theorem sc_is_items : FnScope N_is_items ["value"] (defScope s_is_items) := ⟨rfl, rfl, rfl, by decide +kernel, rfl, by decide +kernel, by decide +kernel⟩
abbrev s_firsts_of : Stmt := top 23
def E_firsts_of : CEnv := ⟨N_firsts_of, [], []⟩
theorem cc_firsts_of : cSs (comp E_firsts_of 30) (defScope s_firsts_of) (defBody s_firsts_of) = some ws_firsts_of := by rfl
theorem sc_firsts_of : FnScope N_firsts_of ["history"] (defScope s_firsts_of) := ⟨rfl, rfl, rfl, by decide +kernel, rfl, by decide +kernel, by decide +kernel⟩
abbrev s_meant : Stmt := top 24
def E_meant : CEnv := ⟨N_meant, [], []⟩
theorem cc_meant : cSs (comp E_meant 30) (defScope s_meant) (defBody s_meant) = some ws_meant := by rfl
theorem sc_meant : FnScope N_meant ["history"] (defScope s_meant) := ⟨rfl, rfl, rfl, by decide +kernel, rfl, by decide +kernel, by decide +kernel⟩
abbrev s_fits : Stmt := top 25
def E_fits : CEnv := ⟨N_fits, [("is_items", g_is_items), ("meant", g_meant)], []⟩
theorem cc_fits : cSs (comp E_fits 30) (defScope s_fits) (defBody s_fits) = some ws_fits := by rfl
theorem sc_fits : FnScope N_fits ["service", "lot", "window", "value"] (defScope s_fits) := ⟨rfl, rfl, rfl, by decide +kernel, rfl, by decide +kernel, by decide +kernel⟩
abbrev s_need_history : Stmt := top 26
def E_need_history : CEnv := ⟨N_need_history, [("need_service", g_need_service), ("fits", g_fits)], []⟩
theorem cc_need_history : cSs (comp E_need_history 30) (defScope s_need_history) (defBody s_need_history) = some ws_need_history := by rfl
theorem sc_need_history : FnScope N_need_history ["service", "value"] (defScope s_need_history) := ⟨rfl, rfl, rfl, by decide +kernel, rfl, by decide +kernel, by decide +kernel⟩
abbrev s_need_clerk : Stmt := top 29
def E_need_clerk : CEnv := ⟨N_need_clerk, [("is_from", g_is_from)], [("MOST_CLERK", (.int 41))]⟩
theorem cc_need_clerk : cSs (comp E_need_clerk 30) (defScope s_need_clerk) (defBody s_need_clerk) = some ws_need_clerk := by rfl
theorem sc_need_clerk : FnScope N_need_clerk ["value"] (defScope s_need_clerk) := ⟨rfl, rfl, rfl, by decide +kernel, rfl, by decide +kernel, by decide +kernel⟩
abbrev s_numbers_of : Stmt := top 30
def E_numbers_of : CEnv := ⟨N_numbers_of, [], []⟩
theorem cc_numbers_of : cSs (comp E_numbers_of 30) (defScope s_numbers_of) (defBody s_numbers_of) = some ws_numbers_of := by rfl
theorem sc_numbers_of : FnScope N_numbers_of ["m", "history"] (defScope s_numbers_of) := ⟨rfl, rfl, rfl, by decide +kernel, rfl, by decide +kernel, by decide +kernel⟩
abbrev s_served : Stmt := top 31
def E_served : CEnv := ⟨N_served, [("numbers_of", g_numbers_of), ("meant", g_meant), ("step_of", g_step_of)], []⟩
theorem cc_served : cSs (comp E_served 30) (defScope s_served) (defBody s_served) = some ws_served := by rfl
theorem sc_served : FnScope N_served ["service", "clerk", "history"] (defScope s_served) := ⟨rfl, rfl, rfl, by decide +kernel, rfl, by decide +kernel, by decide +kernel⟩
abbrev s_clerked : Stmt := top 32
def E_clerked : CEnv := ⟨N_clerked, [("need_args", g_need_args), ("served", g_served)], []⟩
theorem cc_clerked : cSs (comp E_clerked 30) (defScope s_clerked) (defBody s_clerked) = some ws_clerked := by rfl
theorem sc_clerked : FnScope N_clerked ["service", "clerk", "history"] (defScope s_clerked) := ⟨rfl, rfl, rfl, by decide +kernel, rfl, by decide +kernel, by decide +kernel⟩
abbrev s_need_args : Stmt := top 33
def E_need_args : CEnv := ⟨N_need_args, [("need_history", g_need_history), ("need_clerk", g_need_clerk)], []⟩
theorem cc_need_args : cSs (comp E_need_args 30) (defScope s_need_args) (defBody s_need_args) = some ws_need_args := by rfl
theorem sc_need_args : FnScope N_need_args ["service", "clerk", "history"] (defScope s_need_args) := ⟨rfl, rfl, rfl, by decide +kernel, rfl, by decide +kernel, by decide +kernel⟩
abbrev s_wishes : Stmt := top 34
def E_wishes : CEnv := ⟨N_wishes, [("answered", g_answered), ("firsts_of", g_firsts_of)], []⟩
theorem cc_wishes : cSs (comp E_wishes 30) (defScope s_wishes) (defBody s_wishes) = some ws_wishes := by rfl
theorem sc_wishes : FnScope N_wishes ["service", "history"] (defScope s_wishes) := ⟨rfl, rfl, rfl, by decide +kernel, rfl, by decide +kernel, by decide +kernel⟩
abbrev s_wished : Stmt := top 35
def E_wished : CEnv := ⟨N_wished, [("need_history", g_need_history), ("wishes", g_wishes)], []⟩
theorem cc_wished : cSs (comp E_wished 30) (defScope s_wished) (defBody s_wished) = some ws_wished := by rfl
theorem sc_wished : FnScope N_wished ["service", "history"] (defScope s_wished) := ⟨rfl, rfl, rfl, by decide +kernel, rfl, by decide +kernel, by decide +kernel⟩
abbrev s_need_number : Stmt := top 36
def E_need_number : CEnv := ⟨N_need_number, [("is_from", g_is_from)], [("MOST_WINDOW", (.int 40))]⟩
theorem cc_need_number : cSs (comp E_need_number 30) (defScope s_need_number) (defBody s_need_number) = some ws_need_number := by rfl
theorem sc_need_number : FnScope N_need_number ["value"] (defScope s_need_number) := ⟨rfl, rfl, rfl, by decide +kernel, rfl, by decide +kernel, by decide +kernel⟩
abbrev s_does_do : Stmt := top 37
def E_does_do : CEnv := ⟨N_does_do, [], []⟩
theorem cc_does_do : cSs (comp E_does_do 30) (defScope s_does_do) (defBody s_does_do) = some ws_does_do := by rfl
theorem sc_does_do : FnScope N_does_do ["clerk", "window"] (defScope s_does_do) := ⟨rfl, rfl, rfl, by decide +kernel, rfl, by decide +kernel, by decide +kernel⟩
abbrev s_is_enough : Stmt := top 38
def E_is_enough : CEnv := ⟨N_is_enough, [("need_clerk", g_need_clerk), ("need_number", g_need_number), ("does_do", g_does_do)], []⟩
theorem cc_is_enough : cSs (comp E_is_enough 30) (defScope s_is_enough) (defBody s_is_enough) = some ws_is_enough := by rfl
theorem sc_is_enough : FnScope N_is_enough ["clerk", "window"] (defScope s_is_enough) := ⟨rfl, rfl, rfl, by decide +kernel, rfl, by decide +kernel, by decide +kernel⟩
abbrev s_ring : Stmt := top 39
def E_ring : CEnv := ⟨N_ring, [], []⟩
theorem cc_ring : cSs (comp E_ring 30) (defScope s_ring) (defBody s_ring) = some ws_ring := by rfl
theorem sc_ring : FnScope N_ring ["m"] (defScope s_ring) := ⟨rfl, rfl, rfl, by decide +kernel, rfl, by decide +kernel, by decide +kernel⟩
abbrev s_clerk_breaks : Stmt := top 40
def E_clerk_breaks : CEnv := ⟨N_clerk_breaks, [("need_clerk", g_need_clerk), ("need_number", g_need_number), ("does_do", g_does_do), ("ring", g_ring)], []⟩
theorem cc_clerk_breaks : cSs (comp E_clerk_breaks 30) (defScope s_clerk_breaks) (defBody s_clerk_breaks) = some ws_clerk_breaks := by rfl
theorem sc_clerk_breaks : FnScope N_clerk_breaks ["clerk", "window"] (defScope s_clerk_breaks) := ⟨rfl, rfl, rfl, by decide +kernel, rfl, by decide +kernel, by decide +kernel⟩
abbrev s_does_serve : Stmt := top 41
def E_does_serve : CEnv := ⟨N_does_serve, [("need_args", g_need_args), ("served", g_served), ("wishes", g_wishes)], []⟩
theorem cc_does_serve : cSs (comp E_does_serve 30) (defScope s_does_serve) (defBody s_does_serve) = some ws_does_serve := by rfl
theorem sc_does_serve : FnScope N_does_serve ["service", "clerk", "history"] (defScope s_does_serve) := ⟨rfl, rfl, rfl, by decide +kernel, rfl, by decide +kernel, by decide +kernel⟩
abbrev s_law_taken : Stmt := top 43
def E_law_taken : CEnv := ⟨N_law_taken, [], []⟩
theorem cc_law_taken : cSs (comp E_law_taken 30) (defScope s_law_taken) (defBody s_law_taken) = some ws_law_taken := by rfl
theorem sc_law_taken : FnScope N_law_taken ["_law_row", "_law_many"] (defScope s_law_taken) := ⟨rfl, rfl, rfl, by decide +kernel, rfl, by decide +kernel, by decide +kernel⟩
abbrev s_law_pick : Stmt := top 44
def E_law_pick : CEnv := ⟨N_law_pick, [("_law_taken", g_law_taken)], []⟩
theorem cc_law_pick : cSs (comp E_law_pick 30) (defScope s_law_pick) (defBody s_law_pick) = some ws_law_pick := by rfl
theorem sc_law_pick : FnScope N_law_pick ["_law_row", "_law_things"] (defScope s_law_pick) := ⟨rfl, rfl, rfl, by decide +kernel, rfl, by decide +kernel, by decide +kernel⟩
abbrev s_law_alike : Stmt := top 45
def E_law_alike (gg : WL) : CEnv := ⟨N_law_alike, [("_law_alike", gg)], []⟩
theorem cc_law_alike (gg : WL) : cSs (comp (E_law_alike gg) 30) (defScope s_law_alike) (defBody s_law_alike) = some (ws_law_alike gg) := by rfl
theorem sc_law_alike : FnScope N_law_alike ["_law_found", "_law_due"] (defScope s_law_alike) := ⟨rfl, rfl, rfl, by decide +kernel, rfl, by decide +kernel, by decide +kernel⟩
abbrev s_law_service : Stmt := top 46
def E_law_service : CEnv := ⟨N_law_service, [("_law_pick", g_law_pick), ("_law_taken", g_law_taken)], []⟩
theorem cc_law_service : cSs (comp E_law_service 30) (defScope s_law_service) (defBody s_law_service) = some ws_law_service := by rfl
theorem sc_law_service : FnScope N_law_service ["_law_row", "_law_most"] (defScope s_law_service) := ⟨rfl, rfl, rfl, by decide +kernel, rfl, by decide +kernel, by decide +kernel⟩
abbrev s_law_step : Stmt := top 47
def E_law_step : CEnv := ⟨N_law_step, [], []⟩
theorem cc_law_step : cSs (comp E_law_step 30) (defScope s_law_step) (defBody s_law_step) = some ws_law_step := by rfl
theorem sc_law_step : FnScope N_law_step ["_law_service_here", "_law_one", "_law_ask"] (defScope s_law_step) := ⟨rfl, rfl, rfl, by decide +kernel, rfl, by decide +kernel, by decide +kernel⟩
abbrev s_law_told : Stmt := top 48
def E_law_told : CEnv := ⟨N_law_told, [("_law_step", g_law_step)], []⟩
theorem cc_law_told : cSs (comp E_law_told 30) (defScope s_law_told) (defBody s_law_told) = some ws_law_told := by rfl
theorem sc_law_told : FnScope N_law_told ["_law_service_here", "_law_one", "_law_text"] (defScope s_law_told) := ⟨rfl, rfl, rfl, by decide +kernel, rfl, by decide +kernel, by decide +kernel⟩
abbrev s_law_meant : Stmt := top 49
def E_law_meant : CEnv := ⟨N_law_meant, [], []⟩
theorem cc_law_meant : cSs (comp E_law_meant 30) (defScope s_law_meant) (defBody s_law_meant) = some ws_law_meant := by rfl
theorem sc_law_meant : FnScope N_law_meant ["_law_history_here"] (defScope s_law_meant) := ⟨rfl, rfl, rfl, by decide +kernel, rfl, by decide +kernel, by decide +kernel⟩
abbrev s_law_firsts : Stmt := top 50
def E_law_firsts : CEnv := ⟨N_law_firsts, [], []⟩
theorem cc_law_firsts : cSs (comp E_law_firsts 30) (defScope s_law_firsts) (defBody s_law_firsts) = some ws_law_firsts := by rfl
theorem sc_law_firsts : FnScope N_law_firsts ["_law_history_here"] (defScope s_law_firsts) := ⟨rfl, rfl, rfl, by decide +kernel, rfl, by decide +kernel, by decide +kernel⟩
abbrev s_law_fits : Stmt := top 51
def E_law_fits : CEnv := ⟨N_law_fits, [("_law_meant", g_law_meant)], []⟩
theorem cc_law_fits : cSs (comp E_law_fits 30) (defScope s_law_fits) (defBody s_law_fits) = some ws_law_fits := by rfl
theorem sc_law_fits : FnScope N_law_fits ["_law_history_here", "_law_lot", "_law_window"] (defScope s_law_fits) := ⟨rfl, rfl, rfl, by decide +kernel, rfl, by decide +kernel, by decide +kernel⟩
abbrev s_law_history : Stmt := top 52
def E_law_history : CEnv := ⟨N_law_history, [("_law_taken", g_law_taken), ("_law_pick", g_law_pick)], []⟩
theorem cc_law_history : cSs (comp E_law_history 30) (defScope s_law_history) (defBody s_law_history) = some ws_law_history := by rfl
theorem sc_law_history : FnScope N_law_history ["_law_row", "_law_asks", "_law_lot", "_law_window", "_law_most"] (defScope s_law_history) := ⟨rfl, rfl, rfl, by decide +kernel, rfl, by decide +kernel, by decide +kernel⟩
abbrev s_law_clerked : Stmt := top 53
def E_law_clerked : CEnv := ⟨N_law_clerked, [("_law_meant", g_law_meant), ("_law_step", g_law_step)], []⟩
theorem cc_law_clerked : cSs (comp E_law_clerked 30) (defScope s_law_clerked) (defBody s_law_clerked) = some ws_law_clerked := by rfl
theorem sc_law_clerked : FnScope N_law_clerked ["_law_service_here", "_law_m", "_law_k", "_law_history_here"] (defScope s_law_clerked) := ⟨rfl, rfl, rfl, by decide +kernel, rfl, by decide +kernel, by decide +kernel⟩
abbrev s_law_wished : Stmt := top 54
def E_law_wished : CEnv := ⟨N_law_wished, [("_law_told", g_law_told), ("_law_firsts", g_law_firsts)], []⟩
theorem cc_law_wished : cSs (comp E_law_wished 30) (defScope s_law_wished) (defBody s_law_wished) = some ws_law_wished := by rfl
theorem sc_law_wished : FnScope N_law_wished ["_law_service_here", "_law_history_here"] (defScope s_law_wished) := ⟨rfl, rfl, rfl, by decide +kernel, rfl, by decide +kernel, by decide +kernel⟩
abbrev s_law : Stmt := top 55
def E_law : CEnv := ⟨N_law, [("_law_service", g_law_service), ("_law_taken", g_law_taken), ("_law_history", g_law_history), ("_law_wished", g_law_wished), ("_law_clerked", g_law_clerked), ("_law_alike", g_law_alike), ("wished", g_wished), ("clerked", g_clerked), ("is_enough", g_is_enough), ("does_serve", g_does_serve), ("_law_pick", g_law_pick), ("clerk_breaks", g_clerk_breaks), ("is_service", g_is_service), ("_law_fits", g_law_fits)], []⟩
theorem cc_law : cSs (comp E_law 30) (defScope s_law) (defBody s_law) = some ws_law := by rfl
theorem sc_law : FnScope N_law ["_law_script"] (defScope s_law) := ⟨rfl, rfl, rfl, by decide +kernel, rfl, by decide +kernel, by decide +kernel⟩
section
variable {P : Program} {w : World} {K : PySem.W.Frag} {mg : Str → Option Value} {base : Heap} {k : Nat}
theorem tp_is_integer {h : Heap} (X : K.In h) (G : h.Ns mainGlobals mg) (D : DefIn K "is_integer" s_is_integer) : Tp K mg "is_integer" s_is_integer ["value"] := D.tp X G fun _ _ _ _ _ _ us hl => match us, hl with | [_], _ => rfl
theorem fe_is_integer (B : ∀ x ∈ bNames, mg x = none) (T : Tp K mg "is_integer" s_is_integer ["value"]) : FE P w K mg base (k + 1) "is_integer" g_is_integer := fe_of (Γ := E_is_integer) T ⟨B, fe_nil, ct_nil, sc_is_integer.nd⟩ sc_is_integer cc_is_integer is_integer_ok
theorem tp_is_from {h : Heap} (X : K.In h) (G : h.Ns mainGlobals mg) (D : DefIn K "is_from" s_is_from) : Tp K mg "is_from" s_is_from ["value", "low", "high"] := D.tp X G fun _ _ _ _ _ _ us hl => match us, hl with | [_, _, _], _ => rfl
theorem fe_is_from (B : ∀ x ∈ bNames, mg x = none) (T : Tp K mg "is_from" s_is_from ["value", "low", "high"]) (f_is_integer : FE P w K mg base k "is_integer" g_is_integer) : FE P w K mg base (k + 1) "is_from" g_is_from := fe_of (Γ := E_is_from) T ⟨B, (fe_cons f_is_integer fe_nil), ct_nil, sc_is_from.nd⟩ sc_is_from cc_is_from is_from_ok
theorem tp_is_letter {h : Heap} (X : K.In h) (G : h.Ns mainGlobals mg) (D : DefIn K "is_letter" s_is_letter) : Tp K mg "is_letter" s_is_letter ["value"] := D.tp X G fun _ _ _ _ _ _ us hl => match us, hl with | [_], _ => rfl
theorem fe_is_letter (B : ∀ x ∈ bNames, mg x = none) (c_SMALL : CtIn K mg "SMALL" ((.str [97, 98, 99, 100, 101, 102, 103, 104, 105, 106, 107, 108, 109, 110, 111, 112, 113, 114, 115, 116, 117, 118, 119, 120, 121, 122]))) (T : Tp K mg "is_letter" s_is_letter ["value"]) : FE P w K mg base (k + 1) "is_letter" g_is_letter := fe_of (Γ := E_is_letter) T ⟨B, fe_nil, (ct_cons c_SMALL ct_nil), sc_is_letter.nd⟩ sc_is_letter cc_is_letter is_letter_ok
theorem tp_is_asks {h : Heap} (X : K.In h) (G : h.Ns mainGlobals mg) (D : DefIn K "is_asks" s_is_asks) : Tp K mg "is_asks" s_is_asks ["value"] := D.tp X G fun _ _ _ _ _ _ us hl => match us, hl with | [_], _ => rfl
theorem fe_is_asks (B : ∀ x ∈ bNames, mg x = none) (c_MOST_ASKS : CtIn K mg "MOST_ASKS" ((.int 4))) (c_SMALL : CtIn K mg "SMALL" ((.str [97, 98, 99, 100, 101, 102, 103, 104, 105, 106, 107, 108, 109, 110, 111, 112, 113, 114, 115, 116, 117, 118, 119, 120, 121, 122]))) (T : Tp K mg "is_asks" s_is_asks ["value"]) : FE P w K mg base (k + 1) "is_asks" g_is_asks := fe_of (Γ := E_is_asks) T ⟨B, fe_nil, (ct_cons c_MOST_ASKS (ct_cons c_SMALL ct_nil)), sc_is_asks.nd⟩ sc_is_asks cc_is_asks is_asks_ok
theorem tp_is_step {h : Heap} (X : K.In h) (G : h.Ns mainGlobals mg) (D : DefIn K "is_step" s_is_step) : Tp K mg "is_step" s_is_step ["size", "value"] := D.tp X G fun _ _ _ _ _ _ us hl => match us, hl with | [_, _], _ => rfl
theorem fe_is_step (B : ∀ x ∈ bNames, mg x = none) (T : Tp K mg "is_step" s_is_step ["size", "value"]) (f_is_from : FE P w K mg base k "is_from" g_is_from) (f_is_letter : FE P w K mg base k "is_letter" g_is_letter) : FE P w K mg base (k + 1) "is_step" g_is_step := fe_of (Γ := E_is_step) T ⟨B, (fe_cons f_is_from (fe_cons f_is_letter fe_nil)), ct_nil, sc_is_step.nd⟩ sc_is_step cc_is_step is_step_ok
theorem tp_is_service {h : Heap} (X : K.In h) (G : h.Ns mainGlobals mg) (D : DefIn K "is_service" s_is_service) : Tp K mg "is_service" s_is_service ["value"] := D.tp X G fun _ _ _ _ _ _ us hl => match us, hl with | [_], _ => rfl
theorem fe_is_service (B : ∀ x ∈ bNames, mg x = none) (c_MOST_STANDS : CtIn K mg "MOST_STANDS" ((.int 40))) (T : Tp K mg "is_service" s_is_service ["value"]) (f_is_asks : FE P w K mg base k "is_asks" g_is_asks) (f_is_step : FE P w K mg base k "is_step" g_is_step) : FE P w K mg base (k + 1) "is_service" g_is_service := fe_of (Γ := E_is_service) T ⟨B, (fe_cons f_is_asks (fe_cons f_is_step fe_nil)), (ct_cons c_MOST_STANDS ct_nil), sc_is_service.nd⟩ sc_is_service cc_is_service is_service_ok
theorem tp_need_service {h : Heap} (X : K.In h) (G : h.Ns mainGlobals mg) (D : DefIn K "need_service" s_need_service) : Tp K mg "need_service" s_need_service ["value"] := D.tp X G fun _ _ _ _ _ _ us hl => match us, hl with | [_], _ => rfl
theorem fe_need_service (B : ∀ x ∈ bNames, mg x = none) (T : Tp K mg "need_service" s_need_service ["value"]) (f_is_service : FE P w K mg base k "is_service" g_is_service) : FE P w K mg base (k + 1) "need_service" g_need_service := fe_of (Γ := E_need_service) T ⟨B, (fe_cons f_is_service fe_nil), ct_nil, sc_need_service.nd⟩ sc_need_service cc_need_service need_service_ok
theorem tp_step_of {h : Heap} (X : K.In h) (G : h.Ns mainGlobals mg) (D : DefIn K "step_of" s_step_of) : Tp K mg "step_of" s_step_of ["service", "stand", "ask"] := D.tp X G fun _ _ _ _ _ _ us hl => match us, hl with | [_, _, _], _ => rfl
theorem fe_step_of (B : ∀ x ∈ bNames, mg x = none) (T : Tp K mg "step_of" s_step_of ["service", "stand", "ask"]) : FE P w K mg base (k + 1) "step_of" g_step_of := fe_of (Γ := E_step_of) T ⟨B, fe_nil, ct_nil, sc_step_of.nd⟩ sc_step_of cc_step_of step_of_ok
theorem tp_answered {h : Heap} (X : K.In h) (G : h.Ns mainGlobals mg) (D : DefIn K "answered" s_answered) : Tp K mg "answered" s_answered ["service", "row"] := D.tp X G fun _ _ _ _ _ _ us hl => match us, hl with | [_, _], _ => rfl
theorem fe_answered (B : ∀ x ∈ bNames, mg x = none) (T : Tp K mg "answered" s_answered ["service", "row"]) (f_step_of : FE P w K mg base k "step_of" g_step_of) : FE P w K mg base (k + 1) "answered" g_answered := fe_of (Γ := E_answered) T ⟨B, (fe_cons f_step_of fe_nil), ct_nil, sc_answered.nd⟩ sc_answered cc_answered answered_ok
theorem tp_is_items {h : Heap} (X : K.In h) (G : h.Ns mainGlobals mg) (D : DefIn K "is_items" s_is_items) : Tp K mg "is_items" s_is_items ["value"] := D.tp X G fun _ _ _ _ _ _ us hl => match us, hl with | [_], _ => rfl
theorem fe_is_items (B : ∀ x ∈ bNames, mg x = none) (c_MOST_ITEMS : CtIn K mg "MOST_ITEMS" ((.int 60))) (c_SMALL : CtIn K mg "SMALL" ((.str [97, 98, 99, 100, 101, 102, 103, 104, 105, 106, 107, 108, 109, 110, 111, 112, 113, 114, 115, 116, 117, 118, 119, 120, 121, 122]))) (T : Tp K mg "is_items" s_is_items ["value"]) (f_is_integer : FE P w K mg base k "is_integer" g_is_integer) : FE P w K mg base (k + 1) "is_items" g_is_items := fe_of (Γ := E_is_items) T ⟨B, (fe_cons f_is_integer fe_nil), (ct_cons c_MOST_ITEMS (ct_cons c_SMALL ct_nil)), sc_is_items.nd⟩ sc_is_items cc_is_items is_items_ok
theorem tp_firsts_of {h : Heap} (X : K.In h) (G : h.Ns mainGlobals mg) (D : DefIn K "firsts_of" s_firsts_of) : Tp K mg "firsts_of" s_firsts_of ["history"] := D.tp X G fun _ _ _ _ _ _ us hl => match us, hl with | [_], _ => rfl
theorem fe_firsts_of (B : ∀ x ∈ bNames, mg x = none) (T : Tp K mg "firsts_of" s_firsts_of ["history"]) : FE P w K mg base (k + 1) "firsts_of" g_firsts_of := fe_of (Γ := E_firsts_of) T ⟨B, fe_nil, ct_nil, sc_firsts_of.nd⟩ sc_firsts_of cc_firsts_of firsts_of_ok
theorem tp_meant {h : Heap} (X : K.In h) (G : h.Ns mainGlobals mg) (D : DefIn K "meant" s_meant) : Tp K mg "meant" s_meant ["history"] := D.tp X G fun _ _ _ _ _ _ us hl => match us, hl with | [_], _ => rfl
theorem fe_meant (B : ∀ x ∈ bNames, mg x = none) (T : Tp K mg "meant" s_meant ["history"]) : FE P w K mg base (k + 1) "meant" g_meant := fe_of (Γ := E_meant) T ⟨B, fe_nil, ct_nil, sc_meant.nd⟩ sc_meant cc_meant meant_ok
theorem tp_fits {h : Heap} (X : K.In h) (G : h.Ns mainGlobals mg) (D : DefIn K "fits" s_fits) : Tp K mg "fits" s_fits ["service", "lot", "window", "value"] := D.tp X G fun _ _ _ _ _ _ us hl => match us, hl with | [_, _, _, _], _ => rfl
theorem fe_fits (B : ∀ x ∈ bNames, mg x = none) (T : Tp K mg "fits" s_fits ["service", "lot", "window", "value"]) (f_is_items : FE P w K mg base k "is_items" g_is_items) (f_meant : FE P w K mg base k "meant" g_meant) : FE P w K mg base (k + 1) "fits" g_fits := fe_of (Γ := E_fits) T ⟨B, (fe_cons f_is_items (fe_cons f_meant fe_nil)), ct_nil, sc_fits.nd⟩ sc_fits cc_fits fits_ok
theorem tp_need_history {h : Heap} (X : K.In h) (G : h.Ns mainGlobals mg) (D : DefIn K "need_history" s_need_history) : Tp K mg "need_history" s_need_history ["service", "value"] := D.tp X G fun _ _ _ _ _ _ us hl => match us, hl with | [_, _], _ => rfl
theorem fe_need_history (B : ∀ x ∈ bNames, mg x = none) (T : Tp K mg "need_history" s_need_history ["service", "value"]) (f_need_service : FE P w K mg base k "need_service" g_need_service) (f_fits : FE P w K mg base k "fits" g_fits) : FE P w K mg base (k + 1) "need_history" g_need_history := fe_of (Γ := E_need_history) T ⟨B, (fe_cons f_need_service (fe_cons f_fits fe_nil)), ct_nil, sc_need_history.nd⟩ sc_need_history cc_need_history need_history_ok
theorem tp_need_clerk {h : Heap} (X : K.In h) (G : h.Ns mainGlobals mg) (D : DefIn K "need_clerk" s_need_clerk) : Tp K mg "need_clerk" s_need_clerk ["value"] := D.tp X G fun _ _ _ _ _ _ us hl => match us, hl with | [_], _ => rfl
theorem fe_need_clerk (B : ∀ x ∈ bNames, mg x = none) (c_MOST_CLERK : CtIn K mg "MOST_CLERK" ((.int 41))) (T : Tp K mg "need_clerk" s_need_clerk ["value"]) (f_is_from : FE P w K mg base k "is_from" g_is_from) : FE P w K mg base (k + 1) "need_clerk" g_need_clerk := fe_of (Γ := E_need_clerk) T ⟨B, (fe_cons f_is_from fe_nil), (ct_cons c_MOST_CLERK ct_nil), sc_need_clerk.nd⟩ sc_need_clerk cc_need_clerk need_clerk_ok
theorem tp_numbers_of {h : Heap} (X : K.In h) (G : h.Ns mainGlobals mg) (D : DefIn K "numbers_of" s_numbers_of) : Tp K mg "numbers_of" s_numbers_of ["m", "history"] := D.tp X G fun _ _ _ _ _ _ us hl => match us, hl with | [_, _], _ => rfl
theorem fe_numbers_of (B : ∀ x ∈ bNames, mg x = none) (T : Tp K mg "numbers_of" s_numbers_of ["m", "history"]) : FE P w K mg base (k + 1) "numbers_of" g_numbers_of := fe_of (Γ := E_numbers_of) T ⟨B, fe_nil, ct_nil, sc_numbers_of.nd⟩ sc_numbers_of cc_numbers_of numbers_of_ok
theorem tp_served {h : Heap} (X : K.In h) (G : h.Ns mainGlobals mg) (D : DefIn K "served" s_served) : Tp K mg "served" s_served ["service", "clerk", "history"] := D.tp X G fun _ _ _ _ _ _ us hl => match us, hl with | [_, _, _], _ => rfl
theorem fe_served (B : ∀ x ∈ bNames, mg x = none) (T : Tp K mg "served" s_served ["service", "clerk", "history"]) (f_numbers_of : FE P w K mg base k "numbers_of" g_numbers_of) (f_meant : FE P w K mg base k "meant" g_meant) (f_step_of : FE P w K mg base k "step_of" g_step_of) : FE P w K mg base (k + 1) "served" g_served := fe_of (Γ := E_served) T ⟨B, (fe_cons f_numbers_of (fe_cons f_meant (fe_cons f_step_of fe_nil))), ct_nil, sc_served.nd⟩ sc_served cc_served served_ok
theorem tp_clerked {h : Heap} (X : K.In h) (G : h.Ns mainGlobals mg) (D : DefIn K "clerked" s_clerked) : Tp K mg "clerked" s_clerked ["service", "clerk", "history"] := D.tp X G fun _ _ _ _ _ _ us hl => match us, hl with | [_, _, _], _ => rfl
theorem fe_clerked (B : ∀ x ∈ bNames, mg x = none) (T : Tp K mg "clerked" s_clerked ["service", "clerk", "history"]) (f_need_args : FE P w K mg base k "need_args" g_need_args) (f_served : FE P w K mg base k "served" g_served) : FE P w K mg base (k + 1) "clerked" g_clerked := fe_of (Γ := E_clerked) T ⟨B, (fe_cons f_need_args (fe_cons f_served fe_nil)), ct_nil, sc_clerked.nd⟩ sc_clerked cc_clerked clerked_ok
theorem tp_need_args {h : Heap} (X : K.In h) (G : h.Ns mainGlobals mg) (D : DefIn K "need_args" s_need_args) : Tp K mg "need_args" s_need_args ["service", "clerk", "history"] := D.tp X G fun _ _ _ _ _ _ us hl => match us, hl with | [_, _, _], _ => rfl
theorem fe_need_args (B : ∀ x ∈ bNames, mg x = none) (T : Tp K mg "need_args" s_need_args ["service", "clerk", "history"]) (f_need_history : FE P w K mg base k "need_history" g_need_history) (f_need_clerk : FE P w K mg base k "need_clerk" g_need_clerk) : FE P w K mg base (k + 1) "need_args" g_need_args := fe_of (Γ := E_need_args) T ⟨B, (fe_cons f_need_history (fe_cons f_need_clerk fe_nil)), ct_nil, sc_need_args.nd⟩ sc_need_args cc_need_args need_args_ok
theorem tp_wishes {h : Heap} (X : K.In h) (G : h.Ns mainGlobals mg) (D : DefIn K "wishes" s_wishes) : Tp K mg "wishes" s_wishes ["service", "history"] := D.tp X G fun _ _ _ _ _ _ us hl => match us, hl with | [_, _], _ => rfl
theorem fe_wishes (B : ∀ x ∈ bNames, mg x = none) (T : Tp K mg "wishes" s_wishes ["service", "history"]) (f_answered : FE P w K mg base k "answered" g_answered) (f_firsts_of : FE P w K mg base k "firsts_of" g_firsts_of) : FE P w K mg base (k + 1) "wishes" g_wishes := fe_of (Γ := E_wishes) T ⟨B, (fe_cons f_answered (fe_cons f_firsts_of fe_nil)), ct_nil, sc_wishes.nd⟩ sc_wishes cc_wishes wishes_ok
theorem tp_wished {h : Heap} (X : K.In h) (G : h.Ns mainGlobals mg) (D : DefIn K "wished" s_wished) : Tp K mg "wished" s_wished ["service", "history"] := D.tp X G fun _ _ _ _ _ _ us hl => match us, hl with | [_, _], _ => rfl
theorem fe_wished (B : ∀ x ∈ bNames, mg x = none) (T : Tp K mg "wished" s_wished ["service", "history"]) (f_need_history : FE P w K mg base k "need_history" g_need_history) (f_wishes : FE P w K mg base k "wishes" g_wishes) : FE P w K mg base (k + 1) "wished" g_wished := fe_of (Γ := E_wished) T ⟨B, (fe_cons f_need_history (fe_cons f_wishes fe_nil)), ct_nil, sc_wished.nd⟩ sc_wished cc_wished wished_ok
theorem tp_need_number {h : Heap} (X : K.In h) (G : h.Ns mainGlobals mg) (D : DefIn K "need_number" s_need_number) : Tp K mg "need_number" s_need_number ["value"] := D.tp X G fun _ _ _ _ _ _ us hl => match us, hl with | [_], _ => rfl
theorem fe_need_number (B : ∀ x ∈ bNames, mg x = none) (c_MOST_WINDOW : CtIn K mg "MOST_WINDOW" ((.int 40))) (T : Tp K mg "need_number" s_need_number ["value"]) (f_is_from : FE P w K mg base k "is_from" g_is_from) : FE P w K mg base (k + 1) "need_number" g_need_number := fe_of (Γ := E_need_number) T ⟨B, (fe_cons f_is_from fe_nil), (ct_cons c_MOST_WINDOW ct_nil), sc_need_number.nd⟩ sc_need_number cc_need_number need_number_ok
theorem tp_does_do {h : Heap} (X : K.In h) (G : h.Ns mainGlobals mg) (D : DefIn K "does_do" s_does_do) : Tp K mg "does_do" s_does_do ["clerk", "window"] := D.tp X G fun _ _ _ _ _ _ us hl => match us, hl with | [_, _], _ => rfl
theorem fe_does_do (B : ∀ x ∈ bNames, mg x = none) (T : Tp K mg "does_do" s_does_do ["clerk", "window"]) : FE P w K mg base (k + 1) "does_do" g_does_do := fe_of (Γ := E_does_do) T ⟨B, fe_nil, ct_nil, sc_does_do.nd⟩ sc_does_do cc_does_do does_do_ok
theorem tp_is_enough {h : Heap} (X : K.In h) (G : h.Ns mainGlobals mg) (D : DefIn K "is_enough" s_is_enough) : Tp K mg "is_enough" s_is_enough ["clerk", "window"] := D.tp X G fun _ _ _ _ _ _ us hl => match us, hl with | [_, _], _ => rfl
theorem fe_is_enough (B : ∀ x ∈ bNames, mg x = none) (T : Tp K mg "is_enough" s_is_enough ["clerk", "window"]) (f_need_clerk : FE P w K mg base k "need_clerk" g_need_clerk) (f_need_number : FE P w K mg base k "need_number" g_need_number) (f_does_do : FE P w K mg base k "does_do" g_does_do) : FE P w K mg base (k + 1) "is_enough" g_is_enough := fe_of (Γ := E_is_enough) T ⟨B, (fe_cons f_need_clerk (fe_cons f_need_number (fe_cons f_does_do fe_nil))), ct_nil, sc_is_enough.nd⟩ sc_is_enough cc_is_enough is_enough_ok
theorem tp_ring {h : Heap} (X : K.In h) (G : h.Ns mainGlobals mg) (D : DefIn K "ring" s_ring) : Tp K mg "ring" s_ring ["m"] := D.tp X G fun _ _ _ _ _ _ us hl => match us, hl with | [_], _ => rfl
theorem fe_ring (B : ∀ x ∈ bNames, mg x = none) (T : Tp K mg "ring" s_ring ["m"]) : FE P w K mg base (k + 1) "ring" g_ring := fe_of (Γ := E_ring) T ⟨B, fe_nil, ct_nil, sc_ring.nd⟩ sc_ring cc_ring ring_ok'
theorem tp_clerk_breaks {h : Heap} (X : K.In h) (G : h.Ns mainGlobals mg) (D : DefIn K "clerk_breaks" s_clerk_breaks) : Tp K mg "clerk_breaks" s_clerk_breaks ["clerk", "window"] := D.tp X G fun _ _ _ _ _ _ us hl => match us, hl with | [_, _], _ => rfl
theorem fe_clerk_breaks (B : ∀ x ∈ bNames, mg x = none) (T : Tp K mg "clerk_breaks" s_clerk_breaks ["clerk", "window"]) (f_need_clerk : FE P w K mg base k "need_clerk" g_need_clerk) (f_need_number : FE P w K mg base k "need_number" g_need_number) (f_does_do : FE P w K mg base k "does_do" g_does_do) (f_ring : FE P w K mg base k "ring" g_ring) : FE P w K mg base (k + 1) "clerk_breaks" g_clerk_breaks := fe_of (Γ := E_clerk_breaks) T ⟨B, (fe_cons f_need_clerk (fe_cons f_need_number (fe_cons f_does_do (fe_cons f_ring fe_nil)))), ct_nil, sc_clerk_breaks.nd⟩ sc_clerk_breaks cc_clerk_breaks clerk_breaks_ok
theorem tp_does_serve {h : Heap} (X : K.In h) (G : h.Ns mainGlobals mg) (D : DefIn K "does_serve" s_does_serve) : Tp K mg "does_serve" s_does_serve ["service", "clerk", "history"] := D.tp X G fun _ _ _ _ _ _ us hl => match us, hl with | [_, _, _], _ => rfl
theorem fe_does_serve (B : ∀ x ∈ bNames, mg x = none) (T : Tp K mg "does_serve" s_does_serve ["service", "clerk", "history"]) (f_need_args : FE P w K mg base k "need_args" g_need_args) (f_served : FE P w K mg base k "served" g_served) (f_wishes : FE P w K mg base k "wishes" g_wishes) : FE P w K mg base (k + 1) "does_serve" g_does_serve := fe_of (Γ := E_does_serve) T ⟨B, (fe_cons f_need_args (fe_cons f_served (fe_cons f_wishes fe_nil))), ct_nil, sc_does_serve.nd⟩ sc_does_serve cc_does_serve does_serve_ok
theorem tp_law_taken {h : Heap} (X : K.In h) (G : h.Ns mainGlobals mg) (D : DefIn K "_law_taken" s_law_taken) : Tp K mg "_law_taken" s_law_taken ["_law_row", "_law_many"] := D.tp X G fun _ _ _ _ _ _ us hl => match us, hl with | [_, _], _ => rfl
theorem fe_law_taken (B : ∀ x ∈ bNames, mg x = none) (T : Tp K mg "_law_taken" s_law_taken ["_law_row", "_law_many"]) : FE P w K mg base (k + 1) "_law_taken" g_law_taken := fe_of (Γ := E_law_taken) T ⟨B, fe_nil, ct_nil, sc_law_taken.nd⟩ sc_law_taken cc_law_taken law_taken_ok
theorem tp_law_pick {h : Heap} (X : K.In h) (G : h.Ns mainGlobals mg) (D : DefIn K "_law_pick" s_law_pick) : Tp K mg "_law_pick" s_law_pick ["_law_row", "_law_things"] := D.tp X G fun _ _ _ _ _ _ us hl => match us, hl with | [_, _], _ => rfl
theorem fe_law_pick (B : ∀ x ∈ bNames, mg x = none) (T : Tp K mg "_law_pick" s_law_pick ["_law_row", "_law_things"]) (f_law_taken : FE P w K mg base k "_law_taken" g_law_taken) : FE P w K mg base (k + 1) "_law_pick" g_law_pick := fe_of (Γ := E_law_pick) T ⟨B, (fe_cons f_law_taken fe_nil), ct_nil, sc_law_pick.nd⟩ sc_law_pick cc_law_pick law_pick_ok
theorem tp_law_alike {h : Heap} (X : K.In h) (G : h.Ns mainGlobals mg) (D : DefIn K "_law_alike" s_law_alike) : Tp K mg "_law_alike" s_law_alike ["_law_found", "_law_due"] := D.tp X G fun _ _ _ _ _ _ us hl => match us, hl with | [_, _], _ => rfl
theorem fe_law_alike0 {gg : WL} (B : ∀ x ∈ bNames, mg x = none) (T : Tp K mg "_law_alike" s_law_alike ["_law_found", "_law_due"]) (fr : FE P w K mg base k "_law_alike" gg) : FE P w K mg base (k + 1) "_law_alike" (g_alk 0) := fe_of (Γ := E_law_alike gg) T ⟨B, (fe_cons fr fe_nil), ct_nil, sc_law_alike.nd⟩ sc_law_alike (cc_law_alike gg) alk_ok0
theorem fe_law_alikeS {n : Nat} (B : ∀ x ∈ bNames, mg x = none) (T : Tp K mg "_law_alike" s_law_alike ["_law_found", "_law_due"]) (fr : FE P w K mg base k "_law_alike" (g_alk n)) : FE P w K mg base (k + 1) "_law_alike" (g_alk (n + 1)) := fe_of (Γ := E_law_alike (g_alk n)) T ⟨B, (fe_cons fr fe_nil), ct_nil, sc_law_alike.nd⟩ sc_law_alike (cc_law_alike (g_alk n)) alk_okS
theorem tp_law_service {h : Heap} (X : K.In h) (G : h.Ns mainGlobals mg) (D : DefIn K "_law_service" s_law_service) : Tp K mg "_law_service" s_law_service ["_law_row", "_law_most"] := D.tp X G fun _ _ _ _ _ _ us hl => match us, hl with | [_, _], _ => rfl
theorem fe_law_service (B : ∀ x ∈ bNames, mg x = none) (T : Tp K mg "_law_service" s_law_service ["_law_row", "_law_most"]) (f_law_pick : FE P w K mg base k "_law_pick" g_law_pick) (f_law_taken : FE P w K mg base k "_law_taken" g_law_taken) : FE P w K mg base (k + 1) "_law_service" g_law_service := fe_of (Γ := E_law_service) T ⟨B, (fe_cons f_law_pick (fe_cons f_law_taken fe_nil)), ct_nil, sc_law_service.nd⟩ sc_law_service cc_law_service law_service_ok
theorem tp_law_step {h : Heap} (X : K.In h) (G : h.Ns mainGlobals mg) (D : DefIn K "_law_step" s_law_step) : Tp K mg "_law_step" s_law_step ["_law_service_here", "_law_one", "_law_ask"] := D.tp X G fun _ _ _ _ _ _ us hl => match us, hl with | [_, _, _], _ => rfl
theorem fe_law_step (B : ∀ x ∈ bNames, mg x = none) (T : Tp K mg "_law_step" s_law_step ["_law_service_here", "_law_one", "_law_ask"]) : FE P w K mg base (k + 1) "_law_step" g_law_step := fe_of (Γ := E_law_step) T ⟨B, fe_nil, ct_nil, sc_law_step.nd⟩ sc_law_step cc_law_step law_step_ok
theorem tp_law_told {h : Heap} (X : K.In h) (G : h.Ns mainGlobals mg) (D : DefIn K "_law_told" s_law_told) : Tp K mg "_law_told" s_law_told ["_law_service_here", "_law_one", "_law_text"] := D.tp X G fun _ _ _ _ _ _ us hl => match us, hl with | [_, _, _], _ => rfl
theorem fe_law_told (B : ∀ x ∈ bNames, mg x = none) (T : Tp K mg "_law_told" s_law_told ["_law_service_here", "_law_one", "_law_text"]) (f_law_step : FE P w K mg base k "_law_step" g_law_step) : FE P w K mg base (k + 1) "_law_told" g_law_told := fe_of (Γ := E_law_told) T ⟨B, (fe_cons f_law_step fe_nil), ct_nil, sc_law_told.nd⟩ sc_law_told cc_law_told law_told_ok
theorem tp_law_meant {h : Heap} (X : K.In h) (G : h.Ns mainGlobals mg) (D : DefIn K "_law_meant" s_law_meant) : Tp K mg "_law_meant" s_law_meant ["_law_history_here"] := D.tp X G fun _ _ _ _ _ _ us hl => match us, hl with | [_], _ => rfl
theorem fe_law_meant (B : ∀ x ∈ bNames, mg x = none) (T : Tp K mg "_law_meant" s_law_meant ["_law_history_here"]) : FE P w K mg base (k + 1) "_law_meant" g_law_meant := fe_of (Γ := E_law_meant) T ⟨B, fe_nil, ct_nil, sc_law_meant.nd⟩ sc_law_meant cc_law_meant law_meant_ok
theorem tp_law_firsts {h : Heap} (X : K.In h) (G : h.Ns mainGlobals mg) (D : DefIn K "_law_firsts" s_law_firsts) : Tp K mg "_law_firsts" s_law_firsts ["_law_history_here"] := D.tp X G fun _ _ _ _ _ _ us hl => match us, hl with | [_], _ => rfl
theorem fe_law_firsts (B : ∀ x ∈ bNames, mg x = none) (T : Tp K mg "_law_firsts" s_law_firsts ["_law_history_here"]) : FE P w K mg base (k + 1) "_law_firsts" g_law_firsts := fe_of (Γ := E_law_firsts) T ⟨B, fe_nil, ct_nil, sc_law_firsts.nd⟩ sc_law_firsts cc_law_firsts law_firsts_ok
theorem tp_law_fits {h : Heap} (X : K.In h) (G : h.Ns mainGlobals mg) (D : DefIn K "_law_fits" s_law_fits) : Tp K mg "_law_fits" s_law_fits ["_law_history_here", "_law_lot", "_law_window"] := D.tp X G fun _ _ _ _ _ _ us hl => match us, hl with | [_, _, _], _ => rfl
theorem fe_law_fits (B : ∀ x ∈ bNames, mg x = none) (T : Tp K mg "_law_fits" s_law_fits ["_law_history_here", "_law_lot", "_law_window"]) (f_law_meant : FE P w K mg base k "_law_meant" g_law_meant) : FE P w K mg base (k + 1) "_law_fits" g_law_fits := fe_of (Γ := E_law_fits) T ⟨B, (fe_cons f_law_meant fe_nil), ct_nil, sc_law_fits.nd⟩ sc_law_fits cc_law_fits law_fits_ok
theorem tp_law_history {h : Heap} (X : K.In h) (G : h.Ns mainGlobals mg) (D : DefIn K "_law_history" s_law_history) : Tp K mg "_law_history" s_law_history ["_law_row", "_law_asks", "_law_lot", "_law_window", "_law_most"] := D.tp X G fun _ _ _ _ _ _ us hl => match us, hl with | [_, _, _, _, _], _ => rfl
theorem fe_law_history (B : ∀ x ∈ bNames, mg x = none) (T : Tp K mg "_law_history" s_law_history ["_law_row", "_law_asks", "_law_lot", "_law_window", "_law_most"]) (f_law_taken : FE P w K mg base k "_law_taken" g_law_taken) (f_law_pick : FE P w K mg base k "_law_pick" g_law_pick) : FE P w K mg base (k + 1) "_law_history" g_law_history := fe_of (Γ := E_law_history) T ⟨B, (fe_cons f_law_taken (fe_cons f_law_pick fe_nil)), ct_nil, sc_law_history.nd⟩ sc_law_history cc_law_history law_history_ok
theorem tp_law_clerked {h : Heap} (X : K.In h) (G : h.Ns mainGlobals mg) (D : DefIn K "_law_clerked" s_law_clerked) : Tp K mg "_law_clerked" s_law_clerked ["_law_service_here", "_law_m", "_law_k", "_law_history_here"] := D.tp X G fun _ _ _ _ _ _ us hl => match us, hl with | [_, _, _, _], _ => rfl
theorem fe_law_clerked (B : ∀ x ∈ bNames, mg x = none) (T : Tp K mg "_law_clerked" s_law_clerked ["_law_service_here", "_law_m", "_law_k", "_law_history_here"]) (f_law_meant : FE P w K mg base k "_law_meant" g_law_meant) (f_law_step : FE P w K mg base k "_law_step" g_law_step) : FE P w K mg base (k + 1) "_law_clerked" g_law_clerked := fe_of (Γ := E_law_clerked) T ⟨B, (fe_cons f_law_meant (fe_cons f_law_step fe_nil)), ct_nil, sc_law_clerked.nd⟩ sc_law_clerked cc_law_clerked law_clerked_ok
theorem tp_law_wished {h : Heap} (X : K.In h) (G : h.Ns mainGlobals mg) (D : DefIn K "_law_wished" s_law_wished) : Tp K mg "_law_wished" s_law_wished ["_law_service_here", "_law_history_here"] := D.tp X G fun _ _ _ _ _ _ us hl => match us, hl with | [_, _], _ => rfl
theorem fe_law_wished (B : ∀ x ∈ bNames, mg x = none) (T : Tp K mg "_law_wished" s_law_wished ["_law_service_here", "_law_history_here"]) (f_law_told : FE P w K mg base k "_law_told" g_law_told) (f_law_firsts : FE P w K mg base k "_law_firsts" g_law_firsts) : FE P w K mg base (k + 1) "_law_wished" g_law_wished := fe_of (Γ := E_law_wished) T ⟨B, (fe_cons f_law_told (fe_cons f_law_firsts fe_nil)), ct_nil, sc_law_wished.nd⟩ sc_law_wished cc_law_wished law_wished_ok
theorem tp_law {h : Heap} (X : K.In h) (G : h.Ns mainGlobals mg) (D : DefIn K "law" s_law) : Tp K mg "law" s_law ["_law_script"] := D.tp X G fun _ _ _ _ _ _ us hl => match us, hl with | [_], _ => rfl
end
theorem all_mk {l : PySem.W.OpenLaw} {w : World} {K : PySem.W.Frag} {h : Heap} {mg : Str → Option Value} {fa : Addr} (X : K.In h) (G : h.Ns mainGlobals mg) (hfa : mg "law" = some (.ref fa))
    (D_is_integer : DefIn K "is_integer" s_is_integer)
    (D_is_from : DefIn K "is_from" s_is_from)
    (D_is_letter : DefIn K "is_letter" s_is_letter)
    (D_is_asks : DefIn K "is_asks" s_is_asks)
    (D_is_step : DefIn K "is_step" s_is_step)
    (D_is_service : DefIn K "is_service" s_is_service)
    (D_need_service : DefIn K "need_service" s_need_service)
    (D_step_of : DefIn K "step_of" s_step_of)
    (D_answered : DefIn K "answered" s_answered)
    (D_is_items : DefIn K "is_items" s_is_items)
    (D_firsts_of : DefIn K "firsts_of" s_firsts_of)
    (D_meant : DefIn K "meant" s_meant)
    (D_fits : DefIn K "fits" s_fits)
    (D_need_history : DefIn K "need_history" s_need_history)
    (D_need_clerk : DefIn K "need_clerk" s_need_clerk)
    (D_numbers_of : DefIn K "numbers_of" s_numbers_of)
    (D_served : DefIn K "served" s_served)
    (D_clerked : DefIn K "clerked" s_clerked)
    (D_need_args : DefIn K "need_args" s_need_args)
    (D_wishes : DefIn K "wishes" s_wishes)
    (D_wished : DefIn K "wished" s_wished)
    (D_need_number : DefIn K "need_number" s_need_number)
    (D_does_do : DefIn K "does_do" s_does_do)
    (D_is_enough : DefIn K "is_enough" s_is_enough)
    (D_ring : DefIn K "ring" s_ring)
    (D_clerk_breaks : DefIn K "clerk_breaks" s_clerk_breaks)
    (D_does_serve : DefIn K "does_serve" s_does_serve)
    (D_law_taken : DefIn K "_law_taken" s_law_taken)
    (D_law_pick : DefIn K "_law_pick" s_law_pick)
    (D_law_alike : DefIn K "_law_alike" s_law_alike)
    (D_law_service : DefIn K "_law_service" s_law_service)
    (D_law_step : DefIn K "_law_step" s_law_step)
    (D_law_told : DefIn K "_law_told" s_law_told)
    (D_law_meant : DefIn K "_law_meant" s_law_meant)
    (D_law_firsts : DefIn K "_law_firsts" s_law_firsts)
    (D_law_fits : DefIn K "_law_fits" s_law_fits)
    (D_law_history : DefIn K "_law_history" s_law_history)
    (D_law_clerked : DefIn K "_law_clerked" s_law_clerked)
    (D_law_wished : DefIn K "_law_wished" s_law_wished)
    (D_law : DefIn K "law" s_law)
    {t0 : Tok} {u0 : Str} (k0 : PySem.W.nsIn K mainGlobals "SMALL" = some (some (.str u0 t0))) (e0 : u0 = mkS [97, 98, 99, 100, 101, 102, 103, 104, 105, 106, 107, 108, 109, 110, 111, 112, 113, 114, 115, 116, 117, 118, 119, 120, 121, 122])
    {t1 : Tok} (k1 : PySem.W.nsIn K mainGlobals "MOST_ASKS" = some (some (.int 4 t1)))
    {t2 : Tok} (k2 : PySem.W.nsIn K mainGlobals "MOST_STANDS" = some (some (.int 40 t2)))
    {t3 : Tok} (k3 : PySem.W.nsIn K mainGlobals "MOST_ITEMS" = some (some (.int 60 t3)))
    {t4 : Tok} (k4 : PySem.W.nsIn K mainGlobals "MOST_CLERK" = some (some (.int 41 t4)))
    {t5 : Tok} (k5 : PySem.W.nsIn K mainGlobals "MOST_WINDOW" = some (some (.int 40 t5)))
    (z0 : PySem.W.nsIn K mainGlobals "len" = some none)
    (z1 : PySem.W.nsIn K mainGlobals "isinstance" = some none)
    (z2 : PySem.W.nsIn K mainGlobals "all" = some none)
    (z3 : PySem.W.nsIn K mainGlobals "any" = some none)
    (z4 : PySem.W.nsIn K mainGlobals "tuple" = some none)
    (z5 : PySem.W.nsIn K mainGlobals "list" = some none)
    (z6 : PySem.W.nsIn K mainGlobals "int" = some none)
    (z7 : PySem.W.nsIn K mainGlobals "min" = some none)
    (z8 : PySem.W.nsIn K mainGlobals "max" = some none)
    (z9 : PySem.W.nsIn K mainGlobals "range" = some none)
    (z10 : PySem.W.nsIn K mainGlobals "zip" = some none)
    (z11 : PySem.W.nsIn K mainGlobals "bool" = some none)
    (z12 : PySem.W.nsIn K mainGlobals "str" = some none)
    (z13 : PySem.W.nsIn K mainGlobals "dict" = some none)
    (z14 : PySem.W.nsIn K mainGlobals "enumerate" = some none)
    (z15 : PySem.W.nsIn K mainGlobals "sorted" = some none)
    (z16 : PySem.W.nsIn K mainGlobals "set" = some none)
    : ∃ fd : FuncData, (∀ (s : Shared) (v : Value), BindsTo s fd ⟨[v], []⟩ [("_law_script", v)]) ∧ ∀ base : Heap, K.In base → base.Ns mainGlobals mg → FnOk l.prog w K mg base CX0 9 fa fd ["_law_script"] (liftF K g_law) := by
  have B : ∀ x ∈ bNames, mg x = none := by
    intro x hx
    simp only [bNames, List.mem_cons, List.not_mem_nil, or_false] at hx
    rcases hx with rfl | rfl | rfl | rfl | rfl | rfl | rfl | rfl | rfl | rfl | rfl | rfl | rfl | rfl | rfl | rfl | rfl
    · exact PySem.W.mg_none_of X G z0
    · exact PySem.W.mg_none_of X G z1
    · exact PySem.W.mg_none_of X G z2
    · exact PySem.W.mg_none_of X G z3
    · exact PySem.W.mg_none_of X G z4
    · exact PySem.W.mg_none_of X G z5
    · exact PySem.W.mg_none_of X G z6
    · exact PySem.W.mg_none_of X G z7
    · exact PySem.W.mg_none_of X G z8
    · exact PySem.W.mg_none_of X G z9
    · exact PySem.W.mg_none_of X G z10
    · exact PySem.W.mg_none_of X G z11
    · exact PySem.W.mg_none_of X G z12
    · exact PySem.W.mg_none_of X G z13
    · exact PySem.W.mg_none_of X G z14
    · exact PySem.W.mg_none_of X G z15
    · exact PySem.W.mg_none_of X G z16
  have c_SMALL := ct_str X G k0 e0 ⟨sl63 (by simp), by simp⟩
  have c_MOST_ASKS := ct_int X G k1
  have c_MOST_STANDS := ct_int X G k2
  have c_MOST_ITEMS := ct_int X G k3
  have c_MOST_CLERK := ct_int X G k4
  have c_MOST_WINDOW := ct_int X G k5
  have T_is_integer := tp_is_integer X G D_is_integer
  have T_is_from := tp_is_from X G D_is_from
  have T_is_letter := tp_is_letter X G D_is_letter
  have T_is_asks := tp_is_asks X G D_is_asks
  have T_is_step := tp_is_step X G D_is_step
  have T_is_service := tp_is_service X G D_is_service
  have T_need_service := tp_need_service X G D_need_service
  have T_step_of := tp_step_of X G D_step_of
  have T_answered := tp_answered X G D_answered
  have T_is_items := tp_is_items X G D_is_items
  have T_firsts_of := tp_firsts_of X G D_firsts_of
  have T_meant := tp_meant X G D_meant
  have T_fits := tp_fits X G D_fits
  have T_need_history := tp_need_history X G D_need_history
  have T_need_clerk := tp_need_clerk X G D_need_clerk
  have T_numbers_of := tp_numbers_of X G D_numbers_of
  have T_served := tp_served X G D_served
  have T_clerked := tp_clerked X G D_clerked
  have T_need_args := tp_need_args X G D_need_args
  have T_wishes := tp_wishes X G D_wishes
  have T_wished := tp_wished X G D_wished
  have T_need_number := tp_need_number X G D_need_number
  have T_does_do := tp_does_do X G D_does_do
  have T_is_enough := tp_is_enough X G D_is_enough
  have T_ring := tp_ring X G D_ring
  have T_clerk_breaks := tp_clerk_breaks X G D_clerk_breaks
  have T_does_serve := tp_does_serve X G D_does_serve
  have T_law_taken := tp_law_taken X G D_law_taken
  have T_law_pick := tp_law_pick X G D_law_pick
  have T_law_alike := tp_law_alike X G D_law_alike
  have T_law_service := tp_law_service X G D_law_service
  have T_law_step := tp_law_step X G D_law_step
  have T_law_told := tp_law_told X G D_law_told
  have T_law_meant := tp_law_meant X G D_law_meant
  have T_law_firsts := tp_law_firsts X G D_law_firsts
  have T_law_fits := tp_law_fits X G D_law_fits
  have T_law_history := tp_law_history X G D_law_history
  have T_law_clerked := tp_law_clerked X G D_law_clerked
  have T_law_wished := tp_law_wished X G D_law_wished
  obtain ⟨f, oc, od, kV, dc, pm, an, cd, ct, sl, a, lk, c, kp⟩ := D_law.ex
  have e := hfa.symm.trans (PySem.W.mg_of X G a)
  cases e
  refine ⟨PySem.W.fnOf "law" "law" (defArgs s_law) (defBody s_law) (defScope s_law) .none kV dc pm an cd ct, fun s v => .of_eq rfl, fun base _ _ => ?_⟩
  have f_is_integer : FE l.prog w K mg base 1 "is_integer" g_is_integer := fe_is_integer (k := 0) B T_is_integer
  have f_is_from : FE l.prog w K mg base 2 "is_from" g_is_from := fe_is_from (k := 1) B T_is_from f_is_integer
  have f_is_letter : FE l.prog w K mg base 1 "is_letter" g_is_letter := fe_is_letter (k := 0) B c_SMALL T_is_letter
  have f_is_asks : FE l.prog w K mg base 1 "is_asks" g_is_asks := fe_is_asks (k := 0) B c_MOST_ASKS c_SMALL T_is_asks
  have f_is_step : FE l.prog w K mg base 3 "is_step" g_is_step := fe_is_step (k := 2) B T_is_step f_is_from (f_is_letter.mono (by decide))
  have f_is_service : FE l.prog w K mg base 4 "is_service" g_is_service := fe_is_service (k := 3) B c_MOST_STANDS T_is_service (f_is_asks.mono (by decide)) f_is_step
  have f_need_service : FE l.prog w K mg base 5 "need_service" g_need_service := fe_need_service (k := 4) B T_need_service f_is_service
  have f_step_of : FE l.prog w K mg base 1 "step_of" g_step_of := fe_step_of (k := 0) B T_step_of
  have f_answered : FE l.prog w K mg base 2 "answered" g_answered := fe_answered (k := 1) B T_answered f_step_of
  have f_is_items : FE l.prog w K mg base 2 "is_items" g_is_items := fe_is_items (k := 1) B c_MOST_ITEMS c_SMALL T_is_items f_is_integer
  have f_firsts_of : FE l.prog w K mg base 1 "firsts_of" g_firsts_of := fe_firsts_of (k := 0) B T_firsts_of
  have f_meant : FE l.prog w K mg base 1 "meant" g_meant := fe_meant (k := 0) B T_meant
  have f_fits : FE l.prog w K mg base 3 "fits" g_fits := fe_fits (k := 2) B T_fits f_is_items (f_meant.mono (by decide))
  have f_need_history : FE l.prog w K mg base 6 "need_history" g_need_history := fe_need_history (k := 5) B T_need_history f_need_service (f_fits.mono (by decide))
  have f_need_clerk : FE l.prog w K mg base 3 "need_clerk" g_need_clerk := fe_need_clerk (k := 2) B c_MOST_CLERK T_need_clerk f_is_from
  have f_numbers_of : FE l.prog w K mg base 1 "numbers_of" g_numbers_of := fe_numbers_of (k := 0) B T_numbers_of
  have f_served : FE l.prog w K mg base 2 "served" g_served := fe_served (k := 1) B T_served f_numbers_of f_meant f_step_of
  have f_need_args : FE l.prog w K mg base 7 "need_args" g_need_args := fe_need_args (k := 6) B T_need_args f_need_history (f_need_clerk.mono (by decide))
  have f_clerked : FE l.prog w K mg base 8 "clerked" g_clerked := fe_clerked (k := 7) B T_clerked f_need_args (f_served.mono (by decide))
  have f_wishes : FE l.prog w K mg base 3 "wishes" g_wishes := fe_wishes (k := 2) B T_wishes f_answered (f_firsts_of.mono (by decide))
  have f_wished : FE l.prog w K mg base 7 "wished" g_wished := fe_wished (k := 6) B T_wished f_need_history (f_wishes.mono (by decide))
  have f_need_number : FE l.prog w K mg base 3 "need_number" g_need_number := fe_need_number (k := 2) B c_MOST_WINDOW T_need_number f_is_from
  have f_does_do : FE l.prog w K mg base 1 "does_do" g_does_do := fe_does_do (k := 0) B T_does_do
  have f_is_enough : FE l.prog w K mg base 4 "is_enough" g_is_enough := fe_is_enough (k := 3) B T_is_enough f_need_clerk f_need_number (f_does_do.mono (by decide))
  have f_ring : FE l.prog w K mg base 1 "ring" g_ring := fe_ring (k := 0) B T_ring
  have f_clerk_breaks : FE l.prog w K mg base 4 "clerk_breaks" g_clerk_breaks := fe_clerk_breaks (k := 3) B T_clerk_breaks f_need_clerk f_need_number (f_does_do.mono (by decide)) (f_ring.mono (by decide))
  have f_does_serve : FE l.prog w K mg base 8 "does_serve" g_does_serve := fe_does_serve (k := 7) B T_does_serve f_need_args (f_served.mono (by decide)) (f_wishes.mono (by decide))
  have f_law_taken : FE l.prog w K mg base 1 "_law_taken" g_law_taken := fe_law_taken (k := 0) B T_law_taken
  have f_law_pick : FE l.prog w K mg base 2 "_law_pick" g_law_pick := fe_law_pick (k := 1) B T_law_pick f_law_taken
  have f_law_alikea : FE l.prog w K mg base 0 "_law_alike" (fun _ _ _ => False) := fe_none T_law_alike
  have f_law_alikeb : FE l.prog w K mg base 1 "_law_alike" (g_alk 0) := fe_law_alike0 B T_law_alike f_law_alikea
  have f_law_alikec : FE l.prog w K mg base 2 "_law_alike" (g_alk 1) := fe_law_alikeS B T_law_alike f_law_alikeb
  have f_law_aliked : FE l.prog w K mg base 3 "_law_alike" (g_alk 2) := fe_law_alikeS B T_law_alike f_law_alikec
  have f_law_alike : FE l.prog w K mg base 4 "_law_alike" g_law_alike := f_law_aliked.mono (by decide)
  have f_law_service : FE l.prog w K mg base 3 "_law_service" g_law_service := fe_law_service (k := 2) B T_law_service f_law_pick (f_law_taken.mono (by decide))
  have f_law_step : FE l.prog w K mg base 1 "_law_step" g_law_step := fe_law_step (k := 0) B T_law_step
  have f_law_told : FE l.prog w K mg base 2 "_law_told" g_law_told := fe_law_told (k := 1) B T_law_told f_law_step
  have f_law_meant : FE l.prog w K mg base 1 "_law_meant" g_law_meant := fe_law_meant (k := 0) B T_law_meant
  have f_law_firsts : FE l.prog w K mg base 1 "_law_firsts" g_law_firsts := fe_law_firsts (k := 0) B T_law_firsts
  have f_law_fits : FE l.prog w K mg base 2 "_law_fits" g_law_fits := fe_law_fits (k := 1) B T_law_fits f_law_meant
  have f_law_history : FE l.prog w K mg base 3 "_law_history" g_law_history := fe_law_history (k := 2) B T_law_history (f_law_taken.mono (by decide)) f_law_pick
  have f_law_clerked : FE l.prog w K mg base 2 "_law_clerked" g_law_clerked := fe_law_clerked (k := 1) B T_law_clerked f_law_meant f_law_step
  have f_law_wished : FE l.prog w K mg base 3 "_law_wished" g_law_wished := fe_law_wished (k := 2) B T_law_wished f_law_told (f_law_firsts.mono (by decide))
  exact def_fn (k := 8) (Γ := E_law) ⟨B, (fe_cons (f_law_service.mono (by decide)) (fe_cons (f_law_taken.mono (by decide)) (fe_cons (f_law_history.mono (by decide)) (fe_cons (f_law_wished.mono (by decide)) (fe_cons (f_law_clerked.mono (by decide)) (fe_cons (f_law_alike.mono (by decide)) (fe_cons (f_wished.mono (by decide)) (fe_cons f_clerked (fe_cons (f_is_enough.mono (by decide)) (fe_cons f_does_serve (fe_cons (f_law_pick.mono (by decide)) (fe_cons (f_clerk_breaks.mono (by decide)) (fe_cons (f_is_service.mono (by decide)) (fe_cons (f_law_fits.mono (by decide)) fe_nil)))))))))))))), ct_nil, sc_law.nd⟩ (fun_mk lk c kp) sc_law cc_law law_ok
theorem walk {l : PySem.W.OpenLaw} {q : Program} {loose : List Str} {XP : (Str → Option Value) → Heap → Prop} {YP : World → Heap → Prop} {d : DefRec} {K : Params → PySem.W.Frag} (hn : l.most = some 63) (hdf : d.params.defaults = [])
    (hY : ∀ (w : World) (h : Heap), YP w h → (K w.params).In h)
    (F : ∀ (w : World) (mg : Str → Option Value) (fa : Addr) (h : Heap), (K w.params).In h → h.Ns mainGlobals mg → mg d.name = some (.ref fa) →
      ∃ fd : FuncData, (∀ (s : Shared) (u : Value), BindsTo s fd ⟨[u], []⟩ [("_law_script", u)]) ∧ ∀ base : Heap, (K w.params).In base → base.Ns mainGlobals mg → FnOk l.prog w (K w.params) mg base CX0 9 fa fd ["_law_script"] (liftF (K w.params) g_law)) :
    PySem.W.WalkO q loose XP YP l.row.toRowW d [] (fun f vs => PySem.call f vs) :=
  L2.walk_of (n := 63) (k := 9) (x := "_law_script") (CX := fun _ => CX0) (sp := fun w => liftF (K w.params) g_law) hn (by decide) hdf ⟨rfl, by decide, by decide⟩ hY F (fun _ _ a ns hl hO hS => law_sp (fun _ _ _ z => z) hS hO) fun _ _ _ _ _ z => z
end MP
open PySem PySem.W PyProof.Rows
set_option maxRecDepth 100000 in
set_option maxHeartbeats 0 in
theorem PySem.Challenge.cw_oftenasked_k08_clerks_exactly_holds : PySem.Challenge.rw_oftenasked_k08_clerks_exactly.Holds := by
  w_on; o_law; k_head; (case hw => w_witness2)
  k_fill
  refine MP.walk (l := PySem.Challenge.rw_oftenasked_k08_clerks_exactly) rfl rfl (fun w h Y => PySem.W.kIn_of Y) ?F
  case F =>
    intro w mg fa h KX G hmg
    refine' MP.all_mk KX G hmg (MP.DefIn.of ?a0 ?l0 ?c0 ?p0) (MP.DefIn.of ?a1 ?l1 ?c1 ?p1) (MP.DefIn.of ?a2 ?l2 ?c2 ?p2) (MP.DefIn.of ?a3 ?l3 ?c3 ?p3) (MP.DefIn.of ?a4 ?l4 ?c4 ?p4) (MP.DefIn.of ?a5 ?l5 ?c5 ?p5) (MP.DefIn.of ?a6 ?l6 ?c6 ?p6) (MP.DefIn.of ?a7 ?l7 ?c7 ?p7) (MP.DefIn.of ?a8 ?l8 ?c8 ?p8) (MP.DefIn.of ?a9 ?l9 ?c9 ?p9) (MP.DefIn.of ?a10 ?l10 ?c10 ?p10) (MP.DefIn.of ?a11 ?l11 ?c11 ?p11) (MP.DefIn.of ?a12 ?l12 ?c12 ?p12) (MP.DefIn.of ?a13 ?l13 ?c13 ?p13) (MP.DefIn.of ?a14 ?l14 ?c14 ?p14) (MP.DefIn.of ?a15 ?l15 ?c15 ?p15) (MP.DefIn.of ?a16 ?l16 ?c16 ?p16) (MP.DefIn.of ?a17 ?l17 ?c17 ?p17) (MP.DefIn.of ?a18 ?l18 ?c18 ?p18) (MP.DefIn.of ?a19 ?l19 ?c19 ?p19) (MP.DefIn.of ?a20 ?l20 ?c20 ?p20) (MP.DefIn.of ?a21 ?l21 ?c21 ?p21) (MP.DefIn.of ?a22 ?l22 ?c22 ?p22) (MP.DefIn.of ?a23 ?l23 ?c23 ?p23) (MP.DefIn.of ?a24 ?l24 ?c24 ?p24) (MP.DefIn.of ?a25 ?l25 ?c25 ?p25) (MP.DefIn.of ?a26 ?l26 ?c26 ?p26) (MP.DefIn.of ?a27 ?l27 ?c27 ?p27) (MP.DefIn.of ?a28 ?l28 ?c28 ?p28) (MP.DefIn.of ?a29 ?l29 ?c29 ?p29) (MP.DefIn.of ?a30 ?l30 ?c30 ?p30) (MP.DefIn.of ?a31 ?l31 ?c31 ?p31) (MP.DefIn.of ?a32 ?l32 ?c32 ?p32) (MP.DefIn.of ?a33 ?l33 ?c33 ?p33) (MP.DefIn.of ?a34 ?l34 ?c34 ?p34) (MP.DefIn.of ?a35 ?l35 ?c35 ?p35) (MP.DefIn.of ?a36 ?l36 ?c36 ?p36) (MP.DefIn.of ?a37 ?l37 ?c37 ?p37) (MP.DefIn.of ?a38 ?l38 ?c38 ?p38) (MP.DefIn.of ?a39 ?l39 ?c39 ?p39) ?k0 ?e0 ?k1 ?k2 ?k3 ?k4 ?k5 ?z0 ?z1 ?z2 ?z3 ?z4 ?z5 ?z6 ?z7 ?z8 ?z9 ?z10 ?z11 ?z12 ?z13 ?z14 ?z15 ?z16
    (case a0 => k_is); (case l0 => k_is); (case c0 => k_is); (case p0 => k_is)
    (case a1 => k_is); (case l1 => k_is); (case c1 => k_is); (case p1 => k_is)
    (case a2 => k_is); (case l2 => k_is); (case c2 => k_is); (case p2 => k_is)
    (case a3 => k_is); (case l3 => k_is); (case c3 => k_is); (case p3 => k_is)
    (case a4 => k_is); (case l4 => k_is); (case c4 => k_is); (case p4 => k_is)
    (case a5 => k_is); (case l5 => k_is); (case c5 => k_is); (case p5 => k_is)
    (case a6 => k_is); (case l6 => k_is); (case c6 => k_is); (case p6 => k_is)
    (case a7 => k_is); (case l7 => k_is); (case c7 => k_is); (case p7 => k_is)
    (case a8 => k_is); (case l8 => k_is); (case c8 => k_is); (case p8 => k_is)
    (case a9 => k_is); (case l9 => k_is); (case c9 => k_is); (case p9 => k_is)
    (case a10 => k_is); (case l10 => k_is); (case c10 => k_is); (case p10 => k_is)
    (case a11 => k_is); (case l11 => k_is); (case c11 => k_is); (case p11 => k_is)
    (case a12 => k_is); (case l12 => k_is); (case c12 => k_is); (case p12 => k_is)
    (case a13 => k_is); (case l13 => k_is); (case c13 => k_is); (case p13 => k_is)
    (case a14 => k_is); (case l14 => k_is); (case c14 => k_is); (case p14 => k_is)
    (case a15 => k_is); (case l15 => k_is); (case c15 => k_is); (case p15 => k_is)
    (case a16 => k_is); (case l16 => k_is); (case c16 => k_is); (case p16 => k_is)
    (case a17 => k_is); (case l17 => k_is); (case c17 => k_is); (case p17 => k_is)
    (case a18 => k_is); (case l18 => k_is); (case c18 => k_is); (case p18 => k_is)
    (case a19 => k_is); (case l19 => k_is); (case c19 => k_is); (case p19 => k_is)
    (case a20 => k_is); (case l20 => k_is); (case c20 => k_is); (case p20 => k_is)
    (case a21 => k_is); (case l21 => k_is); (case c21 => k_is); (case p21 => k_is)
    (case a22 => k_is); (case l22 => k_is); (case c22 => k_is); (case p22 => k_is)
    (case a23 => k_is); (case l23 => k_is); (case c23 => k_is); (case p23 => k_is)
    (case a24 => k_is); (case l24 => k_is); (case c24 => k_is); (case p24 => k_is)
    (case a25 => k_is); (case l25 => k_is); (case c25 => k_is); (case p25 => k_is)
    (case a26 => k_is); (case l26 => k_is); (case c26 => k_is); (case p26 => k_is)
    (case a27 => k_is); (case l27 => k_is); (case c27 => k_is); (case p27 => k_is)
    (case a28 => k_is); (case l28 => k_is); (case c28 => k_is); (case p28 => k_is)
    (case a29 => k_is); (case l29 => k_is); (case c29 => k_is); (case p29 => k_is)
    (case a30 => k_is); (case l30 => k_is); (case c30 => k_is); (case p30 => k_is)
    (case a31 => k_is); (case l31 => k_is); (case c31 => k_is); (case p31 => k_is)
    (case a32 => k_is); (case l32 => k_is); (case c32 => k_is); (case p32 => k_is)
    (case a33 => k_is); (case l33 => k_is); (case c33 => k_is); (case p33 => k_is)
    (case a34 => k_is); (case l34 => k_is); (case c34 => k_is); (case p34 => k_is)
    (case a35 => k_is); (case l35 => k_is); (case c35 => k_is); (case p35 => k_is)
    (case a36 => k_is); (case l36 => k_is); (case c36 => k_is); (case p36 => k_is)
    (case a37 => k_is); (case l37 => k_is); (case c37 => k_is); (case p37 => k_is)
    (case a38 => k_is); (case l38 => k_is); (case c38 => k_is); (case p38 => k_is)
    (case a39 => k_is); (case l39 => k_is); (case c39 => k_is); (case p39 => k_is)
    (case k0 => k_is); (case e0 => rfl)
    (case k1 => k_is)
    (case k2 => k_is)
    (case k3 => k_is)
    (case k4 => k_is)
    (case k5 => k_is)
    (case z0 => k_is)
    (case z1 => k_is)
    (case z2 => k_is)
    (case z3 => k_is)
    (case z4 => k_is)
    (case z5 => k_is)
    (case z6 => k_is)
    (case z7 => k_is)
    (case z8 => k_is)
    (case z9 => k_is)
    (case z10 => k_is)
    (case z11 => k_is)
    (case z12 => k_is)
    (case z13 => k_is)
    (case z14 => k_is)
    (case z15 => k_is)
    (case z16 => k_is)
#print axioms PySem.Challenge.cw_oftenasked_k08_clerks_exactly_holds

