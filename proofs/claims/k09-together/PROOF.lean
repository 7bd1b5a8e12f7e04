import PyProof.Rows.All
import Wide.All
import OpenK.AllK
import Wide.FinOn
import HandS.ForMost
import KE.KDictKeyed
import HandS.TupAny
import HandS.TupMul
import HandS.Deep
import HandS.Conv
import HandS.Style
import HandS.Flow
import HandS.IsInst
import PyProof.ListStr
import PyProof.StrOps2
import HandS.Replace
import KE.GoesZip
import KE.GoesNew
import KE.GoesMore
import PyProof.EnumMake
import PyProof.ZipIter
import HandS.Star
import HandS.Dict
import HandS.WordsDict
import HandS.SetKeys
import KE.KDictCopyH
import KE.KEqDict
import KE.KDictDisplayH
import HandS.TupLen
import HandS.DictComp
import HandS.RaiseMore
import PyProof.DictUpdate
import HandS.SortInts
import KE.KSortTup
import KE.DataMinMax
import HandS.SetFor
import PyProof.Rows.SortStr
import KE.GoesEnum
import PyProof.CollectStr
import HandS.More
import PySem.Challenge.RW_oftenasked_k09_together
set_option Elab.async false
set_option linter.all false
set_option maxRecDepth 100000
/-! MP: a small deterministic meaning of the Python that is used here, over HandS. Values are trees: tuples, and lists and dicts that nobody changes any more. What may change stands in a heap by number. -/
namespace MP
open PySem PySem.Spec PyProof.Rows L2

/-- a value -/
inductive D where
  | non | bl (b : Bool) | int (i : Int) | str (s : List Nat) | tup (ds : List D) | lst (ds : List D) | dct (ks vs : List D) | scr (ns : List Int) | ref (n : Nat) | con (v : V)

/-- what stands in the heap; lck: a dict that has been walked, it changes no more -/
inductive Ob where
  | lst (ds : List D) | dct (ks vs : List D) | lck (ks vs : List D) | ins (c : Str) (ns : List Str) (ds : List D)

abbrev Fr := List (Option D)
abbrev Hq := List Ob
abbrev KW := PySem.W.Frag × World
abbrev _root_.L2.Cx.kw (X : Cx) : KW := (X.K, X.w)

def mkS (s : List Nat) : Str := ⟨s.toArray⟩
theorem mkS_inj {a b : List Nat} (e : mkS a = mkS b) : a = b := by
  have := congrArg (fun s : Str => s.cps.toList) e
  simpa [mkS] using this

/-- a tuple stands there -/
def TqT (K : KW) (H : Hp) (a : Addr) (xs : List V) : Prop := H a = some (.tup xs) ∨
    ∃ (o : Obj) (its : Array Value) (n : Nat), K.1.lookup a = some o ∧ o.cls = .type "tuple" ∧ o.data = .seq its n ∧ its.size ≤ sizeLine ∧ Vals xs its.toList
theorem TqT.sq {K : KW} {H : Hp} {a : Addr} {xs : List V} (t : TqT K H a xs) : SqT K.1 H a xs := t.elim (fun h => .inl (.inl h)) .inr
/-- a list that changes no more stands there -/
def LqL (H : Hp) (ρ : Nat → Addr) (n : Nat) (a : Addr) (xs : List V) : Prop := (∀ i, i < n → ρ i ≠ a) ∧ Rd H a (.lst xs)
theorem LqL.sq {K : KW} {H : Hp} {ρ n} {a : Addr} {xs : List V} (t : LqL H ρ n a xs) : SqL K.1 H a xs := .inl t.2
/-- the script stands there -/
def ScL (K : KW) (H : Hp) (ρ : Nat → Addr) (n : Nat) (a : Addr) (xs : List V) : Prop := LqL H ρ n a xs ∨
    ∃ (o : Obj) (its : Array Value) (n : Nat), K.1.lookup a = some o ∧ o.cls = .type "list" ∧ o.dict = none ∧ o.data = .seq its n ∧ its.size ≤ sizeLine ∧ Vals xs its.toList
theorem ScL.sq {K : KW} {H : Hp} {ρ n} {a : Addr} {xs : List V} (t : ScL K H ρ n a xs) : SqL K.1 H a xs := t.elim (fun h => h.sq) .inr
/-- a key that is a number or a text -/
def keyOf : D → Option Key
  | .int i => some (.inl i)
  | .str s => some (.inr (mkS s))
  | _ => none
mutual
/-- a key of any kind -/
def nkOf : D → Option NestedKey
  | .non => some .none
  | .int i => some (.num i)
  | .str s => some (.text (mkS s))
  | .tup ds => (nkOfL ds).map .tup
  | _ => none
def nkOfL : List D → Option (List NestedKey)
  | [] => some []
  | d :: ds => (nkOf d).bind fun k => (nkOfL ds).map fun r => k :: r
end
/-- an object that is this very one -/
def rawO (a : Addr) (o : Obj) : HO := .ext fun h => h.get? a = some o
/-- a dict's pairs: keys ints and texts, or tuples -/
def dctU (w : World) (a : Addr) (u : HO) (ks : List D) (kv xs : List V) : Prop :=
  (∃ ps : List (Key × V), u = .dK ps ∧ ks.map keyOf = ps.map (fun p => some p.1) ∧ kv = ps.map (fun p => kV p.1) ∧ xs = ps.map (·.2) ∧ (ps.map (·.1)).Nodup) ∨
  (∃ (o : Obj) (es : Array DictEntry) (ep : Nat) (nks : List (NestedKey × Addr × Value)), u = rawO a o ∧ (a == sysModules) = false ∧ o.ExactDict ∧ o.data = .dict es ep ∧
    es.toList = nks.map (fun x => ⟨x.1.hash w, .ref x.2.1, x.2.2⟩) ∧ ks.map nkOf = nks.map (fun x => some x.1) ∧ kv = nks.map (fun x => .ref x.2.1) ∧ Paired RelV xs (nks.map (·.2.2)) ∧
    (nks.map (·.1)).Nodup ∧ (∀ x ∈ nks, x.1.depth ≤ 8) ∧ nks.length ≤ sizeLine ∧ nks ≠ [])
theorem dctU.nofrz {w a u ks kv xs} (d : dctU w a u ks kv xs) : ∀ o z, u ≠ .frz o z := by
  rcases d with ⟨ps, rfl, _⟩ | ⟨o, es, ep, nks, rfl, _⟩
  · intro o z e; cases e
  · intro o z e; cases e
theorem dctU.notup {w a u ks kv xs} (d : dctU w a u ks kv xs) : ∀ z, u ≠ .tup z := by
  rcases d with ⟨ps, rfl, _⟩ | ⟨o, es, ep, nks, rfl, _⟩
  · intro z e; cases e
  · intro z e; cases e
theorem dctU.mut {w a u ks kv xs} (d : dctU w a u ks kv xs) : Mut (some u) := by
  rcases d with ⟨ps, rfl, _⟩ | ⟨o, es, ep, nks, rfl, _⟩ <;> trivial
mutual
def Rp (K : KW) (H : Hp) (ρ : Nat → Addr) (n : Nat) : D → V → Prop
  | .non, v => v = .non
  | .bl b, v => v = .bl b
  | .int i, v => v = .int i
  | .str s, v => v = .str (mkS s) ∧ s.length ≤ sizeLine ∧ ∀ c ∈ s, c < 0x110000
  | .ref m, v => m < n ∧ v = .ref (ρ m)
  | .con u, v => v = u
  | .tup ds, v => ∃ a xs, v = .ref a ∧ TqT K H a xs ∧ RpL K H ρ n ds xs
  | .lst ds, v => ∃ a xs, v = .ref a ∧ LqL H ρ n a xs ∧ RpL K H ρ n ds xs
  | .scr ns, v => ∃ a, v = .ref a ∧ ScL K H ρ n a (ns.map V.int)
  | .dct ks vs, v => ∃ a u kv xs, v = .ref a ∧ (∀ i, i < n → ρ i ≠ a) ∧ Rd H a u ∧ dctU K.2 a u ks kv xs ∧ RpL K H ρ n ks kv ∧ RpL K H ρ n vs xs
def RpL (K : KW) (H : Hp) (ρ : Nat → Addr) (n : Nat) : List D → List V → Prop
  | [], xs => xs = []
  | d :: ds, xs => ∃ x r, xs = x :: r ∧ Rp K H ρ n d x ∧ RpL K H ρ n ds r
end

/-- how one abstract heap goes over into a later one -/
structure Ext (K : KW) (ρ : Nat → Addr) (n : Nat) (H : Hp) (ρ' : Nat → Addr) (n' : Nat) (H' : Hp) : Prop where
  le : n ≤ n'
  ag : ∀ i, i < n → ρ' i = ρ i
  tp : ∀ a xs, TqT K H a xs → TqT K H' a xs
  un : ∀ a u, (∀ i, i < n → ρ i ≠ a) → Rd H a u → Rd H' a u
  nw : ∀ i, n ≤ i → i < n' → H (ρ' i) = none
  st : ∀ a, H a ≠ none → H' a ≠ none
  fr : ∀ a o u, H a = some (.frz o u) → H' a = some (.frz o u)

theorem rd_some {H : Hp} {a : Addr} {u : HO} (r : Rd H a u) : H a ≠ none := by
  rcases r with r | ⟨o, r⟩ <;> (rw [r]; intro e; cases e)
theorem Ext.refl {K ρ n H} : Ext K ρ n H ρ n H := ⟨Nat.le_refl _, fun _ _ => rfl, fun _ _ h => h, fun _ _ _ r => r, fun i h1 h2 => absurd h1 (by omega), fun _ h => h, fun _ _ _ h => h⟩
/-- what was not tracked is not tracked later -/
theorem Ext.off {K ρ n H ρ' n' H'} (e : Ext K ρ n H ρ' n' H') {a : Addr} (h : ∀ i, i < n → ρ i ≠ a) (hs : H a ≠ none) : ∀ i, i < n' → ρ' i ≠ a := fun i hi z => by
  by_cases hn : i < n
  · rw [e.ag i hn] at z; exact h i hn z
  · have := e.nw i (by omega) hi
    rw [z] at this; exact hs this
theorem Ext.trans {K ρ n H ρ1 n1 H1 ρ2 n2 H2} (a : Ext K ρ n H ρ1 n1 H1) (b : Ext K ρ1 n1 H1 ρ2 n2 H2) : Ext K ρ n H ρ2 n2 H2 :=
  ⟨Nat.le_trans a.le b.le, fun i hi => (b.ag i (Nat.lt_of_lt_of_le hi a.le)).trans (a.ag i hi), fun x xs h => b.tp x xs (a.tp x xs h),
    fun x u h r => b.un x u (a.off h (rd_some r)) (a.un x u h r), fun i h1 h2 => by
      by_cases hn : i < n1
      · rw [b.ag i hn]; exact a.nw i h1 hn
      · cases q : H (ρ2 i) with
        | none => rfl
        | some u =>
          have := b.nw i (by omega) h2
          exact absurd this (a.st _ (by rw [q]; intro e; cases e)), fun x h => b.st x (a.st x h), fun x o u h => b.fr x o u (a.fr x o u h)⟩
theorem LqL.ext {K ρ n H ρ' n' H' a xs} (e : Ext K ρ n H ρ' n' H') (h : LqL H ρ n a xs) : LqL H' ρ' n' a xs := ⟨e.off h.1 (rd_some h.2), e.un _ _ h.1 h.2⟩
theorem ScL.ext {K ρ n H ρ' n' H' a xs} (e : Ext K ρ n H ρ' n' H') (h : ScL K H ρ n a xs) : ScL K H' ρ' n' a xs := h.elim (fun h => .inl (h.ext e)) .inr

mutual
theorem Rp.ext {K ρ n H ρ' n' H'} (e : Ext K ρ n H ρ' n' H') : ∀ (d : D) (v : V), Rp K H ρ n d v → Rp K H' ρ' n' d v
  | .non, v, h => by unfold Rp at *; exact h
  | .bl b, v, h => by unfold Rp at *; exact h
  | .int i, v, h => by unfold Rp at *; exact h
  | .str s, v, h => by unfold Rp at *; exact h
  | .con u, v, h => by unfold Rp at *; exact h
  | .ref m, v, h => by
    unfold Rp at *
    exact ⟨Nat.lt_of_lt_of_le h.1 e.le, by rw [e.ag m h.1]; exact h.2⟩
  | .tup ds, v, h => by
    unfold Rp at *
    obtain ⟨a, xs, h1, h2, h3⟩ := h
    exact ⟨a, xs, h1, e.tp a xs h2, RpL.ext e ds xs h3⟩
  | .lst ds, v, h => by
    unfold Rp at *
    obtain ⟨a, xs, h1, h2, h3⟩ := h
    exact ⟨a, xs, h1, h2.ext e, RpL.ext e ds xs h3⟩
  | .scr ns, v, h => by
    unfold Rp at *
    obtain ⟨a, h1, h2⟩ := h
    exact ⟨a, h1, h2.ext e⟩
  | .dct ks vs, v, h => by
    unfold Rp at *
    obtain ⟨a, u, kv, xs, h1, h2, h3, h4, h5, h6⟩ := h
    exact ⟨a, u, kv, xs, h1, e.off h2 (rd_some h3), e.un _ _ h2 h3, h4, RpL.ext e ks kv h5, RpL.ext e vs xs h6⟩
theorem RpL.ext {K ρ n H ρ' n' H'} (e : Ext K ρ n H ρ' n' H') : ∀ (ds : List D) (xs : List V), RpL K H ρ n ds xs → RpL K H' ρ' n' ds xs
  | [], xs, h => by unfold RpL at *; exact h
  | d :: ds, xs, h => by
    unfold RpL at *
    obtain ⟨x, r, h1, h2, h3⟩ := h
    exact ⟨x, r, h1, Rp.ext e d x h2, RpL.ext e ds r h3⟩
end

/-- one object -/
def ObR (K : KW) (H : Hp) (ρ : Nat → Addr) (n : Nat) (a : Addr) : Ob → Prop
  | .lst ds => ∃ xs, H a = some (.lst xs) ∧ RpL K H ρ n ds xs
  | .dct ks vs => ∃ u kv xs, H a = some u ∧ dctU K.2 a u ks kv xs ∧ RpL K H ρ n ks kv ∧ RpL K H ρ n vs xs
  | .lck ks vs => ∃ u kv xs, Rd H a u ∧ dctU K.2 a u ks kv xs ∧ RpL K H ρ n ks kv ∧ RpL K H ρ n vs xs
  | .ins c ns ds => ∃ C dx fs, PySem.W.nsIn K.1 mainGlobals c = some (some (.ref C)) ∧ H a = some (.ins C dx fs) ∧ fs.map (·.1) = ns ∧ RpL K H ρ n ds (fs.map (·.2))

structure Sim (K : KW) (ρ : Nat → Addr) (h : Hq) (H : Hp) : Prop where
  ob : ∀ i o, h[i]? = some o → ObR K H ρ h.length (ρ i) o
  inj : ∀ i j, i < h.length → j < h.length → ρ i = ρ j → i = j

structure FrR (K : KW) (ρ : Nat → Addr) (n : Nat) (H : Hp) (fr : Fr) (σ : L2.St) : Prop where
  len : fr.length = σ.length
  at_ : ∀ (i : Nat) (d : D), fr[i]? = some (some d) → ∃ v, σ[i]? = some (some v) ∧ Rp K H ρ n d v

theorem FrR.ext {K ρ n H ρ' n' H'} (e : Ext K ρ n H ρ' n' H') {fr σ} (s : FrR K ρ n H fr σ) : FrR K ρ' n' H' fr σ :=
  ⟨s.len, fun i d h => let ⟨v, h1, h2⟩ := s.at_ i d h; ⟨v, h1, Rp.ext e d v h2⟩⟩
theorem FrR.set {K ρ n H fr σ} (s : FrR K ρ n H fr σ) {i : Nat} {d : D} {v : V} (r : Rp K H ρ n d v) : FrR K ρ n H (fr.set i (some d)) (σ.set i (some v)) := by
  refine ⟨by simp [s.len], fun j e h => ?_⟩
  by_cases hj : i = j
  · subst hj
    have hl : i < fr.length := by
      have := List.getElem?_eq_some_iff.mp h
      simpa using this.1
    rw [List.getElem?_set_self hl] at h
    have h' : d = e := by simpa using h
    subst h'
    exact ⟨v, List.getElem?_set_self (by rw [← s.len]; exact hl), r⟩
  · rw [List.getElem?_set_ne hj] at h
    obtain ⟨w, h1, h2⟩ := s.at_ j e h
    exact ⟨w, by rw [List.getElem?_set_ne hj]; exact h1, h2⟩

/-! ### meanings -/
abbrev WK := D → Hq → Prop
abbrev WE := Fr → Hq → WK → Prop
abbrev WA := Fr → Hq → (List D → Hq → Prop) → Prop
abbrev WT := Fr → Hq → (Bool → Hq → Prop) → Prop
abbrev W2 := D → D → Hq → WK → Prop
abbrev W1 := D → Hq → WK → Prop
abbrev WL := List D → Hq → WK → Prop
structure MEnds where
  nx : Fr → Hq → Prop
  rt : WK
  bk : Fr → Hq → Prop := fun _ _ => False
  ct : Fr → Hq → Prop := fun _ _ => False
abbrev WS := MEnds → Fr → Hq → Prop
abbrev WG := D → Fr → Hq → (Fr → Hq → Prop) → Prop
abbrev WGs := List D → Fr → Hq → (Fr → Hq → Prop) → Prop

/-- what a value's end in MP comes to -/
def ClE (K : KW) (ρ : Nat → Addr) (h : Hq) (H : Hp) (P : WK) (Q : VK) : Prop :=
  ∀ ρ' h' H' d v, Ext K ρ h.length H ρ' h'.length H' → Sim K ρ' h' H' → Rp K H' ρ' h'.length d v → P d h' → Q v H'
def ClT (K : KW) (ρ : Nat → Addr) (h : Hq) (H : Hp) (P : Bool → Hq → Prop) (Q : Bool → Hp → Prop) : Prop :=
  ∀ ρ' h' H' b, Ext K ρ h.length H ρ' h'.length H' → Sim K ρ' h' H' → P b h' → Q b H'
def ClA (K : KW) (ρ : Nat → Addr) (h : Hq) (H : Hp) (P : List D → Hq → Prop) (Q : List V → Hp → Prop) : Prop :=
  ∀ ρ' h' H' ds xs, Ext K ρ h.length H ρ' h'.length H' → Sim K ρ' h' H' → RpL K H' ρ' h'.length ds xs → P ds h' → Q xs H'
def ClN (K : KW) (ρ : Nat → Addr) (h : Hq) (H : Hp) (P : Fr → Hq → Prop) (Q : L2.St → Hp → Prop) : Prop :=
  ∀ ρ' h' H' fr' σ', Ext K ρ h.length H ρ' h'.length H' → Sim K ρ' h' H' → FrR K ρ' h'.length H' fr' σ' → P fr' h' → Q σ' H'

theorem ClE.step {K ρ h H ρ1 h1 H1 P Q} (e : Ext K ρ h.length H ρ1 h1.length H1) (c : ClE K ρ h H P Q) : ClE K ρ1 h1 H1 P Q :=
  fun ρ' h' H' d v e' => c ρ' h' H' d v (e.trans e')
theorem ClT.step {K ρ h H ρ1 h1 H1 P Q} (e : Ext K ρ h.length H ρ1 h1.length H1) (c : ClT K ρ h H P Q) : ClT K ρ1 h1 H1 P Q :=
  fun ρ' h' H' d e' => c ρ' h' H' d (e.trans e')
theorem ClA.step {K ρ h H ρ1 h1 H1 P Q} (e : Ext K ρ h.length H ρ1 h1.length H1) (c : ClA K ρ h H P Q) : ClA K ρ1 h1 H1 P Q :=
  fun ρ' h' H' d v e' => c ρ' h' H' d v (e.trans e')
theorem ClN.step {K ρ h H ρ1 h1 H1 P Q} (e : Ext K ρ h.length H ρ1 h1.length H1) (c : ClN K ρ h H P Q) : ClN K ρ1 h1 H1 P Q :=
  fun ρ' h' H' d v e' => c ρ' h' H' d v (e.trans e')

def liftE (K : KW) (w : WE) : TE := fun σ H Q => ∃ ρ fr h P, Sim K ρ h H ∧ FrR K ρ h.length H fr σ ∧ w fr h P ∧ ClE K ρ h H P Q
def liftT (K : KW) (w : WT) : TT := fun σ H Q => ∃ ρ fr h P, Sim K ρ h H ∧ FrR K ρ h.length H fr σ ∧ w fr h P ∧ ClT K ρ h H P Q
def liftA (K : KW) (w : WA) : TA := fun σ H Q => ∃ ρ fr h P, Sim K ρ h H ∧ FrR K ρ h.length H fr σ ∧ w fr h P ∧ ClA K ρ h H P Q
def lift2 (K : KW) (g : W2) : R2 := fun x y H Q => ∃ ρ h d e P, Sim K ρ h H ∧ Rp K H ρ h.length d x ∧ Rp K H ρ h.length e y ∧ g d e h P ∧ ClE K ρ h H P Q
def lift1 (K : KW) (g : W1) : V → Hp → VK → Prop := fun x H Q => ∃ ρ h d P, Sim K ρ h H ∧ Rp K H ρ h.length d x ∧ g d h P ∧ ClE K ρ h H P Q
def liftL (K : KW) (g : WL) : List V → Hp → VK → Prop := fun xs H Q => ∃ ρ h ds P, Sim K ρ h H ∧ RpL K H ρ h.length ds xs ∧ g ds h P ∧ ClE K ρ h H P Q
def liftS (K : KW) (w : WS) : TS := fun D σ H => ∃ ρ fr h M, Sim K ρ h H ∧ FrR K ρ h.length H fr σ ∧ w M fr h ∧
  ClN K ρ h H M.nx D.nx ∧ ClE K ρ h H M.rt D.rt ∧ ClN K ρ h H M.bk D.bk ∧ ClN K ρ h H M.ct D.ct
def liftG (K : KW) (g : WG) : TG := fun v σ H Q => ∃ ρ fr h d P, Sim K ρ h H ∧ FrR K ρ h.length H fr σ ∧ Rp K H ρ h.length d v ∧ g d fr h P ∧ ClN K ρ h H P Q
def liftGs (K : KW) (g : WGs) : TGs := fun vs σ H Q => ∃ ρ fr h ds P, Sim K ρ h H ∧ FrR K ρ h.length H fr σ ∧ RpL K H ρ h.length ds vs ∧ g ds fr h P ∧ ClN K ρ h H P Q

theorem PE.imp {X : Cx} {e : Expr} {t t' : TE} (h : PE X e t) (i : ∀ σ H Q, t' σ H Q → t σ H Q) : PE X e t' := ⟨fun pins s σ H Q I q => h.run pins s σ H Q I (i σ H Q q)⟩
theorem PT.imp {X : Cx} {e : Expr} {t t' : TT} (h : PT X e t) (i : ∀ σ H Q, t' σ H Q → t σ H Q) : PT X e t' := ⟨fun pins s σ H Q I q => h.run pins s σ H Q I (i σ H Q q)⟩
theorem PW.imp {X : Cx} {e : Expr} {t t' : TT} (h : PW X e t) (i : ∀ σ H Q, t' σ H Q → t σ H Q) : PW X e t' := ⟨fun wh pins s σ H Q I q => h.run wh pins s σ H Q I (i σ H Q q)⟩
theorem PA.imp {X : Cx} {e : List Expr} {t t' : TA} (h : PA X e t) (i : ∀ σ H Q, t' σ H Q → t σ H Q) : PA X e t' := ⟨fun pos pins s σ H Q I q => h.run pos pins s σ H Q I (i σ H Q q)⟩
theorem PS.imp {X : Cx} {e : Stmt} {t t' : TS} (h : PS X e t) (i : ∀ D σ H, t' D σ H → t D σ H) : PS X e t' := ⟨fun pins s σ H D I q => h.run pins s σ H D I (i D σ H q)⟩
theorem PSs.imp {X : Cx} {e : List Stmt} {t t' : TS} (h : PSs X e t) (i : ∀ D σ H, t' D σ H → t D σ H) : PSs X e t' := ⟨fun pins s σ H D I q => h.run pins s σ H D I (i D σ H q)⟩
theorem PG.imp {X : Cx} {e : Expr} {t t' : TG} (h : PG X e t) (i : ∀ v σ H Q, t' v σ H Q → t v σ H Q) : PG X e t' := ⟨fun pins s σ H v u Q I r q => h.run pins s σ H v u Q I r (i v σ H Q q)⟩
theorem PGs.imp {X : Cx} {e : List Expr} {t t' : TGs} (h : PGs X e t) (i : ∀ v σ H Q, t' v σ H Q → t v σ H Q) : PGs X e t' := ⟨fun pins s σ H v u Q I r q => h.run pins s σ H v u Q I r (i v σ H Q q)⟩
theorem OpR.imp {X : Cx} {f : Value → Value → Sem Value} {t t' : R2} (h : OpR X f t) (i : ∀ x y H Q, t' x y H Q → t x y H Q) : OpR X f t' := fun pins s σ H x y v u Q I r1 r2 q => h pins s σ H x y v u Q I r1 r2 (i x y H Q q)

abbrev SE (X : Cx) (e : Expr) (w : WE) : Prop := PE X e (liftE X.kw w)
abbrev ST (X : Cx) (e : Expr) (w : WT) : Prop := PT X e (liftT X.kw w)
abbrev SA (X : Cx) (e : List Expr) (w : WA) : Prop := PA X e (liftA X.kw w)
abbrev SS (X : Cx) (e : Stmt) (w : WS) : Prop := PS X e (liftS X.kw w)
abbrev SSs (X : Cx) (e : List Stmt) (w : WS) : Prop := PSs X e (liftS X.kw w)
abbrev SG (X : Cx) (e : Expr) (w : WG) : Prop := PG X e (liftG X.kw w)
abbrev SGs (X : Cx) (e : List Expr) (w : WGs) : Prop := PGs X e (liftGs X.kw w)

/-! ### heaps that change -/
section
variable {K : KW} {ρ : Nat → Addr} {h : Hq} {H : Hp} {n : Nat}

theorem get_lt {h : Hq} {i : Nat} {o : Ob} (e : h[i]? = some o) : i < h.length := (List.getElem?_eq_some_iff.mp e).1
theorem TqT.upd {a p : Addr} {o : HO} {xs : List V} (hp : ∀ ys, H p ≠ some (.tup ys)) (s : TqT K H a xs) : TqT K (upd H p o) a xs := by
  rcases s with s | s
  · refine .inl ?_
    rw [upd_ne]; exact s
    intro e; subst e; exact hp _ s
  · exact .inr s
theorem Rd.updN {H : Hp} {a p : Addr} {o u : HO} (hp : a ≠ p) (s : Rd H a u) : Rd (upd H p o) a u := by
  rcases s with s | ⟨ob, s⟩
  · exact .inl (by rw [upd_ne hp]; exact s)
  · exact .inr ⟨ob, by rw [upd_ne hp]; exact s⟩
theorem upd_some {H : Hp} {a p : Addr} {o : HO} (h : H a ≠ none) : upd H p o a ≠ none := by
  by_cases e : a = p
  · subst e; rw [upd_same]; intro z; cases z
  · rw [upd_ne e]; exact h
theorem ObR.has {a : Addr} {o : Ob} (r : ObR K H ρ n a o) : H a ≠ none := by
  cases o with
  | lst ds => obtain ⟨xs, q, _⟩ := r; rw [q]; intro z; cases z
  | dct ks vs => obtain ⟨u, _, _, q, _⟩ := r; rw [q]; intro z; cases z
  | lck ks vs => obtain ⟨u, _, _, q, _⟩ := r; exact rd_some q
  | ins c ns ds => obtain ⟨_, _, _, _, q, _⟩ := r; rw [q]; intro z; cases z
theorem ObR.notup {a : Addr} {o : Ob} (r : ObR K H ρ n a o) : ∀ ys, H a ≠ Option.some (.tup ys) := by
  intro ys e
  cases o with
  | lst ds => obtain ⟨xs, q, _⟩ := r; rw [q] at e; cases e
  | dct ks vs => obtain ⟨u, _, _, q, d, _⟩ := r; rw [q] at e; exact d.notup _ (Option.some.inj e)
  | lck ks vs =>
    obtain ⟨u, _, _, q, d, _⟩ := r
    rcases q with q | ⟨o, q⟩
    · rw [q] at e; exact d.notup _ (Option.some.inj e)
    · rw [q] at e; cases e
  | ins c ns ds => obtain ⟨_, _, _, _, q, _⟩ := r; rw [q] at e; cases e
theorem Sim.has (S : Sim K ρ h H) {i : Nat} (hi : i < h.length) : H (ρ i) ≠ none := (S.ob i h[i] (List.getElem?_eq_getElem hi)).has
/-- a new address is not tracked -/
theorem Sim.off (S : Sim K ρ h H) {p : Addr} (hp : H p = none) : ∀ i, i < h.length → ρ i ≠ p := fun i hi z => S.has hi (by rw [z]; exact hp)

/-- a new object that is not tracked -/
theorem Ext.new {p : Addr} {o : HO} (hp : H p = none) : Ext K ρ n H ρ n (upd H p o) :=
  ⟨Nat.le_refl _, fun _ _ => rfl, fun a xs s => TqT.upd (fun ys z => by rw [hp] at z; cases z) s, fun a u _ r => Rd.updN (fun z => rd_some r (by rw [z]; exact hp)) r, fun i h1 h2 => absurd h1 (by omega), fun _ z => upd_some z, fun a o u z => by rw [upd_ne (ne_of_none z hp)]; exact z⟩
theorem ObR.ext {ρ' n' H'} {a : Addr} {o : Ob} (e : Ext K ρ n H ρ' n' H') (hk : ∀ u, H a = Option.some u → H' a = Option.some u) (r : ObR K H ρ n a o) : ObR K H' ρ' n' a o := by
  cases o with
  | lst ds => obtain ⟨xs, q, r⟩ := r; exact ⟨xs, hk _ q, RpL.ext e ds xs r⟩
  | dct ks vs => obtain ⟨u, kv, xs, q, d, r1, r2⟩ := r; exact ⟨u, kv, xs, hk _ q, d, RpL.ext e ks kv r1, RpL.ext e vs xs r2⟩
  | lck ks vs =>
    obtain ⟨u, kv, xs, q, d, r1, r2⟩ := r
    exact ⟨u, kv, xs, q.elim (fun q => .inl (hk _ q)) (fun ⟨o, q⟩ => .inr ⟨o, hk _ q⟩), d, RpL.ext e ks kv r1, RpL.ext e vs xs r2⟩
  | ins c ns ds => obtain ⟨C, dx, fs, c1, q, c2, r⟩ := r; exact ⟨C, dx, fs, c1, hk _ q, c2, RpL.ext e ds _ r⟩
theorem Sim.new (S : Sim K ρ h H) {p : Addr} {z : HO} (hp : H p = none) : Sim K ρ h (upd H p z) :=
  ⟨fun i o hi => (S.ob i o hi).ext (Ext.new hp) fun u q => by rw [upd_ne (ne_of_none q hp)]; exact q, S.inj⟩

def rho (ρ : Nat → Addr) (n : Nat) (p : Addr) : Nat → Addr := fun i => if i = n then p else ρ i
theorem rho_new {p : Addr} : rho ρ n p n = p := by unfold rho; rw [if_pos rfl]
theorem rho_old {p : Addr} {i : Nat} (hi : i < n) : rho ρ n p i = ρ i := by unfold rho; rw [if_neg (Nat.ne_of_lt hi)]
/-- a new object that is tracked -/
theorem Ext.newOb {p : Addr} {o : HO} (hp : H p = none) : Ext K ρ n H (rho ρ n p) (n + 1) (upd H p o) :=
  ⟨Nat.le_succ _, fun i hi => rho_old hi, fun a xs s => TqT.upd (fun ys z => by rw [hp] at z; cases z) s, fun a u _ r => Rd.updN (fun z => rd_some r (by rw [z]; exact hp)) r, fun i h1 h2 => by
    have : i = n := by omega
    subst this; rw [rho_new]; exact hp, fun _ z => upd_some z, fun a o u z => by rw [upd_ne (ne_of_none z hp)]; exact z⟩
theorem get_app {h : Hq} {u o : Ob} {i : Nat} (e : (h ++ [u])[i]? = Option.some o) : (i < h.length ∧ h[i]? = Option.some o) ∨ (i = h.length ∧ o = u) := by
  rcases Nat.lt_trichotomy i h.length with q | q | q
  · rw [List.getElem?_append_left q] at e; exact .inl ⟨q, e⟩
  · subst q
    rw [List.getElem?_append_right (Nat.le_refl _), Nat.sub_self] at e
    exact .inr ⟨rfl, (Option.some.inj e).symm⟩
  · rw [List.getElem?_append_right (Nat.le_of_lt q)] at e
    obtain ⟨k, hk⟩ : ∃ k, i - h.length = k + 1 := ⟨i - h.length - 1, by omega⟩
    rw [hk] at e; simp at e
theorem Sim.newOb (S : Sim K ρ h H) {p : Addr} {z : HO} {o0 : Ob} (hp : H p = none) (r : ObR K (upd H p z) (rho ρ h.length p) (h.length + 1) p o0) : Sim K (rho ρ h.length p) (h ++ [o0]) (upd H p z) := by
  have e : Ext K ρ h.length H (rho ρ h.length p) (h.length + 1) (upd H p z) := Ext.newOb hp
  have hlen : (h ++ [o0]).length = h.length + 1 := by simp
  refine ⟨fun i o hi => ?_, fun i j hi hj q => ?_⟩
  · rw [hlen]
    rcases get_app hi with ⟨hlt, hi⟩ | ⟨rfl, rfl⟩
    · rw [rho_old hlt]
      exact (S.ob i o hi).ext e fun u q => by rw [upd_ne (ne_of_none q hp)]; exact q
    · rw [rho_new]
      exact r
  · rw [hlen] at hi hj
    by_cases h1 : i < h.length
    · by_cases h2 : j < h.length
      · rw [rho_old h1, rho_old h2] at q; exact S.inj i j h1 h2 q
      · have : j = h.length := by omega
        subst this
        rw [rho_old h1, rho_new] at q
        exact absurd hp (by rw [← q]; exact S.has h1)
    · have : i = h.length := by omega
      subst this
      by_cases h2 : j < h.length
      · rw [rho_old h2, rho_new] at q
        exact absurd hp (by rw [q]; exact S.has h2)
      · omega
/-- the object at a tracked place is changed -/
theorem Ext.write {i : Nat} {o : HO} (hi : i < n) (hs : H (ρ i) ≠ none) (h1 : ∀ ys, H (ρ i) ≠ Option.some (.tup ys)) (h2 : ∀ o u, H (ρ i) ≠ Option.some (.frz o u)) : Ext K ρ n H ρ n (upd H (ρ i) o) :=
  ⟨Nat.le_refl _, fun _ _ => rfl, fun a xs s => TqT.upd h1 s, fun a u hu r => Rd.updN (fun z => hu i hi z.symm) r, fun i h1 h2 => absurd h1 (by omega), fun _ z => upd_some z, fun a o u z => by rw [upd_ne (fun q => h2 o u (by rw [← q]; exact z))]; exact z⟩
theorem Sim.setOb (S : Sim K ρ h H) {i : Nat} {o1 : Ob} {z : HO} (hi : i < h.length) (nf : ∀ o u, H (ρ i) ≠ Option.some (.frz o u)) (r : Ext K ρ h.length H ρ h.length (upd H (ρ i) z) → ObR K (upd H (ρ i) z) ρ h.length (ρ i) o1) :
    Sim K ρ (h.set i o1) (upd H (ρ i) z) ∧ Ext K ρ h.length H ρ (h.set i o1).length (upd H (ρ i) z) := by
  have e : Ext K ρ h.length H ρ h.length (upd H (ρ i) z) := Ext.write hi (S.has hi) (S.ob i _ (List.getElem?_eq_getElem hi)).notup nf
  rw [List.length_set]
  refine ⟨⟨fun j o hj => ?_, fun j k hj hk q => ?_⟩, e⟩
  · rw [List.length_set]
    by_cases hij : i = j
    · subst hij
      rw [List.getElem?_set_self hi] at hj
      have hj' := Option.some.inj hj
      subst hj'
      exact r e
    · rw [List.getElem?_set_ne hij] at hj
      refine (S.ob j o hj).ext e fun u q => ?_
      rw [upd_ne]; exact q
      intro z
      exact hij (S.inj i j hi (get_lt hj) z.symm)
  · rw [List.length_set] at hj hk
    exact S.inj j k hj hk q
/-- a list is changed -/
theorem Sim.setL (S : Sim K ρ h H) {i : Nat} {ds ds' : List D} {xs' : List V} (hi : h[i]? = Option.some (.lst ds)) (r : RpL K H ρ h.length ds' xs') :
    Sim K ρ (h.set i (.lst ds')) (upd H (ρ i) (.lst xs')) ∧ Ext K ρ h.length H ρ (h.set i (.lst ds')).length (upd H (ρ i) (.lst xs')) :=
  S.setOb (get_lt hi) (fun o u e => by obtain ⟨xs, q, _⟩ := S.ob i _ hi; rw [q] at e; cases e) fun e => ⟨xs', upd_same, RpL.ext e ds' xs' r⟩
/-- an untracked thing is locked -/
theorem Ext.lockU {a : Addr} {u : HO} {od : Obj} (ha : H a = Option.some u) (nt : ∀ z, u ≠ .tup z) (nf : ∀ o z, u ≠ .frz o z) : Ext K ρ n H ρ n (upd H a (.frz od u)) :=
  ⟨Nat.le_refl _, fun _ _ => rfl, fun b xs s => TqT.upd (fun ys z => by rw [ha] at z; exact nt _ (Option.some.inj z)) s, fun b w hw r => by
    by_cases hb : b = a
    · subst hb
      rcases r with r | ⟨o, r⟩
      · rw [ha] at r; cases r; exact .inr ⟨od, upd_same⟩
      · rw [ha] at r; exact absurd (Option.some.inj r) (nf o w)
    · exact Rd.updN hb r, fun i h1 h2 => absurd h1 (by omega), fun _ z => upd_some z, fun b o w z => by
    by_cases hb : b = a
    · subst hb; rw [ha] at z; exact absurd (Option.some.inj z) (nf o w)
    · rw [upd_ne hb]; exact z⟩
end
end MP

namespace MP
open PySem PySem.Spec PyProof.Rows L2

/-! ### what a value says of the machine's -/
theorem str_list (s : List Nat) : (mkS s).cps.toList = s := by unfold mkS; simp
theorem str_len (s : List Nat) : (mkS s).length = s.length := by unfold mkS; simp [Str.length]
theorem str_app (a b : List Nat) : mkS a ++ mkS b = mkS (a ++ b) := by
  have : (mkS a ++ mkS b).cps = (mkS (a ++ b)).cps := by
    show a.toArray ++ b.toArray = (a ++ b).toArray
    simp
  cases h : mkS a ++ mkS b with
  | mk c => rw [h] at this; cases h2 : mkS (a ++ b) with
    | mk c2 => rw [h2] at this; exact congrArg Str.mk this
def StrOk (s : List Nat) : Prop := s.length ≤ sizeLine ∧ ∀ c ∈ s, c < 0x110000
section
variable {K : KW} {H : Hp} {ρ : Nat → Addr} {n : Nat} {v : V}
theorem rp_str {s} (r : Rp K H ρ n (.str s) v) : v = .str (mkS s) ∧ StrOk s := by unfold Rp at r; exact r
theorem of_str {s} (h : StrOk s) : Rp K H ρ n (.str s) (.str (mkS s)) := by unfold Rp; exact ⟨rfl, h⟩
theorem rp_int {i} (r : Rp K H ρ n (.int i) v) : v = .int i := by unfold Rp at r; exact r
theorem of_int {i} : Rp K H ρ n (.int i) (.int i) := by unfold Rp; rfl
theorem rp_bl {i} (r : Rp K H ρ n (.bl i) v) : v = .bl i := by unfold Rp at r; exact r
theorem of_bl {i} : Rp K H ρ n (.bl i) (.bl i) := by unfold Rp; rfl
theorem rp_non (r : Rp K H ρ n .non v) : v = .non := by unfold Rp at r; exact r
theorem of_non : Rp K H ρ n .non .non := by unfold Rp; rfl
theorem rp_tup {ds} (r : Rp K H ρ n (.tup ds) v) : ∃ a xs, v = .ref a ∧ SqT K.1 H a xs ∧ RpL K H ρ n ds xs := by unfold Rp at r; obtain ⟨a, xs, h1, h2, h3⟩ := r; exact ⟨a, xs, h1, h2.sq, h3⟩
theorem rp_tupT {ds} (r : Rp K H ρ n (.tup ds) v) : ∃ a xs, v = .ref a ∧ TqT K H a xs ∧ RpL K H ρ n ds xs := by unfold Rp at r; exact r
theorem rp_lst {ds} (r : Rp K H ρ n (.lst ds) v) : ∃ a xs, v = .ref a ∧ SqL K.1 H a xs ∧ RpL K H ρ n ds xs := by unfold Rp at r; obtain ⟨a, xs, h1, h2, h3⟩ := r; exact ⟨a, xs, h1, h2.sq, h3⟩
theorem rp_lstT {ds} (r : Rp K H ρ n (.lst ds) v) : ∃ a xs, v = .ref a ∧ LqL H ρ n a xs ∧ RpL K H ρ n ds xs := by unfold Rp at r; exact r
theorem rp_scr {ns} (r : Rp K H ρ n (.scr ns) v) : ∃ a, v = .ref a ∧ SqL K.1 H a (ns.map V.int) := by unfold Rp at r; obtain ⟨a, h1, h2⟩ := r; exact ⟨a, h1, h2.sq⟩
theorem rp_dct {ks vs} (r : Rp K H ρ n (.dct ks vs) v) : ∃ a u kv xs, v = .ref a ∧ (∀ i, i < n → ρ i ≠ a) ∧ Rd H a u ∧ dctU K.2 a u ks kv xs ∧ RpL K H ρ n ks kv ∧ RpL K H ρ n vs xs := by unfold Rp at r; exact r
theorem rp_ref {m} (r : Rp K H ρ n (.ref m) v) : m < n ∧ v = .ref (ρ m) := by unfold Rp at r; exact r
theorem of_ref {m} (hm : m < n) : Rp K H ρ n (.ref m) (.ref (ρ m)) := by unfold Rp; exact ⟨hm, rfl⟩
theorem rp_con {u} (r : Rp K H ρ n (.con u) v) : v = u := by unfold Rp at r; exact r
theorem of_con {u} : Rp K H ρ n (.con u) u := by unfold Rp; rfl
theorem RpL.length : ∀ {ds : List D} {xs : List V}, RpL K H ρ n ds xs → ds.length = xs.length
  | [], xs, h => by unfold RpL at h; rw [h]; rfl
  | d :: ds, xs, h => by
    unfold RpL at h
    obtain ⟨x, r, rfl, _, h⟩ := h
    simp [RpL.length h]
theorem RpL.nil : RpL K H ρ n [] [] := by unfold RpL; rfl
theorem RpL.cons {d x ds xs} (h : Rp K H ρ n d x) (t : RpL K H ρ n ds xs) : RpL K H ρ n (d :: ds) (x :: xs) := by unfold RpL; exact ⟨x, xs, rfl, h, t⟩
theorem RpL.nil_inv {xs} (h : RpL K H ρ n [] xs) : xs = [] := by unfold RpL at h; exact h
theorem RpL.cons_inv {d ds xs} (h : RpL K H ρ n (d :: ds) xs) : ∃ x r, xs = x :: r ∧ Rp K H ρ n d x ∧ RpL K H ρ n ds r := by unfold RpL at h; exact h
theorem RpL.app : ∀ {a b : List D} {xs ys : List V}, RpL K H ρ n a xs → RpL K H ρ n b ys → RpL K H ρ n (a ++ b) (xs ++ ys)
  | [], b, xs, ys, h1, h2 => by rw [h1.nil_inv]; exact h2
  | d :: a, b, xs, ys, h1, h2 => by
    obtain ⟨x, r, rfl, r1, r2⟩ := h1.cons_inv
    exact RpL.cons r1 (RpL.app r2 h2)
theorem RpL.get : ∀ {ds : List D} {xs : List V} {i : Nat} {d : D}, RpL K H ρ n ds xs → ds[i]? = some d → ∃ x, xs[i]? = some x ∧ Rp K H ρ n d x
  | [], _, _, _, _, e => by simp at e
  | d :: ds, xs, 0, e', r, e => by
    obtain ⟨x, r', rfl, r1, _⟩ := r.cons_inv
    have : d = e' := by simpa using e
    subst this
    exact ⟨x, rfl, r1⟩
  | d :: ds, xs, i + 1, e', r, e => by
    obtain ⟨x, r', rfl, _, r2⟩ := r.cons_inv
    obtain ⟨y, h1, h2⟩ := RpL.get r2 (by simpa using e)
    exact ⟨y, by simpa using h1, h2⟩
theorem RpL.take : ∀ {ds : List D} {xs : List V} (k : Nat), RpL K H ρ n ds xs → RpL K H ρ n (ds.take k) (xs.take k)
  | _, _, 0, _ => by simp [RpL.nil]
  | [], xs, k + 1, h => by rw [h.nil_inv]; simp [RpL.nil]
  | d :: ds, xs, k + 1, h => by
    obtain ⟨x, r, rfl, r1, r2⟩ := h.cons_inv
    exact RpL.cons r1 (RpL.take k r2)
theorem RpL.drop : ∀ {ds : List D} {xs : List V} (k : Nat), RpL K H ρ n ds xs → RpL K H ρ n (ds.drop k) (xs.drop k)
  | _, _, 0, h => h
  | [], xs, k + 1, h => by rw [h.nil_inv]; simp [RpL.nil]
  | d :: ds, xs, k + 1, h => by
    obtain ⟨x, r, rfl, r1, r2⟩ := h.cons_inv
    exact RpL.drop k r2
theorem RpL.set : ∀ {ds : List D} {xs : List V} {d : D} {x : V} (j : Nat), RpL K H ρ n ds xs → Rp K H ρ n d x → RpL K H ρ n (ds.set j d) (xs.set j x)
  | [], xs, d, x, j, h, r => by rw [h.nil_inv]; exact RpL.nil
  | e :: ds, xs, d, x, 0, h, r => by
    obtain ⟨y, r', rfl, r1, r2⟩ := h.cons_inv
    exact RpL.cons r r2
  | e :: ds, xs, d, x, j + 1, h, r => by
    obtain ⟨y, r', rfl, r1, r2⟩ := h.cons_inv
    exact RpL.cons r1 (RpL.set j r2 r)
theorem RpL.rev : ∀ {ds : List D} {xs : List V}, RpL K H ρ n ds xs → RpL K H ρ n ds.reverse xs.reverse
  | [], xs, h => by rw [h.nil_inv]; exact RpL.nil
  | d :: ds, xs, h => by
    obtain ⟨x, r, rfl, r1, r2⟩ := h.cons_inv
    rw [List.reverse_cons, List.reverse_cons]
    exact (RpL.rev r2).app (RpL.cons r1 RpL.nil)
theorem rpl1 {d xs} (r : RpL K H ρ n [d] xs) : ∃ x, xs = [x] ∧ Rp K H ρ n d x := by
  obtain ⟨x, r', rfl, r1, r2⟩ := r.cons_inv
  rw [r2.nil_inv]
  exact ⟨x, rfl, r1⟩
theorem rpl2 {d e xs} (r : RpL K H ρ n [d, e] xs) : ∃ x y, xs = [x, y] ∧ Rp K H ρ n d x ∧ Rp K H ρ n e y := by
  obtain ⟨x, r', rfl, r1, r2⟩ := r.cons_inv
  obtain ⟨y, rfl, r3⟩ := rpl1 r2
  exact ⟨x, y, rfl, r1, r3⟩
end

/-! ### slots, constants -/
def slot : Fr → Nat → Option D
  | [], _ => none
  | x :: _, 0 => x
  | _ :: r, n + 1 => slot r n
theorem slot_get : ∀ {fr : Fr} {i : Nat} {d : D}, slot fr i = some d → fr[i]? = some (some d)
  | [], _, _, h => by cases h
  | x :: _, 0, d, h => by
    have : x = some d := h
    rw [this]; rfl
  | _ :: r, n + 1, d, h => by
    have := slot_get (fr := r) (i := n) (d := d) h
    simpa using this
def wVar (i : Nat) : WE := fun fr h P => match slot fr i with
  | some d => P d h
  | none => False
def wC (d : D) : WE := fun _ h P => P d h

section
variable {X : Cx} {pos : Pos}
theorem se_var {i : Nat} {x : Str} (hN : X.N[i]? = some x) (hv : Vis X.env.scope x) (hd : (x == ("__debug__" : Str)) = false) (hcd : (x == ("__classdict__" : Str)) = false) : SE X (.Name x pos) (wVar i) := by
  refine PE.imp (pe_var hN hv hd hcd) fun σ H Q ⟨ρ, fr, h, P, S, F, w, c⟩ => ?_
  unfold wVar at w
  split at w
  · rename_i d e
    obtain ⟨v, hv, r⟩ := F.at_ i d (slot_get e)
    exact ⟨v, hv, c ρ h H d v .refl S r w⟩
  · exact w.elim
/-- a constant: its value does not lean on the heap -/
theorem se_c {e : Expr} {d : D} {v : V} (he : PE X e (tC v)) (r : ∀ H ρ n, Rp X.kw H ρ n d v) : SE X e (wC d) :=
  PE.imp he fun σ H Q ⟨ρ, fr, h, P, S, F, w, c⟩ => c ρ h H d v .refl S (r _ _ _) w
theorem se_int {i j} : SE X (.Constant (.int i) j pos) (wC (.int i)) := se_c pe_int fun _ _ _ => of_int
theorem se_bl {b j} : SE X (.Constant (.bool b) j pos) (wC (.bl b)) := se_c pe_bl fun _ _ _ => of_bl
theorem se_non {j} : SE X (.Constant .none j pos) (wC .non) := se_c pe_non fun _ _ _ => of_non
def strB (s : List Nat) : Bool := decide (s.length ≤ sizeLine) && s.all (fun c => decide (c < 0x110000))
theorem strB_ok {s : List Nat} (h : strB s = true) : s.length ≤ sizeLine ∧ ∀ c ∈ s, c < 0x110000 := by
  unfold strB at h
  rw [Bool.and_eq_true] at h
  exact ⟨of_decide_eq_true h.1, fun c hc => of_decide_eq_true (List.all_eq_true.mp h.2 c hc)⟩
theorem mkS_of (x : Str) : mkS x.cps.toList = x := by cases x; rfl
theorem se_str {x : Str} {j} (hb : strB x.cps.toList = true) : SE X (.Constant (.str x) j pos) (wC (.str x.cps.toList)) := se_c pe_str fun _ _ _ => by
  unfold Rp
  exact ⟨by rw [mkS_of], strB_ok hb⟩

/-! ### argument lists -/
def waNil : WA := fun _ h P => P [] h
def waCons (w : WE) (r : WA) : WA := fun fr h P => w fr h fun d h1 => r fr h1 fun ds h2 => P (d :: ds) h2
theorem sa_nil : SA X [] waNil := PA.imp pa_nil fun σ H Q ⟨ρ, fr, h, P, S, F, w, c⟩ => c ρ h H [] [] .refl S RpL.nil w
theorem sa_cons {e : Expr} {es : List Expr} {w : WE} {r : WA} (he : SE X e w) (hr : SA X es r) (hs : starEach (e :: es) X.env = (false, eval e X.env) :: starEach es X.env) : SA X (e :: es) (waCons w r) := by
  refine PA.imp (pa_cons he hr hs) fun σ H Q ⟨ρ, fr, h, P, S, F, w, c⟩ => ?_
  refine ⟨ρ, fr, h, _, S, F, w, fun ρ1 h1 H1 d v e1 S1 r1 w1 => ?_⟩
  refine ⟨ρ1, fr, h1, _, S1, F.ext e1, w1, fun ρ2 h2 H2 ds xs e2 S2 r2 w2 => ?_⟩
  exact c ρ2 h2 H2 (d :: ds) (v :: xs) (e1.trans e2) S2 (RpL.cons (Rp.ext e2 d v r1) r2) w2

/-! ### tuples, lists -/
def wTup (a : WA) : WE := fun fr h P => a fr h fun ds h1 => ds.length ≤ sizeLine ∧ P (.tup ds) h1
/-- a list that will change -/
def wLstM (a : WA) : WE := fun fr h P => a fr h fun ds h1 => ds.length ≤ sizeLine ∧ P (.ref h1.length) (h1 ++ [.lst ds])
/-- a list that will not change -/
def wLst (a : WA) : WE := fun fr h P => a fr h fun ds h1 => ds.length ≤ sizeLine ∧ P (.lst ds) h1
/-- what a new tuple gives -/
theorem new_tup {K ρ h H P Q ds xs} (S : Sim K ρ h H) (r : RpL K H ρ h.length ds xs) (w : P (.tup ds) h) (c : ClE K ρ h H P Q) : ∀ p, H p = none → Q (.ref p) (upd H p (.tup xs)) := fun p hp => by
  have e : Ext K ρ h.length H ρ h.length (upd H p (.tup xs)) := Ext.new hp
  refine c ρ h _ (.tup ds) (.ref p) e (S.new hp) ?_ w
  unfold Rp
  exact ⟨p, xs, rfl, .inl upd_same, RpL.ext e ds xs r⟩
theorem new_lst {K ρ h H P Q ds xs} (S : Sim K ρ h H) (r : RpL K H ρ h.length ds xs) (w : P (.lst ds) h) (c : ClE K ρ h H P Q) : ∀ p, H p = none → Q (.ref p) (upd H p (.lst xs)) := fun p hp => by
  have e : Ext K ρ h.length H ρ h.length (upd H p (.lst xs)) := Ext.new hp
  refine c ρ h _ (.lst ds) (.ref p) e (S.new hp) ?_ w
  unfold Rp
  exact ⟨p, xs, rfl, ⟨S.off hp, .inl upd_same⟩, RpL.ext e ds xs r⟩
theorem new_lstM {K ρ h H P Q ds xs} (S : Sim K ρ h H) (r : RpL K H ρ h.length ds xs) (w : P (.ref h.length) (h ++ [.lst ds])) (c : ClE K ρ h H P Q) : ∀ p, H p = none → Q (.ref p) (upd H p (.lst xs)) := fun p hp => by
  have e1 : Ext K ρ h.length H (rho ρ h.length p) (h.length + 1) (upd H p (.lst xs)) := Ext.newOb hp
  have e : Ext K ρ h.length H (rho ρ h.length p) (h ++ [Ob.lst ds]).length (upd H p (.lst xs)) := by
    rw [List.length_append]; exact e1
  refine c (rho ρ h.length p) _ _ (.ref h.length) (.ref p) e (S.newOb hp ⟨xs, upd_same, RpL.ext e1 ds xs r⟩) ?_ w
  unfold Rp
  exact ⟨by simp, by rw [rho_new]⟩
theorem se_tup {es : List Expr} {k} {a : WA} (h : SA X es a) : SE X (.Tuple es k pos) (wTup a) := by
  refine PE.imp (pe_tup h) fun σ H Q ⟨ρ, fr, h, P, S, F, w, c⟩ => ?_
  refine ⟨ρ, fr, h, _, S, F, w, fun ρ1 h1 H1 ds xs e1 S1 r1 w1 => ?_⟩
  exact ⟨by rw [← r1.length]; exact w1.1, new_tup S1 r1 w1.2 (c.step e1)⟩
theorem se_lst {es : List Expr} {a : WA} (h : SA X es a) : SE X (.List es pos) (wLst a) := by
  refine PE.imp (pe_lst h) fun σ H Q ⟨ρ, fr, h, P, S, F, w, c⟩ => ?_
  refine ⟨ρ, fr, h, _, S, F, w, fun ρ1 h1 H1 ds xs e1 S1 r1 w1 => ?_⟩
  exact ⟨by rw [← r1.length]; exact w1.1, new_lst S1 r1 w1.2 (c.step e1)⟩
theorem se_lstM {es : List Expr} {a : WA} (h : SA X es a) : SE X (.List es pos) (wLstM a) := by
  refine PE.imp (pe_lst h) fun σ H Q ⟨ρ, fr, h, P, S, F, w, c⟩ => ?_
  refine ⟨ρ, fr, h, _, S, F, w, fun ρ1 h1 H1 ds xs e1 S1 r1 w1 => ?_⟩
  exact ⟨by rw [← r1.length]; exact w1.1, new_lstM S1 r1 w1.2 (c.step e1)⟩

/-! ### operators -/
def wOp (g : W2) (a b : WE) : WE := fun fr h P => a fr h fun x h1 => b fr h1 fun y h2 => g x y h2 P
def wUn (g : W1) (a : WE) : WE := fun fr h P => a fr h fun x h1 => g x h1 P
theorem op_lift {K : KW} {a b : WE} {g : W2} {σ H Q} (q : liftE K (wOp g a b) σ H Q) : tOp (lift2 K g) (liftE K a) (liftE K b) σ H Q := by
  obtain ⟨ρ, fr, h, P, S, F, w, c⟩ := q
  refine ⟨ρ, fr, h, _, S, F, w, fun ρ1 h1 H1 d v e1 S1 r1 w1 => ?_⟩
  refine ⟨ρ1, fr, h1, _, S1, F.ext e1, w1, fun ρ2 h2 H2 d2 v2 e2 S2 r2 w2 => ?_⟩
  exact ⟨ρ2, h2, d, d2, P, S2, Rp.ext e2 _ _ r1, r2, w2, c.step (e1.trans e2)⟩
theorem se_op {op : Operator} {a b : Expr} {wa wb : WE} {g : W2} (ho : OpR X (binaryOp op) (lift2 X.kw g)) (ha : SE X a wa) (hb : SE X b wb) : SE X (.BinOp a op b pos) (wOp g wa wb) :=
  PE.imp (pe_op ho ha hb) fun σ H Q q => op_lift q
theorem se_cmp {op : CmpOp} {a b : Expr} {wa wb : WE} {g : W2} (ho : OpR X (compareOp op) (lift2 X.kw g)) (ha : SE X a wa) (hb : SE X b wb) (hm : behindInMarks op b = false) : SE X (.Compare a [op] [b] pos) (wOp g wa wb) :=
  PE.imp (pe_cmpR ho ha hb hm) fun σ H Q q => op_lift q
theorem se_un {op : UnaryOp} {a : Expr} {wa : WE} {g : W1} (ho : UnR X (unaryOp op) (lift1 X.kw g)) (ha : SE X a wa) : SE X (.UnaryOp op a pos) (wUn g wa) := by
  refine PE.imp (pe_un ho ha) fun σ H Q ⟨ρ, fr, h, P, S, F, w, c⟩ => ?_
  refine ⟨ρ, fr, h, _, S, F, w, fun ρ1 h1 H1 d v e1 S1 r1 w1 => ?_⟩
  exact ⟨ρ1, h1, d, P, S1, r1, w1, c.step e1⟩

/-! ### tests -/
def wtB (w : WE) : WT := fun fr h P => w fr h fun d h1 => match d with
  | .bl b => P b h1
  | _ => False
theorem st_bool {t : TE} {e : Expr} {w : WE} (h : PT X e (tTest t)) (i : ∀ σ H Q, liftE X.kw w σ H Q → t σ H Q) : ST X e (wtB w) := by
  refine PT.imp h fun σ H Q ⟨ρ, fr, h, P, S, F, w, c⟩ => i _ _ _ ⟨ρ, fr, h, _, S, F, w, fun ρ1 h1 H1 d v e1 S1 r1 w1 => ?_⟩
  cases d with
  | bl b => exact ⟨b, rp_bl r1, c ρ1 h1 H1 b e1 S1 w1⟩
  | _ => exact w1.elim
theorem st_cmp {op : CmpOp} {a b : Expr} {wa wb : WE} {g : W2} (ho : OpR X (compareOp op) (lift2 X.kw g)) (ha : SE X a wa) (hb : SE X b wb) (hm : behindInMarks op b = false) : ST X (.Compare a [op] [b] pos) (wtB (wOp g wa wb)) :=
  st_bool (pt_cmpR ho ha hb hm) fun σ H Q q => op_lift q
/-- a op1 b op2 c -/
def wChain (g g' : W2) (a b c : WE) : WE := fun fr h P => a fr h fun x h1 => b fr h1 fun y h2 => g x y h2 fun z h3 => match z with
  | .bl true => c fr h3 fun u h4 => g' y u h4 P
  | .bl false => P (.bl false) h3
  | _ => False
theorem chain_lift {K : KW} {a b c : WE} {g g' : W2} {σ H Q} (q : liftE K (wChain g g' a b c) σ H Q) : tChain (lift2 K g) (lift2 K g') (liftE K a) (liftE K b) (liftE K c) σ H Q := by
  obtain ⟨ρ, fr, h, P, S, F, w, c⟩ := q
  refine ⟨ρ, fr, h, _, S, F, w, fun ρ1 h1 H1 d v e1 S1 r1 w1 => ?_⟩
  refine ⟨ρ1, fr, h1, _, S1, F.ext e1, w1, fun ρ2 h2 H2 d2 v2 e2 S2 r2 w2 => ?_⟩
  refine ⟨ρ2, h2, d, d2, _, S2, Rp.ext e2 _ _ r1, r2, w2, fun ρ3 h3 H3 d3 v3 e3 S3 r3 w3 => ?_⟩
  cases d3 with
  | bl k =>
    refine ⟨k, rp_bl r3, ?_⟩
    cases k with
    | true =>
      rw [if_pos rfl]
      refine ⟨ρ3, fr, h3, _, S3, F.ext (e1.trans (e2.trans e3)), w3, fun ρ4 h4 H4 d4 v4 e4 S4 r4 w4 => ?_⟩
      exact ⟨ρ4, h4, d2, d4, P, S4, Rp.ext (e3.trans e4) _ _ r2, r4, w4, c.step (e1.trans (e2.trans (e3.trans e4)))⟩
    | false =>
      rw [if_neg Bool.false_ne_true]
      exact c ρ3 h3 H3 (.bl false) (.bl false) (e1.trans (e2.trans e3)) S3 of_bl w3
  | _ => exact w3.elim
theorem se_chain {op op' : CmpOp} {a b c : Expr} {wa wb wc : WE} {g g' : W2} (ho : OpR X (compareOp op) (lift2 X.kw g)) (ho' : OpR X (compareOp op') (lift2 X.kw g')) (ha : SE X a wa) (hb : SE X b wb) (hc : SE X c wc)
    (hm : lastMarks [op, op'] [b, c] = false) : SE X (.Compare a [op, op'] [b, c] pos) (wChain g g' wa wb wc) :=
  PE.imp (pe_chain ho ho' ha hb hc hm) fun σ H Q q => chain_lift q
theorem st_chain {op op' : CmpOp} {a b c : Expr} {wa wb wc : WE} {g g' : W2} (ho : OpR X (compareOp op) (lift2 X.kw g)) (ho' : OpR X (compareOp op') (lift2 X.kw g')) (ha : SE X a wa) (hb : SE X b wb) (hc : SE X c wc)
    (hm : lastMarks [op, op'] [b, c] = false) : ST X (.Compare a [op, op'] [b, c] pos) (wtB (wChain g g' wa wb wc)) :=
  st_bool (pt_chain ho ho' ha hb hc hm) fun σ H Q q => chain_lift q

/-- the list with a number -/
def lstAt (h : Hq) (n : Nat) : Option (List D) := match h[n]? with
  | some (.lst ds) => some ds
  | _ => none
theorem lstAt_get {h : Hq} {n : Nat} {ds : List D} (e : lstAt h n = some ds) : h[n]? = some (.lst ds) := by
  unfold lstAt at e
  split at e
  · rename_i x hx; rw [hx, Option.some.inj e]
  · cases e
theorem Sim.lstAt {K ρ h H n ds} (S : Sim K ρ h H) (e : lstAt h n = some ds) : ∃ xs, H (ρ n) = some (.lst xs) ∧ RpL K H ρ h.length ds xs := S.ob n _ (lstAt_get e)
/-- the items of a tuple, of a list -/
def seqOf (h : Hq) : D → Option (List D)
  | .tup ds => some ds
  | .lst ds => some ds
  | .ref n => lstAt h n
  | .scr ns => some (ns.map D.int)
  | _ => none
theorem RpL.ints {K H ρ n} : ∀ ns : List Int, RpL K H ρ n (ns.map D.int) (ns.map V.int)
  | [] => RpL.nil
  | i :: ns => RpL.cons of_int (RpL.ints ns)
/-- the items of a list -/
def lisOf (h : Hq) : D → Option (List D)
  | .lst ds => some ds
  | .ref n => lstAt h n
  | _ => none
theorem lis_okM {K ρ h H d v ds} (S : Sim K ρ h H) (r : Rp K H ρ h.length d v) (e : lisOf h d = some ds) : ∃ a xs, v = .ref a ∧ Rd H a (.lst xs) ∧ RpL K H ρ h.length ds xs := by
  cases d with
  | lst es =>
    cases e
    obtain ⟨a, xs, h1, h2, h3⟩ := rp_lstT r
    exact ⟨a, xs, h1, h2.2, h3⟩
  | ref m =>
    obtain ⟨xs, hx, l⟩ := S.lstAt e
    exact ⟨_, xs, (rp_ref r).2, .inl hx, l⟩
  | _ => cases e
theorem lis_ok {K ρ h H d v ds} (S : Sim K ρ h H) (r : Rp K H ρ h.length d v) (e : lisOf h d = some ds) : ∃ a xs, v = .ref a ∧ SqL K.1 H a xs ∧ RpL K H ρ h.length ds xs := by
  cases d with
  | lst es => cases e; exact rp_lst r
  | ref m =>
    obtain ⟨xs, hx, l⟩ := S.lstAt e
    exact ⟨_, xs, (rp_ref r).2, .inl (.inl hx), l⟩
  | _ => cases e
theorem seq_ok {K ρ h H d v ds} (S : Sim K ρ h H) (r : Rp K H ρ h.length d v) (e : seqOf h d = some ds) : ∃ a xs, v = .ref a ∧ (SqL K.1 H a xs ∨ SqT K.1 H a xs) ∧ RpL K H ρ h.length ds xs := by
  cases d with
  | tup es => cases e; obtain ⟨a, xs, h1, h2, h3⟩ := rp_tup r; exact ⟨a, xs, h1, .inr h2, h3⟩
  | lst es => cases e; obtain ⟨a, xs, h1, h2, h3⟩ := rp_lst r; exact ⟨a, xs, h1, .inl h2, h3⟩
  | ref m =>
    obtain ⟨xs, hx, l⟩ := S.lstAt e
    exact ⟨_, xs, (rp_ref r).2, .inl (.inl (.inl hx)), l⟩
  | scr ns => cases e; obtain ⟨a, h1, h2⟩ := rp_scr r; exact ⟨a, _, h1, .inl h2, RpL.ints ns⟩
  | _ => cases e
/-- a value's truth -/
def tru (h : Hq) : D → Option Bool
  | .non => some false
  | .bl b => some b
  | .int i => some (i != 0)
  | .str s => some (!s.isEmpty)
  | .tup ds => some (!ds.isEmpty)
  | .lst ds => some (!ds.isEmpty)
  | .ref n => (lstAt h n).map fun ds => !ds.isEmpty
  | .dct _ _ => none
  | .scr _ => none
  | .con _ => none
theorem emp_rpl {K H ρ n} {ds : List D} {xs : List V} (l : RpL K H ρ n ds xs) : ds.isEmpty = xs.isEmpty := by
  cases ds with
  | nil => rw [l.nil_inv]; rfl
  | cons d ds => obtain ⟨x, r, rfl, _⟩ := l.cons_inv; rfl
theorem tru_ok' {K ρ h H d v b} (S : Sim K ρ h H) (r : Rp K H ρ h.length d v) (e : tru h d = some b) : TruV K.1 v H b := by
  cases d with
  | non => rw [rp_non r]; cases e; rfl
  | bl x => rw [rp_bl r]; cases e; rfl
  | int i => rw [rp_int r]; cases e; rfl
  | str s =>
    obtain ⟨rfl, hl, _⟩ := rp_str r
    have e' : (!s.isEmpty) = b := Option.some.inj e
    refine ⟨by show s.toArray.size ≤ _; simpa using hl, ?_⟩
    subst e'
    show _ = (((s.toArray.size : Nat) : Int) != 0)
    cases s with
    | nil => rfl
    | cons c r2 =>
      show true = _
      have : ((((c :: r2).toArray.size : Nat) : Int) != 0) = true := by
        rw [bne_iff_ne]
        simp only [List.size_toArray, List.length_cons]
        omega
      rw [this]
  | tup ds =>
    obtain ⟨a, xs, rfl, hq, rl⟩ := rp_tup r
    have e' : (!ds.isEmpty) = b := Option.some.inj e
    exact .inr (.inl ⟨xs, hq, by rw [← e', emp_rpl rl]⟩)
  | lst ds =>
    obtain ⟨a, xs, rfl, hq, rl⟩ := rp_lst r
    have e' : (!ds.isEmpty) = b := Option.some.inj e
    exact .inl ⟨xs, hq, by rw [← e', emp_rpl rl]⟩
  | ref n =>
    obtain ⟨hn, rfl⟩ := rp_ref r
    have e2 : (lstAt h n).map (fun ds => !ds.isEmpty) = some b := e
    cases hd : lstAt h n with
    | none => rw [hd] at e2; cases e2
    | some ds =>
      rw [hd] at e2
      obtain ⟨xs, hx, rl⟩ := S.lstAt hd
      have e' : (!ds.isEmpty) = b := Option.some.inj e2
      exact .inl ⟨xs, .inl (.inl hx), by rw [← e', emp_rpl rl]⟩
  | dct ks vs => cases e
  | scr ns => cases e
  | con u => cases e
def wtTru (w : WE) : WT := fun fr h P => w fr h fun d h1 => match tru h1 d with
  | some b => P b h1
  | none => False
/-- e as a test, by its value's truth -/
theorem st_tru {e : Expr} {w : WE} (he : SE X e w) (hp : ∀ whole, isTrue e X.env whole = (do let v ← whole; standAt e.pos; holding [v] (truthy v))) : ST X e (wtTru w) := by
  refine PT.imp (pt_truth he hp) fun σ H Q ⟨ρ, fr, h, P, S, F, w, c⟩ => ?_
  refine ⟨ρ, fr, h, _, S, F, w, fun ρ1 h1 H1 d v e1 S1 r1 w1 => ?_⟩
  split at w1
  · rename_i b hb
    exact ⟨b, tru_ok' S1 r1 hb, c ρ1 h1 H1 b e1 S1 w1⟩
  · exact w1.elim
def wtNot (t : WT) : WT := fun fr h P => t fr h fun b h1 => P (!b) h1
def wtAnd (t u : WT) : WT := fun fr h P => t fr h fun b h1 => if b = true then u fr h1 P else P false h1
def wtOr (t u : WT) : WT := fun fr h P => t fr h fun b h1 => if b = true then P true h1 else u fr h1 P
theorem st_not {a : Expr} {t : WT} (h : ST X a t) : ST X (.UnaryOp .Not a pos) (wtNot t) :=
  PT.imp (pt_not h) fun σ H Q ⟨ρ, fr, h, P, S, F, w, c⟩ => ⟨ρ, fr, h, _, S, F, w, fun ρ1 h1 H1 b e1 S1 w1 => c ρ1 h1 H1 (!b) e1 S1 w1⟩
abbrev SW (X : Cx) (e : Expr) (w : WT) : Prop := PW X e (liftT X.kw w)
theorem sw_and1 {a : Expr} {t : WT} (h : ST X a t) : SW X (.BoolOp .And [a] pos) t := pw_and1 h
theorem sw_or1 {a : Expr} {t : WT} (h : ST X a t) : SW X (.BoolOp .Or [a] pos) t := pw_or1 h
theorem sw_and {a b : Expr} {rest : List Expr} {t u : WT} (ha : ST X a t) (hb : SW X (.BoolOp .And (b :: rest) pos) u) : SW X (.BoolOp .And (a :: b :: rest) pos) (wtAnd t u) := by
  refine PW.imp (pw_and ha hb) fun σ H Q ⟨ρ, fr, h, P, S, F, w, c⟩ => ⟨ρ, fr, h, _, S, F, w, fun ρ1 h1 H1 b e1 S1 w1 => ?_⟩
  cases b with
  | true => exact ⟨ρ1, fr, h1, P, S1, F.ext e1, w1, c.step e1⟩
  | false => exact c ρ1 h1 H1 false e1 S1 w1
theorem sw_or {a b : Expr} {rest : List Expr} {t u : WT} (ha : ST X a t) (hb : SW X (.BoolOp .Or (b :: rest) pos) u) : SW X (.BoolOp .Or (a :: b :: rest) pos) (wtOr t u) := by
  refine PW.imp (pw_or ha hb) fun σ H Q ⟨ρ, fr, h, P, S, F, w, c⟩ => ⟨ρ, fr, h, _, S, F, w, fun ρ1 h1 H1 b e1 S1 w1 => ?_⟩
  cases b with
  | true => exact c ρ1 h1 H1 true e1 S1 w1
  | false => exact ⟨ρ1, fr, h1, P, S1, F.ext e1, w1, c.step e1⟩
def wIf (t : WT) (a b : WE) : WE := fun fr h P => t fr h fun k h1 => if k = true then a fr h1 P else b fr h1 P
theorem se_if {c a b : Expr} {t : WT} {wa wb : WE} (hc : ST X c t) (ha : SE X a wa) (hb : SE X b wb) : SE X (.IfExp c a b pos) (wIf t wa wb) := by
  refine PE.imp (pe_ifExp hc ha hb) fun σ H Q ⟨ρ, fr, h, P, S, F, w, c⟩ => ⟨ρ, fr, h, _, S, F, w, fun ρ1 h1 H1 b e1 S1 w1 => ?_⟩
  cases b with
  | true => exact ⟨ρ1, fr, h1, P, S1, F.ext e1, w1, c.step e1⟩
  | false => exact ⟨ρ1, fr, h1, P, S1, F.ext e1, w1, c.step e1⟩
end
end MP

namespace MP
open PySem PySem.Spec PyProof.Rows L2

/-! ### data and its comparison -/
mutual
def toPy : D → PyData
  | .non => .none
  | .bl b => .bool b
  | .int i => .int i
  | .str s => .str (mkS s)
  | .tup ds => .tuple (toPyL ds)
  | .lst ds => .list (toPyL ds)
  | .dct _ _ => .none
  | .scr _ => .none
  | .ref _ => .none
  | .con _ => .none
def toPyL : List D → List PyData
  | [] => []
  | d :: ds => toPy d :: toPyL ds
end
mutual
def deq : D → D → Bool
  | .non, e => (match e with | .non => true | _ => false)
  | .bl a, e => (match e with | .bl b => a == b | .int j => (if a then 1 else 0) == j | _ => false)
  | .int i, e => (match e with | .bl b => i == (if b then 1 else 0) | .int j => i == j | _ => false)
  | .str x, e => (match e with | .str y => x == y | _ => false)
  | .tup xs, e => (match e with | .tup ys => deqL xs ys | _ => false)
  | .lst xs, e => (match e with | .lst ys => deqL xs ys | _ => false)
  | .dct _ _, _ => false
  | .scr _, _ => false
  | .ref _, _ => false
  | .con _, _ => false
def deqL : List D → List D → Bool
  | [], e => (match e with | [] => true | _ => false)
  | x :: xs, e => (match e with | [] => false | y :: ys => deq x y && deqL xs ys)
end
/-- a tree without objects, at most n deep -/
def okD : Nat → D → Bool
  | _, .non | _, .bl _ | _, .int _ | _, .str _ => true
  | n + 1, .tup ds => ds.all (okD n)
  | n + 1, .lst ds => ds.all (okD n)
  | 0, .tup _ | 0, .lst _ => false
  | _, .ref _ | _, .con _ | _, .dct _ _ | _, .scr _ => false

theorem mkS_eq (x y : List Nat) : (mkS x == mkS y) = (x == y) := by
  by_cases h : x = y
  · subst h; simp
  · rw [beq_eq_false_iff_ne.mpr h, beq_eq_false_iff_ne]
    exact fun e => h (mkS_inj e)

theorem eqvAll_of {n : Nat} (ih : ∀ d e, okD n d = true → okD n e = true → PyData.eqv (toPy d) (toPy e) = deq d e) : ∀ (xs ys : List D), xs.all (okD n) = true → ys.all (okD n) = true → PyData.eqvAll (toPyL xs) (toPyL ys) = deqL xs ys
  | [], [], _, _ => by simp [toPyL, PyData.eqvAll, deqL]
  | [], y :: ys, _, _ => by simp [toPyL, PyData.eqvAll, deqL]
  | x :: xs, [], _, _ => by simp [toPyL, PyData.eqvAll, deqL]
  | x :: xs, y :: ys, h1, h2 => by
    simp only [List.all_cons, Bool.and_eq_true] at h1 h2
    simp only [toPyL, PyData.eqvAll, deqL]
    rw [ih x y h1.1 h2.1, eqvAll_of ih xs ys h1.2 h2.2]
theorem eqv_deq : ∀ (n : Nat) (d e : D), okD n d = true → okD n e = true → PyData.eqv (toPy d) (toPy e) = deq d e := by
  intro n
  induction n with
  | zero =>
    intro d e h1 h2
    cases d <;> cases e <;> first
      | (cases h1; done)
      | (cases h2; done)
      | simp only [toPy, PyData.eqv, deq, mkS_eq]
  | succ n ih =>
    intro d e h1 h2
    cases d <;> cases e <;> first
      | (cases h1; done)
      | (cases h2; done)
      | (simp only [toPy, PyData.eqv, deq, mkS_eq]; done)
      | (simp only [toPy, PyData.eqv, deq]; simp only [okD] at h1 h2; exact eqvAll_of ih _ _ h1 h2)

theorem strOk_of {s : List Nat} (h : ∀ c ∈ s, c < 0x110000) : PyData.strOk (mkS s) = true := by
  unfold PyData.strOk mkS
  simpa using h

mutual
theorem Dp.of {K ρ H n} : ∀ (m : Nat) (d : D) (v : V), okD m d = true → Rp K H ρ n d v → Dp K.1 H v (toPy d) ∧ (toPy d).canLay0 = true ∧ (toPy d).depth ≤ m
  | m, .non, v, _, r => by rw [rp_non r]; simp only [toPy]; exact ⟨.non, by simp [PyData.canLay0], by simp [PyData.depth]⟩
  | m, .bl b, v, _, r => by rw [rp_bl r]; simp only [toPy]; exact ⟨.bl _, by simp [PyData.canLay0], by simp [PyData.depth]⟩
  | m, .int b, v, _, r => by rw [rp_int r]; simp only [toPy]; exact ⟨.int _, by simp [PyData.canLay0], by simp [PyData.depth]⟩
  | m, .str b, v, _, r => by
    obtain ⟨rfl, _, h⟩ := rp_str r
    simp only [toPy]
    exact ⟨.str _, by simp only [PyData.canLay0]; exact strOk_of h, by simp [PyData.depth]⟩
  | m + 1, .tup ds, v, o, r => by
    obtain ⟨a, xs, rfl, hq, rl⟩ := rp_tup r
    simp only [okD] at o
    obtain ⟨h1, h2, h3⟩ := DpAll.of m ds xs o rl
    simp only [toPy]
    exact ⟨.tup hq h1, by simp only [PyData.canLay0]; exact h2, by simp only [PyData.depth]; omega⟩
  | m + 1, .lst ds, v, o, r => by
    obtain ⟨a, xs, rfl, hq, rl⟩ := rp_lst r
    simp only [okD] at o
    obtain ⟨h1, h2, h3⟩ := DpAll.of m ds xs o rl
    simp only [toPy]
    exact ⟨.lst hq h1, by simp only [PyData.canLay0]; exact h2, by simp only [PyData.depth]; omega⟩
  | 0, .tup ds, v, o, r => by simp [okD] at o
  | 0, .lst ds, v, o, r => by simp [okD] at o
  | m, .dct _ _, v, o, r => by cases m <;> simp [okD] at o
  | m, .scr _, v, o, r => by cases m <;> simp [okD] at o
  | m, .ref _, v, o, r => by cases m <;> simp [okD] at o
  | m, .con _, v, o, r => by cases m <;> simp [okD] at o
theorem DpAll.of {K ρ H n} : ∀ (m : Nat) (ds : List D) (xs : List V), ds.all (okD m) = true → RpL K H ρ n ds xs → DpAll K.1 H xs (toPyL ds) ∧ PyData.canLayAll0 (toPyL ds) = true ∧ PyData.depthAll (toPyL ds) ≤ m
  | m, [], xs, _, r => by rw [r.nil_inv]; simp only [toPyL]; exact ⟨.nil, by simp [PyData.canLayAll0], by simp [PyData.depthAll]⟩
  | m, d :: ds, xs, o, r => by
    obtain ⟨x, r', rfl, r1, r2⟩ := r.cons_inv
    simp only [List.all_cons, Bool.and_eq_true] at o
    obtain ⟨a1, a2, a3⟩ := Dp.of m d x o.1 r1
    obtain ⟨b1, b2, b3⟩ := DpAll.of m ds r' o.2 r2
    simp only [toPyL]
    exact ⟨.cons a1 b1, by simp [PyData.canLayAll0, a2, b2], by simp only [PyData.depthAll]; omega⟩
end

/-- a list of the heap as it is -/
def topD (h : Hq) : D → Option D
  | .ref n => (lstAt h n).map D.lst
  | d => some d
theorem topD_ok {K ρ h H d v e m} (S : Sim K ρ h H) (r : Rp K H ρ h.length d v) (q : topD h d = some e) (o : okD m e = true) : Dp K.1 H v (toPy e) ∧ (toPy e).canLay0 = true ∧ (toPy e).depth ≤ m := by
  cases d with
  | ref n =>
    have q' : (lstAt h n).map D.lst = some e := q
    cases hd : lstAt h n with
    | none => rw [hd] at q'; cases q'
    | some ds =>
      rw [hd] at q'
      cases q'
      obtain ⟨xs, hx, l⟩ := S.lstAt hd
      rw [(rp_ref r).2]
      cases m with
      | zero => simp [okD] at o
      | succ m =>
        simp only [okD] at o
        obtain ⟨h1, h2, h3⟩ := DpAll.of m ds xs o l
        simp only [toPy]
        exact ⟨.lst (.inl (.inl hx)) h1, by simp only [PyData.canLay0]; exact h2, by simp only [PyData.depth]; omega⟩
  | _ => cases q; exact Dp.of m _ _ o r
theorem shaped_of {m : Nat} {d : D} (hm : m ≤ 40) (h1 : (toPy d).canLay0 = true) (h2 : (toPy d).depth ≤ m) : SeqAt.shaped (toPy d) = true := by
  unfold SeqAt.shaped; rw [h1]; exact decide_eq_true (by omega)
/-- == of data -/
def gEqN (neg : Bool) : W2 := fun d e h P => match d, e with
  | .int i, .int j => P (.bl (xor neg (i == j))) h
  | .str x, .str y => P (.bl (xor neg (x == y))) h
  | d, e => (match topD h d, topD h e with
    | some a, some b => (okD 40 a = true ∧ okD 40 b = true) ∧ P (.bl (xor neg (deq a b))) h
    | _, _ => False)
abbrev gEq : W2 := gEqN false
abbrev gNe : W2 := gEqN true
theorem gEqN_inv {neg : Bool} {d e : D} {h : Hq} {P : WK} (w : gEqN neg d e h P) : ∃ a b, topD h d = some a ∧ topD h e = some b ∧ okD 40 a = true ∧ okD 40 b = true ∧ P (.bl (xor neg (deq a b))) h := by
  unfold gEqN at w
  split at w
  · exact ⟨_, _, rfl, rfl, rfl, rfl, w⟩
  · exact ⟨_, _, rfl, rfl, rfl, rfl, w⟩
  · split at w
    · rename_i q1 q2
      exact ⟨_, _, q1, q2, w.1.1, w.1.2, w.2⟩
    · exact w.elim
section
variable {X : Cx}
theorem og_eq (hu : X.A.units + 64 < cLine) : OpR X (compareOp .Eq) (lift2 X.kw gEq) := by
  refine OpR.imp (op_eqD hu) fun x y H Q ⟨ρ, h, d, e, P, S, r1, r2, w, c⟩ => ?_
  obtain ⟨a, b, q1, q2, o1, o2, w⟩ := gEqN_inv w
  obtain ⟨a1, a2, a3⟩ := topD_ok S r1 q1 o1
  obtain ⟨b1, b2, b3⟩ := topD_ok S r2 q2 o2
  refine ⟨_, _, a1, b1, shaped_of (Nat.le_refl _) a2 a3, shaped_of (Nat.le_refl _) b2 b3, ?_⟩
  rw [eqv_deq 40 a b o1 o2]
  exact c ρ h H _ _ .refl S of_bl (by simpa using w)
theorem og_ne (hu : X.A.units + 64 < cLine) : OpR X (compareOp .NotEq) (lift2 X.kw gNe) := by
  refine OpR.imp (op_neD hu) fun x y H Q ⟨ρ, h, d, e, P, S, r1, r2, w, c⟩ => ?_
  obtain ⟨a, b, q1, q2, o1, o2, w⟩ := gEqN_inv w
  obtain ⟨a1, a2, a3⟩ := topD_ok S r1 q1 o1
  obtain ⟨b1, b2, b3⟩ := topD_ok S r2 q2 o2
  refine ⟨_, _, a1, b1, shaped_of (Nat.le_refl _) a2 a3, shaped_of (Nat.le_refl _) b2 b3, ?_⟩
  rw [eqv_deq 40 a b o1 o2]
  exact c ρ h H _ _ .refl S of_bl (by simpa using w)
end
end MP

namespace MP
open PySem PySem.Spec PyProof.Rows L2

/-! ### lists, by what they are -/
section
variable {X : Cx} {pins : List (Addr × Obj)} {σ : L2.St} {H : Hp} {s : Shared}
theorem lstR {l : Addr} {xs : List V} (I : Inv X pins σ H s) (hH : Rd H l (.lst xs)) : xs.length ≤ sizeLine ∧ ∃ (its : List Value) (n : Nat), Vals xs its ∧ xs.length = its.length ∧ s.heap.get? l = some { cls := .type "list", data := .seq its.toArray n } := by
  obtain ⟨z, its, n, r, e⟩ := hH.ok I.hok
  exact ⟨z, its, n, r, r.length, e⟩
theorem op_catL : OpR X (binaryOp .Add) (fun x y H Q => ∃ l b xs zs, x = .ref l ∧ y = .ref b ∧ Rd H l (.lst xs) ∧ Rd H b (.lst zs) ∧ xs.length + zs.length ≤ sizeLine ∧ ∀ p, H p = none → Q (.ref p) (upd H p (.lst (xs ++ zs)))) := by
  intro pins s σ H x y v u Q I rx ry h
  obtain ⟨l, b, xs, zs, rfl, rfl, hH, hB, hz, q⟩ := h
  cases rx
  cases ry
  obtain ⟨z, its, n, r, hl, e⟩ := lstR I hH
  obtain ⟨z2, its2, n2, r2, hl2, e2⟩ := lstR I hB
  refine PySem.P.add_list e e2 ?_ (by rw [List.size_toArray, List.size_toArray]; omega)
  have ea : its.toArray ++ its2.toArray = (its ++ its2).toArray := by simp
  rw [ea]
  exact ⟨.ref _, _, I.lnew (t' := s.toks) (r.append r2) (by rw [List.length_append]; omega), rfl, q _ I.fresh⟩
theorem op_repL : OpR X (binaryOp .Mult) (fun x y H Q => ∃ l k xs, x = .ref l ∧ y = .int k ∧ Rd H l (.lst xs) ∧ -(2 ^ 63) ≤ k ∧ k < 2 ^ 63 ∧ xs.length * k.toNat ≤ sizeLine ∧
    ∀ p, H p = none → Q (.ref p) (upd H p (.lst (List.replicate k.toNat xs).flatten))) := by
  intro pins s σ H x y v u Q I rx ry h
  obtain ⟨l, k, xs, rfl, rfl, hH, h1, h2, hz, q⟩ := h
  cases rx
  obtain ⟨t, rfl⟩ := ry
  obtain ⟨z, its, n, r, hl, e⟩ := lstR I hH
  have hlen : its.toArray.size * k.toNat ≤ sizeLine := by rw [List.size_toArray, ← hl]; exact hz
  have hcap : ¬ its.toArray.size * k.toNat > (2 ^ 63 - 1) / 8 := by
    have : (sizeLine : Nat) ≤ (2 ^ 63 - 1) / 8 := by decide
    omega
  have hfit : ¬ (!Builtin.List.listFitsIndex k) = true := by
    rw [fitsIndex_both h1 h2]
    exact Bool.false_ne_true
  have hlong : ¬ Builtin.List.listTooLong (its.toArray.size * k.toNat) = true := by
    rw [notLongL hlen]
    exact Bool.false_ne_true
  have hnew : List.foldl (fun x1 x2 => x1 ++ x2) #[] (List.replicate (if its.toArray.isEmpty = true then 0 else k.toNat) its.toArray) = (List.replicate k.toNat its).flatten.toArray := by
    have f0 : ∀ m : Nat, List.foldl (fun x1 x2 => x1 ++ x2) #[] (List.replicate m its.toArray) = (List.replicate m its).flatten.toArray := fun m => by
      have := foldl_rep its m []
      rw [List.nil_append] at this
      exact this
    rw [f0]
    cases its with
    | nil => simp
    | cons a r' => rw [if_neg (by simp)]
  refine wpAny_binaryOp_repeat_ref (T := "list") (U := "int") (by decide) ⟨_, e, rfl⟩ (fun s' => typeIs_int s' k t) noFill_list_mul F.fills_int_mul F.slot_int_rmul repeat_list F.slot_int_index.lookup
    (call_meets F.slot_int_rmul (typeIs_int s k t) F.entry_int_rmul (F.args_int_rmul_2 _ _) (int___rmul___int_list k t l its.toArray n)
      ⟨e, rfl, ⟨_, e, rfl⟩, call_meets F.slot_list_mul ⟨_, e, rfl⟩ F.entry_list_mul (F.args_list_mul_2 _ _) (AutoListH.list___mul___list_int_3 l its.toArray n k t hfit hcap hlong) ⟨e, ?_⟩⟩)
  rw [hnew]
  exact ⟨.ref _, _, I.lnew (t' := s.toks) (r.rep k.toNat) (by rw [PyProof.Rows.lm_len_rep_flat, Nat.mul_comm]; exact hz), rfl, q _ I.fresh⟩
end
/-! ### arithmetic -/
def gAdd : W2 := fun d e h P => match d, e with
  | .int i, .int j => P (.int (i + j)) h
  | .str a, .str b => a.length + b.length ≤ sizeLine ∧ P (.str (a ++ b)) h
  | .tup a, .tup b => a.length + b.length ≤ sizeLine ∧ P (.tup (a ++ b)) h
  | d, e => match lisOf h d, lisOf h e with
    | some a, some b => a.length + b.length ≤ sizeLine ∧ P (.lst (a ++ b)) h
    | _, _ => False
def gSub : W2 := fun d e h P => match d, e with
  | .int i, .int j => P (.int (i - j)) h
  | _, _ => False
def gMod : W2 := fun d e h P => match d, e with
  | .int i, .int j => 0 < j ∧ P (.int (i % j)) h
  | _, _ => False
def gFdiv : W2 := fun d e h P => match d, e with
  | .int i, .int j => (0 < j ∧ j < 1073741824) ∧ P (.int (i / j)) h
  | _, _ => False
def gNeg : W1 := fun d h P => match d with
  | .int i => P (.int (-i)) h
  | _ => False
section
variable {X : Cx}
theorem og_add : OpR X (binaryOp .Add) (lift2 X.kw gAdd) := by
  intro pins s σ H x y v u Q I rx ry ⟨ρ, h, d, e, P, S, r1, r2, w, c⟩
  unfold gAdd at w
  split at w
  · have h1 := rp_int r1; have h2 := rp_int r2
    exact op_add pins s σ H x y v u Q I rx ry ⟨_, _, h1, h2, c ρ h H _ _ .refl S of_int w⟩
  · rename_i a b
    obtain ⟨h1, o1⟩ := rp_str r1; obtain ⟨h2, o2⟩ := rp_str r2
    refine op_add_str pins s σ H x y v u Q I rx ry ⟨_, _, h1, h2, by rw [str_len, str_len]; exact w.1, ?_⟩
    rw [str_app]
    exact c ρ h H _ _ .refl S (of_str ⟨by simpa using w.1, fun z hz => (List.mem_append.mp hz).elim (o1.2 z) (o2.2 z)⟩) w.2
  · rename_i a b
    obtain ⟨p, xs, h1, q1, l1⟩ := rp_tup r1; obtain ⟨q, ys, h2, q2, l2⟩ := rp_tup r2
    refine op_catA pins s σ H x y v u Q I rx ry ⟨p, q, xs, ys, h1, h2, q1, q2, by rw [← l1.length, ← l2.length]; exact w.1, fun e => ?_, fun _ e => ?_, fun _ _ => ?_⟩
    · have : a = [] := by
        have := l1.length; rw [e] at this; exact List.eq_nil_of_length_eq_zero this
      subst this
      rw [← h2]; exact c ρ h H _ _ .refl S r2 w.2
    · have : b = [] := by
        have := l2.length; rw [e] at this; exact List.eq_nil_of_length_eq_zero this
      subst this
      have w2 := w.2
      rw [List.append_nil] at w2
      rw [← h1]; exact c ρ h H _ _ .refl S r1 w2
    · exact new_tup S (RpL.app l1 l2) w.2 c
  · split at w
    · rename_i a b e1 e2
      obtain ⟨p1, xs, h1, q1, l1⟩ := lis_okM S r1 e1; obtain ⟨p2, ys, h2, q2, l2⟩ := lis_okM S r2 e2
      exact op_catL pins s σ H x y v u Q I rx ry ⟨_, _, xs, ys, h1, h2, q1, q2, by rw [← l1.length, ← l2.length]; exact w.1, new_lst S (RpL.app l1 l2) w.2 c⟩
    · exact w.elim
def gIadd : W2 := fun d e h P => match d, e with
  | .int i, .int j => P (.int (i + j)) h
  | .str a, .str b => a.length + b.length ≤ sizeLine ∧ P (.str (a ++ b)) h
  | _, _ => False
theorem og_iadd : OpR X (inplaceOp .Add) (lift2 X.kw gIadd) := by
  intro pins s σ H x y v u Q I rx ry ⟨ρ, h, d, e, P, S, r1, r2, w, c⟩
  unfold gIadd at w
  split at w
  · have h1 := rp_int r1; have h2 := rp_int r2
    exact iop_add pins s σ H x y v u Q I rx ry ⟨_, _, h1, h2, c ρ h H _ _ .refl S of_int w⟩
  · rename_i a b
    obtain ⟨h1, o1⟩ := rp_str r1; obtain ⟨h2, o2⟩ := rp_str r2
    refine iop_add_str pins s σ H x y v u Q I rx ry ⟨_, _, h1, h2, by rw [str_len, str_len]; exact w.1, ?_⟩
    rw [str_app]
    exact c ρ h H _ _ .refl S (of_str ⟨by simpa using w.1, fun z hz => (List.mem_append.mp hz).elim (o1.2 z) (o2.2 z)⟩) w.2
  · exact w.elim
theorem og_sub : OpR X (binaryOp .Sub) (lift2 X.kw gSub) := by
  intro pins s σ H x y v u Q I rx ry ⟨ρ, h, d, e, P, S, r1, r2, w, c⟩
  unfold gSub at w
  split at w
  · exact op_sub pins s σ H x y v u Q I rx ry ⟨_, _, rp_int r1, rp_int r2, c ρ h H _ _ .refl S of_int w⟩
  · exact w.elim
theorem og_mod : OpR X (binaryOp .Mod) (lift2 X.kw gMod) := by
  intro pins s σ H x y v u Q I rx ry ⟨ρ, h, d, e, P, S, r1, r2, w, c⟩
  unfold gMod at w
  split at w
  · exact op_mod pins s σ H x y v u Q I rx ry ⟨_, _, rp_int r1, rp_int r2, w.1, c ρ h H _ _ .refl S of_int w.2⟩
  · exact w.elim
theorem og_fdiv : OpR X (binaryOp .FloorDiv) (lift2 X.kw gFdiv) := by
  intro pins s σ H x y v u Q I rx ry ⟨ρ, h, d, e, P, S, r1, r2, w, c⟩
  unfold gFdiv at w
  split at w
  · exact op_fdiv pins s σ H x y v u Q I rx ry ⟨_, _, rp_int r1, rp_int r2, w.1, c ρ h H _ _ .refl S of_int w.2⟩
  · exact w.elim
theorem ug_neg : UnR X (unaryOp .USub) (lift1 X.kw gNeg) := by
  intro pins s σ H x v Q I rx ⟨ρ, h, d, P, S, r1, w, c⟩
  unfold gNeg at w
  split at w
  · exact un_neg pins s σ H x v Q I rx ⟨_, rp_int r1, c ρ h H _ _ .refl S of_int w⟩
  · exact w.elim

/-! ### order -/
def gOrd (f : Int → Int → Bool) (g : List Nat → List Nat → Bool) : W2 := fun d e h P => match d, e with
  | .int i, .int j => P (.bl (f i j)) h
  | .str a, .str b => P (.bl (g a b)) h
  | _, _ => False
abbrev gLt : W2 := gOrd (fun i j => decide (i < j)) (fun a b => decide (a < b))
abbrev gLe : W2 := gOrd (fun i j => decide (i ≤ j)) (fun a b => !decide (b < a))
abbrev gGt : W2 := gOrd (fun i j => decide (j < i)) (fun a b => decide (b < a))
abbrev gGe : W2 := gOrd (fun i j => decide (j ≤ i)) (fun a b => !decide (a < b))
theorem og_ord {op : CmpOp} {f : Int → Int → Bool} {g : List Nat → List Nat → Bool} (hi : OpR X (compareOp op) (rI0 fun i j => .bl (f i j)))
    (hs : OpR X (compareOp op) (fun x y H Q => ∃ i j, x = .str i ∧ y = .str j ∧ Q (.bl (g i.cps.toList j.cps.toList)) H)) : OpR X (compareOp op) (lift2 X.kw (gOrd f g)) := by
  intro pins s σ H x y v u Q I rx ry ⟨ρ, h, d, e, P, S, r1, r2, w, c⟩
  unfold gOrd at w
  split at w
  · exact hi pins s σ H x y v u Q I rx ry ⟨_, _, rp_int r1, rp_int r2, c ρ h H _ _ .refl S of_bl w⟩
  · refine hs pins s σ H x y v u Q I rx ry ⟨_, _, (rp_str r1).1, (rp_str r2).1, ?_⟩
    rw [str_list, str_list]
    exact c ρ h H _ _ .refl S of_bl w
  · exact w.elim
theorem og_lt : OpR X (compareOp .Lt) (lift2 X.kw gLt) := og_ord op_lt op_lt_str
theorem og_le : OpR X (compareOp .LtE) (lift2 X.kw gLe) := og_ord op_le op_le_str
theorem og_gt : OpR X (compareOp .Gt) (lift2 X.kw gGt) := og_ord op_gt op_gt_str
theorem og_ge : OpR X (compareOp .GtE) (lift2 X.kw gGe) := og_ord op_ge op_ge_str

/-! ### is -/
def isD (neg : Bool) : W2 := fun d e h P => match d, e with
  | .bl a, .bl b => P (.bl (xor neg (decide (a = b)))) h
  | .non, .non => P (.bl (!neg)) h
  | .bl _, .non | .int _, .non | .str _, .non | .tup _, .non | .ref _, .non | .lst _, .non | .dct _ _, .non | .scr _, .non => P (.bl neg) h
  | _, _ => False
theorem rp_ne_non {K H ρ n d v} (r : Rp K H ρ n d v) (h1 : d ≠ .non) (h2 : ∀ u, d ≠ .con u) : v ≠ .non := by
  cases d with
  | non => exact (h1 rfl).elim
  | bl _ => rw [rp_bl r]; intro z; cases z
  | int _ => rw [rp_int r]; intro z; cases z
  | str _ => rw [(rp_str r).1]; intro z; cases z
  | tup _ => obtain ⟨a, xs, e, _⟩ := rp_tup r; rw [e]; intro z; cases z
  | lst _ => obtain ⟨a, xs, e, _⟩ := rp_lst r; rw [e]; intro z; cases z
  | dct _ _ => obtain ⟨a, _, _, _, e, _⟩ := rp_dct r; rw [e]; intro z; cases z
  | scr _ => obtain ⟨a, e, _⟩ := rp_scr r; rw [e]; intro z; cases z
  | ref _ => rw [(rp_ref r).2]; intro z; cases z
  | con u => exact (h2 u rfl).elim
theorem og_is : OpR X (compareOp .Is) (lift2 X.kw (isD false)) := by
  intro pins s σ H x y v u Q I rx ry ⟨ρ, h, d, e, P, S, r1, r2, w, c⟩
  have nn : ∀ b : Bool, y = .non → decide (x = .non) = b → P (.bl b) h → wpAny (model X.prog X.w) X.A (compareOp .Is v u) (EP X pins σ Q) X.xe s := fun b hy hx w =>
    op_isN pins s σ H x y v u Q I rx ry ⟨hy, by rw [hx]; exact c ρ h H _ _ .refl S of_bl w⟩
  unfold isD at w
  split at w
  · refine op_isBl pins s σ H x y v u Q I rx ry ⟨_, _, rp_bl r1, rp_bl r2, c ρ h H _ _ .refl S of_bl ?_⟩
    simpa using w
  · exact nn true (rp_non r2) (decide_eq_true (rp_non r1)) w
  all_goals first
    | exact w.elim
    | exact nn false (rp_non r2) (decide_eq_false (rp_ne_non r1 (fun z => by cases z) (fun _ z => by cases z))) w
theorem og_isn : OpR X (compareOp .IsNot) (lift2 X.kw (isD true)) := by
  intro pins s σ H x y v u Q I rx ry ⟨ρ, h, d, e, P, S, r1, r2, w, c⟩
  have nn : ∀ b : Bool, y = .non → (!decide (x = .non)) = b → P (.bl b) h → wpAny (model X.prog X.w) X.A (compareOp .IsNot v u) (EP X pins σ Q) X.xe s := fun b hy hx w =>
    op_notN pins s σ H x y v u Q I rx ry ⟨hy, by rw [hx]; exact c ρ h H _ _ .refl S of_bl w⟩
  unfold isD at w
  split at w
  · refine op_notBl pins s σ H x y v u Q I rx ry ⟨_, _, rp_bl r1, rp_bl r2, c ρ h H _ _ .refl S of_bl ?_⟩
    simpa using w
  · exact nn false (rp_non r2) (by rw [decide_eq_true (rp_non r1)]; rfl) w
  all_goals first
    | exact w.elim
    | exact nn true (rp_non r2) (by rw [decide_eq_false (rp_ne_non r1 (fun z => by cases z) (fun _ z => by cases z))]; rfl) w

/-! ### places -/
def gIx : W2 := fun d e h P => match e with
  | .int i => (match d with
    | .str s => (match atI s i with
      | some c => P (.str [c]) h
      | none => False)
    | d => (match seqOf h d with
      | some ds => (match atI ds i with
        | some x => P x h
        | none => False)
      | none => False))
  | _ => False
theorem RpL.at_ {K H ρ n ds xs i d} (r : RpL K H ρ n ds xs) (e : atI ds i = some d) : ∃ x, atI xs i = some x ∧ Rp K H ρ n d x := by
  unfold atI at *
  rw [← r.length]
  cases q : ixN ds.length i with
  | none => rw [q] at e; cases e
  | some j => rw [q] at e; exact r.get e
theorem ixg : IxR X (lift2 X.kw gIx) := by
  intro value slice pins s σ H x y v u Q I rx ry ⟨ρ, h, d, e, P, S, r1, r2, w, c⟩ hs
  unfold gIx at w
  split at w
  · rename_i i
    split at w
    · rename_i t
      split at w
      · rename_i z hz
        obtain ⟨h1, o1⟩ := rp_str r1
        refine ix_str value slice pins s σ H x y v u Q I rx ry ⟨mkS t, _, z, h1, rp_int r2, by rw [str_len]; exact o1.1, by rw [str_list]; exact hz, ?_⟩ hs
        refine c ρ h H (.str [z]) _ .refl S (of_str ⟨by show 1 ≤ _; decide, fun y hy => ?_⟩) w
        have : y = z := by simpa using hy
        subst this
        refine o1.2 _ ?_
        unfold atI at hz
        cases q : ixN t.length i with
        | none => rw [q] at hz; cases hz
        | some j => rw [q] at hz; exact List.mem_of_getElem? hz
      · exact w.elim
    · split at w
      · rename_i ds hd
        split at w
        · rename_i z hz
          obtain ⟨a, xs, h1, q1, l1⟩ := seq_ok S r1 hd
          obtain ⟨z', h3, h4⟩ := l1.at_ hz
          rcases q1 with q1 | q1
          · exact ix_list value slice pins s σ H x y v u Q I rx ry ⟨a, xs, _, z', h1, rp_int r2, q1, h3, c ρ h H _ _ .refl S h4 w⟩ hs
          · exact ix_tup value slice pins s σ H x y v u Q I rx ry ⟨a, xs, _, z', h1, rp_int r2, q1, h3, c ρ h H _ _ .refl S h4 w⟩ hs
        · exact w.elim
      · exact w.elim
  · exact w.elim
theorem se_ix {a b : Expr} {pos : Pos} {wa wb : WE} {g : W2} (hg : IxR X (lift2 X.kw g)) (ha : SE X a wa) (hb : SE X b wb) (hs : PlainIx b) : SE X (.Subscript a b pos) (wOp g wa wb) :=
  PE.imp (pe_ix hg ha hb hs) fun σ H Q q => op_lift q

/-! ### slices -/
def cutL {α : Type} (xs : List α) (lo hi : Option Int) : List α := (xs.drop (HT.sIx xs.length 0 lo)).take (HT.sIx xs.length xs.length hi - HT.sIx xs.length 0 lo)
abbrev WO := Fr → Hq → (Option Int → Hq → Prop) → Prop
def woNone : WO := fun _ h P => P none h
def woSome (w : WE) : WO := fun fr h P => w fr h fun d h1 => match d with
  | .int i => P (some i) h1
  | _ => False
def liftO (K : KW) (w : WO) : TO := fun σ H Q => ∃ ρ fr h P, Sim K ρ h H ∧ FrR K ρ h.length H fr σ ∧ w fr h P ∧
  ∀ ρ' h' H' o, Ext K ρ h.length H ρ' h'.length H' → Sim K ρ' h' H' → P o h' → Q o H'
theorem PO.imp {X : Cx} {e : Option Expr} {t t' : TO} (h : PO X e t) (i : ∀ σ H Q, t' σ H Q → t σ H Q) : PO X e t' := ⟨fun pins s σ H Q I q => h.run pins s σ H Q I (i σ H Q q)⟩
theorem so_none : PO X none (liftO X.kw woNone) := PO.imp po_none fun σ H Q ⟨ρ, fr, h, P, S, F, w, c⟩ => c ρ h H none .refl S w
theorem so_some {e : Expr} {w : WE} (he : SE X e w) : PO X (some e) (liftO X.kw (woSome w)) :=
  PO.imp (po_some he) fun σ H Q ⟨ρ, fr, h, P, S, F, w, c⟩ => ⟨ρ, fr, h, _, S, F, w, fun ρ1 h1 H1 d v e1 S1 r1 w1 => by
    cases d with
    | int i => exact ⟨i, rp_int r1, c ρ1 h1 H1 _ e1 S1 w1⟩
    | _ => exact w1.elim⟩
def gSl : D → Option Int → Option Int → Hq → WK → Prop := fun d lo hi h P => match d with
  | .tup ds => P (.tup (cutL ds lo hi)) h
  | .str s => P (.str (cutL s lo hi)) h
  | d => match lisOf h d with
    | some ds => P (.lst (cutL ds lo hi)) h
    | none => False
def wSl (e : WE) (lo hi : WO) : WE := fun fr h P => e fr h fun d h1 => lo fr h1 fun l h2 => hi fr h2 fun u h3 => gSl d l u h3 P
theorem RpL.cut {K H ρ n ds xs lo hi} (r : RpL K H ρ n ds xs) : RpL K H ρ n (cutL ds lo hi) (cutV xs lo hi) := by
  unfold cutL cutV
  rw [← r.length]
  exact (r.drop _).take _
theorem cut_str (s : List Nat) (lo hi) : cutS (mkS s) lo hi = mkS (cutL s lo hi) := by
  unfold cutS cutL
  rw [str_len, str_list]; rfl
theorem cut_whole {α : Type} {xs : List α} {lo hi} (h : HT.sIx xs.length 0 lo = 0 ∧ HT.sIx xs.length xs.length hi = xs.length) : cutL xs lo hi = xs := by
  unfold cutL
  rw [h.1, h.2]
  simp
theorem slg : SlR X (fun x lo hi H Q => ∃ ρ h d P, Sim X.kw ρ h H ∧ Rp X.kw H ρ h.length d x ∧ gSl d lo hi h P ∧ ClE X.kw ρ h H P Q) := by
  intro pins s σ H x v vl vu lo hi sl Q I rx hs pl pu ⟨ρ, h, d, P, S, r1, w, c⟩
  unfold gSl at w
  split at w
  · rename_i ds
    obtain ⟨a, xs, h1, q1, l1⟩ := rp_tup r1
    refine sl_tupA pins s σ H x v vl vu lo hi sl Q I rx hs pl pu ⟨a, xs, h1, q1, fun e => ?_, fun _ => new_tup S l1.cut w c⟩
    rw [← l1.length] at e
    rw [cut_whole e] at w
    rw [← h1]; exact c ρ h H _ _ .refl S r1 w
  · rename_i t
    obtain ⟨h1, o1⟩ := rp_str r1
    refine sl_str pins s σ H x v vl vu lo hi sl Q I rx hs pl pu ⟨_, h1, by rw [str_len]; exact o1.1, ?_⟩
    rw [cut_str]
    refine c ρ h H _ _ .refl S (of_str ⟨?_, fun z hz => o1.2 z ?_⟩) w
    · unfold cutL
      rw [List.length_take, List.length_drop]
      have := o1.1
      omega
    · exact List.mem_of_mem_drop (List.mem_of_mem_take hz)
  · split at w
    · rename_i ds hd
      obtain ⟨p, xs, h1, q1, l1⟩ := lis_ok S r1 hd
      exact sl_list pins s σ H x v vl vu lo hi sl Q I rx hs pl pu ⟨_, xs, h1, q1, new_lst S l1.cut w c⟩
    · exact w.elim
theorem se_slice {e : Expr} {lo hi : Option Expr} {we : WE} {wl wh : WO} {pos p2 : Pos} (he : SE X e we) (hl : PO X lo (liftO X.kw wl)) (hh : PO X hi (liftO X.kw wh)) : SE X (.Subscript e (.Slice lo hi none p2) pos) (wSl we wl wh) := by
  refine PE.imp (pe_slice slg he hl hh) fun σ H Q ⟨ρ, fr, h, P, S, F, w, c⟩ => ⟨ρ, fr, h, _, S, F, w, fun ρ1 h1 H1 d v e1 S1 r1 w1 => ?_⟩
  refine ⟨ρ1, fr, h1, _, S1, F.ext e1, w1, fun ρ2 h2 H2 l e2 S2 w2 => ?_⟩
  refine ⟨ρ2, fr, h2, _, S2, F.ext (e1.trans e2), w2, fun ρ3 h3 H3 u e3 S3 w3 => ?_⟩
  exact ⟨ρ3, h3, d, P, S3, Rp.ext (e2.trans e3) _ _ r1, w3, c.step (e1.trans (e2.trans e3))⟩
end
end MP

namespace MP
open PySem PySem.Spec PyProof.Rows L2

/-! ### products, powers -/
theorem tuple_mul1 (l : Addr) (items : Array Value) (n : Nat) (dd : Option Addr) (sl : Array (Option Value)) (u : Tok) :
    Meets (Builtin.«tuple.__mul__» ⟨[.ref l, .int 1 u], []⟩) (fun _ R s => s.heap.get? l = some { cls := .type "tuple", dict := dd, data := .seq items n, slots := sl } ∧
      R (.ok (.ret (Value.ref l))) s) :=
  .of_wp fun prog w A R s h => by
    obtain ⟨hp, g, d, tk, os⟩ := s
    obtain ⟨hl, h⟩ := h
    have f1 := AutoSeq1.idx_int
    have c1 : (items.isEmpty || (1 : Int) == 1) = true := by simp
    wp_walk using wpAny_loadPart' hl
    exact ⟨_, rfl, h⟩
section
variable {X : Cx}
theorem op_repT1 : OpR X (binaryOp .Mult) (fun x y H Q => ∃ l xs, x = .ref l ∧ y = .int 1 ∧ SqT X.K H l xs ∧ Q (.ref l) H) := by
  intro pins s σ H x y v u Q I rx ry h
  obtain ⟨l, xs, rfl, rfl, hT, q⟩ := h
  cases rx
  obtain ⟨t, rfl⟩ := ry
  obtain ⟨its, r, ⟨⟨cls, dd, data, sl⟩, ho, hc, n, hd⟩, hs⟩ := I.tuple hT
  simp only at hc hd
  subst hc hd
  refine wpAny_binaryOp_repeat_ref (T := "tuple") (U := "int") (by decide) ⟨_, ho, rfl⟩ (fun s' => typeIs_int s' 1 t) noFill_tuple_mul F.fills_int_mul F.slot_int_rmul repeat_tuple F.slot_int_index.lookup
    (call_meets F.slot_int_rmul (typeIs_int s 1 t) F.entry_int_rmul (F.args_int_rmul_2 _ _) (int_rmul_tuple 1 t l its.toArray n dd sl)
      ⟨ho, rfl, ⟨_, ho, rfl⟩, call_meets F.slot_tuple_mul ⟨_, ho, rfl⟩ F.entry_tuple_mul (F.args_tuple_mul_2 _ _) (tuple_mul1 l its.toArray n dd sl t) ⟨ho, ?_⟩⟩)
  exact ⟨.ref l, _, I, rfl, q⟩
end
theorem fold_repN (a : List Nat) : ∀ (k : Nat) (acc : List Nat), List.foldl (fun x y => x ++ y) acc.toArray (List.replicate k a.toArray) = (acc ++ (List.replicate k a).flatten).toArray
  | 0, acc => by simp
  | k + 1, acc => by
    have e : acc.toArray ++ a.toArray = (acc ++ a).toArray := by simp
    rw [List.replicate_succ, List.foldl_cons, e, fold_repN a k, List.replicate_succ, List.flatten_cons, List.append_assoc]
/-- a text more than once -/
theorem op_repS {X : Cx} : OpR X (binaryOp .Mult) (fun x y H Q => ∃ a k, x = .str (mkS a) ∧ y = .int k ∧ a ≠ [] ∧ 2 ≤ k ∧ k ≤ 1000 ∧ a.length ≤ 1000 ∧ Q (.str (mkS (List.replicate k.toNat a).flatten)) H) := by
  intro pins s σ H x y v u Q I rx ry h
  obtain ⟨a, k, rfl, rfl, ne, k2, k3, a1, q⟩ := h
  obtain ⟨t, rfl⟩ := rx
  obtain ⟨t', rfl⟩ := ry
  have hl : (mkS a).length = a.length := str_len _
  have hne : 1 ≤ a.length := by
    cases a with
    | nil => exact (ne rfl).elim
    | cons _ _ => simp
  have c1 : ¬ k < 1 := by omega
  have c2 : (k == 1 || (mkS a).length == 0) = false := by
    rw [hl, Bool.or_eq_false_iff]
    exact ⟨beq_eq_false_iff_ne.mpr (by omega), beq_eq_false_iff_ne.mpr (by omega)⟩
  have hb : a.length * k.toNat ≤ 1000 * 1000 := Nat.mul_le_mul a1 (by omega)
  have er : (⟨(List.replicate k.toNat (mkS a).cps).foldl (· ++ ·) #[]⟩ : Str) = mkS (List.replicate k.toNat a).flatten := by
    have := fold_repN a k.toNat []
    rw [List.nil_append] at this
    unfold mkS
    exact congrArg Str.mk this
  have hlen : (mkS (List.replicate k.toNat a).flatten).length ≤ sizeLine := by
    rw [show (mkS (List.replicate k.toNat a).flatten).length = (List.replicate k.toNat a).flatten.length from str_len _, List.length_flatten, List.map_replicate, List.sum_replicate_nat, Nat.mul_comm, sizeLine_eq]
    omega
  refine PySem.P.mul_str ?_ (fun _ _ => ?_) (fun _ _ => ?_) ?_
  · rw [decide_eq_false (by omega), decide_eq_false (by omega)]; rfl
  · rw [hl]
    have : (1000 : Int) ≤ (2 ^ 63 - 1) / k := (Int.le_ediv_iff_mul_le (by omega)).mpr (by omega)
    omega
  · rw [hl]
    unfold Builtin.Str.tooLong
    rw [decide_eq_false_iff_not, sizeLine_eq]
    omega
  · rw [if_neg c1, if_neg (by rw [c2]; exact Bool.false_ne_true), er]
    exact ⟨hlen, .str _, H, I.tok _, ⟨_, rfl⟩, q⟩
theorem RpL.rep {K H ρ n ds xs} (h : RpL K H ρ n ds xs) : ∀ k : Nat, RpL K H ρ n (List.replicate k ds).flatten (List.replicate k xs).flatten
  | 0 => RpL.nil
  | k + 1 => by
    rw [List.replicate_succ, List.replicate_succ, List.flatten_cons, List.flatten_cons]
    exact h.app (RpL.rep h k)
def gMul : W2 := fun d e h P => match d, e with
  | .int i, .int j => CMul i j ∧ P (.int (i * j)) h
  | .str a, .int k => a ≠ [] ∧ 2 ≤ k ∧ k ≤ 1000 ∧ a.length ≤ 1000 ∧ P (.str (List.replicate k.toNat a).flatten) h
  | .tup a, .int k => (k = 1 ∧ P (.tup a) h) ∨ (a ≠ [] ∧ 2 ≤ k ∧ k ≤ 1000 ∧ a.length ≤ 1000 ∧ P (.tup (List.replicate k.toNat a).flatten) h)
  | d, .int k => (match lisOf h d with
    | some a => 0 ≤ k ∧ k ≤ 1000000 ∧ a.length * k.toNat ≤ sizeLine ∧ P (.lst (List.replicate k.toNat a).flatten) h
    | none => False)
  | _, _ => False
def gPow : W2 := fun d e h P => match d, e with
  | .int i, .int j => CPow i j ∧ P (.int (i ^ j.toNat)) h
  | _, _ => False
section
variable {X : Cx}
theorem og_mul : OpR X (binaryOp .Mult) (lift2 X.kw gMul) := by
  intro pins s σ H x y v u Q I rx ry ⟨ρ, h, d, e, P, S, r1, r2, w, c⟩
  unfold gMul at w
  split at w
  · have h1 := rp_int r1; have h2 := rp_int r2
    exact op_mul pins s σ H x y v u Q I rx ry ⟨_, _, h1, h2, w.1, c ρ h H _ _ .refl S of_int w.2⟩
  · obtain ⟨h1, o1⟩ := rp_str r1
    have h2 := rp_int r2
    refine op_repS pins s σ H x y v u Q I rx ry ⟨_, _, h1, h2, w.1, w.2.1, w.2.2.1, w.2.2.2.1, ?_⟩
    refine c ρ h H _ _ .refl S (of_str ⟨?_, fun z hz => ?_⟩) w.2.2.2.2
    · rw [List.length_flatten, List.map_replicate, List.sum_replicate_nat, Nat.mul_comm, sizeLine_eq]
      have := Nat.mul_le_mul w.2.2.2.1 (show _ ≤ 1000 by have := w.2.2.1; omega : ‹Int›.toNat ≤ 1000)
      omega
    · obtain ⟨l, hl, hz⟩ := List.mem_flatten.mp hz
      rw [List.mem_replicate] at hl
      rw [hl.2] at hz
      exact o1.2 z hz
  · obtain ⟨a, xs, h1, q1, l1⟩ := rp_tup r1
    have h2 := rp_int r2
    rcases w with ⟨rfl, w⟩ | ⟨ne, k2, k3, k4, w⟩
    · exact op_repT1 pins s σ H x y v u Q I rx ry ⟨a, xs, h1, h2, q1, by rw [← h1]; exact c ρ h H _ _ .refl S r1 w⟩
    · refine op_repT pins s σ H x y v u Q I rx ry ⟨a, _, xs, h1, h2, q1, fun e => ?_, k2, k3, by rw [← l1.length]; exact k4, new_tup S (l1.rep _) w c⟩
      have := l1.length
      rw [e] at this
      exact ne (List.eq_nil_of_length_eq_zero this)
  · split at w
    · rename_i a q
      have h2 := rp_int r2
      obtain ⟨p1, xs, h1, q1, l1⟩ := lis_okM S r1 q
      refine op_repL pins s σ H x y v u Q I rx ry ⟨_, _, xs, h1, h2, q1, by omega, by omega, by rw [← l1.length]; exact w.2.2.1, new_lst S (l1.rep _) w.2.2.2 c⟩
    · exact w.elim
  · exact w.elim
theorem og_pow : OpR X (binaryOp .Pow) (lift2 X.kw gPow) := by
  intro pins s σ H x y v u Q I rx ry ⟨ρ, h, d, e, P, S, r1, r2, w, c⟩
  unfold gPow at w
  split at w
  · have h1 := rp_int r1; have h2 := rp_int r2
    exact op_pow pins s σ H x y v u Q I rx ry ⟨_, _, h1, h2, w.1, c ρ h H _ _ .refl S of_int w.2⟩
  · exact w.elim
end
end MP

namespace MP
open PySem PySem.Spec PyProof.Rows L2

/-! ### what is made on the way is forgotten; what is left of it changes no more -/
mutual
def D.sc (n : Nat) : D → Bool
  | .ref m => decide (m < n)
  | .tup ds => D.scL n ds
  | .lst ds => D.scL n ds
  | .dct ks vs => D.scL n ks && D.scL n vs
  | .non => true
  | .bl _ => true
  | .int _ => true
  | .str _ => true
  | .scr _ => true
  | .con _ => true
def D.scL (n : Nat) : List D → Bool
  | [] => true
  | d :: ds => d.sc n && D.scL n ds
end
mutual
/-- no object of the heap is in it -/
def D.nr : D → Bool
  | .ref _ => false
  | .tup ds => D.nrL ds
  | .lst ds => D.nrL ds
  | .dct ks vs => D.nrL ks && D.nrL vs
  | .non => true
  | .bl _ => true
  | .int _ => true
  | .str _ => true
  | .scr _ => true
  | .con _ => true
def D.nrL : List D → Bool
  | [] => true
  | d :: ds => d.nr && D.nrL ds
end
mutual
/-- refs replaced -/
def D.fz (g : Nat → Option D) : D → Option D
  | .ref m => g m
  | .tup ds => (D.fzL g ds).map .tup
  | .lst ds => (D.fzL g ds).map .lst
  | .dct ks vs => (D.fzL g ks).bind fun a => (D.fzL g vs).map fun b => .dct a b
  | .non => some .non
  | .bl b => some (.bl b)
  | .int i => some (.int i)
  | .str s => some (.str s)
  | .scr ns => some (.scr ns)
  | .con v => some (.con v)
def D.fzL (g : Nat → Option D) : List D → Option (List D)
  | [] => some []
  | d :: ds => (D.fz g d).bind fun a => (D.fzL g ds).map fun b => a :: b
end
def Ob.fz (g : Nat → Option D) : Ob → Option Ob
  | .lst ds => (D.fzL g ds).map .lst
  | .dct ks vs => (D.fzL g ks).bind fun a => (D.fzL g vs).map fun b => .dct a b
  | .lck ks vs => (D.fzL g ks).bind fun a => (D.fzL g vs).map fun b => .lck a b
  | .ins c ns ds => (D.fzL g ds).map (.ins c ns)
/-- the first n stay, the others are told by their content, k deep -/
def gz (h : Hq) (n : Nat) : Nat → Nat → Option D
  | 0, m => if m < n then some (.ref m) else none
  | k + 1, m => if m < n then some (.ref m) else match h[m]? with
    | some (.lst ds) => (D.fzL (gz h n k) ds).map .lst
    | some (.dct ks vs) => (D.fzL (gz h n k) ks).bind fun a => (D.fzL (gz h n k) vs).map fun b => .dct a b
    | some (.lck ks vs) => (D.fzL (gz h n k) ks).bind fun a => (D.fzL (gz h n k) vs).map fun b => .dct a b
    | _ => none
mutual
theorem D.fz_nr {g : Nat → Option D} : ∀ d : D, d.nr = true → D.fz g d = some d
  | .ref m, e => by simp [D.nr] at e
  | .tup ds, e => by simp only [D.nr] at e; simp only [D.fz]; rw [D.fzL_nr ds e]; rfl
  | .lst ds, e => by simp only [D.nr] at e; simp only [D.fz]; rw [D.fzL_nr ds e]; rfl
  | .dct ks vs, e => by simp only [D.nr, Bool.and_eq_true] at e; simp only [D.fz]; rw [D.fzL_nr ks e.1, D.fzL_nr vs e.2]; rfl
  | .non, _ => rfl
  | .bl _, _ => rfl
  | .int _, _ => rfl
  | .str _, _ => rfl
  | .scr _, _ => rfl
  | .con _, _ => rfl
theorem D.fzL_nr {g : Nat → Option D} : ∀ ds : List D, D.nrL ds = true → D.fzL g ds = some ds
  | [], _ => rfl
  | d :: ds, e => by
    simp only [D.nrL, Bool.and_eq_true] at e
    simp only [D.fzL]
    rw [D.fz_nr d e.1, D.fzL_nr ds e.2]; rfl
end
mutual
theorem D.fz_sc {g : Nat → Option D} {n : Nat} (hg : ∀ m, m < n → g m = some (.ref m)) : ∀ d : D, d.sc n = true → D.fz g d = some d
  | .ref m, e => by simp only [D.sc] at e; simp only [D.fz]; exact hg m (of_decide_eq_true e)
  | .tup ds, e => by simp only [D.sc] at e; simp only [D.fz]; rw [D.fzL_sc hg ds e]; rfl
  | .lst ds, e => by simp only [D.sc] at e; simp only [D.fz]; rw [D.fzL_sc hg ds e]; rfl
  | .dct ks vs, e => by simp only [D.sc, Bool.and_eq_true] at e; simp only [D.fz]; rw [D.fzL_sc hg ks e.1, D.fzL_sc hg vs e.2]; rfl
  | .non, _ => rfl
  | .bl _, _ => rfl
  | .int _, _ => rfl
  | .str _, _ => rfl
  | .scr _, _ => rfl
  | .con _, _ => rfl
theorem D.fzL_sc {g : Nat → Option D} {n : Nat} (hg : ∀ m, m < n → g m = some (.ref m)) : ∀ ds : List D, D.scL n ds = true → D.fzL g ds = some ds
  | [], _ => rfl
  | d :: ds, e => by
    simp only [D.scL, Bool.and_eq_true] at e
    simp only [D.fzL]
    rw [D.fz_sc hg d e.1, D.fzL_sc hg ds e.2]; rfl
end
mutual
theorem Rp.scOf {K H ρ n} : ∀ (d : D) (v : V), Rp K H ρ n d v → d.sc n = true
  | .ref m, v, h => by simp only [D.sc]; exact decide_eq_true (rp_ref h).1
  | .tup ds, v, h => by
    obtain ⟨a, xs, _, _, h3⟩ := rp_tup h
    simp only [D.sc]; exact RpL.scOf ds xs h3
  | .lst ds, v, h => by
    obtain ⟨a, xs, _, _, h3⟩ := rp_lst h
    simp only [D.sc]; exact RpL.scOf ds xs h3
  | .dct ks vs, v, h => by
    obtain ⟨a, u, kv, xs, _, _, _, _, h3, h4⟩ := rp_dct h
    simp only [D.sc, Bool.and_eq_true]; exact ⟨RpL.scOf ks kv h3, RpL.scOf vs xs h4⟩
  | .non, v, h => rfl
  | .bl b, v, h => rfl
  | .int i, v, h => rfl
  | .str s, v, h => rfl
  | .scr s, v, h => rfl
  | .con u, v, h => rfl
theorem RpL.scOf {K H ρ n} : ∀ (ds : List D) (xs : List V), RpL K H ρ n ds xs → D.scL n ds = true
  | [], xs, h => rfl
  | d :: ds, xs, h => by
    obtain ⟨x, r, _, h2, h3⟩ := h.cons_inv
    simp only [D.scL, Bool.and_eq_true]
    exact ⟨Rp.scOf d x h2, RpL.scOf ds r h3⟩
end
mutual
theorem nkOf_nr : ∀ (d : D) (k : NestedKey), nkOf d = some k → d.nr = true
  | .ref m, k, e => by simp [nkOf] at e
  | .tup ds, k, e => by
    simp only [nkOf, Option.map_eq_some_iff] at e
    obtain ⟨ks, e1, _⟩ := e
    simp only [D.nr]; exact nkOfL_nr ds ks e1
  | .lst ds, k, e => by simp [nkOf] at e
  | .dct _ _, k, e => by simp [nkOf] at e
  | .non, _, _ => rfl
  | .bl _, _, _ => rfl
  | .int _, _, _ => rfl
  | .str _, _, _ => rfl
  | .scr _, _, _ => rfl
  | .con _, _, _ => rfl
theorem nkOfL_nr : ∀ (ds : List D) (ks : List NestedKey), nkOfL ds = some ks → D.nrL ds = true
  | [], _, _ => rfl
  | d :: ds, ks, e => by
    simp only [nkOfL, Option.bind_eq_some_iff, Option.map_eq_some_iff] at e
    obtain ⟨k, e1, r, e2, _⟩ := e
    simp only [D.nrL, Bool.and_eq_true]
    exact ⟨nkOf_nr d k e1, nkOfL_nr ds r e2⟩
end
theorem keyOf_nr {d : D} {k : Key} (e : keyOf d = some k) : d.nr = true := by cases d <;> first | rfl | cases e
theorem map_nr {α β : Type} {f : D → Option α} {g : β → α} (hf : ∀ d k, f d = some k → d.nr = true) : ∀ {ks : List D} {xs : List β}, ks.map f = xs.map (fun x => some (g x)) → D.nrL ks = true
  | [], _, _ => rfl
  | d :: ks, [], e => by simp at e
  | d :: ks, x :: xs, e => by
    simp only [List.map_cons, List.cons.injEq] at e
    simp only [D.nrL, Bool.and_eq_true]
    exact ⟨hf d _ e.1, map_nr hf e.2⟩
theorem dctU_nr {w a u ks kv xs} (d : dctU w a u ks kv xs) : D.nrL ks = true := by
  rcases d with ⟨ps, _, e, _⟩ | ⟨o, es, ep, nks, _, _, _, _, _, e, _⟩
  · exact map_nr (fun d k => keyOf_nr) e
  · exact map_nr nkOf_nr e
theorem dctU_fz {w a u ks kv xs} {g : Nat → Option D} {es : List D} (d : dctU w a u ks kv xs) (e : D.fzL g ks = some es) : dctU w a u es kv xs := by
  rw [D.fzL_nr ks (dctU_nr d)] at e
  cases e
  exact d
section
variable {K : KW} {H : Hp} {ρ : Nat → Addr} {n n2 : Nat} {g : Nat → Option D}
mutual
theorem Rp.fz (hle : n2 ≤ n) (hg : ∀ m d2, m < n → g m = some d2 → Rp K H ρ n2 d2 (.ref (ρ m))) : ∀ (d : D) (v : V) (d2 : D), Rp K H ρ n d v → D.fz g d = some d2 → Rp K H ρ n2 d2 v
  | .ref m, v, d2, r, e => by
    obtain ⟨h1, rfl⟩ := rp_ref r
    exact hg m d2 h1 (by simpa only [D.fz] using e)
  | .tup ds, v, d2, r, e => by
    simp only [D.fz, Option.map_eq_some_iff] at e
    obtain ⟨es, e1, rfl⟩ := e
    obtain ⟨a, xs, rfl, q, l⟩ := rp_tupT r
    unfold Rp
    exact ⟨a, xs, rfl, q, RpL.fz hle hg ds xs es l e1⟩
  | .lst ds, v, d2, r, e => by
    simp only [D.fz, Option.map_eq_some_iff] at e
    obtain ⟨es, e1, rfl⟩ := e
    obtain ⟨a, xs, rfl, q, l⟩ := rp_lstT r
    unfold Rp
    exact ⟨a, xs, rfl, ⟨fun i hi => q.1 i (by omega), q.2⟩, RpL.fz hle hg ds xs es l e1⟩
  | .dct ks vs, v, d2, r, e => by
    simp only [D.fz, Option.bind_eq_some_iff, Option.map_eq_some_iff] at e
    obtain ⟨a1, e1, b1, e2, rfl⟩ := e
    obtain ⟨a, u, kv, xs, rfl, q, rd, du, l1, l2⟩ := rp_dct r
    unfold Rp
    refine ⟨a, u, kv, xs, rfl, fun i hi => q i (by omega), rd, ?_, RpL.fz hle hg ks kv a1 l1 e1, RpL.fz hle hg vs xs b1 l2 e2⟩
    exact dctU_fz du e1
  | .scr ns, v, d2, r, e => by
    simp only [D.fz, Option.some.injEq] at e
    subst e
    unfold Rp at *
    obtain ⟨a, h1, h2⟩ := r
    exact ⟨a, h1, h2.elim (fun q => .inl ⟨fun i hi => q.1 i (by omega), q.2⟩) .inr⟩
  | .non, v, d2, r, e => by simp only [D.fz, Option.some.injEq] at e; subst e; unfold Rp at *; exact r
  | .bl _, v, d2, r, e => by simp only [D.fz, Option.some.injEq] at e; subst e; unfold Rp at *; exact r
  | .int _, v, d2, r, e => by simp only [D.fz, Option.some.injEq] at e; subst e; unfold Rp at *; exact r
  | .str _, v, d2, r, e => by simp only [D.fz, Option.some.injEq] at e; subst e; unfold Rp at *; exact r
  | .con _, v, d2, r, e => by simp only [D.fz, Option.some.injEq] at e; subst e; unfold Rp at *; exact r
theorem RpL.fz (hle : n2 ≤ n) (hg : ∀ m d2, m < n → g m = some d2 → Rp K H ρ n2 d2 (.ref (ρ m))) : ∀ (ds : List D) (xs : List V) (es : List D), RpL K H ρ n ds xs → D.fzL g ds = some es → RpL K H ρ n2 es xs
  | [], xs, es, r, e => by
    simp only [D.fzL, Option.some.injEq] at e
    subst e
    rw [r.nil_inv]; exact RpL.nil
  | d :: ds, xs, es, r, e => by
    simp only [D.fzL, Option.bind_eq_some_iff, Option.map_eq_some_iff] at e
    obtain ⟨a1, e1, b1, e2, rfl⟩ := e
    obtain ⟨x, r', rfl, r1, r2⟩ := r.cons_inv
    exact RpL.cons (Rp.fz hle hg d x a1 r1 e1) (RpL.fz hle hg ds r' b1 r2 e2)
end
end
end MP

namespace MP
open PySem PySem.Spec PyProof.Rows L2
theorem gz_lt {h : Hq} {n k m : Nat} (hm : m < n) : gz h n k m = some (.ref m) := by
  cases k <;> (unfold gz; rw [if_pos hm])
section
variable {K : KW} {H : Hp} {ρ : Nat → Addr}
theorem gz_rp {h : Hq} (S : Sim K ρ h H) {n : Nat} (hn : n ≤ h.length) : ∀ (k m : Nat) (d2 : D), m < h.length → gz h n k m = some d2 → Rp K H ρ n d2 (.ref (ρ m)) := by
  intro k
  induction k with
  | zero =>
    intro m d2 hm e
    unfold gz at e
    split at e
    · rename_i hlt; cases e; exact of_ref hlt
    · cases e
  | succ k ih =>
    intro m d2 hm e
    unfold gz at e
    split at e
    · rename_i hlt; cases e; exact of_ref hlt
    · rename_i hlt
      have off : ∀ i, i < n → ρ i ≠ ρ m := fun i hi z => by
        have := S.inj i m (by omega) hm z
        omega
      split at e
      · rename_i ds q
        simp only [Option.map_eq_some_iff] at e
        obtain ⟨es, e1, rfl⟩ := e
        obtain ⟨xs, hx, l⟩ := S.ob m _ q
        unfold Rp
        exact ⟨_, xs, rfl, ⟨off, .inl hx⟩, RpL.fz hn ih ds xs es l e1⟩
      · rename_i ks vs q
        simp only [Option.bind_eq_some_iff, Option.map_eq_some_iff] at e
        obtain ⟨a1, e1, b1, e2, rfl⟩ := e
        obtain ⟨u, kv, xs, hx, du, l1, l2⟩ := S.ob m _ q
        unfold Rp
        exact ⟨_, u, kv, xs, rfl, off, .inl hx, dctU_fz du e1, RpL.fz hn ih ks kv a1 l1 e1, RpL.fz hn ih vs xs b1 l2 e2⟩
      · rename_i ks vs q
        simp only [Option.bind_eq_some_iff, Option.map_eq_some_iff] at e
        obtain ⟨a1, e1, b1, e2, rfl⟩ := e
        obtain ⟨u, kv, xs, hx, du, l1, l2⟩ := S.ob m _ q
        unfold Rp
        exact ⟨_, u, kv, xs, rfl, off, hx, dctU_fz du e1, RpL.fz hn ih ks kv a1 l1 e1, RpL.fz hn ih vs xs b1 l2 e2⟩
      · cases e
theorem ObR.fz {n n2 a : Nat} {g : Nat → Option D} (hle : n2 ≤ n) (hg : ∀ m d2, m < n → g m = some d2 → Rp K H ρ n2 d2 (.ref (ρ m))) {o o2 : Ob} (r : ObR K H ρ n a o) (e : o.fz g = some o2) : ObR K H ρ n2 a o2 := by
  cases o with
  | lst ds =>
    simp only [Ob.fz, Option.map_eq_some_iff] at e
    obtain ⟨es, e1, rfl⟩ := e
    obtain ⟨xs, hx, l⟩ := r
    exact ⟨xs, hx, RpL.fz hle hg ds xs es l e1⟩
  | dct ks vs =>
    simp only [Ob.fz, Option.bind_eq_some_iff, Option.map_eq_some_iff] at e
    obtain ⟨a1, e1, b1, e2, rfl⟩ := e
    obtain ⟨u, kv, xs, hx, du, l1, l2⟩ := r
    exact ⟨u, kv, xs, hx, dctU_fz du e1, RpL.fz hle hg ks kv a1 l1 e1, RpL.fz hle hg vs xs b1 l2 e2⟩
  | lck ks vs =>
    simp only [Ob.fz, Option.bind_eq_some_iff, Option.map_eq_some_iff] at e
    obtain ⟨a1, e1, b1, e2, rfl⟩ := e
    obtain ⟨u, kv, xs, hx, du, l1, l2⟩ := r
    exact ⟨u, kv, xs, hx, dctU_fz du e1, RpL.fz hle hg ks kv a1 l1 e1, RpL.fz hle hg vs xs b1 l2 e2⟩
  | ins c ns ds =>
    simp only [Ob.fz, Option.map_eq_some_iff] at e
    obtain ⟨es, e1, rfl⟩ := e
    obtain ⟨C, dx, fs, c1, hx, c2, l⟩ := r
    exact ⟨C, dx, fs, c1, hx, c2, RpL.fz hle hg ds _ es l e1⟩
def Ob.sc (n : Nat) : Ob → Bool
  | .lst ds => D.scL n ds
  | .dct ks vs => D.scL n ks && D.scL n vs
  | .lck ks vs => D.scL n ks && D.scL n vs
  | .ins _ _ ds => D.scL n ds
theorem ObR.scOf {n a} {o : Ob} (r : ObR K H ρ n a o) : o.sc n = true := by
  cases o with
  | lst ds => obtain ⟨xs, h1, h2⟩ := r; exact RpL.scOf ds xs h2
  | dct ks vs => obtain ⟨u, kv, xs, q, d, r1, r2⟩ := r; show (D.scL n ks && D.scL n vs) = true; rw [RpL.scOf ks kv r1, RpL.scOf vs xs r2]; rfl
  | lck ks vs => obtain ⟨u, kv, xs, q, d, r1, r2⟩ := r; show (D.scL n ks && D.scL n vs) = true; rw [RpL.scOf ks kv r1, RpL.scOf vs xs r2]; rfl
  | ins c ns ds => obtain ⟨_, _, _, _, _, _, r⟩ := r; exact RpL.scOf ds _ r
theorem Ob.fz_sc {g : Nat → Option D} {n : Nat} (hg : ∀ m, m < n → g m = some (.ref m)) {o : Ob} (h : o.sc n = true) : o.fz g = some o := by
  cases o with
  | lst ds => simp only [Ob.fz]; rw [D.fzL_sc hg ds h]; rfl
  | dct ks vs =>
    have h' : (D.scL n ks && D.scL n vs) = true := h
    rw [Bool.and_eq_true] at h'
    simp only [Ob.fz]; rw [D.fzL_sc hg ks h'.1, D.fzL_sc hg vs h'.2]; rfl
  | lck ks vs =>
    have h' : (D.scL n ks && D.scL n vs) = true := h
    rw [Bool.and_eq_true] at h'
    simp only [Ob.fz]; rw [D.fzL_sc hg ks h'.1, D.fzL_sc hg vs h'.2]; rfl
  | ins c ns ds => simp only [Ob.fz]; rw [D.fzL_sc hg ds h]; rfl
end
/-- from the heap h' the first objects, as many as hs has -/
def gcR (hs h' h2 : Hq) (k : Nat) : Prop := h2.length = hs.length ∧ ∀ (i : Nat) (o : Ob), h2[i]? = some o → (hs[i]? = some o ∧ h'[i]? = some o) ∨ ∃ o', h'[i]? = some o' ∧ o'.fz (gz h' hs.length k) = some o
/-- the heap hs at the call; d, h' at the return -/
def gcK (hs : Hq) (P : WK) (d : D) (h' : Hq) : Prop := ∃ h2 d2 k, gcR hs h' h2 k ∧ D.fz (gz h' hs.length k) d = some d2 ∧ P d2 h2
def FzFr (g : Nat → Option D) : Fr → Fr → Prop
  | [], [] => True
  | x :: xs, y :: ys => (y = none ∨ ∃ d e, x = some d ∧ y = some e ∧ D.fz g d = some e) ∧ FzFr g xs ys
  | _, _ => False
/-- the heap hs at a loop's start -/
def gcF (hs : Hq) (P : Fr → Hq → Prop) (fr : Fr) (h' : Hq) : Prop := P fr h' ∨ ∃ h2 fr2 k, gcR hs h' h2 k ∧ FzFr (gz h' hs.length k) fr fr2 ∧ P fr2 h2
section
variable {K : KW} {H H' : Hp} {ρ ρ' : Nat → Addr} {h h' h2 : Hq} {k : Nat}
theorem gcR_ok (S : Sim K ρ h H) (e : Ext K ρ h.length H ρ' h'.length H') (S' : Sim K ρ' h' H') (g : gcR h h' h2 k) : Sim K ρ' h2 H' ∧ Ext K ρ h.length H ρ' h2.length H' ∧ ∀ m d2, m < h'.length → gz h' h.length k m = some d2 → Rp K H' ρ' h2.length d2 (.ref (ρ' m)) := by
  obtain ⟨g1, g2⟩ := g
  have gr : ∀ m d2, m < h'.length → gz h' h.length k m = some d2 → Rp K H' ρ' h2.length d2 (.ref (ρ' m)) := by rw [g1]; exact gz_rp S' e.le k
  refine ⟨⟨fun i o hi => ?_, fun i j hi hj q => S'.inj i j (by have := e.le; omega) (by have := e.le; omega) q⟩, ?_, gr⟩
  · rcases g2 i o hi with ⟨q1, q2⟩ | ⟨o', q1, q2⟩
    · have r := S'.ob i o q2
      have sc : o.sc h.length = true := (S.ob i o q1).scOf
      exact ObR.fz (by rw [g1]; exact e.le) gr r (Ob.fz_sc (fun m hm => gz_lt hm) sc)
    · exact ObR.fz (by rw [g1]; exact e.le) gr (S'.ob i o' q1) q2
  · rw [g1]
    exact ⟨Nat.le_refl _, e.ag, e.tp, e.un, fun i h1 h2 => absurd h1 (by omega), e.st, e.fr⟩
theorem gc_ok {P Q} {d v} (S : Sim K ρ h H) (e : Ext K ρ h.length H ρ' h'.length H') (S' : Sim K ρ' h' H') (rv : Rp K H' ρ' h'.length d v) (g : gcK h P d h') (c : ClE K ρ h H P Q) : Q v H' := by
  obtain ⟨h2, d2, k, gr, ed, p⟩ := g
  obtain ⟨S2, e2, f⟩ := gcR_ok S e S' gr
  exact c ρ' h2 H' d2 v e2 S2 (Rp.fz (by rw [gr.1]; exact e.le) f d v d2 rv ed) p
theorem fzfr_ok {n n2} {g : Nat → Option D} (hle : n2 ≤ n) (hg : ∀ m d2, m < n → g m = some d2 → Rp K H ρ n2 d2 (.ref (ρ m))) : ∀ {fr fr2 : Fr} {σ : L2.St}, FrR K ρ n H fr σ → FzFr g fr fr2 → FrR K ρ n2 H fr2 σ := by
  intro fr fr2 σ F z
  have len : ∀ (fr fr2 : Fr), FzFr g fr fr2 → fr.length = fr2.length := by
    intro fr
    induction fr with
    | nil => intro fr2 z; cases fr2 with
      | nil => rfl
      | cons _ _ => exact z.elim
    | cons x xs ih => intro fr2 z; cases fr2 with
      | nil => exact z.elim
      | cons y ys => simp [ih ys z.2]
  have get : ∀ (fr fr2 : Fr) (i : Nat) (e : D), FzFr g fr fr2 → fr2[i]? = some (some e) → ∃ d, fr[i]? = some (some d) ∧ D.fz g d = some e := by
    intro fr
    induction fr with
    | nil => intro fr2 i e z q; cases fr2 with
      | nil => simp at q
      | cons _ _ => exact z.elim
    | cons x xs ih => intro fr2 i e z q; cases fr2 with
      | nil => exact z.elim
      | cons y ys =>
        cases i with
        | zero =>
          have q' : y = some e := by simpa using q
          rcases z.1 with z | ⟨d, e', z1, z2, z3⟩
          · rw [z] at q'; cases q'
          · rw [z2] at q'; cases q'; exact ⟨d, by rw [z1]; rfl, z3⟩
        | succ i => exact ih ys i e z.2 (by simpa using q)
  refine ⟨by rw [← len _ _ z]; exact F.len, fun i e q => ?_⟩
  obtain ⟨d, h1, h2⟩ := get _ _ i e z q
  obtain ⟨v, h3, h4⟩ := F.at_ i d h1
  exact ⟨v, h3, Rp.fz hle hg d v e h4 h2⟩
/-- a turn's end -/
theorem gcF_ok {P : Fr → Hq → Prop} {fr : Fr} {σ : L2.St} (S : Sim K ρ h H) (e : Ext K ρ h.length H ρ' h'.length H') (S' : Sim K ρ' h' H') (F : FrR K ρ' h'.length H' fr σ) (g : gcF h P fr h') :
    ∃ ρ2 fr2 h2, Ext K ρ h.length H ρ2 h2.length H' ∧ Sim K ρ2 h2 H' ∧ FrR K ρ2 h2.length H' fr2 σ ∧ P fr2 h2 := by
  rcases g with p | ⟨h2, fr2, k, gr, fz, p⟩
  · exact ⟨ρ', fr, h', e, S', F, p⟩
  · obtain ⟨S2, e2, f⟩ := gcR_ok S e S' gr
    exact ⟨ρ', fr2, h2, e2, S2, fzfr_ok (by rw [gr.1]; exact e.le) f F fz, p⟩
/-! ### the usual ends -/
theorem gcR_pre {g : Hq} : gcR h (h ++ g) h k := ⟨rfl, fun i o hi => .inl ⟨hi, by rw [List.getElem?_append_left (get_lt hi)]; exact hi⟩⟩
/-- the heap of before, and a value without objects -/
theorem gc_v {g : Hq} {P : WK} {d : D} (nr : d.nr = true) (p : P d h) : gcK h P d (h ++ g) := ⟨h, d, 0, gcR_pre, D.fz_nr d nr, p⟩
theorem gc_same {P : WK} {d : D} (nr : d.nr = true) (p : P d h) : gcK h P d h := by
  have := gc_v (g := []) nr p
  rwa [List.append_nil] at this
theorem gc_pre {P : WK} {d : D} (q : h <+: h') (nr : d.nr = true) (p : P d h) : gcK h P d h' := by
  obtain ⟨g, rfl⟩ := q
  exact gc_v nr p
theorem gz_lst {n k m : Nat} {ds : List D} (hm : n ≤ m) (e : lstAt h m = some ds) (nr : D.nrL ds = true) : gz h n (k + 1) m = some (.lst ds) := by
  unfold gz
  rw [if_neg (by omega), lstAt_get e]
  show (D.fzL _ ds).map D.lst = _
  rw [D.fzL_nr ds nr]; rfl
theorem gz_dct {n k m : Nat} {ks vs : List D} (hm : n ≤ m) (e : h[m]? = some (.dct ks vs) ∨ h[m]? = some (.lck ks vs)) (nk : D.nrL ks = true) (nr : D.nrL vs = true) : gz h n (k + 1) m = some (.dct ks vs) := by
  unfold gz
  rw [if_neg (by omega)]
  rcases e with e | e
  · rw [e]
    show (D.fzL _ ks).bind _ = _
    rw [D.fzL_nr ks nk, D.fzL_nr vs nr]; rfl
  · rw [e]
    show (D.fzL _ ks).bind _ = _
    rw [D.fzL_nr ks nk, D.fzL_nr vs nr]; rfl
/-- a list that was made -/
theorem gc_lst {P : WK} {m : Nat} {ds : List D} (q : h <+: h') (hm : h.length ≤ m) (e : lstAt h' m = some ds) (nr : D.nrL ds = true) (p : P (.lst ds) h) : gcK h P (.ref m) h' := by
  obtain ⟨g, rfl⟩ := q
  exact ⟨h, .lst ds, 1, gcR_pre, by simp only [D.fz]; exact gz_lst hm e nr, p⟩
/-- a dict that was made -/
theorem gc_dct {P : WK} {m : Nat} {ks vs : List D} (q : h <+: h') (hm : h.length ≤ m) (e : h'[m]? = some (.dct ks vs) ∨ h'[m]? = some (.lck ks vs)) (nk : D.nrL ks = true) (nr : D.nrL vs = true) (p : P (.dct ks vs) h) : gcK h P (.ref m) h' := by
  obtain ⟨g, rfl⟩ := q
  exact ⟨h, .dct ks vs, 1, gcR_pre, by simp only [D.fz]; exact gz_dct hm e nk nr, p⟩
theorem Ob.fz_nr {g : Nat → Option D} {ds : List D} (nr : D.nrL ds = true) : Ob.fz g (.lst ds) = some (.lst ds) := by
  simp only [Ob.fz]; rw [D.fzL_nr ds nr]; rfl
theorem gcR_set {n : Nat} {es : List D} {g : Hq} (nr : D.nrL es = true) : gcR h (h.set n (.lst es) ++ g) (h.set n (.lst es)) k := by
  refine ⟨List.length_set .., fun i o hi => ?_⟩
  have hl : (h.set n (.lst es) ++ g)[i]? = some o := by rw [List.getElem?_append_left (get_lt hi)]; exact hi
  by_cases hn : n = i
  · subst hn
    have hlt := get_lt hi
    rw [List.length_set] at hlt
    rw [List.getElem?_set_self hlt] at hi
    cases hi
    exact .inr ⟨_, hl, Ob.fz_nr nr⟩
  · rw [List.getElem?_set_ne hn] at hi
    exact .inl ⟨hi, hl⟩
/-- a list of the caller's has changed -/
theorem gc_mut {P : WK} {d : D} {n : Nat} {es : List D} (q : h.set n (.lst es) <+: h') (nrE : D.nrL es = true) (nr : d.nr = true) (p : P d (h.set n (.lst es))) : gcK h P d h' := by
  obtain ⟨g, rfl⟩ := q
  exact ⟨_, d, 0, gcR_set nrE, D.fz_nr d nr, p⟩
end
end MP

namespace MP
open PySem PySem.Spec PyProof.Rows L2

/-! ### what is walked -/
inductive Src where
  | fix (ds : List D) | lst (n : Nat) | zip (a b : Src) | enum (a : Src)
/-- at a turn: none: no such thing; some none: the end -/
def Src.tick : Src → Hq → Nat → Option (Option D)
  | .fix ds, _, i => some ds[i]?
  | .lst n, h, i => (lstAt h n).map fun ds => ds[i]?
  | .zip a b, h, i => match a.tick h i, b.tick h i with
    | some (some x), some (some y) => some (some (.tup [x, y]))
    | some none, some _ => some none
    | some (some _), some none => some none
    | _, _ => none
  | .enum a, h, i => match a.tick h i with
    | some (some x) => some (some (.tup [.int i, x]))
    | some none => some none
    | none => none
abbrev WI := Fr → Hq → (Src → Hq → Prop) → Prop
def ItOk (K : KW) (ρ : Nat → Addr) (n : Nat) (H : Hp) (J : It) (s : Src) : Prop := ∀ ρ' h' H' i, Ext K ρ n H ρ' h'.length H' → Sim K ρ' h' H' →
  (s.tick h' i = some none → J.stop i H') ∧ (∀ d, s.tick h' i = some (some d) → J.go i H' ∧ ∀ x H'', J.yld i H' x H'' → Ext K ρ' h'.length H' ρ' h'.length H'' ∧ Sim K ρ' h' H'' ∧ Rp K H'' ρ' h'.length d x)
theorem ItOk.ext {K ρ n H ρ1 n1 H1 J s} (o : ItOk K ρ n H J s) (e : Ext K ρ n H ρ1 n1 H1) : ItOk K ρ1 n1 H1 J s := fun ρ' h' H' i e' => o ρ' h' H' i (e.trans e')
def liftI (K : KW) (w : WI) : TI := fun σ H R => ∃ ρ fr h P, Sim K ρ h H ∧ FrR K ρ h.length H fr σ ∧ w fr h P ∧
  ∀ ρ' h' H' J s, Ext K ρ h.length H ρ' h'.length H' → Sim K ρ' h' H' → ItOk K ρ' h'.length H' J s → P s h' → R J H'
theorem PI.imp {X : Cx} {tg e : Expr} {t t' : TI} (h : PI X tg e t) (i : ∀ σ H Q, t' σ H Q → t σ H Q) : PI X tg e t' := ⟨fun pins s σ H R I q => h.run pins s σ H R I (i σ H R q)⟩
abbrev SI (X : Cx) (tg e : Expr) (w : WI) : Prop := PI X tg e (liftI X.kw w)

section
variable {X : Cx} {tg e : Expr}
theorem itok_tup {K : KW} {ρ n H a xs ds} (q : TqT K H a xs) (r : RpL K H ρ n ds xs) : ItOk K ρ n H (Itt K.1 a) (.fix ds) := by
  intro ρ' h' H' i e S
  have q' := e.tp a xs q
  have r' := RpL.ext e ds xs r
  refine ⟨fun z => ⟨xs, q'.sq, ?_⟩, fun d z => ?_⟩
  · have : ds[i]? = none := Option.some.inj z
    rw [← r'.length]; exact List.getElem?_eq_none_iff.mp this
  · have hd : ds[i]? = some d := Option.some.inj z
    obtain ⟨x, hx, rx⟩ := r'.get hd
    refine ⟨⟨xs, x, q'.sq, hx⟩, fun y H'' ⟨e1, e2⟩ => ?_⟩
    subst e1
    have := e2 xs q'.sq
    rw [hx] at this
    cases this
    exact ⟨.refl, S, rx⟩
theorem itok_str {K : KW} {ρ n H} {s : List Nat} (o : StrOk s) : ItOk K ρ n H (Its (mkS s)) (.fix (s.map fun c => .str [c])) := by
  intro ρ' h' H' i e S
  have hs : (mkS s).cps.size = s.length := str_len s
  have hg : ∀ i : Nat, (mkS s).cps[i]? = s[i]? := fun i => by unfold mkS; simp
  refine ⟨fun z => ?_, fun d z => ?_⟩
  · have z' : (s.map fun c => D.str [c])[i]? = none := Option.some.inj z
    rw [List.getElem?_map, Option.map_eq_none_iff] at z'
    show (mkS s).cps.size ≤ i
    rw [hs]; exact List.getElem?_eq_none_iff.mp z'
  · have z' : (s.map fun c => D.str [c])[i]? = some d := Option.some.inj z
    rw [List.getElem?_map, Option.map_eq_some_iff] at z'
    obtain ⟨c, hc, rfl⟩ := z'
    refine ⟨?_, fun y H'' ⟨e1, c', hc', e2⟩ => ?_⟩
    · show i < (mkS s).cps.size
      rw [hs]; exact (List.getElem?_eq_some_iff.mp hc).1
    · subst e1
      rw [hg, hc] at hc'
      cases hc'
      subst e2
      exact ⟨.refl, S, of_str (s := [c]) ⟨by show 1 ≤ _; decide, fun y hy => by
        have : y = c := by simpa using hy
        subst this; exact o.2 _ (List.mem_of_getElem? hc)⟩⟩
theorem itok_fix {K : KW} {ρ n H a xs ds} (q : LqL H ρ n a xs) (r : RpL K H ρ n ds xs) : ItOk K ρ n H (Itl K.1 a) (.fix ds) := by
  intro ρ' h' H' i e S
  have q' := q.ext e
  have r' := RpL.ext e ds xs r
  have sq : SqL K.1 H' a xs := q'.sq
  refine ⟨fun z => ⟨xs, sq, ?_⟩, fun d z => ?_⟩
  · have : ds[i]? = none := Option.some.inj z
    rw [← r'.length]; exact List.getElem?_eq_none_iff.mp this
  · have hd : ds[i]? = some d := Option.some.inj z
    obtain ⟨x, hx, rx⟩ := r'.get hd
    refine ⟨⟨xs, x, sq, hx⟩, fun y H'' ⟨e1, e2⟩ => ?_⟩
    subst e1
    have := e2 xs sq
    rw [hx] at this
    cases this
    exact ⟨.refl, S, rx⟩
theorem itok_scr {K : KW} {ρ n H a} {ns : List Int} (q : ScL K H ρ n a (ns.map V.int)) : ItOk K ρ n H (Itl K.1 a) (.fix (ns.map D.int)) := by
  intro ρ' h' H' i e S
  have q' := q.ext e
  have r' : RpL K H' ρ' h'.length (ns.map D.int) (ns.map V.int) := RpL.ints ns
  have sq : SqL K.1 H' a (ns.map V.int) := q'.sq
  refine ⟨fun z => ⟨_, sq, ?_⟩, fun d z => ?_⟩
  · have : (ns.map D.int)[i]? = none := Option.some.inj z
    rw [← r'.length]; exact List.getElem?_eq_none_iff.mp this
  · have hd : (ns.map D.int)[i]? = some d := Option.some.inj z
    obtain ⟨x, hx, rx⟩ := r'.get hd
    refine ⟨⟨_, x, sq, hx⟩, fun y H'' ⟨e1, e2⟩ => ?_⟩
    subst e1
    have := e2 _ sq
    rw [hx] at this
    cases this
    exact ⟨.refl, S, rx⟩
theorem itok_lst {K : KW} {ρ : Nat → Addr} {n H m} (hm : m < n) : ItOk K ρ n H (Itl K.1 (ρ m)) (.lst m) := by
  intro ρ' h' H' i e S
  have em : ρ' m = ρ m := e.ag m hm
  refine ⟨fun z => ?_, fun d z => ?_⟩
  · cases q : lstAt h' m with
    | none => simp [Src.tick, q] at z
    | some ds =>
      simp only [Src.tick, q, Option.map_some, Option.some.injEq] at z
      obtain ⟨xs, hx, l⟩ := S.lstAt q
      rw [em] at hx
      exact ⟨xs, .inl (.inl hx), by rw [← l.length]; exact List.getElem?_eq_none_iff.mp z⟩
  · cases q : lstAt h' m with
    | none => simp [Src.tick, q] at z
    | some ds =>
      simp only [Src.tick, q, Option.map_some, Option.some.injEq] at z
      obtain ⟨xs, hx, l⟩ := S.lstAt q
      rw [em] at hx
      obtain ⟨x, h1, rx⟩ := l.get z
      refine ⟨⟨xs, x, .inl (.inl hx), h1⟩, fun y H'' ⟨e1, e2⟩ => ?_⟩
      subst e1
      have := e2 xs (.inl (.inl hx))
      rw [h1] at this
      cases this
      exact ⟨.refl, S, rx⟩
/-- range -/
def wiRng1 (a : WA) : WI := fun fr h P => a fr h fun ds h1 => match ds with
  | [.int j] => (-(2 ^ 62) ≤ j ∧ j < 2 ^ 62) ∧ P (.fix ((List.range j.toNat).map fun i : Nat => D.int ((i : Nat) : Int))) h1
  | _ => False
def wiRng2 (a : WA) : WI := fun fr h P => a fr h fun ds h1 => match ds with
  | [.int i, .int j] => (-(2 ^ 62) ≤ i ∧ i < 2 ^ 62 ∧ -(2 ^ 62) ≤ j ∧ j < 2 ^ 62) ∧ P (.fix ((List.range (j - i).toNat).map fun k : Nat => D.int (i + ((k : Nat) : Int)))) h1
  | _ => False
theorem itok_rng {K : KW} {ρ : Nat → Addr} {n H} {lo : Int} {k : Nat} : ItOk K ρ n H (Itr lo k) (.fix ((List.range k).map fun i : Nat => D.int (lo + ((i : Nat) : Int)))) := by
  intro ρ' h' H' i e S
  refine ⟨fun z => ?_, fun d z => ?_⟩
  · have z' := Option.some.inj z
    rw [List.getElem?_map, Option.map_eq_none_iff] at z'
    have := List.getElem?_eq_none_iff.mp z'
    have h2 : k ≤ i := by simpa using this
    exact h2
  · have z' := Option.some.inj z
    rw [List.getElem?_map, Option.map_eq_some_iff] at z'
    obtain ⟨c, hc, rfl⟩ := z'
    have hi : i < k := by have := (List.getElem?_eq_some_iff.mp hc).1; simpa using this
    have hc' : c = i := by
      rw [List.getElem?_range hi] at hc
      exact (Option.some.inj hc).symm
    subst hc'
    refine ⟨hi, fun y H'' ⟨e1, e2⟩ => ?_⟩
    subst e1; subst e2
    exact ⟨.refl, S, of_int⟩
theorem si_rng1 {a : Expr} {ta : WA} {p pos : Pos} (hg : Gl X "range") (hm : X.mg "range" = none) (ha : SA X [a] ta) (hs : starEach [a] X.env = [(false, eval a X.env)]) : SI X tg (.Call (.Name "range" p) [a] [] pos) (wiRng1 ta) := by
  refine PI.imp (pi_range1 hg hm ha hs) fun σ H R ⟨ρ, fr, h, P, S, F, w, c⟩ => ⟨ρ, fr, h, _, S, F, w, fun ρ1 h1 H1 ds xs e1 S1 r1 w1 => ?_⟩
  split at w1
  · rename_i j
    obtain ⟨x, rfl, rx⟩ := rpl1 r1
    refine ⟨j, by rw [rp_int rx], w1.1.1, w1.1.2, c ρ1 h1 H1 _ _ e1 S1 ?_ w1.2⟩
    have := itok_rng (K := X.kw) (ρ := ρ1) (n := h1.length) (H := H1) (lo := 0) (k := j.toNat)
    simpa using this
  · exact w1.elim
theorem si_rng2 {a b : Expr} {ta : WA} {p pos : Pos} (hg : Gl X "range") (hm : X.mg "range" = none) (ha : SA X [a, b] ta) (hs : starEach [a, b] X.env = [(false, eval a X.env), (false, eval b X.env)]) (hs2 : starEach [b] X.env = [(false, eval b X.env)]) :
    SI X tg (.Call (.Name "range" p) [a, b] [] pos) (wiRng2 ta) := by
  refine PI.imp (pi_range2 hg hm ha hs hs2) fun σ H R ⟨ρ, fr, h, P, S, F, w, c⟩ => ⟨ρ, fr, h, _, S, F, w, fun ρ1 h1 H1 ds xs e1 S1 r1 w1 => ?_⟩
  split at w1
  · rename_i i j
    obtain ⟨x, y, rfl, rx, ry⟩ := rpl2 r1
    exact ⟨i, j, by rw [rp_int rx, rp_int ry], w1.1, c ρ1 h1 H1 _ _ e1 S1 itok_rng w1.2⟩
  · exact w1.elim
end

/-! ### targets -/
def gName (i : Nat) : WG := fun d fr h P => P (fr.set i (some d)) h
def gTup (n : Nat) (g : WGs) : WG := fun d fr h P => match d with
  | .tup ds => ds.length = n ∧ g ds fr h P
  | _ => False
def gNil : WGs := fun ds fr h P => match ds with
  | [] => P fr h
  | _ => False
def gCons (g : WG) (r : WGs) : WGs := fun ds fr h P => match ds with
  | d :: ds => g d fr h fun fr' h' => r ds fr' h' P
  | [] => False
section
variable {X : Cx} {pos : Pos}
theorem sg_name {i : Nat} {x : Str} (hN : X.N.Nodup) (hi : X.N[i]? = some x) (hx : Loc X.env.scope x) (hf : X.fn x = true ∨ X.env.scope.names.lookup x = some .local) : SG X (.Name x pos) (gName i) := by
  refine PG.imp (pg_name hN hi hx hf) fun v σ H Q ⟨ρ, fr, h, d, P, S, F, r, w, c⟩ => ?_
  exact c ρ h H _ _ .refl S (F.set r) w
theorem sgs_nil : SGs X [] gNil := by
  refine PGs.imp pgs_nil fun vs σ H Q ⟨ρ, fr, h, ds, P, S, F, r, w, c⟩ => ?_
  unfold gNil at w
  split at w
  · unfold RpL at r
    exact ⟨r, c ρ h H _ _ .refl S F w⟩
  · exact w.elim
theorem sgs_cons {e : Expr} {es : List Expr} {g : WG} {r : WGs} (h1 : SG X e g) (h2 : SGs X es r) (hs : (assignEach (e :: es) X.env).map (·.2) = assign e X.env :: (assignEach es X.env).map (·.2)) : SGs X (e :: es) (gCons g r) := by
  refine PGs.imp (pgs_cons h1 h2 hs) fun vs σ H Q ⟨ρ, fr, h, ds, P, S, F, r, w, c⟩ => ?_
  unfold gCons at w
  split at w
  · rename_i d ds
    unfold RpL at r
    obtain ⟨x, r', rfl, r1, r2⟩ := r
    refine ⟨x, r', rfl, ρ, fr, h, d, _, S, F, r1, w, fun ρ1 h1 H1 fr1 σ1 e1 S1 F1 w1 => ?_⟩
    exact ⟨ρ1, fr1, h1, ds, P, S1, F1, RpL.ext e1 _ _ r2, w1, c.step e1⟩
  · exact w.elim
theorem sg_tup {es : List Expr} {k : Nat} {g : WGs} {n : Nat} (hc : X.calm = true) (h : SGs X es g) (hn : (assignEach es X.env).length = n) (hst : (assignEach es X.env).findIdx? (·.1) = none) : SG X (.Tuple es k pos) (gTup n g) := by
  refine PG.imp (pg_tup hc h hn hst) fun v σ H Q ⟨ρ, fr, h, d, P, S, F, r, w, c⟩ => ?_
  unfold gTup at w
  split at w
  · rename_i ds
    obtain ⟨a, xs, rfl, q, l⟩ := rp_tup r
    exact ⟨a, xs, rfl, q, by rw [← l.length]; exact w.1, ρ, fr, h, ds, P, S, F, l, w.2, c⟩
  · exact w.elim

/-! ### statements -/
def wsSeq (a b : WS) : WS := fun M fr h => a { M with nx := b M } fr h
def wsNil : WS := fun M fr h => M.nx fr h
theorem ss_nil : SSs X [] wsNil := PSs.imp pss_nil fun D σ H ⟨ρ, fr, h, M, S, F, w, c1, c2, c3, c4⟩ => c1 ρ h H _ _ .refl S F w
theorem ss_cons {s : Stmt} {ss : List Stmt} {a b : WS} (h1 : SS X s a) (h2 : SSs X ss b) : SSs X (s :: ss) (wsSeq a b) := by
  refine PSs.imp (pss_cons h1 h2) fun D σ H ⟨ρ, fr, h, M, S, F, w, c1, c2, c3, c4⟩ => ?_
  refine ⟨ρ, fr, h, _, S, F, w, fun ρ1 h1 H1 fr1 σ1 e1 S1 F1 w1 => ?_, c2, c3, c4⟩
  exact ⟨ρ1, fr1, h1, M, S1, F1, w1, c1.step e1, c2.step e1, c3.step e1, c4.step e1⟩
def wsRet (w : WE) : WS := fun M fr h => w fr h M.rt
theorem ss_ret {e : Expr} {w : WE} (he : SE X e w) : SS X (.Return (some e) pos) (wsRet w) :=
  PS.imp (ps_ret he) fun D σ H ⟨ρ, fr, h, M, S, F, w, c1, c2, c3, c4⟩ => ⟨ρ, fr, h, _, S, F, w, c2⟩
def wsRetN : WS := fun M fr h => M.rt .non h
theorem ss_retN : SS X (.Return none pos) wsRetN :=
  PS.imp ps_retN fun D σ H ⟨ρ, fr, h, M, S, F, w, c1, c2, c3, c4⟩ => c2 ρ h H _ _ .refl S of_non w
def wsExpr (w : WE) : WS := fun M fr h => w fr h fun _ h1 => M.nx fr h1
theorem ss_expr {e : Expr} {w : WE} (he : SE X e w) (hs : swapsWith e none pos.line X.env = pure false) : SS X (.Expr e pos) (wsExpr w) :=
  PS.imp (ps_expr he hs) fun D σ H ⟨ρ, fr, h, M, S, F, w, c1, c2, c3, c4⟩ => ⟨ρ, fr, h, _, S, F, w, fun ρ1 h1 H1 d v e1 S1 r1 w1 => c1 ρ1 h1 H1 _ _ e1 S1 (F.ext e1) w1⟩
def wsIf (t : WT) (a b : WS) : WS := fun M fr h => t fr h fun k h1 => if k = true then a M fr h1 else b M fr h1
theorem ss_if {c : Expr} {a b : List Stmt} {t : WT} {wa wb : WS} (hc : ST X c t) (ha : SSs X a wa) (hb : SSs X b wb) : SS X (.If c a b pos) (wsIf t wa wb) := by
  refine PS.imp (ps_if hc ha hb) fun D σ H ⟨ρ, fr, h, M, S, F, w, c1, c2, c3, c4⟩ => ⟨ρ, fr, h, _, S, F, w, fun ρ1 h1 H1 b e1 S1 w1 => ?_⟩
  cases b with
  | true => exact ⟨ρ1, fr, h1, M, S1, F.ext e1, w1, c1.step e1, c2.step e1, c3.step e1, c4.step e1⟩
  | false => exact ⟨ρ1, fr, h1, M, S1, F.ext e1, w1, c1.step e1, c2.step e1, c3.step e1, c4.step e1⟩
def wsNever : WS := fun _ _ _ => False
theorem ss_never {s : Stmt} : SS X s wsNever := PS.imp ps_never fun D σ H ⟨ρ, fr, h, M, S, F, w, _⟩ => w.elim
def wsPass : WS := fun M fr h => M.nx fr h
def wsBreak : WS := fun M fr h => M.bk fr h
def wsCont : WS := fun M fr h => M.ct fr h
theorem ss_pass : SS X (.Pass pos) wsPass := PS.imp ps_pass fun D σ H ⟨ρ, fr, h, M, S, F, w, c1, c2, c3, c4⟩ => c1 ρ h H _ _ .refl S F w
theorem ss_break : SS X (.Break pos) wsBreak := PS.imp ps_break fun D σ H ⟨ρ, fr, h, M, S, F, w, c1, c2, c3, c4⟩ => c3 ρ h H _ _ .refl S F w
theorem ss_cont : SS X (.Continue pos) wsCont := PS.imp ps_continue fun D σ H ⟨ρ, fr, h, M, S, F, w, c1, c2, c3, c4⟩ => c4 ρ h H _ _ .refl S F w
def wsAsg (g : WG) (w : WE) : WS := fun M fr h => w fr h fun d h1 => g d fr h1 M.nx
theorem asg_lift {K : KW} {g : WG} {we : WE} {D σ H} (q : liftS K (wsAsg g we) D σ H) : tAsg (liftE K we) (liftG K g) D σ H := by
  obtain ⟨ρ, fr, h, M, S, F, w, c1, c2, c3, c4⟩ := q
  exact ⟨ρ, fr, h, _, S, F, w, fun ρ1 h1 H1 d v e1 S1 r1 w1 => ⟨ρ1, fr, h1, d, _, S1, F.ext e1, r1, w1, c1.step e1⟩⟩
theorem ss_asg {tg e : Expr} {g : WG} {w : WE} (he : SE X e w) (hg : SG X tg g) (hs : swapsWithSole [tg] e pos.line X.env = pure false) (hw : swappedStores [tg] e X.env = pure none)
    (h1 : (assignEach [tg] X.env).map (·.2) = [assign tg X.env]) : SS X (.Assign [tg] e pos) (wsAsg g w) :=
  PS.imp (ps_asg he hg hs hw h1) fun D σ H q => asg_lift q
/-- a, b = x, y and three of them: no tuple is made -/
def wsPar (i j : Nat) (a : WA) : WS := fun M fr h => a fr h fun ds h1 => match ds with
  | [x, y] => M.nx ((fr.set i (some x)).set j (some y)) h1
  | _ => False
theorem ss_par {i j : Nat} {x y : Str} {a b : Expr} {ta : WA} {px py pt : Pos} {kt k2 pt2} (hc : X.calm = true) (hN : X.N.Nodup) (hi : X.N[i]? = some x) (hj : X.N[j]? = some y) (hij : i ≠ j)
    (hx : X.env.scope.names.lookup x = some .local) (hy : X.env.scope.names.lookup y = some .local) (ha : SA X [a, b] ta)
    (hw : swappedStores [.Tuple [.Name x px, .Name y py] kt pt] (.Tuple [a, b] k2 pt2) X.env = pure (some [x, y]))
    (hs : swapsWithSole [.Tuple [.Name x px, .Name y py] kt pt] (.Tuple [a, b] k2 pt2) pos.line X.env = pure false) :
    SS X (.Assign [.Tuple [.Name x px, .Name y py] kt pt] (.Tuple [a, b] k2 pt2) pos) (wsPar i j ta) := by
  refine PS.imp (ps_par hc hN hi hj hij hx hy ha hw hs) fun D σ H ⟨ρ, fr, h, M, S, F, w, c1, c2, c3, c4⟩ => ⟨ρ, fr, h, _, S, F, w, fun ρ1 h1 H1 ds xs e1 S1 r1 w1 => ?_⟩
  split at w1
  · obtain ⟨u, v, rfl, r2, r3⟩ := rpl2 r1
    exact ⟨u, v, rfl, c1 ρ1 h1 H1 _ _ e1 S1 (((F.ext e1).set r2).set r3) w1⟩
  · exact w1.elim
def wsAug (i : Nat) (g : W2) (w : WE) : WS := fun M fr h => match slot fr i with
  | some x => w fr h fun y h1 => g x y h1 fun z h2 => M.nx (fr.set i (some z)) h2
  | none => False
theorem pip_of {op : Operator} {r : R2} (h : OpR X (inplaceOp op) r) : PIp X op r := fun pins s σ H x y v u Q I r1 r2 q => h pins s σ H x y v u Q I r1 r2 q
theorem ss_aug {i : Nat} {x : Str} {e : Expr} {w : WE} {op : Operator} {g : W2} {pos' : Pos} (hN : X.N.Nodup) (hi : X.N[i]? = some x) (hx : Loc X.env.scope x) (he : SE X e w) (ho : OpR X (inplaceOp op) (lift2 X.kw g)) (hf : X.fn x = true ∨ X.env.scope.names.lookup x = some .local) :
    SS X (.AugAssign (.Name x pos') op e pos) (wsAug i g w) := by
  refine PS.imp (ps_aug hN hi hx he (pip_of ho) hf) fun D σ H ⟨ρ, fr, h, M, S, F, w, c1, c2, c3, c4⟩ => ?_
  unfold wsAug at w
  split at w
  · rename_i d hd
    obtain ⟨v, hv, rv⟩ := F.at_ i d (slot_get hd)
    refine ⟨v, hv, ρ, fr, h, _, S, F, w, fun ρ1 h1 H1 d1 v1 e1 S1 r1 w1 => ?_⟩
    exact ⟨ρ1, h1, d, d1, _, S1, Rp.ext e1 _ _ rv, r1, w1, fun ρ2 h2 H2 d2 v2 e2 S2 r2 w2 => c1 ρ2 h2 H2 _ _ (e1.trans e2) S2 ((F.ext (e1.trans e2)).set r2) w2⟩
  · exact w.elim
/-- while: by turns; hs: the heap at the start -/
def whN (hs : Hq) (t : WT) (b : WS) (M : MEnds) : Nat → Fr → Hq → Prop
  | 0, _, _ => False
  | n + 1, fr, h => t fr h fun k h1 => if k = true then b { M with nx := gcF hs (whN hs t b M n), ct := gcF hs (whN hs t b M n), bk := M.nx } fr h1 else M.nx fr h1
def wsWhile (t : WT) (b : WS) : WS := fun M fr h => ∃ n, whN h t b M n fr h
theorem ss_while {c : Expr} {body : List Stmt} {t : WT} {b : WS} (hp : PassesOwn (model X.prog X.w) X.A X.env X.xe) (hc : ST X c t) (hb : SSs X body b) : SS X (.While c body [] pos) (wsWhile t b) := by
  refine PS.imp (ps_while hp hc hb) fun D σ H ⟨ρ, fr, h, M, S, F, ⟨n, w⟩, c1, c2, c3, c4⟩ => ?_
  refine ⟨fun m σ1 H1 => ∃ ρ1 fr1 h1, Ext X.kw ρ h.length H ρ1 h1.length H1 ∧ Sim X.kw ρ1 h1 H1 ∧ FrR X.kw ρ1 h1.length H1 fr1 σ1 ∧ whN h t b M m fr1 h1, ⟨n, ρ, fr, h, .refl, S, F, w⟩, ?_⟩
  rintro m σ1 H1 ⟨ρ1, fr1, h1, e1, S1, F1, w1⟩
  cases m with
  | zero => exact w1.elim
  | succ m =>
    refine ⟨ρ1, fr1, h1, _, S1, F1, w1, fun ρ2 h2 H2 k e2 S2 w2 => ?_⟩
    cases k with
    | true =>
      rw [if_pos rfl] at w2 ⊢
      refine ⟨fun σ3 H3 => ∃ ρ3 fr3 h3, Ext X.kw ρ h.length H ρ3 h3.length H3 ∧ Sim X.kw ρ3 h3 H3 ∧ FrR X.kw ρ3 h3.length H3 fr3 σ3 ∧ whN h t b M m fr3 h3, fun σ3 H3 q => ⟨m, Nat.lt_succ_self m, q⟩, ?_⟩
      have e12 := e1.trans e2
      refine ⟨ρ2, fr1, h2, _, S2, F1.ext e2, w2, fun ρ3 h3 H3 fr3 σ3 e3 S3 F3 w3 => gcF_ok S (e12.trans e3) S3 F3 w3, c2.step e12, c1.step e12, fun ρ3 h3 H3 fr3 σ3 e3 S3 F3 w3 => gcF_ok S (e12.trans e3) S3 F3 w3⟩
    | false =>
      rw [if_neg Bool.false_ne_true] at w2 ⊢
      exact c1 ρ2 h2 H2 _ _ (e1.trans e2) S2 (F1.ext e2) w2
/-- for: by turns -/
def foN (hs : Hq) (s : Src) (g : WG) (b : WS) (M : MEnds) : Nat → Nat → Fr → Hq → Prop
  | 0, _, _, _ => False
  | n + 1, i, fr, h => match s.tick h i with
    | some (some d) => g d fr h fun fr1 h1 => b { M with nx := gcF hs (foN hs s g b M n (i + 1)), ct := gcF hs (foN hs s g b M n (i + 1)), bk := M.nx } fr1 h1
    | some none => M.nx fr h
    | none => False
def wsFor (wi : WI) (g : WG) (b : WS) : WS := fun M fr h => wi fr h fun s h1 => ∃ n, foN h1 s g b M n 0 fr h1
theorem ss_for {tg iter : Expr} {body : List Stmt} {wi : WI} {g : WG} {b : WS} (hp : PassesOwn (model X.prog X.w) X.A X.env X.xe) (hc : X.calm = true) (hi : SI X tg iter wi) (hg : SG X tg g) (hb : SSs X body b)
    (hs : ∀ x, foldedSetIterable iter X.env x = pure x) : SS X (.For tg iter body [] pos) (wsFor wi g b) := by
  refine PS.imp (ps_for hp hc hi hg hb hs) fun D σ H ⟨ρ, fr, h, M, S, F, w, c1, c2, c3, c4⟩ => ?_
  refine ⟨ρ, fr, h, _, S, F, w, fun ρ1 h1 H1 J s e1 S1 o ⟨n, w1⟩ => ?_⟩
  refine ⟨fun i m σ2 H2 => ∃ ρ2 fr2 h2, Ext X.kw ρ1 h1.length H1 ρ2 h2.length H2 ∧ Sim X.kw ρ2 h2 H2 ∧ FrR X.kw ρ2 h2.length H2 fr2 σ2 ∧ foN h1 s g b M m i fr2 h2, ⟨n, ρ1, fr, h1, .refl, S1, F.ext e1, w1⟩, ?_⟩
  rintro i m σ2 H2 ⟨ρ2, fr2, h2, e2, S2, F2, w2⟩
  cases m with
  | zero => exact w2.elim
  | succ m =>
    unfold foN at w2
    obtain ⟨o1, o2⟩ := o ρ2 h2 H2 i e2 S2
    split at w2
    · rename_i d hd
      obtain ⟨go, yl⟩ := o2 d hd
      refine .inr ⟨go, fun σ3 H3 => ∃ ρ3 fr3 h3, Ext X.kw ρ1 h1.length H1 ρ3 h3.length H3 ∧ Sim X.kw ρ3 h3 H3 ∧ FrR X.kw ρ3 h3.length H3 fr3 σ3 ∧ foN h1 s g b M m (i + 1) fr3 h3, fun σ3 H3 q => ⟨m, Nat.lt_succ_self m, q⟩, fun x H3 hy => ?_⟩
      obtain ⟨e3, S3, r3⟩ := yl x H3 hy
      refine ⟨ρ2, fr2, h2, d, _, S3, F2.ext e3, r3, w2, fun ρ4 h4 H4 fr4 σ4 e4 S4 F4 w4 => ?_⟩
      have e04 := e1.trans (e2.trans (e3.trans e4))
      have e14 := e2.trans (e3.trans e4)
      exact ⟨ρ4, fr4, h4, _, S4, F4, w4, fun ρ5 h5 H5 fr5 σ5 e5 S5 F5 w5 => gcF_ok S1 (e14.trans e5) S5 F5 w5, c2.step e04, c1.step e04, fun ρ5 h5 H5 fr5 σ5 e5 S5 F5 w5 => gcF_ok S1 (e14.trans e5) S5 F5 w5⟩
    · rename_i hd
      exact .inl ⟨o1 hd, c1 ρ2 h2 H2 _ _ (e1.trans e2) S2 F2 w2⟩
    · exact w2.elim
end
end MP

namespace MP
open PySem PySem.Spec PyProof.Rows L2

/-! ### in -/
def flatD : D → Bool
  | .non | .bl _ | .int _ | .str _ => true
  | _ => false
def gIn (neg : Bool) : W2 := fun d e h P => match e with
  | .str z => match d with
    | .str [c] => P (.bl (xor neg (decide (c ∈ z)))) h
    | _ => False
  | .tup ds => (flatD d = true ∧ ds.all flatD = true) ∧ P (.bl (xor neg (ds.any fun z => deq z d))) h
  | e => match lisOf h e with
    | some ds => (okD 40 d = true ∧ ds.all (okD 39) = true) ∧ P (.bl (xor neg (ds.any fun z => deq z d))) h
    | none => False
theorem flat_rp {K H ρ n d v} (f : flatD d = true) (r : Rp K H ρ n d v) : flatV v = true := by
  cases d with
  | non => rw [rp_non r]; rfl
  | bl _ => rw [rp_bl r]; rfl
  | int _ => rw [rp_int r]; rfl
  | str _ => rw [(rp_str r).1]; rfl
  | _ => cases f
theorem flat_rpl {K H ρ n} : ∀ {ds : List D} {xs : List V}, ds.all flatD = true → RpL K H ρ n ds xs → xs.all flatV = true
  | [], xs, _, r => by rw [r.nil_inv]; rfl
  | d :: ds, xs, f, r => by
    obtain ⟨x, r', rfl, r1, r2⟩ := r.cons_inv
    simp only [List.all_cons, Bool.and_eq_true] at f ⊢
    exact ⟨flat_rp f.1 r1, flat_rpl f.2 r2⟩
theorem eqV_deq {K H ρ n d e x y} (f : flatD d = true) (g : flatD e = true) (r : Rp K H ρ n d x) (q : Rp K H ρ n e y) : eqV x y = deq d e := by
  cases d with
  | non => rw [rp_non r]; cases e with
    | non => rw [rp_non q]; simp [eqV, deq]
    | bl _ => rw [rp_bl q]; simp [eqV, deq]
    | int _ => rw [rp_int q]; simp [eqV, deq]
    | str _ => rw [(rp_str q).1]; simp [eqV, deq]
    | _ => cases g
  | bl _ => rw [rp_bl r]; cases e with
    | non => rw [rp_non q]; simp [eqV, deq]
    | bl _ => rw [rp_bl q]; simp [eqV, deq]
    | int _ => rw [rp_int q]; simp [eqV, deq]
    | str _ => rw [(rp_str q).1]; simp [eqV, deq]
    | _ => cases g
  | int _ => rw [rp_int r]; cases e with
    | non => rw [rp_non q]; simp [eqV, deq]
    | bl _ => rw [rp_bl q]; simp [eqV, deq]
    | int _ => rw [rp_int q]; simp [eqV, deq]
    | str _ => rw [(rp_str q).1]; simp [eqV, deq]
    | _ => cases g
  | str _ => rw [(rp_str r).1]; cases e with
    | non => rw [rp_non q]; simp [eqV, deq]
    | bl _ => rw [rp_bl q]; simp [eqV, deq]
    | int _ => rw [rp_int q]; simp [eqV, deq]
    | str _ => rw [(rp_str q).1]; simp only [eqV, deq]; exact mkS_eq _ _
    | _ => cases g
  | _ => cases f
theorem inV_deq {K H ρ n e y} (g : flatD e = true) (q : Rp K H ρ n e y) : ∀ {ds : List D} {xs : List V}, ds.all flatD = true → RpL K H ρ n ds xs → inV y xs = ds.any fun z => deq z e
  | [], xs, _, r => by rw [r.nil_inv]; rfl
  | d :: ds, xs, f, r => by
    obtain ⟨x, r', rfl, r1, r2⟩ := r.cons_inv
    simp only [List.all_cons, Bool.and_eq_true] at f
    have ih := inV_deq g q f.2 r2
    unfold inV at ih ⊢
    simp only [List.any_cons]
    rw [eqV_deq f.1 g r1 q, ih]
theorem okD_le : ∀ {m n : Nat} {d : D}, m ≤ n → okD m d = true → okD n d = true := by
  intro m
  induction m with
  | zero =>
    intro n d _ h
    cases d <;> first | (cases h; done) | (cases n <;> rfl)
  | succ m ih =>
    intro n d hle h
    cases n with
    | zero => omega
    | succ n =>
      cases d <;> first
        | (cases h; done)
        | rfl
        | (simp only [okD] at h ⊢; exact List.all_eq_true.mpr fun x hx => ih (by omega) (List.all_eq_true.mp h x hx))
theorem okL_le {m n : Nat} {ds : List D} (h : m ≤ n) (o : ds.all (okD m) = true) : ds.all (okD n) = true := List.all_eq_true.mpr fun x hx => okD_le h (List.all_eq_true.mp o x hx)
theorem any_map_eqv {e : D} (he : okD 40 e = true) : ∀ {ds : List D}, ds.all (okD 40) = true → ((toPyL ds).any fun z => PyData.eqv z (toPy e)) = ds.any fun z => deq z e
  | [], _ => by simp [toPyL]
  | d :: ds, f => by
    simp only [List.all_cons, Bool.and_eq_true] at f
    simp only [toPyL, List.any_cons]
    rw [eqv_deq 40 d e f.1 he, any_map_eqv he f.2]
section
variable {X : Cx}
theorem og_inAny {op : CmpOp} {neg : Bool} (h1 : OpR X (compareOp op) (fun x y H Q => ∃ (c : Nat) (z : Str), x = .str ⟨#[c]⟩ ∧ y = .str z ∧ Q (.bl (xor neg (decide (c ∈ z.cps.toList)))) H))
    (h2 : OpR X (compareOp op) (rIn X.K neg))
    (h3 : OpR X (compareOp op) (fun x y H Q => ∃ d ds, Dp X.K H x d ∧ Dp X.K H y (.list ds) ∧ SeqAt.shaped d = true ∧ SeqAt.shaped (.list ds) = true ∧ Q (.bl (xor neg (ds.any fun z => PyData.eqv z d))) H)) :
    OpR X (compareOp op) (lift2 X.kw (gIn neg)) := by
  intro pins s σ H x y v u Q I rx ry ⟨ρ, h, d, e, P, S, r1, r2, w, c⟩
  have xeq : ∀ b : Bool, (if neg then !b else b) = xor neg b := fun b => by cases neg <;> cases b <;> rfl
  unfold gIn at w
  split at w
  · rename_i z
    split at w
    · rename_i k
      refine h1 pins s σ H x y v u Q I rx ry ⟨k, mkS z, (rp_str r1).1, (rp_str r2).1, ?_⟩
      rw [str_list]
      exact c ρ h H _ _ .refl S of_bl w
    · exact w.elim
  · rename_i ds
    obtain ⟨a, xs, h1', q, l⟩ := rp_tup r2
    refine h2 pins s σ H x y v u Q I rx ry ⟨a, xs, h1', .inr q, flat_rp w.1.1 r1, flat_rpl w.1.2 l, ?_⟩
    rw [inV_deq w.1.1 r1 w.1.2 l, xeq]
    exact c ρ h H _ _ .refl S of_bl w.2
  · split at w
    · rename_i ds hd
      obtain ⟨⟨o1, o2⟩, w⟩ := w
      obtain ⟨p, xs, h1, q, l⟩ := lis_ok S r2 hd
      obtain ⟨a1, a2, a3⟩ := Dp.of 40 d x o1 r1
      obtain ⟨b1, b2, b3⟩ := DpAll.of 39 ds xs o2 l
      refine h3 pins s σ H x y v u Q I rx ry ⟨toPy d, toPyL ds, a1, by rw [h1]; exact .lst q b1, shaped_of (Nat.le_refl _) a2 a3, ?_, ?_⟩
      · have := shaped_of (m := 40) (d := .lst ds) (Nat.le_refl _) (by simp only [toPy, PyData.canLay0]; exact b2) (by simp only [toPy, PyData.depth]; omega)
        simpa only [toPy] using this
      · rw [any_map_eqv o1 (okL_le (by omega) o2)]
        exact c ρ h H _ _ .refl S of_bl w
    · exact w.elim
theorem og_in (hu : X.A.units + 65 < cLine) : OpR X (compareOp .In) (lift2 X.kw (gIn false)) :=
  og_inAny (OpR.imp op_in_sign fun x y H Q ⟨c, z, e1, e2, q⟩ => ⟨c, z, e1, e2, by simpa using q⟩) op_in_seq (OpR.imp (op_inD hu) fun x y H Q ⟨d, ds, a, b, a', b', q⟩ => ⟨d, ds, a, b, a', b', by simpa using q⟩)
theorem og_notin (hu : X.A.units + 65 < cLine) : OpR X (compareOp .NotIn) (lift2 X.kw (gIn true)) :=
  og_inAny (OpR.imp op_notIn_sign fun x y H Q ⟨c, z, e1, e2, q⟩ => ⟨c, z, e1, e2, by simpa using q⟩) op_notIn_seq (OpR.imp (op_notInD hu) fun x y H Q ⟨d, ds, a, b, a', b', q⟩ => ⟨d, ds, a, b, a', b', by simpa using q⟩)

/-! ### built-ins -/
def wCB (g : WL) (a : WA) : WE := fun fr h P => a fr h fun ds h1 => g ds h1 P
theorem CallR.imp {f : Value} {t t' : List V → Hp → VK → Prop} (h : CallR X f t) (i : ∀ xs H Q, t' xs H Q → t xs H Q) : CallR X f t' := fun pins s σ H xs us Q I r q => h pins s σ H xs us Q I r (i xs H Q q)
theorem cb_lift {K : KW} {g : WL} {a : WA} {σ H Q} (q : liftE K (wCB g a) σ H Q) : tCB (liftL K g) (liftA K a) σ H Q := by
  obtain ⟨ρ, fr, h, P, S, F, w, c⟩ := q
  exact ⟨ρ, fr, h, _, S, F, w, fun ρ1 h1 H1 ds xs e1 S1 r1 w1 => ⟨ρ1, h1, ds, P, S1, r1, w1, c.step e1⟩⟩
theorem se_callB {x : Str} {id : String} {g : WL} {e : Expr} {es : List Expr} {a : WA} {p pos : Pos} (hc : CallR X (.builtin id) (liftL X.kw g)) (hg : Gl X x) (hm : X.mg x = none) (hv : bootBuiltins x = some (.builtin id)) (ha : SA X (e :: es) a) (hn : x ≠ "__name__") (hdb : (x == ("__debug__" : Str)) = false)
    (he : starEach (e :: es) X.env = (false, eval e X.env) :: starEach es X.env) (hpl : (backTo pos (starEach es X.env)).any (·.1) = false) : SE X (.Call (.Name x p) (e :: es) [] pos) (wCB g a) :=
  PE.imp (pe_callB hc hg hm hv ha hn hdb he hpl) fun σ H Q q => cb_lift q
theorem se_callTy {x : Str} {id : String} {g : WL} {e : Expr} {es : List Expr} {a : WA} {p pos : Pos} (hc : CallR X (.type id) (liftL X.kw g)) (hg : Gl X x) (hm : X.mg x = none) (hv : bootBuiltins x = some (.type id)) (ha : SA X (e :: es) a) (hn : x ≠ "__name__") (hdb : (x == ("__debug__" : Str)) = false)
    (he : starEach (e :: es) X.env = (false, eval e X.env) :: starEach es X.env) (hpl : (backTo pos (starEach es X.env)).any (·.1) = false) : SE X (.Call (.Name x p) (e :: es) [] pos) (wCB g a) :=
  PE.imp (pe_callTy hc hg hm hv ha hn hdb he hpl) fun σ H Q q => cb_lift q
/-- len -/
def lenD (h : Hq) : D → Option Nat
  | .str s => some s.length
  | d => (seqOf h d).map List.length
def bLen : WL := fun ds h P => match ds with
  | [d] => (match lenD h d with
    | some n => P (.int (n : Nat)) h
    | none => False)
  | _ => False
theorem cg_len : CallR X (.builtin "len") (liftL X.kw bLen) := by
  refine CallR.imp call_len fun xs H Q ⟨ρ, h, ds, P, S, r, w, c⟩ => ?_
  unfold bLen at w
  split at w
  · rename_i d
    obtain ⟨x, rfl, rx⟩ := rpl1 r
    split at w
    · rename_i n hn
      refine ⟨x, n, rfl, ?_, c ρ h H _ _ .refl S of_int w⟩
      unfold lenD at hn
      split at hn
      · obtain ⟨rfl, o⟩ := rp_str rx
        refine ⟨by rw [str_len]; exact o.1, ?_⟩
        rw [str_len]; exact (Option.some.inj hn).symm
      · rw [Option.map_eq_some_iff] at hn
        obtain ⟨es, he, rfl⟩ := hn
        obtain ⟨a, xs, rfl, q, l⟩ := seq_ok S rx he
        rcases q with q | q
        · exact .inl ⟨xs, q, l.length⟩
        · exact .inr ⟨xs, q, l.length⟩
    · exact w.elim
  · exact w.elim
/-- isinstance -/
def obTy : Ob → Option String
  | .lst _ => some "list"
  | _ => none
def tyD (h : Hq) : D → Option String
  | .non => some "NoneType"
  | .bl _ => some "bool"
  | .int _ => some "int"
  | .str _ => some "str"
  | .tup _ => some "tuple"
  | .lst _ => some "list"
  | .scr _ => some "list"
  | .dct [] _ => some "dict"
  | .dct _ _ => none
  | .ref n => h[n]?.bind obTy
  | .con _ => none
/-- x of the type a: is it a b? -/
def isTy (a b : String) : Bool := a == b || (a == "bool" && b == "int")
def clsD : D → Option String
  | .con (.ty n) => some n
  | _ => none
def knownTy (b : String) : Bool := b == "int" || b == "bool" || b == "str" || b == "tuple" || b == "list" || b == "dict"
theorem kit_tab : ∀ a ∈ ["NoneType", "bool", "int", "str", "tuple", "list", "dict"], ∀ b ∈ ["int", "bool", "str", "tuple", "list", "dict"], kitB a b = some (isTy a b) := by decide +kernel
theorem known_mem {b : String} (k : knownTy b = true) : b ∈ ["int", "bool", "str", "tuple", "list", "dict"] := by
  unfold knownTy at k
  simp only [Bool.or_eq_true, beq_iff_eq] at k
  simp only [List.mem_cons, List.not_mem_nil, or_false]
  rcases k with ((((k | k) | k) | k) | k) | k
  · exact .inl k
  · exact .inr (.inl k)
  · exact .inr (.inr (.inl k))
  · exact .inr (.inr (.inr (.inl k)))
  · exact .inr (.inr (.inr (.inr (.inl k))))
  · exact .inr (.inr (.inr (.inr (.inr k))))
theorem tyD_mem {h : Hq} {d : D} {a : String} (e : tyD h d = some a) : a ∈ ["NoneType", "bool", "int", "str", "tuple", "list", "dict"] := by
  cases d with
  | ref n =>
    have e' : h[n]?.bind obTy = some a := e
    cases hd : h[n]? with
    | none => rw [hd] at e'; cases e'
    | some o => rw [hd] at e'; cases o <;> (cases e'; try simp)
  | con _ => cases e
  | dct ks vs => cases ks <;> (cases e; try simp)
  | _ => cases e; simp
theorem tyD_ok {K ρ h H d v a} (S : Sim K ρ h H) (r : Rp K H ρ h.length d v) (e : tyD h d = some a) : TyX K.1 H v (.type a) := by
  cases d with
  | non => cases e; rw [rp_non r]; exact .base .non
  | bl _ => cases e; rw [rp_bl r]; exact .base (.bl _)
  | int _ => cases e; rw [rp_int r]; exact .base (.int _)
  | str _ => cases e; rw [(rp_str r).1]; exact .base (.str _)
  | tup ds =>
    cases e
    obtain ⟨p, xs, rfl, q, l⟩ := rp_tupT r
    rcases q with q | ⟨o, its, n, q1, q2, _⟩
    · exact .base (.tup q)
    · exact .kTuple q1 q2
  | lst ds =>
    cases e
    obtain ⟨p, xs, rfl, q, l⟩ := rp_lstT r
    rcases q.2 with q | ⟨o, q⟩
    · exact .base (.lst q)
    · exact .base (.frz q)
  | scr ns =>
    cases e
    unfold Rp at r
    obtain ⟨p, rfl, q⟩ := r
    rcases q with q | ⟨o, its, n, q1, q2, _⟩
    · rcases q.2 with q | ⟨o, q⟩
      · exact .base (.lst q)
      · exact .base (.frz q)
    · exact .kList q1 q2
  | dct ks vs =>
    cases ks with
    | cons _ _ => cases e
    | nil =>
      cases e
      obtain ⟨p, u, kv, xs, rfl, _, rd, du, _, _⟩ := rp_dct r
      rcases du with ⟨ps, rfl, e1, _⟩ | ⟨o, es, ep, nks, rfl, _, _, _, _, e1, _, _, _, _, _, ne⟩
      · rcases rd with q | ⟨o, q⟩
        · exact .base (.dK q)
        · exact .fDict q
      · have : nks = [] := by simpa using e1
        exact absurd this ne
  | con _ => cases e
  | ref n =>
    have e' : h[n]?.bind obTy = some a := e
    rw [(rp_ref r).2]
    cases hd : h[n]? with
    | none => rw [hd] at e'; cases e'
    | some o =>
      rw [hd] at e'
      cases o with
      | lst ds => cases e'; obtain ⟨xs, q, _⟩ := S.ob _ _ hd; exact .base (.lst q)
      | _ => cases e'
def bIsi : WL := fun ds h P => match ds with
  | [d, e] => (match tyD h d, e with
    | some a, .con (.ty b) => knownTy b = true ∧ P (.bl (isTy a b)) h
    | some a, .tup es => es.all (fun x => match clsD x with | some b => knownTy b | none => false) = true ∧ P (.bl (es.any fun x => match clsD x with | some b => isTy a b | none => false)) h
    | _, _ => False)
  | _ => False
theorem isiT {K : KW} {H ρ n} {a : String} (ha : a ∈ ["NoneType", "bool", "int", "str", "tuple", "list", "dict"]) : ∀ {es : List D} {cs : List V}, es.all (fun x => match clsD x with | some b => knownTy b | none => false) = true → RpL K H ρ n es cs →
    ∃ us, Paired ClsV cs us ∧ PySem.W.kitAny K.1 (.type a) us = some (es.any fun x => match clsD x with | some b => isTy a b | none => false)
  | [], cs, _, r => by unfold RpL at r; subst r; exact ⟨[], .nil, rfl⟩
  | e :: es, cs, f, r => by
    obtain ⟨x, r', rfl, r1, r2⟩ := r.cons_inv
    simp only [List.all_cons, Bool.and_eq_true] at f
    obtain ⟨us, h1, h2⟩ := isiT ha f.2 r2
    cases e with
    | con c =>
      cases c with
      | ty b =>
        have hx := rp_con r1
        subst hx
        refine ⟨.type b :: us, .cons (.ty b) h1, ?_⟩
        have hk : PySem.W.kitOne K.1 (.type a) (.type b) = some (isTy a b) := kit_ty (kit_tab a ha b (known_mem f.1))
        refine kitAny_cons hk (fun q => ?_) (fun q => ?_)
        · rw [h2]; simp [clsD, q]
        · simp [clsD, q]
      | _ => exact absurd f.1 (by simp [clsD])
    | _ => exact absurd f.1 (by simp [clsD])
theorem cg_isi : CallR X (.builtin "isinstance") (liftL X.kw bIsi) := by
  intro pins s σ H xs us Q I rv ⟨ρ, h, ds, P, S, r, w, c⟩
  unfold bIsi at w
  split at w
  · rename_i d e
    obtain ⟨x, y, rfl, rx, ry⟩ := rpl2 r
    split at w
    · rename_i a b ht
      have hy := rp_con ry
      subst hy
      exact call_isi pins s σ H _ us Q I rv ⟨x, .ty b, .type a, .type b, isTy a b, rfl, .ty b, tyD_ok S rx ht, kit_ty (kit_tab a (tyD_mem ht) b (known_mem w.1)), c ρ h H _ _ .refl S of_bl w.2⟩
    · rename_i a es ht
      obtain ⟨p, cs, rfl, q, l⟩ := rp_tupT ry
      obtain ⟨us', h1, h2⟩ := isiT (tyD_mem ht) w.1 l
      rcases q with q | ⟨o, its, n, q1, q2, q3, _, q4⟩
      · exact call_isiT pins s σ H _ us Q I rv ⟨x, p, cs, .type a, us', _, rfl, q, h1, tyD_ok S rx ht, h2, c ρ h H _ _ .refl S of_bl w.2⟩
      · obtain ⟨oc, od, dt, sl⟩ := o
        simp only at q2 q3
        subst q2 q3
        have e3 := ClsV.all h1 q4
        refine call_isiK pins s σ H _ us Q I rv ⟨x, p, od, us', n, sl, .type a, _, rfl, ?_, tyD_ok S rx ht, h2, c ρ h H _ _ .refl S of_bl w.2⟩
        rw [q1, ← e3]
    · exact w.elim
  · exact w.elim
end
end MP

namespace MP
open PySem PySem.Spec PyProof.Rows L2

/-! ### where a sign stands in a text -/
theorem occ_done (s sub : Str) (hi : Nat) : ∀ (l : List Nat) (st : Array Nat × Nat), st.fst.size = 1 → (forIn l st (PySem.StrLaws.occBody s sub hi 1)).run = st
  | [], _, _ => rfl
  | a :: l, st, h => by
    rw [List.forIn_cons]
    unfold PySem.StrLaws.occBody
    rw [if_neg (by rintro ⟨⟨⟨q, _⟩, _⟩, _⟩; omega)]
    exact occ_done s sub hi l st h
theorem occ_find (s sub : Str) (hi : Nat) : ∀ (l : List Nat) (st : Array Nat × Nat), st.fst = #[] → st.snd = 0 →
    (forIn l st (PySem.StrLaws.occBody s sub hi 1)).run.fst.toList = (match l.find? (fun i => decide (i + sub.length ≤ hi) && Builtin.Str.subAt s sub i) with | some i => [i] | none => [])
  | [], st, h, _ => by
    show st.fst.toList = []
    rw [h]
  | a :: l, st, h, h0 => by
    rw [List.forIn_cons, List.find?_cons]
    unfold PySem.StrLaws.occBody
    by_cases c : a + sub.length ≤ hi ∧ Builtin.Str.subAt s sub a = true
    · rw [if_pos ⟨⟨⟨by rw [h]; decide, by omega⟩, c.1⟩, c.2⟩]
      have e : (decide (a + sub.length ≤ hi) && Builtin.Str.subAt s sub a) = true := by rw [Bool.and_eq_true]; exact ⟨decide_eq_true c.1, c.2⟩
      rw [e]
      show (forIn l (st.fst.push a, a + sub.length) (PySem.StrLaws.occBody s sub hi 1)).run.fst.toList = [a]
      rw [occ_done s sub hi l _ (by rw [h]; rfl), h]
      rfl
    · rw [if_neg (by rintro ⟨⟨⟨_, _⟩, q⟩, q'⟩; exact c ⟨q, q'⟩)]
      have e : (decide (a + sub.length ≤ hi) && Builtin.Str.subAt s sub a) = false := by
        rw [Bool.and_eq_false_iff]
        by_cases q : a + sub.length ≤ hi
        · right
          cases z : Builtin.Str.subAt s sub a with
          | true => exact (c ⟨q, z⟩).elim
          | false => rfl
        · left; exact decide_eq_false q
      rw [e]
      exact occ_find s sub hi l st h h0
theorem find_range : ∀ (n a : Nat) (p : Nat → Bool) (i : Nat), (List.range' a n).find? p = some i → p i = true ∧ a ≤ i ∧ ∀ j, a ≤ j → j < i → p j = false
  | 0, a, p, i, h => by simp at h
  | n + 1, a, p, i, h => by
    rw [List.range'_succ, List.find?_cons] at h
    cases q : p a with
    | true =>
      rw [q] at h
      have : a = i := Option.some.inj h
      subst this
      exact ⟨q, Nat.le_refl _, fun j h1 h2 => by omega⟩
    | false =>
      rw [q] at h
      obtain ⟨h1, h2, h3⟩ := find_range n (a + 1) p i h
      refine ⟨h1, by omega, fun j h4 h5 => ?_⟩
      by_cases hj : j = a
      · subst hj; exact q
      · exact h3 j (by omega) h5
/-- the first place of a sign -/
theorem occ_index (s : List Nat) (c : Nat) (h : c ∈ s) : Builtin.Str.occurrences (mkS s) ⟨#[c]⟩ 0 (mkS s).length 1 = [s.idxOf c] := by
  have e := occ_find (mkS s) ⟨#[c]⟩ (mkS s).length (List.range' 0 ((mkS s).length + 1 - 0)) (#[], 0) rfl rfl
  rw [← PySem.StrLaws.occ_eq] at e
  rw [e]
  have key : ∀ i, (decide (i + (⟨#[c]⟩ : Str).length ≤ (mkS s).length) && Builtin.Str.subAt (mkS s) ⟨#[c]⟩ i) = true ↔ s[i]? = some c := fun i => by
    have := PySem.StrLaws.subAt_one (mkS s) c i
    rw [str_list] at this
    rw [Bool.and_eq_true, decide_eq_true_iff]
    exact this
  have hlt : s.idxOf c < s.length := List.idxOf_lt_length_of_mem h
  cases q : (List.range' 0 ((mkS s).length + 1 - 0)).find? (fun i => decide (i + (⟨#[c]⟩ : Str).length ≤ (mkS s).length) && Builtin.Str.subAt (mkS s) ⟨#[c]⟩ i) with
  | none =>
    rw [List.find?_eq_none] at q
    refine (q (s.idxOf c) ?_ ?_).elim
    · rw [str_len]; simp; omega
    · rw [key, List.getElem?_eq_getElem hlt]
      simp
  | some i =>
    obtain ⟨h1, _, h3⟩ := find_range _ _ _ _ q
    have h1' := (key i).mp h1
    have hi : i < s.length := (List.getElem?_eq_some_iff.mp h1').1
    have : i = s.idxOf c := by
      rcases Nat.lt_trichotomy i (s.idxOf c) with z | z | z
      · exfalso
        have h4 := List.not_of_lt_findIdx (p := (· == c)) (xs := s) z
        rw [List.getElem?_eq_getElem hi] at h1'
        have h5 := Option.some.inj h1'
        simp [h5] at h4
      · exact z
      · exfalso
        have h5 := h3 (s.idxOf c) (Nat.zero_le _) z
        have h6 : (decide (s.idxOf c + (⟨#[c]⟩ : Str).length ≤ (mkS s).length) && Builtin.Str.subAt (mkS s) ⟨#[c]⟩ (s.idxOf c)) = true := by
          rw [key, List.getElem?_eq_getElem hlt]; simp
        rw [h6] at h5; cases h5
    rw [this]

/-! ### more built-ins -/
def blsOf : List D → Option (List Bool)
  | [] => some []
  | .bl b :: r => (blsOf r).map (b :: ·)
  | _ => none
theorem blsOf_map {α : Type} (f : α → Bool) : ∀ xs : List α, blsOf (xs.map fun x => .bl (f x)) = some (xs.map f)
  | [] => rfl
  | x :: xs => by simp [blsOf, blsOf_map f xs]
def strsOf : List D → Option (List (List Nat))
  | [] => some []
  | .str b :: r => (strsOf r).map (b :: ·)
  | _ => none
theorem strsOf_map {α : Type} (f : α → List Nat) : ∀ xs : List α, strsOf (xs.map fun x => .str (f x)) = some (xs.map f)
  | [] => rfl
  | x :: xs => by simp [strsOf, strsOf_map f xs]
theorem bls_rp {K H ρ n} : ∀ {ds : List D} {bs : List Bool} {xs : List V}, blsOf ds = some bs → RpL K H ρ n ds xs → xs = bs.map V.bl
  | [], bs, xs, e, r => by rw [r.nil_inv]; cases e; rfl
  | d :: ds, bs, xs, e, r => by
    obtain ⟨x, r', rfl, r1, r2⟩ := r.cons_inv
    cases d with
    | bl b =>
      have e' : (blsOf ds).map (b :: ·) = some bs := e
      cases q : blsOf ds with
      | none => rw [q] at e'; cases e'
      | some cs =>
        rw [q] at e'
        have := Option.some.inj e'
        subst this
        rw [rp_bl r1, bls_rp q r2]; rfl
    | _ => cases e
theorem strs_rp {K H ρ n} : ∀ {ds : List D} {ss : List (List Nat)} {xs : List V}, strsOf ds = some ss → RpL K H ρ n ds xs → xs = ss.map (fun s => V.str (mkS s)) ∧ ∀ s ∈ ss, StrOk s
  | [], bs, xs, e, r => by unfold RpL at r; subst r; cases e; exact ⟨rfl, fun _ h => by cases h⟩
  | d :: ds, bs, xs, e, r => by
    obtain ⟨x, r', rfl, r1, r2⟩ := r.cons_inv
    cases d with
    | str b =>
      have e' : (strsOf ds).map (b :: ·) = some bs := e
      cases q : strsOf ds with
      | none => rw [q] at e'; cases e'
      | some cs =>
        rw [q] at e'
        have := Option.some.inj e'
        subst this
        obtain ⟨h1, h2⟩ := strs_rp q r2
        obtain ⟨h3, h4⟩ := rp_str r1
        refine ⟨by rw [h3, h1]; rfl, fun s hs => ?_⟩
        rcases List.mem_cons.mp hs with rfl | hs
        · exact h4
        · exact h2 s hs
    | _ => cases e
def bAllAny (f : List Bool → Bool) : WL := fun ds h P => match ds with
  | [d] => (match lisOf h d with
    | some es => ∃ bs, blsOf es = some bs ∧ P (.bl (f bs)) h
    | none => False)
  | _ => False
abbrev bAll : WL := bAllAny fun bs => bs.all id
abbrev bAny : WL := bAllAny fun bs => bs.any id
section
variable {X : Cx}
theorem cg_allAny {id : String} {f : List Bool → Bool} (hr : CallR X (.builtin id) (fun vs H Q => ∃ (a : Addr) (bs : List Bool), vs = [V.ref a] ∧ SqL X.K H a (bs.map V.bl) ∧ Q (.bl (f bs)) H)) : CallR X (.builtin id) (liftL X.kw (bAllAny f)) := by
  refine CallR.imp hr fun xs H Q ⟨ρ, h, ds, P, S, r, w, c⟩ => ?_
  unfold bAllAny at w
  split at w
  · rename_i d
    obtain ⟨x, rfl, rx⟩ := rpl1 r
    split at w
    · rename_i es q
      obtain ⟨bs, q2, w⟩ := w
      obtain ⟨a, ys, rfl, h1, l⟩ := lis_ok S rx q
      rw [bls_rp q2 l] at h1
      exact ⟨_, bs, rfl, h1, c ρ h H _ _ .refl S of_bl w⟩
    · exact w.elim
  · exact w.elim
theorem cg_all (hc : X.calm = true) : CallR X (.builtin "all") (liftL X.kw bAll) := cg_allAny (CallR.imp (cr_all hc) fun _ _ _ q => q)
theorem cg_any (hc : X.calm = true) : CallR X (.builtin "any") (liftL X.kw bAny) := cg_allAny (CallR.imp (cr_any hc) fun _ _ _ q => q)
def bTup : WL := fun ds h P => match ds with
  | [d] => (match seqOf h d with
    | some es => P (.tup es) h
    | none => False)
  | _ => False
theorem cg_tup : CallR X (.type "tuple") (liftL X.kw bTup) := by
  refine CallR.imp call_tuple_of fun xs H Q ⟨ρ, h, ds, P, S, r, w, c⟩ => ?_
  unfold bTup at w
  split at w
  · rename_i d
    obtain ⟨x, rfl, rx⟩ := rpl1 r
    split at w
    · rename_i es q
      cases d with
      | tup es' =>
        cases q
        obtain ⟨a, ys, rfl, q, l⟩ := rp_tup rx
        exact ⟨a, ys, rfl, .inr ⟨q, c ρ h H _ _ .refl S rx w⟩⟩
      | lst es' =>
        obtain ⟨a, ys, rfl, h1, l⟩ := lis_ok S rx q
        exact ⟨_, ys, rfl, .inl ⟨h1, new_tup S l w c⟩⟩
      | ref m =>
        obtain ⟨a, ys, rfl, h1, l⟩ := lis_ok S rx q
        exact ⟨_, ys, rfl, .inl ⟨h1, new_tup S l w c⟩⟩
      | scr ns =>
        cases q
        obtain ⟨a, rfl, h1⟩ := rp_scr rx
        exact ⟨a, _, rfl, .inl ⟨h1, new_tup S (RpL.ints ns) w c⟩⟩
      | _ => cases q
    · exact w.elim
  · exact w.elim
/-! ### list of a text, of a sequence -/
theorem call_lstS (hc : X.calm = true) : CallR X (.type "list") (fun xs H Q => ∃ t, xs = [.str t] ∧ t.cps.size ≤ sizeLine ∧ ∀ l, H l = none → Q (.ref l) (upd H l (.lst (t.cps.toList.map fun c => .str ⟨#[c]⟩)))) := by
  intro pins s σ H xs us Q I r h
  obtain ⟨x, rfl, hz, q⟩ := h
  obtain ⟨u, rfl, rx⟩ := vals1 r
  obtain ⟨t, rfl⟩ := rx
  refine call_list_str (I.ok.hd hc) x t (hn := hz) fun h' tk acc' c' hk hS' hacc => ?_
  have hv : Vals (x.cps.toList.map fun c => V.str ⟨#[c]⟩) acc'.toList := by
    refine vals_of_at (by rw [List.length_map, Array.length_toList, Array.length_toList, hacc.1]) fun i a b ha hb => ?_
    obtain ⟨c, u, hc1, rfl⟩ := hacc.2 i b (by simpa using hb)
    rw [List.getElem?_map] at ha
    have : x.cps.toList[i]? = some c := by simpa using hc1
    rw [this] at ha
    cases ha
    exact ⟨u, rfl⟩
  exact ⟨.ref s.heap.objs.size, _, I.laid (t' := tk) hk (Nat.le_refl _) (show ObjOk X.prog X.w _ h' _ (.lst _) from ⟨by rw [List.length_map, Array.length_toList]; exact hz, acc'.toList, c', hv, by simpa using hS'⟩), rfl, q _ (I.hok.fresh (Nat.le_refl _))⟩
theorem chars_rp {K H ρ n} : ∀ {s : List Nat}, (∀ c ∈ s, c < 0x110000) → RpL K H ρ n (s.map fun c => D.str [c]) (s.map fun c => V.str ⟨#[c]⟩)
  | [], _ => RpL.nil
  | c :: s, h => RpL.cons (of_str ⟨by rw [sizeLine_eq]; simp, fun z hz => by rw [List.mem_singleton.mp hz]; exact h c (by simp)⟩) (chars_rp fun z hz => h z (List.mem_cons_of_mem _ hz))
/-- what list(d) holds -/
def liOf (h : Hq) : D → Option (List D)
  | .str s => some (s.map fun c => .str [c])
  | d => seqOf h d
theorem li_ok (hc : X.calm = true) {N : List D → Hq → WK → Prop} (hn : ∀ ρ h H P Q ds xs, Sim X.kw ρ h H → RpL X.kw H ρ h.length ds xs → N ds h P → ClE X.kw ρ h H P Q → ∀ p, H p = none → Q (.ref p) (upd H p (.lst xs))) :
    CallR X (.type "list") (liftL X.kw fun ds h P => match ds with
      | [d] => (match liOf h d with
        | some es => N es h P
        | none => False)
      | _ => False) := by
  intro pins s σ H xs us Q I r ⟨ρ, h, ds, P, S, r1, w, c⟩
  dsimp only at w
  split at w
  · rename_i d
    obtain ⟨x, rfl, rx⟩ := rpl1 r1
    split at w
    · rename_i es q
      unfold liOf at q
      split at q
      · rename_i t
        cases q
        obtain ⟨rfl, ok⟩ := rp_str rx
        refine call_lstS hc pins s σ H _ us Q I r ⟨mkS t, rfl, Nat.le_trans (Nat.le_of_eq (str_len t)) ok.1, ?_⟩
        rw [str_list]
        exact hn _ _ _ _ _ _ _ S (chars_rp ok.2) w c
      · obtain ⟨a, ys, rfl, h1, l⟩ := seq_ok S rx q
        refine call_list_of pins s σ H _ us Q I r ⟨a, ys, rfl, ?_, hn _ _ _ _ _ _ _ S l w c⟩
        rcases h1 with h1 | h1
        · exact .inl h1
        · exact .inr h1
    · exact w.elim
  · exact w.elim
def bLst : WL := fun ds h P => match ds with
  | [d] => (match liOf h d with
    | some es => P (.lst es) h
    | none => False)
  | _ => False
def bLstM : WL := fun ds h P => match ds with
  | [d] => (match liOf h d with
    | some es => P (.ref h.length) (h ++ [.lst es])
    | none => False)
  | _ => False
theorem cg_lst (hc : X.calm = true) : CallR X (.type "list") (liftL X.kw bLst) := li_ok hc (N := fun es h P => P (.lst es) h) fun _ _ _ _ _ _ _ S l w c => new_lst S l w c
theorem cg_lstM (hc : X.calm = true) : CallR X (.type "list") (liftL X.kw bLstM) := li_ok hc (N := fun (es : List D) (h : Hq) (P : WK) => P (.ref h.length) (h ++ [Ob.lst es])) fun _ _ _ _ _ _ _ S l w c => new_lstM S l w c
def bInt : WL := fun ds h P => match ds with
  | [.int i] => P (.int i) h
  | [.bl b] => P (.int (if b then 1 else 0)) h
  | _ => False
theorem cg_int : CallR X (.type "int") (liftL X.kw bInt) := by
  refine CallR.imp call_int1 fun xs H Q ⟨ρ, h, ds, P, S, r, w, c⟩ => ?_
  unfold bInt at w
  split at w
  · obtain ⟨x, rfl, rx⟩ := rpl1 r
    exact .inl ⟨_, by rw [rp_int rx], c ρ h H _ _ .refl S of_int w⟩
  · obtain ⟨x, rfl, rx⟩ := rpl1 r
    exact .inr ⟨_, by rw [rp_bl rx], c ρ h H _ _ .refl S of_int w⟩
  · exact w.elim
def bMin2 : WL := fun ds h P => match ds with
  | [.int i, .int j] => P (.int (if j < i then j else i)) h
  | _ => False
def bMax2 : WL := fun ds h P => match ds with
  | [.int i, .int j] => P (.int (if j > i then j else i)) h
  | _ => False
theorem cg_min2 (hc : X.calm = true) : CallR X (.builtin "min") (liftL X.kw bMin2) := by
  refine CallR.imp (call_min2 hc) fun xs H Q ⟨ρ, h, ds, P, S, r, w, c⟩ => ?_
  unfold bMin2 at w
  split at w
  · obtain ⟨x, y, rfl, rx, ry⟩ := rpl2 r
    exact ⟨_, _, by rw [rp_int rx, rp_int ry], c ρ h H _ _ .refl S of_int w⟩
  · exact w.elim
theorem cg_max2 (hc : X.calm = true) : CallR X (.builtin "max") (liftL X.kw bMax2) := by
  refine CallR.imp (call_max2 hc) fun xs H Q ⟨ρ, h, ds, P, S, r, w, c⟩ => ?_
  unfold bMax2 at w
  split at w
  · obtain ⟨x, y, rfl, rx, ry⟩ := rpl2 r
    exact ⟨_, _, by rw [rp_int rx, rp_int ry], c ρ h H _ _ .refl S of_int w⟩
  · exact w.elim

/-! ### methods -/
def tyB (T : String) (h : Hq) (d : D) : Bool := match d with
  | .str _ => T == "str"
  | .ref n => T == "list" && (lstAt h n).isSome
  | .lst _ => T == "list"
  | _ => false
def wBM (T : String) (g : D → List D → Hq → WK → Prop) (o : WE) (a : WA) : WE := fun fr h P => o fr h fun d h1 => tyB T h1 d = true ∧ a fr h1 fun ds h2 => g d ds h2 P
def liftM (K : KW) (g : D → List D → Hq → WK → Prop) : V → List V → Hp → VK → Prop := fun x xs H Q => ∃ ρ h d ds P, Sim K ρ h H ∧ Rp K H ρ h.length d x ∧ RpL K H ρ h.length ds xs ∧ g d ds h P ∧ ClE K ρ h H P Q
theorem tyB_ok {K ρ h H T d v} (S : Sim K ρ h H) (r : Rp K H ρ h.length d v) (e : tyB T h d = true) : tyV K.1 T v H := by
  unfold tyB at e
  split at e
  · rw [(rp_str r).1]; exact eq_of_beq e
  · rename_i n
    rw [Bool.and_eq_true] at e
    obtain ⟨ds, hd⟩ := Option.isSome_iff_exists.mp e.2
    obtain ⟨xs, hx, _⟩ := S.lstAt hd
    rw [(rp_ref r).2]
    exact .inl ⟨eq_of_beq e.1, xs, .inl (.inl hx)⟩
  · obtain ⟨a, xs, rfl, q, _⟩ := rp_lst r
    exact .inl ⟨eq_of_beq e, xs, q⟩
  · cases e
theorem bm_lift {K : KW} {T} {g : D → List D → Hq → WK → Prop} {o : WE} {a : WA} {σ H Q} (q : liftE K (wBM T g o a) σ H Q) : tBM K.1 T (liftM K g) (liftE K o) (liftA K a) σ H Q := by
  obtain ⟨ρ, fr, h, P, S, F, w, c⟩ := q
  refine ⟨ρ, fr, h, _, S, F, w, fun ρ1 h1 H1 d v e1 S1 r1 w1 => ⟨tyB_ok S1 r1 w1.1, ?_⟩⟩
  exact ⟨ρ1, fr, h1, _, S1, F.ext e1, w1.2, fun ρ2 h2 H2 ds xs e2 S2 r2 w2 => ⟨ρ2, h2, d, ds, P, S2, Rp.ext e2 _ _ r1, r2, w2, c.step (e1.trans e2)⟩⟩
theorem se_bm {o e : Expr} {es : List Expr} {wo : WE} {wa : WA} {name : Str} {apos cpos : Pos} {T id : String} {g : D → List D → Hq → WK → Prop} (pa : PlainAttrs T) (slot : Slot T name id) (hty : typeOf (.builtin id) = pure (.type "method_descriptor"))
    (hm : MtR X id (liftM X.kw g)) (ho : SE X o wo) (ha : SA X (e :: es) wa) (hbase : attributeBase o name X.env (eval o X.env) = eval o X.env)
    (hfew : ((backTo cpos (starEach (e :: es) X.env)).all (fun x => !x.1) && (backToKw cpos (keywordEach [] X.env)).all (fun x => x.1.isSome)
      && decide ((e :: es).length + ([] : List Keyword).length + (if ([] : List Keyword).isEmpty then 0 else 1) < 30)) = true)
    (hline : (apos.endLine == cpos.line) = true) (hs : starEach (e :: es) X.env = (false, eval e X.env) :: starEach es X.env) (hplain : (backTo cpos (starEach es X.env)).any (·.1) = false) :
    SE X (.Call (.Attribute o name apos) (e :: es) [] cpos) (wBM T g wo wa) :=
  PE.imp (pe_bm pa slot hty hm ho ha hbase hfew hline hs hplain) fun σ H Q q => bm_lift q
theorem se_bm0 {o : Expr} {wo : WE} {name : Str} {apos cpos : Pos} {T id : String} {g : D → List D → Hq → WK → Prop} (pa : PlainAttrs T) (slot : Slot T name id) (hty : typeOf (.builtin id) = pure (.type "method_descriptor"))
    (hm : MtR X id (liftM X.kw g)) (ho : SE X o wo) (hbase : attributeBase o name X.env (eval o X.env) = eval o X.env) (hline : (apos.endLine == cpos.line) = true) :
    SE X (.Call (.Attribute o name apos) [] [] cpos) (wBM T g wo waNil) := by
  refine PE.imp (pe_bm0 pa slot hty hm ho hbase hline) fun σ H Q ⟨ρ, fr, h, P, S, F, w, c⟩ => ?_
  exact ⟨ρ, fr, h, _, S, F, w, fun ρ1 h1 H1 d v e1 S1 r1 w1 => ⟨tyB_ok S1 r1 w1.1, ρ1, h1, d, [], P, S1, r1, .nil, w1.2, c.step e1⟩⟩
def mAppend : D → List D → Hq → WK → Prop := fun d ds h P => match d, ds with
  | .ref n, [y] => (match lstAt h n with
    | some es => es.length < sizeLine ∧ P .non (h.set n (.lst (es ++ [y])))
    | none => False)
  | _, _ => False
theorem mg_append : MtR X "list.append" (liftM X.kw mAppend) := by
  intro pins s σ H x xs v us Q I rx rv ⟨ρ, h, d, ds, P, S, r1, r2, w, c⟩
  unfold mAppend at w
  split at w
  · rename_i n y
    split at w
    · rename_i es he
      obtain ⟨ys, h1, l⟩ := S.lstAt he
      obtain ⟨z, rfl, rz⟩ := rpl1 r2
      obtain ⟨S2, e2⟩ := S.setL (lstAt_get he) (RpL.app l (RpL.cons rz .nil))
      exact mt_append pins s σ H x _ v us Q I rx rv ⟨_, ys, z, (rp_ref r1).2, rfl, h1, by rw [← l.length]; exact w.1, c ρ _ _ _ _ e2 S2 of_non w.2⟩
    · exact w.elim
  · exact w.elim
def mPop : D → List D → Hq → WK → Prop := fun d ds h P => match d, ds with
  | .ref n, [] => (match lstAt h n with
    | some es => (match es[es.length - 1]? with
      | some y => P y (h.set n (.lst es.dropLast))
      | none => False)
    | none => False)
  | _, _ => False
theorem RpL.dropLast {K H ρ n ds xs} (r : RpL K H ρ n ds xs) : RpL K H ρ n ds.dropLast xs.dropLast := by
  rw [List.dropLast_eq_take, List.dropLast_eq_take, ← r.length]
  exact r.take _
theorem mg_pop : MtR X "list.pop" (liftM X.kw mPop) := by
  intro pins s σ H x xs v us Q I rx rv ⟨ρ, h, d, ds, P, S, r1, r2, w, c⟩
  unfold mPop at w
  split at w
  · rename_i n
    split at w
    · rename_i es he
      split at w
      · rename_i y hy
        obtain ⟨ys, h1, l⟩ := S.lstAt he
        obtain rfl := r2.nil_inv
        obtain ⟨z, hz, rz⟩ := l.get hy
        obtain ⟨S2, e2⟩ := S.setL (lstAt_get he) l.dropLast
        exact mt_pop pins s σ H x _ v us Q I rx rv ⟨_, ys, z, (rp_ref r1).2, rfl, h1, by rw [← l.length]; exact hz, c ρ _ _ _ _ e2 S2 (Rp.ext e2 _ _ rz) w⟩
      · exact w.elim
    · exact w.elim
  · exact w.elim
def mExtend : D → List D → Hq → WK → Prop := fun d ds h P => match d, ds with
  | .ref n, [e] => (match lstAt h n, lisOf h e with
    | some a, some b => a.length + b.length ≤ sizeLine ∧ P .non (h.set n (.lst (a ++ b)))
    | _, _ => False)
  | _, _ => False
theorem mt_extendR : MtR X "list.extend" (fun x vs H Q => ∃ l b xs zs, x = .ref l ∧ vs = [.ref b] ∧ H l = some (.lst xs) ∧ Rd H b (.lst zs) ∧ xs.length + zs.length ≤ sizeLine ∧ Q .non (upd H l (.lst (xs ++ zs)))) := by
  intro pins s σ H x vs v us Q I rx rv h
  obtain ⟨l, b, xs, zs, rfl, rfl, hH, hB, hz, q⟩ := h
  cases rx
  obtain ⟨u, rfl, ru⟩ := rv.one
  cases ru
  obtain ⟨z, its, n, r, hl, e⟩ := I.lstM hH
  obtain ⟨z2, its2, n2, r2, hl2, e2⟩ := lstR I hB
  have hsz : its.toArray.size + its2.toArray.size ≤ sizeLine := by rw [List.size_toArray, List.size_toArray]; omega
  have hlong : ¬ (!its.toArray.isEmpty && Builtin.List.listTooLong (its.toArray.size + its2.toArray.size)) = true := by
    rw [notLongL hsz, Bool.and_false]
    exact Bool.false_ne_true
  refine call_meets F.slot_list_extend ⟨_, e, rfl⟩ F.entry_list_extend (F.args_list_extend_2 _ _)
    (AutoSeq1.list_extend_list_list_0 l its.toArray n b its2.toArray n2 hlong (by rw [List.size_toArray]; omega) (by omega)) ⟨e, e2, ?_⟩
  refine ⟨.non, _, I.lset (its' := its ++ its2) hH e (by simp) (r.append r2) ?_, rfl, q⟩
  rw [List.length_append]; omega
theorem mg_extend : MtR X "list.extend" (liftM X.kw mExtend) := by
  intro pins s σ H x xs v us Q I rx rv ⟨ρ, h, d, ds, P, S, r1, r2, w, c⟩
  unfold mExtend at w
  split at w
  · rename_i n m
    split at w
    · rename_i a b ha hb
      obtain ⟨ys, h1, l⟩ := S.lstAt ha
      obtain ⟨z, rfl, rz⟩ := rpl1 r2
      obtain ⟨p, zs, rfl, h2, l2⟩ := lis_okM S rz hb
      obtain ⟨S2, e2⟩ := S.setL (lstAt_get ha) (RpL.app l l2)
      exact mt_extendR pins s σ H x _ v us Q I rx rv ⟨_, _, ys, zs, (rp_ref r1).2, rfl, h1, h2, by rw [← l.length, ← l2.length]; exact w.1, c ρ _ _ _ _ e2 S2 of_non w.2⟩
    · exact w.elim
  · exact w.elim
def mIndex : D → List D → Hq → WK → Prop := fun d ds h P => match d, ds with
  | .str s, [.str [c]] => c ∈ s ∧ P (.int (s.idxOf c : Nat)) h
  | _, _ => False
theorem mg_index : MtR X "str.index" (liftM X.kw mIndex) := by
  intro pins s σ H x xs v us Q I rx rv ⟨ρ, h, d, ds, P, S, r1, r2, w, c⟩
  unfold mIndex at w
  split at w
  · rename_i t k
    obtain ⟨z, rfl, rz⟩ := rpl1 r2
    exact mt_sindex pins s σ H x _ v us Q I rx rv ⟨mkS t, ⟨#[k]⟩, t.idxOf k, [], (rp_str r1).1, by rw [(rp_str rz).1]; rfl, occ_index t k w.1, c ρ h H _ _ .refl S of_int w.2⟩
  · exact w.elim
def joinL (a : List Nat) : List (List Nat) → List Nat
  | [] => []
  | [x] => x
  | x :: y :: r => x ++ (a ++ joinL a (y :: r))
def mJoin : D → List D → Hq → WK → Prop := fun d ds h P => match d, ds with
  | .str a, [e] => (match seqOf h e with
    | some es => ∃ ss, strsOf es = some ss ∧ (ss.map List.length).sum + ss.length * a.length ≤ 16777216 ∧ P (.str (joinL a ss)) h
    | none => False)
  | _, _ => False
theorem join_len (a : List Nat) : ∀ ss : List (List Nat), (joinL a ss).length ≤ (ss.map List.length).sum + ss.length * a.length
  | [] => Nat.zero_le _
  | [x] => by simp [joinL]
  | x :: y :: r => by
    have ih := join_len a (y :: r)
    simp only [joinL, List.length_append, List.map_cons, List.sum_cons, List.length_cons, Nat.add_mul, Nat.one_mul] at ih ⊢
    omega
theorem join_mem (a : List Nat) : ∀ (ss : List (List Nat)) (c : Nat), c ∈ joinL a ss → c ∈ a ∨ ∃ s ∈ ss, c ∈ s
  | [], c, h => by cases h
  | [x], c, h => .inr ⟨x, by simp, h⟩
  | x :: y :: r, c, h => by
    simp only [joinL, List.mem_append] at h
    rcases h with h | h | h
    · exact .inr ⟨x, by simp, h⟩
    · exact .inl h
    · rcases join_mem a (y :: r) c h with h | ⟨s, hs, h⟩
      · exact .inl h
      · exact .inr ⟨s, List.mem_cons_of_mem _ hs, h⟩
theorem join_str (a : List Nat) : ∀ ss : List (List Nat), Str.join (mkS a) (ss.map mkS) = mkS (joinL a ss)
  | [] => rfl
  | [x] => rfl
  | x :: y :: r => by
    show mkS x ++ mkS a ++ Str.join (mkS a) ((y :: r).map mkS) = _
    rw [join_str a (y :: r), str_app, str_app, joinL, List.append_assoc]
theorem join_txt (a : List Nat) (ss : List (List Nat)) : Txt.join (mkS a) (ss.map mkS) = mkS (joinL a ss) := by
  rw [show Txt.join (mkS a) (ss.map mkS) = Str.join (mkS a) (ss.map mkS) from PySem.StrLaws.glued_eq_join _ _, join_str]
theorem mg_join : MtR X "str.join" (liftM X.kw mJoin) := by
  intro pins s σ H x xs v us Q I rx rv ⟨ρ, h, d, ds, P, S, r1, r2, w, c⟩
  have fin : ∀ (a : List Nat) (es : List D) (ss : List (List Nat)) (p : Addr) (ys : List V), x = .str (mkS a) → StrOk a → xs = [.ref p] → strsOf es = some ss → RpL X.kw H ρ h.length es ys → (SqL X.K H p ys ∨ SqT X.K H p ys) → (ss.map List.length).sum + ss.length * a.length ≤ 16777216 → P (.str (joinL a ss)) h →
      wpAny (model X.prog X.w) X.A (call (.builtin "str.join") (v :: us)) (EP X pins σ Q) X.xe s := fun a es ss p ys hx oa hxs he l sq hz w => by
    obtain ⟨e1, o1⟩ := strs_rp he l
    subst e1
    have hl : (ss.map mkS).map (·.length) = ss.map List.length := by
      rw [List.map_map]; exact List.map_congr_left fun s _ => str_len s
    refine mt_join pins s σ H x xs v us Q I rx rv ⟨mkS a, p, ss.map mkS, hx, hxs, by rw [List.map_map]; exact sq, by rw [hl, List.length_map, str_len]; exact hz, ?_⟩
    rw [join_txt]
    refine c ρ h H _ _ .refl S (of_str ⟨Nat.le_trans (join_len a ss) hz, fun k hk => ?_⟩) w
    rcases join_mem a ss k hk with q | ⟨t, ht, q⟩
    · exact oa.2 k q
    · exact (o1 t ht).2 k q
  unfold mJoin at w
  split at w
  · rename_i a e
    obtain ⟨z, rfl, rz⟩ := rpl1 r2
    split at w
    · rename_i es q
      obtain ⟨ss, hs, w1, w2⟩ := w
      obtain ⟨p, ys, rfl, h1, l⟩ := seq_ok S rz q
      exact fin a es ss p ys (rp_str r1).1 (rp_str r1).2 rfl hs l h1 w1 w2
    · exact w.elim
  · exact w.elim
end
end MP

namespace MP
open PySem PySem.Spec PyProof.Rows L2

/-! ### zip over lists, tuples, texts -/
inductive Zc where
  | l (a : Addr) | t (a : Addr) | s (x : Str) (k : Tok)
def Zc.val : Zc → Value
  | .l a => .ref a
  | .t a => .ref a
  | .s x k => .str x k
def Zc.obj : Zc → Obj
  | .l a => { cls := .type "list_iterator", data := .fields #[.ref a, .int 0 0] }
  | .t a => { cls := .type "tuple_iterator", data := .fields #[.ref a, .int 0 0] }
  | .s x k => { cls := .type (strIterType x), data := .fields #[.str x k, .int 0 0] }
/-- what is there -/
def Zc.has (h : Heap) : Zc → Prop
  | .l a => ∃ its, h.IsList a its
  | .t a => ∃ its, h.IsTuple a its
  | .s _ _ => True
/-- the iterator stands at i -/
def Zc.st (it : Addr) (i : Nat) (h : Heap) : Zc → Prop
  | .l a => h.IsListIter it a i
  | .t a => h.IsTupleIter it a i
  | .s x k => h.IsStrIter it (strIterType x) x k i
theorem Zc.has_push {h : Heap} {o : Obj} : ∀ {c : Zc}, c.has h → c.has (h.push o)
  | .l a, ⟨its, q⟩ => ⟨its, q.push _⟩
  | .t a, ⟨its, q⟩ => ⟨its, q.push _⟩
  | .s _ _, _ => trivial
section
variable {prog : Program} {w : World} {A : Around} {E : Value → Shared → Prop} {s : Shared}
theorem Zc.iter {c : Zc} {Q : Value → Shared → Prop} (h : c.has s.heap) (hQ : Q (.ref s.heap.objs.size) { s with heap := s.heap.push c.obj }) : wpAny (model prog w) A (pyIter c.val) Q E s := by
  cases c with
  | l a => obtain ⟨its, q⟩ := h; exact wpAny_pyIter_list q hQ
  | t a => obtain ⟨its, q⟩ := h; exact wpAny_pyIter_tuple q hQ
  | s x k => exact wpAny_pyIter_strU hQ
end
abbrev zgH1 (h : Heap) (c1 : Zc) : Heap := h.push c1.obj
abbrev zgH2 (h : Heap) (c1 c2 : Zc) : Heap := (zgH1 h c1).push c2.obj
abbrev zgH3 (h : Heap) (c1 c2 : Zc) : Heap := (zgH2 h c1 c2).push { cls := .type "tuple", data := .seq #[.ref h.objs.size, .ref (zgH1 h c1).objs.size] }
abbrev zgH4 (h : Heap) (c1 c2 : Zc) : Heap := (zgH3 h c1 c2).push { cls := .type "tuple", data := .seq #[.none, .none] }
abbrev zgH5 (h : Heap) (c1 c2 : Zc) : Heap := (zgH4 h c1 c2).push { cls := .type "zip", data := .fields #[.none, .bool false, .bool false, .ref (zgH2 h c1 c2).objs.size, .ref (zgH3 h c1 c2).objs.size] }

set_option maxHeartbeats 1000000 in
theorem meets_zipG_new (c1 c2 : Zc) :
    Meets (Builtin.«zip.__new__» ⟨[.type "zip", c1.val, c2.val], []⟩) (fun _ R s => c1.has s.heap ∧ c2.has s.heap ∧
      R (.ok (.ret (.ref (zgH4 s.heap c1 c2).objs.size))) { s with heap := zgH5 s.heap c1 c2 }) :=
  .of_wp fun prog w A R s h => by
    obtain ⟨hp, g, d, tk, os⟩ := s; obtain ⟨hl1, hl2, h⟩ := h
    have hsub := sub_zip
    have hL1 : c1.has (Shared.heap ⟨hp, g, d, tk, os⟩) := hl1
    have hL2 : c2.has (Shared.heap ⟨hp.push c1.obj, g, d, tk, os⟩) := Zc.has_push hl2
    wp_walk using Zc.iter hL1, Zc.iter hL2
    exact ⟨_, rfl, h⟩

section
variable {prog : Program} {w : World} {A : Around} {E : Value → Shared → Prop} {s : Shared}
theorem Zc.st0 (c : Zc) {h : Heap} {it : Addr} (e : h.get? it = some c.obj) : c.st it 0 h := by
  cases c with
  | l a => exact ⟨_, e, rfl, rfl⟩
  | t a => exact ⟨_, e, rfl, rfl⟩
  | s x k => exact ⟨_, e, rfl, rfl⟩
theorem Zc.fields (c : Zc) : ∃ vs, c.obj.data = .fields vs := by cases c <;> exact ⟨_, rfl⟩
theorem Zc.notFreed (c : Zc) : c.obj.isFreed = false := by cases c <;> rfl
theorem call_zipG {c1 c2 : Zc} {Q : Value → Shared → Prop} (hl1 : c1.has s.heap) (hl2 : c2.has s.heap)
    (h : ∀ h', IsZip h' (s.heap.objs.size + 4) (s.heap.objs.size + 2) (s.heap.objs.size + 3) .none → IsPair h' (s.heap.objs.size + 2) (.ref s.heap.objs.size) (.ref (s.heap.objs.size + 1)) →
      IsPair h' (s.heap.objs.size + 3) .none .none → c1.st s.heap.objs.size 0 h' → c2.st (s.heap.objs.size + 1) 0 h' → h'.objs.size = s.heap.objs.size + 5 →
      (∀ c o, s.heap.get? c = some o → h'.get? c = some o) → Q (.ref (s.heap.objs.size + 4)) { s with heap := h' }) :
    wpAny (model prog w) A (call (.type "zip") [c1.val, c2.val]) Q E s := by
  refine callType_new F.called_zip (by decide) (F.typeCall_zip_2 _ _) (F.newCall_zip_2 _ _) (fun obj => F.args_object_init_3 obj _ _) F.entry_zip_new
    (meets_zipG_new c1 c2) ⟨hl1, hl2, ?_⟩
  have z1 : (zgH1 s.heap c1).objs.size = s.heap.objs.size + 1 := Heap.size_push ..
  have z2 : (zgH2 s.heap c1 c2).objs.size = s.heap.objs.size + 2 := by rw [Heap.size_push, z1]
  have z3 : (zgH3 s.heap c1 c2).objs.size = s.heap.objs.size + 3 := by rw [Heap.size_push, z2]
  have z4 : (zgH4 s.heap c1 c2).objs.size = s.heap.objs.size + 4 := by rw [Heap.size_push, z3]
  have z5 : (zgH5 s.heap c1 c2).objs.size = s.heap.objs.size + 5 := by rw [Heap.size_push, z4]
  have g5 : (zgH5 s.heap c1 c2).get? (zgH4 s.heap c1 c2).objs.size = some _ := Heap.get?_push_size _ rfl
  have g4 : (zgH5 s.heap c1 c2).get? (zgH3 s.heap c1 c2).objs.size = some _ := Heap.get?_push_of_some _ (Heap.get?_push_size _ rfl)
  have g3 : (zgH5 s.heap c1 c2).get? (zgH2 s.heap c1 c2).objs.size = some _ := Heap.get?_push_of_some _ (Heap.get?_push_of_some _ (Heap.get?_push_size _ rfl))
  have g2 : (zgH5 s.heap c1 c2).get? (zgH1 s.heap c1).objs.size = some _ := Heap.get?_push_of_some _ (Heap.get?_push_of_some _ (Heap.get?_push_of_some _ (Heap.get?_push_size _ c2.notFreed)))
  have g1 : (zgH5 s.heap c1 c2).get? s.heap.objs.size = some _ := Heap.get?_push_of_some _ (Heap.get?_push_of_some _ (Heap.get?_push_of_some _ (Heap.get?_push_of_some _ (Heap.get?_push_size _ c1.notFreed))))
  show _ ∧ _
  rw [z2, z3, z4] at g5
  rw [z1, z2] at g3
  rw [z3] at g4
  rw [z1] at g2
  rw [z4]
  exact ⟨⟨_, g5, rfl⟩, h _ g5 g3 g4 (c1.st0 g1) (c2.st0 g2) z5 fun c o x =>
    Heap.get?_push_of_some _ (Heap.get?_push_of_some _ (Heap.get?_push_of_some _ (Heap.get?_push_of_some _ (Heap.get?_push_of_some _ x))))⟩
end

/-! ### the turns of a zip -/
inductive Vc where
  | l (a : Addr) | t (a : Addr) | s (x : Str)
def Zc.vc : Zc → Vc
  | .l a => .l a
  | .t a => .t a
  | .s x _ => .s x
def Vc.at_ (K : PySem.W.Frag) (H : Hp) (i : Nat) (v : V) : Vc → Prop
  | .l a => ∃ xs, SqL K H a xs ∧ xs[i]? = some v
  | .t a => ∃ xs, SqT K H a xs ∧ xs[i]? = some v
  | .s x => ∃ c, x.cps[i]? = some c ∧ v = .str ⟨#[c]⟩
def Vc.must (K : PySem.W.Frag) (H : Hp) (i : Nat) (v : V) : Vc → Prop
  | .l a => ∀ xs, SqL K H a xs → xs[i]? = some v
  | .t a => ∀ xs, SqT K H a xs → xs[i]? = some v
  | .s x => ∃ c, x.cps[i]? = some c ∧ v = .str ⟨#[c]⟩
def Vc.no (K : PySem.W.Frag) (H : Hp) (i : Nat) : Vc → Prop
  | .l a => ∃ xs : List V, SqL K H a xs ∧ xs[i]? = none
  | .t a => ∃ xs : List V, SqT K H a xs ∧ xs[i]? = none
  | .s x => x.cps[i]? = none
def Vc.has (K : PySem.W.Frag) (H : Hp) (i : Nat) (d : Vc) : Prop := d.no K H i ∨ ∃ v, d.at_ K H i v
def Zc.fp (it : Addr) : Zc → List Addr
  | .l a => [it, a]
  | .t a => [it, a]
  | .s _ _ => [it]
def ItG (K : PySem.W.Frag) (d1 d2 : Vc) : It :=
  ⟨fun i H => ∃ x y, d1.at_ K H i x ∧ d2.at_ K H i y,
    fun i H v H' => ∃ T x y, v = .ref T ∧ H T = none ∧ H' = upd H T (.tup [x, y]) ∧ d1.must K H i x ∧ d2.must K H i y,
    fun i H => d1.no K H i ∧ d2.has K H i ∨ d2.no K H i ∧ d1.has K H i⟩
section
variable {X : Cx} {pins : List (Addr × Obj)} {σ : L2.St} {H : Hp} {s : Shared}
theorem Zc.st_kept {c : Zc} {it : Addr} {i : Nat} {h h' : Heap} (st : c.st it i h) (k : ∀ o, h.get? it = some o → h'.get? it = some o) : c.st it i h' := by
  cases c with
  | l a => exact Heap.IsListIter.at st k
  | t a => exact Heap.IsTupleIter.at st k
  | s x t => obtain ⟨o, ho, r⟩ := st; exact ⟨o, k o ho, r⟩
theorem Zc.st_obj {c : Zc} {it : Addr} {i : Nat} {h : Heap} (st : c.st it i h) : ∃ o, h.get? it = some o ∧ ∀ v, o.data ≠ .cell v := by
  cases c with
  | l a => obtain ⟨o, e, _, d⟩ := st; exact ⟨o, e, fun v q => by rw [d] at q; cases q⟩
  | t a => obtain ⟨o, e, _, d⟩ := st; exact ⟨o, e, fun v q => by rw [d] at q; cases q⟩
  | s x t => obtain ⟨o, e, _, d⟩ := st; exact ⟨o, e, fun v q => by rw [d] at q; cases q⟩
/-- the next one is there -/
theorem Zc.draw {c : Zc} {it : Addr} {i : Nat} {v : V} (I : Inv X pins σ H s) (hh : X.A.handled = none) (S : ∀ b ∈ c.fp it, b = it ∨ b ≠ it) (hne : ∀ a, (c = .l a ∨ c = .t a) → a ≠ it) (hat : c.vc.at_ X.K H i v) :
    ∃ n P St, Draws X.prog X.w X.A.in1 it (c.fp it) n P St ∧ i < n ∧ (∀ h, (∀ a, (c = .l a ∨ c = .t a) → h.get? a = s.heap.get? a) → c.st it i h → St i h) ∧ (∀ h, St (i + 1) h → c.st it (i + 1) h) ∧ (∀ u, P i u → RelV v u ∧ c.vc.must X.K H i v) := by
  cases c with
  | l a =>
    obtain ⟨xs, q, e⟩ := hat
    obtain ⟨its, r, p, hz⟩ := I.list q
    obtain ⟨u, hu, ru⟩ := r.get e
    refine ⟨_, _, _, Draws.list (A := X.A.in1) hh it a (hne a (.inl rfl)) its.toArray, ?_, fun h k st => ⟨st, ?_⟩, fun h st => st.1, fun u' hu' => ⟨?_, fun ys hy => by rw [I.list_inj hy q]; exact e⟩⟩
    · have := (List.getElem?_eq_some_iff.mp hu).1; simpa using this
    · obtain ⟨o, e1, e2⟩ := p.isList; exact ⟨o, by rw [k a (.inl rfl)]; exact e1, e2⟩
    · have : its[i]? = some u' := by simpa using hu'
      rw [hu] at this; cases this; exact ru
  | t a =>
    obtain ⟨xs, q, e⟩ := hat
    obtain ⟨its, r, p, hz⟩ := I.tuple q
    obtain ⟨u, hu, ru⟩ := r.get e
    refine ⟨_, _, _, Draws.tuple (A := X.A.in1) hh it a (hne a (.inr rfl)) its.toArray, ?_, fun h k st => ⟨st, ?_⟩, fun h st => st.1, fun u' hu' => ⟨?_, fun ys hy => by rw [I.tuple_inj hy q]; exact e⟩⟩
    · have := (List.getElem?_eq_some_iff.mp hu).1; simpa using this
    · obtain ⟨o, e1, e2⟩ := (show s.heap.IsTuple a its.toArray from p); exact ⟨o, by rw [k a (.inr rfl)]; exact e1, e2⟩
    · have : its[i]? = some u' := by simpa using hu'
      rw [hu] at this; cases this; exact ru
  | s x t =>
    obtain ⟨k, e, rfl⟩ := hat
    refine ⟨_, _, _, Draws.text (A := X.A.in1) hh it x t, ?_, fun h _ st => st, fun h st => st, fun u' hu' => ⟨?_, k, e, rfl⟩⟩
    · exact (Array.getElem?_eq_some_iff.mp e).1
    · obtain ⟨k', u, e', rfl⟩ := hu'
      rw [e] at e'; cases e'; exact ⟨u, rfl⟩
/-- it is at its end -/
theorem Zc.drawEnd {c : Zc} {it : Addr} {i : Nat} (I : Inv X pins σ H s) (hh : X.A.handled = none) (hno : c.vc.no X.K H i) :
    ∃ P St, Draws X.prog X.w X.A.in1 it (c.fp it) i P St ∧ (∀ h, (∀ a, (c = .l a ∨ c = .t a) → h.get? a = s.heap.get? a) → c.st it i h → St i h) := by
  cases c with
  | l a =>
    obtain ⟨xs, q, e⟩ := hno
    obtain ⟨its, r, p, hz⟩ := I.list q
    have en := r.none_of e
    refine ⟨fun _ _ => False, fun j h => j = i ∧ h.IsListIter it a i ∧ h.IsList a its.toArray, ⟨fun j h st => let ⟨o, ho, _⟩ := st.2.1; ⟨o, ho⟩, fun j h h' st hk => ⟨st.1, st.2.1.at fun o e => hk it (by simp [Zc.fp]) o e, st.2.2.at fun o e => hk a (by simp [Zc.fp]) o e⟩,
      fun j s Q E hj st => (by have := st.1; omega), fun s Q E st hE => wpAny_nextOf_list_end hh st.2.1 st.2.2 (by simpa using en) hE⟩, fun h k st => ⟨rfl, st, ?_⟩⟩
    obtain ⟨o, e1, e2⟩ := p.isList; exact ⟨o, by rw [k a (.inl rfl)]; exact e1, e2⟩
  | t a =>
    obtain ⟨xs, q, e⟩ := hno
    obtain ⟨its, r, p, hz⟩ := I.tuple q
    have en := r.none_of e
    refine ⟨fun _ _ => False, fun j h => j = i ∧ h.IsTupleIter it a i ∧ h.IsTuple a its.toArray, ⟨fun j h st => let ⟨o, ho, _⟩ := st.2.1; ⟨o, ho⟩, fun j h h' st hk => ⟨st.1, st.2.1.at fun o e => hk it (by simp [Zc.fp]) o e, st.2.2.at fun o e => hk a (by simp [Zc.fp]) o e⟩,
      fun j s Q E hj st => (by have := st.1; omega), fun s Q E st hE => wpAny_nextOf_tuple_end hh st.2.1 st.2.2 (by simpa using en) hE⟩, fun h k st => ⟨rfl, st, ?_⟩⟩
    obtain ⟨o, e1, e2⟩ := (show s.heap.IsTuple a its.toArray from p); exact ⟨o, by rw [k a (.inr rfl)]; exact e1, e2⟩
  | s x t =>
    have e : x.cps[i]? = none := hno
    refine ⟨fun _ _ => False, fun j h => j = i ∧ h.IsStrIter it (strIterType x) x t i, ⟨fun j h st => let ⟨o, ho, _⟩ := st.2; ⟨o, ho⟩, fun j h h' st hk => ⟨st.1, let ⟨o, ho, r⟩ := st.2; ⟨o, hk it (by simp [Zc.fp]) o ho, r⟩⟩,
      fun j s Q E hj st => (by have := st.1; omega), fun s Q E st hE => ?_⟩, fun h k st => ⟨rfl, st⟩⟩
    have st2 := st.2
    cases ha : x.cps.all (· < 128)
    · simp only [strIterType, ha, Bool.false_eq_true, if_false] at st2
      exact wpAny_nextOf_wide_end hh st2 e hE
    · simp only [strIterType, ha, if_true] at st2
      exact wpAny_nextOf_ascii_end hh st2 e hE
theorem turn_zipG {P : Program} {w : World} {K : PySem.W.Frag} {elts : List Expr} {kk : Nat} {tpos : Pos} {c1 c2 : Zc} {z TI TO i1 i2 : Addr} (D : ZipSep2 z TI TO i1 i2 (c1.fp i1) (c2.fp i2)) (hTI1 : ∀ a, (c1 = .l a ∨ c1 = .t a) → a ≠ i1) (hTI2 : ∀ a, (c2 = .l a ∨ c2 = .t a) → a ≠ i2) :
    Turn P w K (.Tuple elts kk tpos) (ItG K c1.vc c2.vc) [z, TI, TO, i1, i2] z (fun i h => IsZip h z TI TO .none ∧ IsTupOf2 h TI (.ref i1) (.ref i2) ∧ (∃ x y, IsTupOf2 h TO x y) ∧ c1.st i1 i h ∧ c2.st i2 i h) where
  mem := by simp
  obj := fun i h st c hc => by
    obtain ⟨hz, hTI, ⟨x, y, hTO⟩, s1, s2⟩ := st
    have e' : c = z ∨ c = TI ∨ c = TO ∨ c = i1 ∨ c = i2 := by simpa using hc
    rcases e' with q | q | q | q | q
    · rw [q]; exact ⟨_, hz, fun v q => nomatch q⟩
    · rw [q]; exact ⟨_, hTI, fun v q => nomatch q⟩
    · rw [q]; exact ⟨_, hTO, fun v q => nomatch q⟩
    · rw [q]; exact Zc.st_obj s1
    · rw [q]; exact Zc.st_obj s2
  keep := fun i h h' st k => by
    obtain ⟨hz, hTI, ⟨x, y, hTO⟩, h1, h2⟩ := st
    exact ⟨k z (by simp) _ hz, k TI (by simp) _ hTI, ⟨x, y, k TO (by simp) _ hTO⟩, Zc.st_kept h1 fun o q => k i1 (by simp) o q, Zc.st_kept h2 fun o q => k i2 (by simp) o q⟩
  item := by
    intro X hP hw hK hc i pins s σ H E I hf st hg
    subst hP hw hK
    obtain ⟨hz, hTI, ⟨x0, y0, hTO⟩, h1, h2⟩ := st
    obtain ⟨x, y, a1, a2⟩ := hg
    obtain ⟨n1, P1, St1, D1, l1, t1, b1, m1⟩ := Zc.draw (it := i1) I (I.ok.hd hc) (fun _ _ => Decidable.em _) hTI1 a1
    obtain ⟨n2, P2, St2, D2, l2, t2, b2, m2⟩ := Zc.draw (it := i2) I (I.ok.hd hc) (fun _ _ => Decidable.em _) hTI2 a2
    have hzl : z < s.heap.objs.size := Heap.lt_size hz
    refine wpAny_pyNext_zipD2_item D D1 D2 hz hTI hTO (t1 _ (fun _ _ => rfl) h1) (t2 _ (fun _ _ => rfl) h2) l1 l2 fun u u2 h' tk p1 p2 z' TO' s1' s2' hT hsz hk => ?_
    have h1' := b1 h' s1'
    have h2' := b2 h' s2'
    obtain ⟨ru, mu1⟩ := m1 u p1
    obtain ⟨ru2, mu2⟩ := m2 u2 p2
    refine ⟨_, rfl, wpAny_letOwnedTupleGo_zip (s := { s with heap := h', toks := tk }) z' fun h'' z'' sb => ?_⟩
    have hT2 : h''.get? s.heap.objs.size = some { cls := .type "tuple", data := .seq #[u, u2] } := (sb.2 _ (Nat.ne_of_gt hzl)).trans hT
    have new : ObjOk X.prog X.w (upd H s.heap.objs.size (.tup [x, y])) h'' s.heap.objs.size (.tup [x, y]) :=
      ⟨by show 2 ≤ sizeLine; decide, [u, u2], .cons ru (.cons ru2 .nil), ⟨_, hT2, rfl, _, rfl⟩⟩
    have I1 : Inv X pins σ (upd H s.heap.objs.size (.tup [x, y])) { s with heap := h'', toks := tk } :=
      I.turnedNew (t' := tk) (ch := [z, TI, TO, i1, i2]) (fun c o hb q => (sb.2 c (fun q' => hb (by simp [q']))).trans (hk c o (fun q' => hb (by simp [q'])) (fun q' => hb (by simp [q'])) (fun q' => hb (by simp [q'])) (fun q' => hb (by simp [q'])) q)) hf (Nat.le_refl _) new
    refine ⟨.ref s.heap.objs.size, _, I1, rfl, ⟨_, x, y, rfl, I.hok.fresh (Nat.le_refl _), rfl, mu1, mu2⟩, ⟨z'', ?_, ⟨u, u2, ?_⟩, ?_, ?_⟩, fun c hcm => ?_⟩
    · exact (sb.2 _ D.TIz).trans (hk _ _ D.TIz D.TITO D.TIi1 D.TIi2 hTI)
    · exact (sb.2 _ D.TOz).trans TO'
    · exact Zc.st_kept h1' fun o q => (sb.2 _ D.zi1.symm).trans q
    · exact Zc.st_kept h2' fun o q => (sb.2 _ D.zi2.symm).trans q
    · have hlt : c < s.heap.objs.size := by
        have e' : c = z ∨ c = TI ∨ c = TO ∨ c = i1 ∨ c = i2 := by simpa using hcm
        rcases e' with q | q | q | q | q
        · rw [q]; exact hzl
        · rw [q]; exact Heap.lt_size hTI
        · rw [q]; exact Heap.lt_size hTO
        · rw [q]; obtain ⟨_, e1, _⟩ := Zc.st_obj h1; exact Heap.lt_size e1
        · rw [q]; obtain ⟨_, e2, _⟩ := Zc.st_obj h2; exact Heap.lt_size e2
      rw [upd_ne (Nat.ne_of_lt hlt)]
      exact (hf c hcm).1
  done := by
    intro X hP hw hK hc i pins s σ H E I hf st hg
    subst hP hw hK
    obtain ⟨hz, hTI, ⟨x0, y0, hTO⟩, h1, h2⟩ := st
    have fin : ∀ h' tk, (∀ c o, c ≠ z → c ≠ TO → c ≠ i1 → c ≠ i2 → s.heap.get? c = some o → h'.get? c = some o) → (none : Option Value) = none ∧ Inv X pins σ H { s with heap := h', toks := tk } := fun h' tk hk =>
      ⟨rfl, I.turnedL (t' := tk) (ch := [z, TI, TO, i1, i2]) (fun c o hb q => hk c o (fun q' => hb (by simp [q'])) (fun q' => hb (by simp [q'])) (fun q' => hb (by simp [q'])) (fun q' => hb (by simp [q'])) q) hf⟩
    have e1 : c1.vc.no X.K H i → c2.vc.has X.K H i → wpAny (model X.prog X.w) X.A (pyNext (.ref z)) (fun r s1 => r = none ∧ Inv X pins σ H s1) E s := fun no has => by
      obtain ⟨P1, St1, D1, t1⟩ := Zc.drawEnd (it := i1) I (I.ok.hd hc) no
      rcases has with no2 | ⟨v, at2⟩
      · obtain ⟨P2, St2, D2, t2⟩ := Zc.drawEnd (it := i2) I (I.ok.hd hc) no2
        exact wpAny_pyNext_zipD2_end D D1 D2 hz hTI hTO (t1 _ (fun _ _ => rfl) h1) (t2 _ (fun _ _ => rfl) h2) (Nat.le_refl _) (Nat.le_refl _) (.inl rfl) fin
      · obtain ⟨n2, P2, St2, D2, l2, t2, _, _⟩ := Zc.draw (it := i2) I (I.ok.hd hc) (fun _ _ => Decidable.em _) hTI2 at2
        exact wpAny_pyNext_zipD2_end D D1 D2 hz hTI hTO (t1 _ (fun _ _ => rfl) h1) (t2 _ (fun _ _ => rfl) h2) (Nat.le_refl _) (Nat.le_of_lt l2) (.inl rfl) fin
    rcases hg with ⟨no, has⟩ | ⟨no, has⟩
    · exact e1 no has
    · rcases has with no1 | ⟨v, at1⟩
      · exact e1 no1 (.inl no)
      · obtain ⟨n1, P1, St1, D1, l1, t1, _, _⟩ := Zc.draw (it := i1) I (I.ok.hd hc) (fun _ _ => Decidable.em _) hTI1 at1
        obtain ⟨P2, St2, D2, t2⟩ := Zc.drawEnd (it := i2) I (I.ok.hd hc) no
        exact wpAny_pyNext_zipD2_end D D1 D2 hz hTI hTO (t1 _ (fun _ _ => rfl) h1) (t2 _ (fun _ _ => rfl) h2) (Nat.le_of_lt l1) (Nat.le_refl _) (.inr rfl) fin
  self := fun A i s Q E st h => wpAny_pyIter_zip st.1 h
end
end MP

namespace MP
open PySem PySem.Spec PyProof.Rows L2

/-! ### zip of anything -/
def srcOf (h : Hq) : D → Option Src
  | .tup ds => some (.fix ds)
  | .lst ds => some (.fix ds)
  | .str s => some (.fix (s.map fun c => .str [c]))
  | .ref n => if (lstAt h n).isSome then some (.lst n) else none
  | _ => none
def CpOk (K : KW) (ρ : Nat → Addr) (n : Nat) (H : Hp) (c : Vc) (s : Src) : Prop := ∀ ρ' h' H' i, Ext K ρ n H ρ' h'.length H' → Sim K ρ' h' H' →
  (s.tick h' i = some none → c.no K.1 H' i) ∧ (∀ d, s.tick h' i = some (some d) → ∃ v, c.at_ K.1 H' i v ∧ ∀ v', c.must K.1 H' i v' → Rp K H' ρ' h'.length d v')
/-- a thing to be walked, with its value -/
theorem zc_of {K ρ h H d v u s} (S : Sim K ρ h H) (r : Rp K H ρ h.length d v) (ru : RelV v u) (e : srcOf h d = some s) :
    ∃ c : Zc, c.val = u ∧ CpOk K ρ h.length H c.vc s ∧ (∀ a, (c = .l a) → ∃ xs, Rd H a (.lst xs)) ∧ (∀ a, c = .t a → ∃ xs, SqT K.1 H a xs) := by
  cases d with
  | tup ds =>
    obtain ⟨a, xs, rfl, q, l⟩ := rp_tupT r
    have := Option.some.inj e
    subst this
    refine ⟨.t a, ru.symm, fun ρ' h' H' i e' S' => ?_, fun _ z => (by cases z), fun b z => (by cases z; exact ⟨xs, q.sq⟩)⟩
    have q' := e'.tp a xs q
    have l' := RpL.ext e' ds xs l
    refine ⟨fun z => ⟨xs, q'.sq, ?_⟩, fun d z => ?_⟩
    · have : ds[i]? = none := Option.some.inj z
      rw [List.getElem?_eq_none_iff] at this ⊢
      rw [← l'.length]; exact this
    · obtain ⟨x, hx, rx⟩ := l'.get (Option.some.inj z)
      refine ⟨x, ⟨xs, q'.sq, hx⟩, fun v' m => ?_⟩
      have := m xs q'.sq
      rw [hx] at this; cases this; exact rx
  | lst ds =>
    obtain ⟨a, xs, rfl, q, l⟩ := rp_lstT r
    have := Option.some.inj e
    subst this
    refine ⟨.l a, ru.symm, fun ρ' h' H' i e' S' => ?_, fun b z => (by cases z; exact ⟨xs, q.2⟩), fun _ z => (by cases z)⟩
    have q' : SqL K.1 H' a xs := (q.ext e').sq
    have l' := RpL.ext e' ds xs l
    refine ⟨fun z => ⟨xs, q', ?_⟩, fun d z => ?_⟩
    · have : ds[i]? = none := Option.some.inj z
      rw [List.getElem?_eq_none_iff] at this ⊢
      rw [← l'.length]; exact this
    · obtain ⟨x, hx, rx⟩ := l'.get (Option.some.inj z)
      refine ⟨x, ⟨xs, q', hx⟩, fun v' m => ?_⟩
      have := m xs q'
      rw [hx] at this; cases this; exact rx
  | str t =>
    obtain ⟨rfl, o⟩ := rp_str r
    obtain ⟨k, rfl⟩ := ru
    have := Option.some.inj e
    subst this
    have hg : ∀ i : Nat, (mkS t).cps[i]? = t[i]? := fun i => by unfold mkS; simp
    refine ⟨.s (mkS t) k, rfl, fun ρ' h' H' i e' S' => ?_, fun _ z => (by cases z), fun _ z => (by cases z)⟩
    refine ⟨fun z => ?_, fun d z => ?_⟩
    · have z' : (t.map fun c => D.str [c])[i]? = none := Option.some.inj z
      rw [List.getElem?_map, Option.map_eq_none_iff] at z'
      show (mkS t).cps[i]? = none
      rw [hg]; exact z'
    · have z' : (t.map fun c => D.str [c])[i]? = some d := Option.some.inj z
      rw [List.getElem?_map, Option.map_eq_some_iff] at z'
      obtain ⟨c, hc, rfl⟩ := z'
      refine ⟨_, ⟨c, by rw [hg]; exact hc, rfl⟩, fun v' ⟨c', hc', e2⟩ => ?_⟩
      rw [hg, hc] at hc'
      cases hc'
      subst e2
      exact of_str (s := [c]) ⟨by show 1 ≤ _; decide, fun y hy => by
        have : y = c := by simpa using hy
        subst this; exact o.2 _ (List.mem_of_getElem? hc)⟩
  | ref m =>
    obtain ⟨hm, rfl⟩ := rp_ref r
    have e' : (if (lstAt h m).isSome then some (Src.lst m) else none) = some s := e
    split at e'
    · rename_i hs
      have := Option.some.inj e'
      subst this
      obtain ⟨ds, hd⟩ := Option.isSome_iff_exists.mp hs
      obtain ⟨xs0, hx0, _⟩ := S.lstAt hd
      refine ⟨.l (ρ m), ru.symm, fun ρ' h' H' i e' S' => ?_, fun b z => (by cases z; exact ⟨xs0, .inl hx0⟩), fun _ z => (by cases z)⟩
      have em : ρ' m = ρ m := e'.ag m hm
      refine ⟨fun z => ?_, fun d z => ?_⟩
      · cases q : lstAt h' m with
        | none => simp [Src.tick, q] at z
        | some ds =>
          simp only [Src.tick, q, Option.map_some, Option.some.injEq] at z
          obtain ⟨xs, hx, l⟩ := S'.lstAt q
          rw [em] at hx
          refine ⟨xs, .inl (.inl hx), ?_⟩
          rw [List.getElem?_eq_none_iff] at z ⊢
          rw [← l.length]; exact z
      · cases q : lstAt h' m with
        | none => simp [Src.tick, q] at z
        | some ds =>
          simp only [Src.tick, q, Option.map_some, Option.some.injEq] at z
          obtain ⟨xs, hx, l⟩ := S'.lstAt q
          rw [em] at hx
          obtain ⟨x, h1, rx⟩ := l.get z
          refine ⟨x, ⟨xs, .inl (.inl hx), h1⟩, fun v' m' => ?_⟩
          have := m' xs (.inl (.inl hx))
          rw [h1] at this; cases this; exact rx
    · cases e'
  | _ => cases e
theorem itok_zip {K ρ n H c1 c2 s1 s2} (o1 : CpOk K ρ n H c1 s1) (o2 : CpOk K ρ n H c2 s2) : ItOk K ρ n H (ItG K.1 c1 c2) (.zip s1 s2) := by
  intro ρ' h' H' i e S
  obtain ⟨n1, a1⟩ := o1 ρ' h' H' i e S
  obtain ⟨n2, a2⟩ := o2 ρ' h' H' i e S
  refine ⟨fun z => ?_, fun d z => ?_⟩
  · cases q1 : s1.tick h' i with
    | none => simp [Src.tick, q1] at z
    | some t1 =>
      cases t1 with
      | none =>
        cases q2 : s2.tick h' i with
        | none => simp [Src.tick, q1, q2] at z
        | some t2 =>
          refine .inl ⟨n1 q1, ?_⟩
          cases t2 with
          | none => exact .inl (n2 q2)
          | some d2 => obtain ⟨v, hv, _⟩ := a2 d2 q2; exact .inr ⟨v, hv⟩
      | some d1 =>
        cases q2 : s2.tick h' i with
        | none => simp [Src.tick, q1, q2] at z
        | some t2 =>
          cases t2 with
          | none => obtain ⟨v, hv, _⟩ := a1 d1 q1; exact .inr ⟨n2 q2, .inr ⟨v, hv⟩⟩
          | some d2 => simp [Src.tick, q1, q2] at z
  · cases q1 : s1.tick h' i with
    | none => simp [Src.tick, q1] at z
    | some t1 =>
      cases t1 with
      | none =>
        cases q2 : s2.tick h' i with
        | none => simp [Src.tick, q1, q2] at z
        | some t2 => simp [Src.tick, q1, q2] at z
      | some d1 =>
        cases q2 : s2.tick h' i with
        | none => simp [Src.tick, q1, q2] at z
        | some t2 =>
          cases t2 with
          | none => simp [Src.tick, q1, q2] at z
          | some d2 =>
            simp only [Src.tick, q1, q2, Option.some.injEq] at z
            obtain ⟨x, hx, mx⟩ := a1 d1 q1
            obtain ⟨y, hy, my⟩ := a2 d2 q2
            refine ⟨⟨x, y, hx, hy⟩, fun v H'' ⟨T, x', y', e1, nT, e2, m1, m2⟩ => ?_⟩
            subst e1 e2 z
            have ex : Ext K ρ' h'.length H' ρ' h'.length (upd H' T (.tup [x', y'])) := Ext.new nT
            refine ⟨ex, S.new nT, ?_⟩
            unfold Rp
            exact ⟨T, [x', y'], rfl, .inl upd_same, RpL.ext ex _ _ (RpL.cons (mx x' m1) (RpL.cons (my y' m2) .nil))⟩
def wiZip (a : WA) : WI := fun fr h P => a fr h fun ds h1 => match ds with
  | [d, e] => (match srcOf h1 d, srcOf h1 e with
    | some s, some t => P (.zip s t) h1
    | _, _ => False)
  | _ => False
section
variable {X : Cx}
theorem zc_has {pins : List (Addr × Obj)} {σ : L2.St} {H : Hp} {s : Shared} {c : Zc} (I : Inv X pins σ H s) (hl : ∀ a, (c = .l a) → ∃ xs, Rd H a (.lst xs)) (ht : ∀ a, c = .t a → ∃ xs, SqT X.K H a xs) :
    c.has s.heap ∧ ∀ a, (c = .l a ∨ c = .t a) → a < s.heap.objs.size := by
  cases c with
  | l a =>
    obtain ⟨xs, q⟩ := hl a rfl
    obtain ⟨its, r, p, _⟩ := I.list (.inl q)
    exact ⟨⟨_, p.isList⟩, fun b z => by rcases z with z | z <;> cases z; exact p.lt⟩
  | t a =>
    obtain ⟨xs, q⟩ := ht a rfl
    obtain ⟨its, r, p, _⟩ := I.tuple q
    exact ⟨⟨_, p⟩, fun b z => by rcases z with z | z <;> cases z; exact p.lt⟩
  | s x k => exact ⟨trivial, fun b z => by rcases z with z | z <;> cases z⟩
theorem fp_mem {c : Zc} {it b : Addr} (h : b ∈ c.fp it) : b = it ∨ (c = .l b ∨ c = .t b) := by
  cases c with
  | l a =>
    have : b = it ∨ b = a := by simpa [Zc.fp] using h
    rcases this with e | e
    · exact .inl e
    · subst e; exact .inr (.inl rfl)
  | t a =>
    have : b = it ∨ b = a := by simpa [Zc.fp] using h
    rcases this with e | e
    · exact .inl e
    · subst e; exact .inr (.inr rfl)
  | s x k => exact .inl (by simpa [Zc.fp] using h)
theorem nne {n a b : Nat} (h : a ≠ b) : (n + a : Nat) ≠ n + b := by omega
theorem nlt {n a b : Nat} (h : b < n) : (n + a : Nat) ≠ b := by omega
theorem nle5 {n b : Nat} (h : b = n + 4 ∨ b = n + 2 ∨ b = n + 3 ∨ b = n ∨ b = n + 1) : n ≤ b := by omega
theorem fp_self (c : Zc) (it : Addr) : it ∈ c.fp it := by cases c <;> simp [Zc.fp]
theorem si_zip {e e2 : Expr} {ta : WA} {p pos tpos : Pos} {elts : List Expr} {kk : Nat} (hg : Gl X "zip") (hm : X.mg "zip" = none) (ha : SA X [e, e2] ta)
    (hs : starEach [e, e2] X.env = (false, eval e X.env) :: starEach [e2] X.env) (hpl : (backTo pos (starEach [e2] X.env)).any (·.1) = false) :
    SI X (.Tuple elts kk tpos) (.Call (.Name "zip" p) [e, e2] [] pos) (wiZip ta) := by
  refine ⟨fun pins s σ H R I ⟨ρ, fr, h, P, S, F, w, c⟩ => ?_⟩
  refine Call_ (ld_blt I hg hm PyProof.Rows.boot_zip (PyProof.Rows.callWith_type1 (thn (ha.run pos pins s σ H (fun vs H1 => ∃ ρ1 h1 ds, Ext X.kw ρ h.length H ρ1 h1.length H1 ∧ Sim X.kw ρ1 h1 H1 ∧ RpL X.kw H1 ρ1 h1.length ds vs ∧
    (match ds with | [d, e] => (match srcOf h1 d, srcOf h1 e with | some s, some t => P (.zip s t) h1 | _, _ => False) | _ => False)) I ⟨ρ, fr, h, _, S, F, w, fun ρ1 h1 H1 ds xs e1 S1 r1 w1 => ⟨ρ1, h1, ds, e1, S1, r1, w1⟩⟩) fun us s1 ⟨vs, H1, I1, r1, ρ1, h1, ds, e1, S1, l1, w1⟩ => ?_) hs hpl))
  split at w1
  · rename_i d d2
    split at w1
    · rename_i s1' s2' q1 q2
      obtain ⟨x, y, rfl, rx, ry⟩ := rpl2 l1
      obtain ⟨u1, u2, rfl, ru1, ru2⟩ := vals2 r1
      obtain ⟨c1, rfl, o1, hl1, ht1⟩ := zc_of S1 rx ru1 q1
      obtain ⟨c2, rfl, o2, hl2, ht2⟩ := zc_of S1 ry ru2 q2
      obtain ⟨has1, lt1⟩ := zc_has I1 hl1 ht1
      obtain ⟨has2, lt2⟩ := zc_has I1 hl2 ht2
      refine call_zipG has1 has2 fun h' hz hTI hTO st1 st2 hsz hk => wpAny_pyIter_zip hz ?_
      have I2 : Inv X pins σ H1 { s1 with heap := h' } := I1.kept (t' := s1.toks) hk
      have f1 : ∀ k : Nat, k ≠ 0 → s1.heap.objs.size + k ∉ c1.fp s1.heap.objs.size := fun k hk1 hm1 => by
        rcases fp_mem hm1 with z | z
        · exact nne (n := s1.heap.objs.size) (a := k) (b := 0) hk1 z
        · exact nlt (lt1 _ z) rfl
      have f2 : ∀ k : Nat, k ≠ 1 → s1.heap.objs.size + k ∉ c2.fp (s1.heap.objs.size + 1) := fun k hk1 hm1 => by
        rcases fp_mem hm1 with z | z
        · exact nne (n := s1.heap.objs.size) (a := k) (b := 1) hk1 z
        · exact nlt (lt2 _ z) rfl
      refine ⟨s1.heap.objs.size + 4, [s1.heap.objs.size + 4, s1.heap.objs.size + 2, s1.heap.objs.size + 3, s1.heap.objs.size, s1.heap.objs.size + 1], _, _, H1, rfl, I2,
        turn_zipG (c1 := c1) (c2 := c2) ⟨nne (by decide), nne (by decide), nne (by decide), nne (b := 0) (by decide), fp_self c1 _, f1 4 (by decide), f1 3 (by decide), nne (by decide), fp_self c2 _, f2 4 (by decide), f2 3 (by decide), f2 0 (by decide), f1 1 (by decide)⟩
          (fun a z => Nat.ne_of_lt (lt1 a z)) (fun a z => (nlt (lt2 a z)).symm), ⟨hz, hTI, ⟨_, _, hTO⟩, st1, st2⟩, fun b hb => ?_, ?_⟩
      · have e' : b = s1.heap.objs.size + 4 ∨ b = s1.heap.objs.size + 2 ∨ b = s1.heap.objs.size + 3 ∨ b = s1.heap.objs.size ∨ b = s1.heap.objs.size + 1 := by simpa using hb
        have hle : s1.heap.objs.size ≤ b := nle5 e'
        exact I1.fpOk hle (I1.hok.fresh hle)
      · exact c ρ1 h1 H1 _ _ e1 S1 (itok_zip o1 o2) w1
    · exact w1.elim
  · exact w1.elim
end
end MP

namespace MP
open PySem PySem.Spec PyProof.Rows L2

/-! ### targets of names alone -/
mutual
inductive Pat where
  | nm (i : Nat) | tp (ps : Pats)
inductive Pats where
  | nil | cons (p : Pat) (ps : Pats)
end
def Pats.len : Pats → Nat
  | .nil => 0
  | .cons _ ps => ps.len + 1
mutual
def bindP : Pat → D → Fr → Option Fr
  | .nm i, d, fr => some (fr.set i (some d))
  | .tp ps, .tup ds, fr => bindPs ps ds fr
  | .tp _, _, _ => none
def bindPs : Pats → List D → Fr → Option Fr
  | .nil, [], fr => some fr
  | .cons p ps, d :: ds, fr => (bindP p d fr).bind fun fr' => bindPs ps ds fr'
  | .nil, _ :: _, _ => none
  | .cons _ _, [], _ => none
end
mutual
def hPat (K : KW) : Pat → TG
  | .nm i => L2.gName i
  | .tp ps => L2.gTup K.1 ps.len (hPats K ps)
def hPats (K : KW) : Pats → TGs
  | .nil => L2.gNil
  | .cons p ps => L2.gCons (hPat K p) (hPats K ps)
end
mutual
def Pat.within (vs : List Nat) : Pat → Bool
  | .nm i => vs.contains i
  | .tp ps => ps.within vs
def Pats.within (vs : List Nat) : Pats → Bool
  | .nil => true
  | .cons p ps => p.within vs && ps.within vs
end
theorem wipe_set {σ : L2.St} {i : Nat} {x : Option V} : ∀ {vs : List Nat}, i ∈ vs → wipe (σ.set i x) vs = wipe σ vs := by
  intro vs h
  apply List.ext_getElem?
  intro j
  have key : ∀ (σ : L2.St) (vs : List Nat) (j : Nat), (wipe σ vs)[j]? = if j ∈ vs then (if j < σ.length then some none else none) else σ[j]? := by
    intro σ vs
    induction vs with
    | nil => intro j; simp [wipe]
    | cons v vs ih =>
      intro j
      unfold wipe
      rw [List.getElem?_set]
      by_cases hv : v = j
      · subst hv
        simp [wipe_length]
      · rw [if_neg hv, ih j]
        have : (j ∈ v :: vs) ↔ j ∈ vs := by simp [Ne.symm hv]
        simp only [this]
  rw [key, key]
  by_cases hj : j ∈ vs
  · simp [hj]
  · simp only [hj, if_false]
    have : i ≠ j := fun e => hj (e ▸ h)
    rw [List.getElem?_set_ne this]
theorem wipe_idem {σ : L2.St} (vs : List Nat) : ∀ (us : List Nat), (∀ u ∈ us, u ∈ vs) → wipe (wipe σ us) vs = wipe σ vs
  | [], _ => rfl
  | u :: us, h => by
    show wipe ((wipe σ us).set u none) vs = wipe σ vs
    rw [wipe_set (h u (by simp))]
    exact wipe_idem vs us fun x hx => h x (by simp [hx])
def wipeF (fr : Fr) : List Nat → Fr
  | [] => fr
  | v :: vs => (wipeF fr vs).set v none
theorem FrR.wipe {K ρ n H fr σ} (F : FrR K ρ n H fr σ) : ∀ vs : List Nat, FrR K ρ n H (wipeF fr vs) (wipe σ vs)
  | [] => F
  | v :: vs => by
    have ih := FrR.wipe F vs
    refine ⟨by unfold wipeF L2.wipe; simp [ih.len], fun j e h => ?_⟩
    unfold wipeF at h
    unfold L2.wipe
    by_cases hj : v = j
    · subst hj
      rw [List.getElem?_set] at h
      split at h
      · split at h <;> cases h
      · rename_i q; exact (q rfl).elim
    · rw [List.getElem?_set_ne hj] at h ⊢
      exact ih.at_ j e h
mutual
theorem hPat_run {K ρ n H} {vs : List Nat} : ∀ (p : Pat) (d : D) (v : V) (fr fr' : Fr) (σ : L2.St) (Q : L2.St → Hp → Prop), p.within vs = true → FrR K ρ n H fr σ → Rp K H ρ n d v → bindP p d fr = some fr' →
    (∀ σ', FrR K ρ n H fr' σ' → wipe σ' vs = wipe σ vs → Q σ' H) → hPat K p v σ H Q
  | .nm i, d, v, fr, fr', σ, Q, hw, F, r, e, q => by
    simp only [bindP, Option.some.injEq] at e
    subst e
    unfold hPat
    simp only [Pat.within] at hw
    exact q _ (F.set r) (wipe_set (by simpa using hw))
  | .tp ps, d, v, fr, fr', σ, Q, hw, F, r, e, q => by
    cases d with
    | tup ds =>
      simp only [bindP] at e
      obtain ⟨a, xs, rfl, sq, l⟩ := rp_tup r
      unfold hPat
      simp only [Pat.within] at hw
      have hl : ds.length = ps.len := bindPs_len ps ds fr fr' e
      exact ⟨a, xs, rfl, sq, by rw [← l.length]; exact hl, hPats_run ps ds xs fr fr' σ Q hw F l e q⟩
    | _ => simp [bindP] at e
theorem hPats_run {K ρ n H} {vs : List Nat} : ∀ (ps : Pats) (ds : List D) (xs : List V) (fr fr' : Fr) (σ : L2.St) (Q : L2.St → Hp → Prop), ps.within vs = true → FrR K ρ n H fr σ → RpL K H ρ n ds xs → bindPs ps ds fr = some fr' →
    (∀ σ', FrR K ρ n H fr' σ' → wipe σ' vs = wipe σ vs → Q σ' H) → hPats K ps xs σ H Q
  | .nil, ds, xs, fr, fr', σ, Q, hw, F, r, e, q => by
    cases ds with
    | nil =>
      simp only [bindPs, Option.some.injEq] at e
      subst e
      unfold hPats
      exact ⟨r.nil_inv, q σ F rfl⟩
    | cons d ds => simp [bindPs] at e
  | .cons p ps, ds, xs, fr, fr', σ, Q, hw, F, r, e, q => by
    cases ds with
    | nil => simp [bindPs] at e
    | cons d ds =>
      simp only [bindPs] at e
      cases e1 : bindP p d fr with
      | none => simp [e1] at e
      | some fr1 =>
        simp only [e1, Option.bind_some] at e
        obtain ⟨x, r', rfl, r1, r2⟩ := r.cons_inv
        unfold hPats
        simp only [Pats.within, Bool.and_eq_true] at hw
        refine ⟨x, r', rfl, hPat_run p d x fr fr1 σ _ hw.1 F r1 e1 fun σ1 F1 w1 => ?_⟩
        exact hPats_run ps ds r' fr1 fr' σ1 Q hw.2 F1 r2 e fun σ2 F2 w2 => q σ2 F2 (w2.trans w1)
theorem bindPs_len : ∀ (ps : Pats) (ds : List D) (fr fr' : Fr), bindPs ps ds fr = some fr' → ds.length = ps.len
  | .nil, [], _, _, _ => rfl
  | .nil, d :: ds, fr, fr', e => by simp [bindPs] at e
  | .cons p ps, [], fr, fr', e => by simp [bindPs] at e
  | .cons p ps, d :: ds, fr, fr', e => by
    simp only [bindPs] at e
    cases e1 : bindP p d fr with
    | none => simp [e1] at e
    | some fr1 =>
      simp only [e1, Option.bind_some] at e
      simp [Pats.len, bindPs_len ps ds fr1 fr' e]
end

/-! ### list comprehensions -/
/-- the turns: n the new list's number; step d h keep skip -/
def lcN (s : Src) (n : Nat) (step : D → Hq → (D → Hq → Prop) → (Hq → Prop) → Prop) (P : WK) : Nat → Nat → Hq → Prop
  | 0, _, _ => False
  | k + 1, i, h => match s.tick h i with
    | some (some d) => step d h (fun y h4 => match lstAt h4 n with
      | some acc => acc.length < sizeLine ∧ lcN s n step P k (i + 1) (h4.set n (.lst (acc ++ [y])))
      | none => False) (fun h3 => lcN s n step P k (i + 1) h3)
    | some none => P (.ref n) h
    | none => False
def lcStep (p : Pat) (tt : WT) (te : WE) (fr : Fr) : D → Hq → (D → Hq → Prop) → (Hq → Prop) → Prop := fun d h kp sk =>
  match bindP p d fr with
  | some fr2 => tt fr2 h fun b h3 => if b = true then te fr2 h3 kp else sk h3
  | none => False
def wLcM (wi : WI) (p : Pat) (tt : WT) (te : WE) (vs : List Nat) : WE := fun fr h P => wi fr h fun s h1 => ∃ k, lcN s h1.length (lcStep p tt te (wipeF fr vs)) P k 0 (h1 ++ [.lst []])
abbrev STs (X : Cx) (es : List Expr) (w : WT) : Prop := PTs X es (liftT X.kw w)
def wtYes : WT := fun _ h P => P true h
theorem PTs.imp {X : Cx} {e : List Expr} {t t' : TT} (h : PTs X e t) (i : ∀ σ H Q, t' σ H Q → t σ H Q) : PTs X e t' := ⟨fun pins s σ H Q I q => h.run pins s σ H Q I (i σ H Q q)⟩
theorem sts_nil {X : Cx} : STs X [] wtYes := PTs.imp pts_nil fun σ H Q ⟨ρ, fr, h, P, S, F, w, c⟩ => c ρ h H true .refl S w
theorem sts_one {X : Cx} {c : Expr} {t : WT} (h : ST X c t) : STs X [c] t := pts_one h
theorem lc_lift {K : KW} {wi : WI} {p : Pat} {tt : WT} {te : WE} {vs : List Nat} (hw : p.within vs = true) {σ H Q} (q : liftE K (wLcM wi p tt te vs) σ H Q) : tLc (liftI K wi) (hPat K p) (liftT K tt) (liftE K te) vs σ H Q := by
  obtain ⟨ρ, fr, h, P, S, F, w, c⟩ := q
  refine ⟨ρ, fr, h, _, S, F, w, fun ρ1 h1 H1 J s e1 S1 o ⟨k, w1⟩ => fun D hD => ?_⟩
  have eD : Ext K ρ1 h1.length H1 (rho ρ1 h1.length D) (h1 ++ [Ob.lst []]).length (upd H1 D (.lst [])) := by
    rw [List.length_append]; exact Ext.newOb hD
  have SD := S1.newOb (p := D) (z := .lst []) (o0 := .lst []) hD ⟨[], upd_same, RpL.nil⟩
  have hlt : h1.length < (h1 ++ [Ob.lst []]).length := by simp
  have o' := o.ext eD
  refine ⟨fun i m H => ∃ ρ2 h2, Ext K (rho ρ1 h1.length D) (h1 ++ [Ob.lst []]).length (upd H1 D (.lst [])) ρ2 h2.length H ∧ Sim K ρ2 h2 H ∧ lcN s h1.length (lcStep p tt te (wipeF fr vs)) P m i h2, ⟨k, _, _, .refl, SD, w1⟩, ?_⟩
  rintro i m H2 ⟨ρ2, h2, e2, S2, w2⟩
  cases m with
  | zero => exact w2.elim
  | succ m =>
    unfold lcN at w2
    obtain ⟨o1, o2⟩ := o' ρ2 h2 H2 i e2 S2
    have eAll := e1.trans (eD.trans e2)
    split at w2
    · rename_i d hd
      obtain ⟨go, yl⟩ := o2 d hd
      refine .inr ⟨go, fun H3 => ∃ ρ3 h3, Ext K (rho ρ1 h1.length D) (h1 ++ [Ob.lst []]).length (upd H1 D (.lst [])) ρ3 h3.length H3 ∧ Sim K ρ3 h3 H3 ∧ lcN s h1.length (lcStep p tt te (wipeF fr vs)) P m (i + 1) h3, fun H3 q => ⟨m, Nat.lt_succ_self m, q⟩, fun x H3 hy => ?_⟩
      obtain ⟨e3, S3, r3⟩ := yl x H3 hy
      unfold lcStep at w2
      split at w2
      · rename_i fr2 hb
        have F3 : FrR K ρ2 h2.length H3 (wipeF fr vs) (wipe σ vs) := (F.ext (eAll.trans e3)).wipe vs
        refine hPat_run p d x _ fr2 (wipe σ vs) _ hw F3 r3 hb fun σ2 F4 w4 => ⟨w4.trans (wipe_idem vs vs fun _ h => h), ?_⟩
        refine ⟨ρ2, fr2, h2, _, S3, F4, w2, fun ρ5 h5 H5 b e5 S5 w5 => ?_⟩
        cases b with
        | true =>
          rw [if_pos rfl] at w5 ⊢
          refine ⟨ρ5, fr2, h5, _, S5, F4.ext e5, w5, fun ρ6 h6 H6 y yv e6 S6 r6 w6 => ?_⟩
          have e26 := e3.trans (e5.trans e6)
          have hn6 : h1.length < h6.length := Nat.lt_of_lt_of_le hlt (e2.trans e26).le
          split at w6
          · rename_i acc ha
            obtain ⟨xs, hx, l⟩ := S6.lstAt ha
            have eρ : ρ6 h1.length = D := by rw [(e2.trans e26).ag _ hlt, rho_new]
            rw [eρ] at hx
            refine ⟨xs, hx, by rw [← l.length]; exact w6.1, ?_⟩
            obtain ⟨S7, e7⟩ := S6.setL (lstAt_get ha) (RpL.app l (RpL.cons r6 .nil))
            rw [eρ] at S7 e7
            exact ⟨ρ6, _, (e2.trans e26).trans e7, S7, w6.2⟩
          · exact w6.elim
        | false =>
          rw [if_neg Bool.false_ne_true] at w5 ⊢
          exact ⟨ρ5, h5, e2.trans (e3.trans e5), S5, w5⟩
      · exact w2.elim
    · rename_i hd
      refine .inl ⟨o1 hd, c ρ2 h2 H2 _ _ eAll S2 ?_ w2⟩
      unfold Rp
      exact ⟨Nat.lt_of_lt_of_le hlt e2.le, by rw [e2.ag _ hlt, rho_new]⟩
    · exact w2.elim
section
variable {X : Cx}
theorem se_lc {elt tg iter : Expr} {ifs : List Expr} {scope : Scope} {own : List (Str × Nat)} {pos : Pos} {wi : WI} {p : Pat} {tt : WT} {te : WE} (hc : X.calm = true) (hN : X.N.Nodup) (hi : SI X tg iter wi) (ok : BlkOk X.N X.env.scope scope own)
    (hw : p.within (own.map (·.2)) = true)
    (hg : ∀ (s : Shared) (H : Hp) (C : Addr) (cl : List (Str × Addr)) (fp : List Addr), PG (X.blk s H scope (compEnvC scope cl C X.env) fp) tg (hPat X.kw p)) (ht : ∀ (s : Shared) (H : Hp) (C : Addr) (cl : List (Str × Addr)) (fp : List Addr), STs (X.blk s H scope (compEnvC scope cl C X.env) fp) ifs tt)
    (he : ∀ (s : Shared) (H : Hp) (C : Addr) (cl : List (Str × Addr)) (fp : List Addr), SE (X.blk s H scope (compEnvC scope cl C X.env) fp) elt te) (hs : ∀ x, foldedSetIterable iter X.env x = pure x) :
    SE X (.ListComp elt [⟨tg, iter, ifs, 0⟩] scope pos) (wLcM wi p tt te (own.map (·.2))) :=
  PE.imp (pe_lc hc hN hi ok hg ht he hs) fun σ H Q q => lc_lift hw q
theorem ss_setLc {i : Nat} {y : Str} {py : Pos} {elt tg iter : Expr} {ifs : List Expr} {scope : Scope} {own : List (Str × Nat)} {pos spos : Pos} {wi : WI} {p : Pat} {tt : WT} {te : WE} (hc : X.calm = true) (hN : X.N.Nodup) (hy : X.N[i]? = some y) (hyl : X.env.scope.names.lookup y = some .local)
    (hsw : swapsWith (.ListComp elt [⟨tg, iter, ifs, 0⟩] scope pos) (some (.Name y py)) spos.line X.env = pure true) (hi : SI X tg iter wi) (ok : BlkOk X.N X.env.scope scope own)
    (hw : p.within (own.map (·.2)) = true)
    (hg : ∀ (s : Shared) (H : Hp) (C : Addr) (cl : List (Str × Addr)) (fp : List Addr), PG (X.blk s H scope (compEnvC scope cl C X.env) fp) tg (hPat X.kw p)) (ht : ∀ (s : Shared) (H : Hp) (C : Addr) (cl : List (Str × Addr)) (fp : List Addr), STs (X.blk s H scope (compEnvC scope cl C X.env) fp) ifs tt)
    (he : ∀ (s : Shared) (H : Hp) (C : Addr) (cl : List (Str × Addr)) (fp : List Addr), SE (X.blk s H scope (compEnvC scope cl C X.env) fp) elt te) (hs : ∀ x, foldedSetIterable iter X.env x = pure x) :
    SS X (.Assign [.Name y py] (.ListComp elt [⟨tg, iter, ifs, 0⟩] scope pos) spos) (wsAsg (gName i) (wLcM wi p tt te (own.map (·.2)))) := by
  refine PS.imp (ps_setLc (tt := liftT X.kw tt) (te := liftE X.kw te) hc hN hy hyl hsw hi ok hg ht he hs) fun D σ H ⟨ρ, fr, h, M, S, F, w, c1, c2, c3, c4⟩ => ?_
  exact lc_lift hw ⟨ρ, fr, h, _, S, F, w, fun ρ1 h1 H1 d v e1 S1 r1 w1 => c1 ρ1 h1 H1 _ _ e1 S1 ((F.ext e1).set r1) w1⟩
end
end MP

namespace MP
open PySem PySem.Spec PyProof.Rows L2

/-! ### two clauses -/
def lc2N (s : Src) (n : Nat) (p : Pat) (tt : WT) (wi1 : WI) (p1 : Pat) (tt1 : WT) (te : WE) (vs1 : List Nat) (fr : Fr) (P : WK) : Nat → Nat → Hq → Prop
  | 0, _, _ => False
  | k + 1, i, h => match s.tick h i with
    | some (some d) => (match bindP p d fr with
      | some fr2 => tt fr2 h fun b h3 => if b = true then wi1 fr2 h3 fun s1 h4 => ∃ k1, lcN s1 n (lcStep p1 tt1 te (wipeF fr2 vs1)) (fun _ h5 => lc2N s n p tt wi1 p1 tt1 te vs1 fr P k (i + 1) h5) k1 0 h4
          else lc2N s n p tt wi1 p1 tt1 te vs1 fr P k (i + 1) h3
      | none => False)
    | some none => P (.ref n) h
    | none => False
def wLc2M (wi : WI) (p : Pat) (tt : WT) (wi1 : WI) (p1 : Pat) (tt1 : WT) (te : WE) (vs vs1 : List Nat) : WE := fun fr h P => wi fr h fun s h1 => ∃ k, lc2N s h1.length p tt wi1 p1 tt1 te vs1 (wipeF fr vs) P k 0 (h1 ++ [.lst []])
theorem lc2_lift {K : KW} {wi wi1 : WI} {p p1 : Pat} {tt tt1 : WT} {te : WE} {vs vs1 : List Nat} (hw : p.within vs = true) (hw1 : p1.within vs1 = true) {σ H Q} (q : liftE K (wLc2M wi p tt wi1 p1 tt1 te vs vs1) σ H Q) :
    tLc2 (liftI K wi) (hPat K p) (liftT K tt) (liftI K wi1) (hPat K p1) (liftT K tt1) (liftE K te) vs vs1 σ H Q := by
  obtain ⟨ρ, fr, h, P, S, F, w, c⟩ := q
  refine ⟨ρ, fr, h, _, S, F, w, fun ρ1 h1 H1 J s e1 S1 o ⟨k, w1⟩ => fun D hD => ?_⟩
  have eD : Ext K ρ1 h1.length H1 (rho ρ1 h1.length D) (h1 ++ [Ob.lst []]).length (upd H1 D (.lst [])) := by
    rw [List.length_append]; exact Ext.newOb hD
  have SD := S1.newOb (p := D) (z := .lst []) (o0 := .lst []) hD ⟨[], upd_same, RpL.nil⟩
  have hlt : h1.length < (h1 ++ [Ob.lst []]).length := by simp
  have o' := o.ext eD
  refine ⟨fun i m H => ∃ ρ2 h2, Ext K (rho ρ1 h1.length D) (h1 ++ [Ob.lst []]).length (upd H1 D (.lst [])) ρ2 h2.length H ∧ Sim K ρ2 h2 H ∧ lc2N s h1.length p tt wi1 p1 tt1 te vs1 (wipeF fr vs) P m i h2, ⟨k, _, _, .refl, SD, w1⟩, ?_⟩
  rintro i m H2 ⟨ρ2, h2, e2, S2, w2⟩
  cases m with
  | zero => exact w2.elim
  | succ m =>
    unfold lc2N at w2
    obtain ⟨o1, o2⟩ := o' ρ2 h2 H2 i e2 S2
    have eAll := e1.trans (eD.trans e2)
    split at w2
    · rename_i d hd
      obtain ⟨go, yl⟩ := o2 d hd
      refine .inr ⟨go, fun H3 => ∃ ρ3 h3, Ext K (rho ρ1 h1.length D) (h1 ++ [Ob.lst []]).length (upd H1 D (.lst [])) ρ3 h3.length H3 ∧ Sim K ρ3 h3 H3 ∧ lc2N s h1.length p tt wi1 p1 tt1 te vs1 (wipeF fr vs) P m (i + 1) h3, fun H3 q => ⟨m, Nat.lt_succ_self m, q⟩, fun x H3 hy => ?_⟩
      obtain ⟨e3, S3, r3⟩ := yl x H3 hy
      split at w2
      · rename_i fr2 hb
        have F3 : FrR K ρ2 h2.length H3 (wipeF fr vs) (wipe σ vs) := (F.ext (eAll.trans e3)).wipe vs
        refine hPat_run p d x _ fr2 (wipe σ vs) _ hw F3 r3 hb fun σ2 F4 w4 => ⟨w4.trans (wipe_idem vs vs fun _ h => h), ?_⟩
        refine ⟨ρ2, fr2, h2, _, S3, F4, w2, fun ρ5 h5 H5 b e5 S5 w5 => ?_⟩
        cases b with
        | true =>
          rw [if_pos rfl] at w5 ⊢
          refine ⟨ρ5, fr2, h5, _, S5, F4.ext e5, w5, fun ρ6 h6 H6 J1 s1 e6 S6 oi ⟨k1, w6⟩ => ?_⟩
          have e36 := e3.trans (e5.trans e6)
          refine ⟨fun j m1 H => ∃ ρ7 h7, Ext K ρ6 h6.length H6 ρ7 h7.length H ∧ Sim K ρ7 h7 H ∧ lcN s1 h1.length (lcStep p1 tt1 te (wipeF fr2 vs1)) (fun _ h5 => lc2N s h1.length p tt wi1 p1 tt1 te vs1 (wipeF fr vs) P m (i + 1) h5) m1 j h7, ⟨k1, ρ6, h6, .refl, S6, w6⟩, ?_⟩
          rintro j m1 H7 ⟨ρ7, h7, e7, S7, w7⟩
          cases m1 with
          | zero => exact w7.elim
          | succ m1 =>
            unfold lcN at w7
            obtain ⟨q1, q2⟩ := oi ρ7 h7 H7 j e7 S7
            split at w7
            · rename_i d1 hd1
              obtain ⟨go1, yl1⟩ := q2 d1 hd1
              refine .inr ⟨go1, fun H8 => ∃ ρ8 h8, Ext K ρ6 h6.length H6 ρ8 h8.length H8 ∧ Sim K ρ8 h8 H8 ∧ lcN s1 h1.length (lcStep p1 tt1 te (wipeF fr2 vs1)) (fun _ h5 => lc2N s h1.length p tt wi1 p1 tt1 te vs1 (wipeF fr vs) P m (i + 1) h5) m1 (j + 1) h8, fun H8 q => ⟨m1, Nat.lt_succ_self m1, q⟩, fun x1 H8 hy1 => ?_⟩
              obtain ⟨e8, S8, r8⟩ := yl1 x1 H8 hy1
              unfold lcStep at w7
              split at w7
              · rename_i fr3 hb1
                have F8 : FrR K ρ7 h7.length H8 (wipeF fr2 vs1) (wipe σ2 vs1) := (F4.ext (e5.trans (e6.trans (e7.trans e8)))).wipe vs1
                refine hPat_run p1 d1 x1 _ fr3 (wipe σ2 vs1) _ hw1 F8 r8 hb1 fun σ3 F9 w9 => ⟨w9.trans (wipe_idem vs1 vs1 fun _ h => h), ?_⟩
                refine ⟨ρ7, fr3, h7, _, S8, F9, w7, fun ρ10 h10 H10 b1 e10 S10 w10 => ?_⟩
                cases b1 with
                | true =>
                  rw [if_pos rfl] at w10 ⊢
                  refine ⟨ρ10, fr3, h10, _, S10, F9.ext e10, w10, fun ρ11 h11 H11 y yv e11 S11 r11 w11 => ?_⟩
                  have e711 := e7.trans (e8.trans (e10.trans e11))
                  have eD11 := e2.trans (e36.trans e711)
                  split at w11
                  · rename_i acc ha
                    obtain ⟨xs, hx, l⟩ := S11.lstAt ha
                    have eρ : ρ11 h1.length = D := by rw [eD11.ag _ hlt, rho_new]
                    rw [eρ] at hx
                    refine ⟨xs, hx, by rw [← l.length]; exact w11.1, ?_⟩
                    obtain ⟨S12, e12⟩ := S11.setL (lstAt_get ha) (RpL.app l (RpL.cons r11 .nil))
                    rw [eρ] at S12 e12
                    exact ⟨ρ11, _, e711.trans e12, S12, w11.2⟩
                  · exact w11.elim
                | false =>
                  rw [if_neg Bool.false_ne_true] at w10 ⊢
                  exact ⟨ρ10, h10, e7.trans (e8.trans e10), S10, w10⟩
              · exact w7.elim
            · rename_i hd1
              exact .inl ⟨q1 hd1, ρ7, h7, e2.trans (e36.trans e7), S7, w7⟩
            · exact w7.elim
        | false =>
          rw [if_neg Bool.false_ne_true] at w5 ⊢
          exact ⟨ρ5, h5, e2.trans (e3.trans e5), S5, w5⟩
      · exact w2.elim
    · rename_i hd
      refine .inl ⟨o1 hd, c ρ2 h2 H2 _ _ eAll S2 ?_ w2⟩
      unfold Rp
      exact ⟨Nat.lt_of_lt_of_le hlt e2.le, by rw [e2.ag _ hlt, rho_new]⟩
    · exact w2.elim
section
variable {X : Cx}
theorem se_lc2 {elt tg iter tg1 iter1 : Expr} {ifs ifs1 : List Expr} {scope : Scope} {own : List (Str × Nat)} {vs1 : List Nat} {pos : Pos} {wi wi1 : WI} {p p1 : Pat} {tt tt1 : WT} {te : WE} (hc : X.calm = true) (hN : X.N.Nodup) (hi : SI X tg iter wi) (ok : BlkOk X.N X.env.scope scope own) (hv : ∀ i ∈ vs1, i ∈ own.map (·.2))
    (hw : p.within (own.map (·.2)) = true) (hw1 : p1.within vs1 = true)
    (hg : ∀ (s : Shared) (H : Hp) (C : Addr) (cl : List (Str × Addr)) (fp : List Addr), PG (X.blk s H scope (compEnvC scope cl C X.env) fp) tg (hPat X.kw p)) (ht : ∀ (s : Shared) (H : Hp) (C : Addr) (cl : List (Str × Addr)) (fp : List Addr), STs (X.blk s H scope (compEnvC scope cl C X.env) fp) ifs tt)
    (hi1 : ∀ (s : Shared) (H : Hp) (C : Addr) (cl : List (Str × Addr)) (fp : List Addr), SI (X.blk s H scope (compEnvC scope cl C X.env) fp) tg1 iter1 wi1)
    (hg1 : ∀ (s : Shared) (H : Hp) (C : Addr) (cl : List (Str × Addr)) (fp : List Addr), PG (X.blk s H scope (compEnvC scope cl C X.env) fp) tg1 (hPat X.kw p1)) (ht1 : ∀ (s : Shared) (H : Hp) (C : Addr) (cl : List (Str × Addr)) (fp : List Addr), STs (X.blk s H scope (compEnvC scope cl C X.env) fp) ifs1 tt1)
    (he : ∀ (s : Shared) (H : Hp) (C : Addr) (cl : List (Str × Addr)) (fp : List Addr), SE (X.blk s H scope (compEnvC scope cl C X.env) fp) elt te) (hs : ∀ x, foldedSetIterable iter X.env x = pure x) (hs1 : ∀ env x, foldedSetIterable iter1 env x = pure x) :
    SE X (.ListComp elt [⟨tg, iter, ifs, 0⟩, ⟨tg1, iter1, ifs1, 0⟩] scope pos) (wLc2M wi p tt wi1 p1 tt1 te (own.map (·.2)) vs1) :=
  PE.imp (pe_lc2 (tt := liftT X.kw tt) (tt1 := liftT X.kw tt1) (te := liftE X.kw te) (wi1 := liftI X.kw wi1) hc hN hi ok hv hg ht hi1 hg1 ht1 he hs hs1) fun σ H Q q => lc2_lift hw hw1 q
theorem ss_setLc2 {i : Nat} {y : Str} {py : Pos} {elt tg iter tg1 iter1 : Expr} {ifs ifs1 : List Expr} {scope : Scope} {own : List (Str × Nat)} {vs1 : List Nat} {pos spos : Pos} {wi wi1 : WI} {p p1 : Pat} {tt tt1 : WT} {te : WE} (hc : X.calm = true) (hN : X.N.Nodup) (hy : X.N[i]? = some y) (hyl : X.env.scope.names.lookup y = some .local)
    (hsw : swapsWith (.ListComp elt [⟨tg, iter, ifs, 0⟩, ⟨tg1, iter1, ifs1, 0⟩] scope pos) (some (.Name y py)) spos.line X.env = pure true) (hi : SI X tg iter wi) (ok : BlkOk X.N X.env.scope scope own) (hv : ∀ i ∈ vs1, i ∈ own.map (·.2))
    (hw : p.within (own.map (·.2)) = true) (hw1 : p1.within vs1 = true)
    (hg : ∀ (s : Shared) (H : Hp) (C : Addr) (cl : List (Str × Addr)) (fp : List Addr), PG (X.blk s H scope (compEnvC scope cl C X.env) fp) tg (hPat X.kw p)) (ht : ∀ (s : Shared) (H : Hp) (C : Addr) (cl : List (Str × Addr)) (fp : List Addr), STs (X.blk s H scope (compEnvC scope cl C X.env) fp) ifs tt)
    (hi1 : ∀ (s : Shared) (H : Hp) (C : Addr) (cl : List (Str × Addr)) (fp : List Addr), SI (X.blk s H scope (compEnvC scope cl C X.env) fp) tg1 iter1 wi1)
    (hg1 : ∀ (s : Shared) (H : Hp) (C : Addr) (cl : List (Str × Addr)) (fp : List Addr), PG (X.blk s H scope (compEnvC scope cl C X.env) fp) tg1 (hPat X.kw p1)) (ht1 : ∀ (s : Shared) (H : Hp) (C : Addr) (cl : List (Str × Addr)) (fp : List Addr), STs (X.blk s H scope (compEnvC scope cl C X.env) fp) ifs1 tt1)
    (he : ∀ (s : Shared) (H : Hp) (C : Addr) (cl : List (Str × Addr)) (fp : List Addr), SE (X.blk s H scope (compEnvC scope cl C X.env) fp) elt te) (hs : ∀ x, foldedSetIterable iter X.env x = pure x) (hs1 : ∀ env x, foldedSetIterable iter1 env x = pure x) :
    SS X (.Assign [.Name y py] (.ListComp elt [⟨tg, iter, ifs, 0⟩, ⟨tg1, iter1, ifs1, 0⟩] scope pos) spos) (wsAsg (gName i) (wLc2M wi p tt wi1 p1 tt1 te (own.map (·.2)) vs1)) := by
  refine PS.imp (ps_setLc2 (tt := liftT X.kw tt) (tt1 := liftT X.kw tt1) (te := liftE X.kw te) (wi1 := liftI X.kw wi1) hc hN hy hyl hsw hi ok hv hg ht hi1 hg1 ht1 he hs hs1) fun D σ H ⟨ρ, fr, h, M, S, F, w, c1, c2, c3, c4⟩ => ?_
  exact lc2_lift hw hw1 ⟨ρ, fr, h, _, S, F, w, fun ρ1 h1 H1 d v e1 S1 r1 w1 => c1 ρ1 h1 H1 _ _ e1 S1 ((F.ext e1).set r1) w1⟩
end


/-- what is made on the way is forgotten -/
def wGc (w : WE) : WE := fun fr h P => w fr h (gcK h P)
theorem se_gc {X : Cx} {e : Expr} {w : WE} (he : SE X e w) : SE X e (wGc w) :=
  PE.imp he fun σ H Q ⟨ρ, fr, h, P, S, F, w, c⟩ => ⟨ρ, fr, h, _, S, F, w, fun ρ1 h1 H1 d v e1 S1 r1 w1 => gc_ok S e1 S1 r1 w1 c⟩
/-- a comprehension whose list changes no more -/
def wLc (wi : WI) (p : Pat) (tt : WT) (te : WE) (vs : List Nat) : WE := wGc (wLcM wi p tt te vs)
def wLc2 (wi : WI) (p : Pat) (tt : WT) (wi1 : WI) (p1 : Pat) (tt1 : WT) (te : WE) (vs vs1 : List Nat) : WE := wGc (wLc2M wi p tt wi1 p1 tt1 te vs vs1)
end MP

namespace MP
open PySem PySem.Spec PyProof.Rows L2

/-! ### a dict as it lies in the machine -/
section
variable {X : Cx} {pins : List (Addr × Obj)} {σ : L2.St} {H : Hp} {s : Shared}
structure RawD (h : Heap) (d : Addr) (o : Obj) (es : Array DictEntry) (ep : Nat) (kv xs : List V) : Prop where
  sys : (d == sysModules) = false
  get : h.get? d = some o
  exact_ : o.ExactDict
  data : o.data = .dict es ep
  size : es.size = kv.length
  size2 : es.size = xs.length
  key : ∀ (i : Nat) (x : V), kv[i]? = some x → ∃ en : DictEntry, es[i]? = some en ∧ L2.RelV x en.key
  val : ∀ (i : Nat) (x : V), xs[i]? = some x → ∃ en : DictEntry, es[i]? = some en ∧ L2.RelV x en.val
theorem raw_of {d : Addr} {u : HO} {ks : List D} {kv xs : List V} (I : Inv X pins σ H s) (hd : Rd H d u) (du : dctU X.w d u ks kv xs) : ∃ o es ep, RawD s.heap d o es ep kv xs := by
  have ok := hd.ok I.hok
  rcases du with ⟨ps, rfl, e1, rfl, rfl, nd⟩ | ⟨o, es, ep, nks, rfl, sy, ex, dt, e1, e2, rfl, pv, nd, _⟩
  · obtain ⟨z, hs, vs, kv, o, es, ep, ho, hx, hdt, hk, hp, hn⟩ := ok
    have l1 := hp.length
    have l2 : ps.length = vs.length := Paired.length kv
    rw [Array.length_toList] at l1
    refine ⟨o, es, ep, hs, ho, hx, hdt, by rw [List.length_map]; omega, by rw [List.length_map]; omega, fun i x e => ?_, fun i x e => ?_⟩
    · rw [List.getElem?_map, Option.map_eq_some_iff] at e
      obtain ⟨⟨k, v⟩, e, rfl⟩ := e
      obtain ⟨u, hu, ru⟩ := kv_get kv e
      have hlt : i < es.size := by have := (List.getElem?_eq_some_iff.mp hu).1; omega
      obtain ⟨k1, k2⟩ := hp.get? (i := i) (e := es[i]) (k := k) (v := u) (by rw [Array.getElem?_toList]; exact Array.getElem?_eq_getElem hlt) hu
      exact ⟨es[i], Array.getElem?_eq_getElem hlt, relV_key (show keyIs k es[i].key = true from k1)⟩
    · rw [List.getElem?_map, Option.map_eq_some_iff] at e
      obtain ⟨⟨k, v⟩, e, rfl⟩ := e
      obtain ⟨u, hu, ru⟩ := kv_get kv e
      have hlt : i < es.size := by have := (List.getElem?_eq_some_iff.mp hu).1; omega
      obtain ⟨k1, k2⟩ := hp.get? (i := i) (e := es[i]) (k := k) (v := u) (by rw [Array.getElem?_toList]; exact Array.getElem?_eq_getElem hlt) hu
      exact ⟨es[i], Array.getElem?_eq_getElem hlt, by rw [k2]; exact ru⟩
  · obtain ⟨z, _⟩ := ok
    have l1 : es.size = nks.length := by rw [← Array.length_toList, e1, List.length_map]
    have l2 : xs.length = nks.length := by have := Paired.length pv; rwa [List.length_map] at this
    have ent : ∀ i : Nat, es[i]? = (nks[i]?).map fun x => (⟨x.1.hash X.w, .ref x.2.1, x.2.2⟩ : DictEntry) := fun i => by rw [← Array.getElem?_toList, e1, List.getElem?_map]
    refine ⟨o, es, ep, sy, z, ex, dt, by rw [List.length_map]; exact l1, by omega, fun i x e => ?_, fun i x e => ?_⟩
    · rw [List.getElem?_map, Option.map_eq_some_iff] at e
      obtain ⟨y, e, rfl⟩ := e
      exact ⟨⟨y.1.hash X.w, .ref y.2.1, y.2.2⟩, by rw [ent, e]; rfl, rfl⟩
    · obtain ⟨b, hb, rb⟩ := paired_get pv e
      rw [List.getElem?_map, Option.map_eq_some_iff] at hb
      obtain ⟨y, hb, rfl⟩ := hb
      exact ⟨⟨y.1.hash X.w, .ref y.2.1, y.2.2⟩, by rw [ent, hb]; rfl, rb⟩
end
/-- the keys of a locked dict -/
def Itw (d : Addr) (o : Obj) (u : HO) (kv : List V) : It :=
  ⟨fun i H => H d = some (.frz o u) ∧ i < kv.length, fun i H x H' => H' = H ∧ kv[i]? = some x, fun i H => H d = some (.frz o u) ∧ kv.length ≤ i⟩
section
variable {P : Program} {w : World} {K : PySem.W.Frag} {tg : Expr} {d : Addr} {o : Obj} {u : HO} {ks : List D} {kv xs : List V} {es : Array DictEntry} {ep : Nat}
theorem turn_keysW (du : dctU w d u ks kv xs) (it : Addr) (hod : o.data = .dict es ep) : Turn P w K tg (Itw d o u kv) [it] it (fun i h => h.IsKeyIter it d i kv.length ep) where
  mem := by simp
  obj := fun i h st b hb => by
    have e : b = it := by simpa using hb
    subst e
    obtain ⟨oi, e, c, dd⟩ := st
    exact ⟨oi, e, fun v z => by rw [dd] at z; cases z⟩
  keep := fun i h h' st k => st.at fun oi e => k it (by simp) oi e
  item := by
    intro X hP hw hK hc i pins s σ H E I hf st hg
    subst hP hw hK
    obtain ⟨hd, hi⟩ := hg
    obtain ⟨f0, f1, f2, f3, f4, f5⟩ := hf it (by simp)
    obtain ⟨o', es', ep', R⟩ := raw_of I (.inr ⟨o, hd⟩) du
    have hgd : s.heap.get? d = some o := (I.hok d _ hd).1
    have eo : o' = o := by have := R.get; rw [hgd] at this; exact (Option.some.inj this).symm
    subst eo
    obtain ⟨rfl, rfl⟩ := dict_ep hod R.data
    obtain ⟨x, hx⟩ : ∃ x, kv[i]? = some x := ⟨kv[i], List.getElem?_eq_getElem hi⟩
    obtain ⟨en, hen, hkey⟩ := R.key i x hx
    refine next_key_item st hgd R.data R.size hen fun h' st' sb => ?_
    have I1 : Inv X pins σ H { s with heap := h' } := I.turned (t' := s.toks) (fun b ob hb e => (sb.2 b hb).trans e) f0 f1 f3 f4 f5
    obtain ⟨oi, e, c, dd⟩ := id st'
    exact ⟨en.key, rfl, go_of (s := { s with heap := h' }) e c dd (by decide) ⟨x, H, I1, hkey, ⟨rfl, hx⟩, st', fun b hb => (hf b hb).1⟩⟩
  done := by
    intro X hP hw hK hc i pins s σ H E I hf st hg
    subst hP hw hK
    obtain ⟨hd, hi⟩ := hg
    obtain ⟨f0, f1, f2, f3, f4, f5⟩ := hf it (by simp)
    obtain ⟨o', es', ep', R⟩ := raw_of I (.inr ⟨o, hd⟩) du
    have hgd : s.heap.get? d = some o := (I.hok d _ hd).1
    have eo : o' = o := by have := R.get; rw [hgd] at this; exact (Option.some.inj this).symm
    subst eo
    obtain ⟨rfl, rfl⟩ := dict_ep hod R.data
    exact next_key_end (I.ok.hd hc) st hgd R.data R.size hi fun h' eb => ⟨rfl, I.turned (t' := s.toks) (fun b ob hb e => eb b ob hb e) f0 f1 f3 f4 f5⟩
  self := fun A i s Q E st h => by
    refine wpAny_pyIter_slot st.typeIs F.slot_dict_keyiterator_iter (wpAny_call_entry F.slot_dict_keyiterator_iter st.typeIs F.entry_dict_keyiterator_iter ?_ (F.args_dict_keyiterator_iter_1 _))
    show wpAny _ _ (ret (.ref it)) _ _ s
    exact wpAny_pure ⟨_, rfl, "dict_keyiterator", _, st.typeIs, F.slot_dict_keyiterator_next.lookup, h⟩
end
theorem itok_keys {K : KW} {ρ : Nat → Addr} {n H d o u} {ks : List D} {kv xs : List V} (hd : H d = some (.frz o u)) (du : dctU K.2 d u ks kv xs) (r : RpL K H ρ n ks kv) : ItOk K ρ n H (Itw d o u kv) (.fix ks) := by
  intro ρ' h' H' i e S
  have r' := RpL.ext e ks kv r
  have hd' := e.fr _ _ _ hd
  refine ⟨fun z => ⟨hd', ?_⟩, fun k z => ?_⟩
  · have : ks[i]? = none := Option.some.inj z
    rw [← r'.length]; exact List.getElem?_eq_none_iff.mp this
  · have hk : ks[i]? = some k := Option.some.inj z
    obtain ⟨x, hx, rx⟩ := r'.get hk
    refine ⟨⟨hd', by rw [← r'.length]; exact (List.getElem?_eq_some_iff.mp hk).1⟩, fun y H'' ⟨e1, e2⟩ => ?_⟩
    subst e1
    rw [hx] at e2
    cases e2
    exact ⟨.refl, S, rx⟩
end MP

namespace MP
open PySem PySem.Spec PyProof.Rows L2

section
variable {X : Cx} {pos : Pos}
/-! ### and, or, not as values -/
def wAnd (a b : WE) : WE := fun fr h P => a fr h fun x h1 => match tru h1 x with
  | some true => b fr h1 P
  | some false => P x h1
  | none => False
def wOr (a b : WE) : WE := fun fr h P => a fr h fun x h1 => match tru h1 x with
  | some true => P x h1
  | some false => b fr h1 P
  | none => False
def wNot (a : WE) : WE := fun fr h P => a fr h fun x h1 => match tru h1 x with
  | some k => P (.bl (!k)) h1
  | none => False
theorem se_one {op} {a : Expr} {w : WE} (h : SE X a w) : SE X (.BoolOp op [a] pos) w := pe_one h
theorem se_and {a b : Expr} {rest : List Expr} {wa wb : WE} (ha : SE X a wa) (hb : SE X (.BoolOp .And (b :: rest) pos) wb) : SE X (.BoolOp .And (a :: b :: rest) pos) (wAnd wa wb) := by
  refine PE.imp (pe_andT ha hb) fun σ H Q ⟨ρ, fr, h, P, S, F, w, c⟩ => ⟨ρ, fr, h, _, S, F, w, fun ρ1 h1 H1 d v e1 S1 r1 w1 => ?_⟩
  split at w1
  · rename_i q
    refine ⟨true, tru_ok' S1 r1 q, ?_⟩
    rw [if_pos rfl]
    exact ⟨ρ1, fr, h1, P, S1, F.ext e1, w1, c.step e1⟩
  · rename_i q
    refine ⟨false, tru_ok' S1 r1 q, ?_⟩
    rw [if_neg Bool.false_ne_true]
    exact c ρ1 h1 H1 d v e1 S1 r1 w1
  · exact w1.elim
theorem se_or {a b : Expr} {rest : List Expr} {wa wb : WE} (ha : SE X a wa) (hb : SE X (.BoolOp .Or (b :: rest) pos) wb) : SE X (.BoolOp .Or (a :: b :: rest) pos) (wOr wa wb) := by
  refine PE.imp (pe_orT ha hb) fun σ H Q ⟨ρ, fr, h, P, S, F, w, c⟩ => ⟨ρ, fr, h, _, S, F, w, fun ρ1 h1 H1 d v e1 S1 r1 w1 => ?_⟩
  split at w1
  · rename_i q
    refine ⟨true, tru_ok' S1 r1 q, ?_⟩
    rw [if_pos rfl]
    exact c ρ1 h1 H1 d v e1 S1 r1 w1
  · rename_i q
    refine ⟨false, tru_ok' S1 r1 q, ?_⟩
    rw [if_neg Bool.false_ne_true]
    exact ⟨ρ1, fr, h1, P, S1, F.ext e1, w1, c.step e1⟩
  · exact w1.elim
theorem se_not {a : Expr} {wa : WE} (ha : SE X a wa) : SE X (.UnaryOp .Not a pos) (wNot wa) := by
  refine PE.imp (pe_notT ha) fun σ H Q ⟨ρ, fr, h, P, S, F, w, c⟩ => ⟨ρ, fr, h, _, S, F, w, fun ρ1 h1 H1 d v e1 S1 r1 w1 => ?_⟩
  split at w1
  · rename_i k q
    exact ⟨k, tru_ok' S1 r1 q, c ρ1 h1 H1 _ _ e1 S1 of_bl w1⟩
  · exact w1.elim

/-! ### a star in a display -/
theorem star_text {pins : List (Addr × Obj)} {σ : L2.St} {H : Hp} {s : Shared} {x : Str} {t : Tok} {E : Value → Shared → Prop} {Q : List Value → Shared → Prop} (hc : X.calm = true) (I : Inv X pins σ H s) (hz : x.cps.size ≤ sizeLine) (hQ : ∀ us s', Inv X pins σ H s' → Vals (x.cps.toList.map fun c => V.str ⟨#[c]⟩) us → Q us s') : PySem.W.StarOf (model X.prog X.w) X.A E (.str x t) Q s := by
  have z : wpAny (model X.prog X.w) X.A (collect (.str x t)) Q E s := by
    refine wpAny_collect_str (I.ok.hd hc) x t (fun s' acc hk hg hd ho hacc => ?_) hz
    have e : s' = { s with heap := s'.heap, toks := s'.toks } := by
      cases s'; cases s; cases hg; cases hd; cases ho; rfl
    rw [e]
    refine hQ _ _ (I.kept (t' := s'.toks) hk) ?_
    refine vals_of_at (by rw [List.length_map, Array.length_toList, Array.length_toList, hacc.1]) fun i a b ha hb => ?_
    obtain ⟨c, u, hc1, rfl⟩ := hacc.2 i b (by simpa using hb)
    rw [List.getElem?_map] at ha
    have : x.cps.toList[i]? = some c := by simpa using hc1
    rw [this] at ha
    cases ha
    exact ⟨u, rfl⟩
  unfold PySem.W.StarOf notIterableAtAll
  exact wpAny_bind (wpAny_specialOf (T := "str") (v := .str x t) rfl PySem.F.slot_str_iter.lookup (wpAny_pure ⟨rfl, z⟩))
/-- *e: a tuple, a list or a text -/
def tStarU (K : PySem.W.Frag) (te : TE) (t : TA) : TA := fun σ H Q => te σ H fun x H1 => (∃ p xs, x = V.ref p ∧ (SqT K H1 p xs ∨ SqL K H1 p xs) ∧ t σ H1 fun ys H2 => Q (xs ++ ys) H2) ∨
  ∃ c : Str, x = V.str c ∧ c.cps.size ≤ sizeLine ∧ t σ H1 fun ys H2 => Q ((c.cps.toList.map fun c => V.str ⟨#[c]⟩) ++ ys) H2
theorem pa_starU {e : Expr} {es : List Expr} {te : TE} {t : TA} {p : Pos} (hc : X.calm = true) (he : PE X e te) (hr : PA X es t) (hs : starEach (.Starred e p :: es) X.env = (true, eval e X.env) :: starEach es X.env) : PA X (.Starred e p :: es) (tStarU X.K te t) := by
  refine ⟨fun pos pins s σ H Q I h => ?_⟩
  refine PySem.W.items_star (thn (he.run pins s σ H _ I h) fun v s1 ⟨y, H1, I1, ry, q⟩ => ?_) hs
  rcases q with ⟨a, xs, ey, hx, q⟩ | ⟨c, ey, hz, q⟩
  · subst ey
    obtain rfl : v = Value.ref a := ry
    refine StX.star_any I1 hx fun us s2 I2 rv => ?_
    exact thn (hr.run pos pins s2 σ H1 _ I2 q) fun ws s3 ⟨vs, H3, I3, r3, q3⟩ => ⟨xs ++ vs, H3, I3, rv.append r3, q3⟩
  · subst ey
    obtain ⟨tk, rfl⟩ := ry
    refine star_text hc I1 hz fun us s2 I2 rv => ?_
    exact thn (hr.run pos pins s2 σ H1 _ I2 q) fun ws s3 ⟨vs, H3, I3, r3, q3⟩ => ⟨_ ++ vs, H3, I3, rv.append r3, q3⟩
def waStar (w : WE) (r : WA) : WA := fun fr h P => w fr h fun d h1 => match liOf h1 d with
  | some es => r fr h1 fun ds h2 => P (es ++ ds) h2
  | none => False
theorem sa_star {e : Expr} {es : List Expr} {p : Pos} {w : WE} {r : WA} (hc : X.calm = true) (he : SE X e w) (hr : SA X es r) (hs : starEach (.Starred e p :: es) X.env = (true, eval e X.env) :: starEach es X.env) : SA X (.Starred e p :: es) (waStar w r) := by
  refine PA.imp (pa_starU hc he hr hs) fun σ H Q ⟨ρ, fr, h, P, S, F, w, c⟩ => ⟨ρ, fr, h, _, S, F, w, fun ρ1 h1 H1 d v e1 S1 r1 w1 => ?_⟩
  split at w1
  · rename_i ds q
    unfold liOf at q
    split at q
    · rename_i t
      cases q
      obtain ⟨rfl, ok⟩ := rp_str r1
      refine .inr ⟨mkS t, rfl, Nat.le_trans (Nat.le_of_eq (str_len t)) ok.1, ρ1, fr, h1, _, S1, F.ext e1, w1, fun ρ2 h2 H2 es ys e2 S2 r2 w2 => ?_⟩
      rw [str_list]
      exact c ρ2 h2 H2 _ _ (e1.trans e2) S2 (RpL.app (chars_rp ok.2) r2) w2
    · obtain ⟨a, xs, rfl, sq, l⟩ := seq_ok S1 r1 q
      exact .inl ⟨a, xs, rfl, sq.symm, ρ1, fr, h1, _, S1, F.ext e1, w1, fun ρ2 h2 H2 es ys e2 S2 r2 w2 => c ρ2 h2 H2 _ _ (e1.trans e2) S2 (RpL.app (RpL.ext e2 _ _ l) r2) w2⟩
  · exact w1.elim

/-! ### over a tuple, a text, a list, a dict, as it comes -/
def wiAny (w : WE) : WI := fun fr h P => w fr h fun d h1 => match d with
  | .dct ks _ => P (.fix ks) h1
  | .tup ds => P (.fix ds) h1
  | .lst ds => P (.fix ds) h1
  | .str s => P (.fix (s.map fun c => .str [c])) h1
  | .ref n => (match h1[n]? with
    | some (.lst _) => P (.lst n) h1
    | some (.dct ks vs) => P (.fix ks) (h1.set n (.lck ks vs))
    | some (.lck ks _) => P (.fix ks) h1
    | _ => False)
  | _ => False
theorem rd_lock {pins : List (Addr × Obj)} {σ : L2.St} {H : Hp} {s : Shared} {d : Addr} {u : HO} {w : World} {ks : List D} {kv xs : List V} (I : Inv X pins σ H s) (rd : Rd H d u) (du : dctU w d u ks kv xs) : (∃ od, H d = some (.frz od u)) ∨ (H d = some u ∧ ∃ od, Inv X pins σ (upd H d (.frz od u)) s) := by
  rcases rd with q | ⟨od, q⟩
  · exact .inr ⟨q, I.lock q du.mut⟩
  · exact .inl ⟨od, q⟩
theorem pi_keysW {tg : Expr} {pins : List (Addr × Obj)} {σ : L2.St} {H : Hp} {s : Shared} {d : Addr} {o : Obj} {u : HO} {ks : List D} {kv xs : List V} {R : It → Hp → Prop} (I : Inv X pins σ H s) (hd : H d = some (.frz o u)) (du : dctU X.w d u ks kv xs) (q : R (Itw d o u kv) H) :
    wpAny (model X.prog X.w) X.A (pyIter (.ref d)) (PIE X pins σ tg R) X.xe s := by
  obtain ⟨o', es, ep, W⟩ := raw_of I (.inr ⟨o, hd⟩) du
  have hgd : s.heap.get? d = some o := (I.hok d _ hd).1
  have eo : o' = o := by have := W.get; rw [hgd] at this; exact (Option.some.inj this).symm
  subst eo
  refine iter_keys W.sys hgd W.exact_ W.data (pi_one (tk := s.toks) I _ (turn_keysW du _ W.data) ⟨_, Heap.get?_push_size _ rfl, rfl, ?_⟩ q)
  rw [W.size] <;> rfl
theorem si_any {tg e : Expr} {w : WE} (he : SE X e w) : SI X tg e (wiAny w) := by
  refine ⟨fun pins s σ H R I ⟨ρ, fr, h, P, S, F, w, c⟩ => ?_⟩
  refine thn (he.run pins s σ H (fun v H1 => ∃ ρ1 h1 d, Ext X.kw ρ h.length H ρ1 h1.length H1 ∧ Sim X.kw ρ1 h1 H1 ∧ Rp X.kw H1 ρ1 h1.length d v ∧ (match d with
      | .dct ks _ => P (.fix ks) h1
      | .tup ds => P (.fix ds) h1
      | .lst ds => P (.fix ds) h1
      | .str s => P (.fix (s.map fun c => .str [c])) h1
      | .ref n => (match h1[n]? with
        | some (.lst _) => P (.lst n) h1
        | some (.dct ks vs) => P (.fix ks) (h1.set n (.lck ks vs))
        | some (.lck ks _) => P (.fix ks) h1
        | _ => False)
      | _ => False)) I
    ⟨ρ, fr, h, _, S, F, w, fun ρ1 h1 H1 d v e1 S1 r1 w1 => ⟨ρ1, h1, d, e1, S1, r1, w1⟩⟩) fun v s1 ⟨x, H1, I1, r1, ρ1, h1, d, e1, S1, rx, w1⟩ => ?_
  split at w1
  · rename_i ks vs
    obtain ⟨a, u, kv, xs, rfl, off, rd, du, l1, l2⟩ := rp_dct rx
    cases r1
    rcases rd_lock I1 rd du with ⟨od, q⟩ | ⟨q, od, I2⟩
    · exact pi_keysW I1 q du (c ρ1 h1 H1 _ _ e1 S1 (itok_keys q du l1) w1)
    · have e2 : Ext X.kw ρ1 h1.length H1 ρ1 h1.length (upd H1 a (.frz od u)) := Ext.lockU q du.notup du.nofrz
      have S2 : Sim X.kw ρ1 h1 (upd H1 a (.frz od u)) := ⟨fun i o hi => (S1.ob i o hi).ext e2 fun w z => by rw [upd_ne (off i (get_lt hi))]; exact z, S1.inj⟩
      exact pi_keysW I2 upd_same du (c ρ1 h1 _ _ _ (e1.trans e2) S2 (itok_keys upd_same du (RpL.ext e2 _ _ l1)) w1)
  · obtain ⟨a, xs, rfl, sq, l⟩ := rp_tupT rx
    cases r1
    obtain ⟨its, rv, p, hz⟩ := I1.tuple sq.sq
    refine wpAny_pyIter_tuple (show s1.heap.IsTuple a its.toArray from p) ?_
    exact pi_one (tk := s1.toks) I1 _ (turn_tuple a _) ⟨_, Heap.get?_push_size _ rfl, rfl, rfl⟩ (c ρ1 h1 H1 _ _ e1 S1 (itok_tup sq l) w1)
  · obtain ⟨a, xs, rfl, sq, l⟩ := rp_lstT rx
    cases r1
    obtain ⟨its, rv, p, hz⟩ := I1.list (.inl sq.2)
    refine wpAny_pyIter_list p.isList ?_
    exact pi_one (tk := s1.toks) I1 _ (turn_list _ _) ⟨_, Heap.get?_push_size _ rfl, rfl, rfl⟩ (c ρ1 h1 H1 _ _ e1 S1 (itok_fix sq l) w1)
  · rename_i t
    obtain ⟨rfl, o⟩ := rp_str rx
    obtain ⟨k, rfl⟩ := r1
    have qq := c ρ1 h1 H1 _ _ e1 S1 (itok_str o) w1
    cases ha : (mkS t).cps.all (· < 128)
    · exact wpAny_pyIter_wide ha (pi_one (tk := s1.toks) I1 _ (turn_str _ (mkS t) k "str_iterator" (.inr rfl)) ⟨_, Heap.get?_push_size _ rfl, rfl, rfl⟩ qq)
    · exact wpAny_pyIter_ascii ha (pi_one (tk := s1.toks) I1 _ (turn_str _ (mkS t) k "str_ascii_iterator" (.inl rfl)) ⟨_, Heap.get?_push_size _ rfl, rfl, rfl⟩ qq)
  · rename_i n
    obtain ⟨hn, rfl⟩ := rp_ref rx
    cases r1
    split at w1
    · rename_i ds hd
      obtain ⟨xs, hx, _⟩ := S1.ob n _ hd
      obtain ⟨its, rv, p, hz⟩ := I1.list (.inl (.inl hx))
      refine wpAny_pyIter_list p.isList ?_
      exact pi_one (tk := s1.toks) I1 _ (turn_list _ _) ⟨_, Heap.get?_push_size _ rfl, rfl, rfl⟩ (c ρ1 h1 H1 _ _ e1 S1 (itok_lst hn) w1)
    · rename_i ks vs hd
      obtain ⟨u, kv, xs, q, du, l1, l2⟩ := S1.ob n _ hd
      obtain ⟨od, I2⟩ := I1.lock q du.mut
      obtain ⟨S2, e2⟩ := S1.setOb (o1 := .lck ks vs) (z := .frz od u) hn (fun o z e => by rw [q] at e; exact du.nofrz o z (Option.some.inj e)) fun e2 => ⟨u, kv, xs, .inr ⟨od, upd_same⟩, du, RpL.ext e2 _ _ l1, RpL.ext e2 _ _ l2⟩
      exact pi_keysW I2 upd_same du (c ρ1 _ _ _ _ (e1.trans e2) S2 (itok_keys upd_same du (RpL.ext e2 _ _ l1)) w1)
    · rename_i ks vs hd
      obtain ⟨u, kv, xs, rd, du, l1, l2⟩ := S1.ob n _ hd
      rcases rd_lock I1 rd du with ⟨od, q⟩ | ⟨q, od, I2⟩
      · exact pi_keysW I1 q du (c ρ1 h1 H1 _ _ e1 S1 (itok_keys q du l1) w1)
      · obtain ⟨S2, e2⟩ := S1.setOb (o1 := .lck ks vs) (z := .frz od u) hn (fun o z e => by rw [q] at e; exact du.nofrz o z (Option.some.inj e)) fun e2 => ⟨u, kv, xs, .inr ⟨od, upd_same⟩, du, RpL.ext e2 _ _ l1, RpL.ext e2 _ _ l2⟩
        have eh : h1.set n (.lck ks vs) = h1 := by
          apply List.ext_getElem?
          intro j
          by_cases hj : n = j
          · subst hj; rw [List.getElem?_set_self hn, hd]
          · rw [List.getElem?_set_ne hj]
        rw [eh] at S2 e2
        exact pi_keysW I2 upd_same du (c ρ1 h1 _ _ _ (e1.trans e2) S2 (itok_keys upd_same du (RpL.ext e2 _ _ l1)) w1)
    · exact w1.elim
  · exact w1.elim
end

/-! ### defs -/
def liftF (K : KW) (g : WL) : Sp := fun vs H Q _ => liftL K g vs H Q
/-- a def of the text that keeps the contract g, at most k calls deep -/
structure FE (P : Program) (w : World) (K : PySem.W.Frag) (mg : Str → Option Value) (base : Heap) (k : Nat) (x : Str) (g : WL) : Prop where
  ex : ∃ f fd ps, mg x = some (.ref f) ∧ PySem.W.keepIn K (.ref f) = true ∧ Binds K fd ps [] ∧ FnOk P w K mg base CX0 k f fd ps (liftF (K, w) g)
theorem FE.mono {P w K mg base j k x g} (F : FE P w K mg base j x g) (h : j ≤ k) : FE P w K mg base k x g := by
  obtain ⟨f, fd, ps, a, b, c, d⟩ := F.ex
  exact ⟨f, fd, ps, a, b, c, d.mono h⟩
theorem se_call {X : Cx} {k : Nat} {x : Str} {g : WL} {e : Expr} {es : List Expr} {p pos : Pos} {a : WA} (F : FE X.prog X.w X.K X.mg X.base k x g) (hr : Room k X.A) (hg : Gl X x) (ha : SA X (e :: es) a)
    (hdb : (x == ("__debug__" : Str)) = false) (he : starEach (e :: es) X.env = (false, eval e X.env) :: starEach es X.env) (hpl : (backTo pos (starEach es X.env)).any (·.1) = false) : SE X (.Call (.Name x p) (e :: es) [] pos) (wCB g a) := by
  obtain ⟨f, fd, ps, hm, hk, hb, hF⟩ := F.ex
  refine PE.imp (pe_call hF hr hg hm hk hb .nil pass0 ha hdb he hpl) fun σ H Q ⟨ρ, fr, h, P, S, F, w, c⟩ => ⟨ρ, fr, h, _, S, F, w, fun ρ1 h1 H1 ds xs e1 S1 r1 w1 => ?_⟩
  show liftL X.kw g (xs ++ []) H1 Q
  rw [List.append_nil]
  exact ⟨ρ1, h1, ds, P, S1, r1, w1, c.step e1⟩
/-! ### a def's body -/
def startF (n : Nat) (ds : List D) : Fr := ds.map some ++ List.replicate (n - ds.length) none
def wF (w : WS) (n np : Nat) : WL := fun ds h P => ds.length = np ∧ w { nx := fun _ h' => gcK h P .non h', rt := gcK h P } (startF n ds) h
theorem start_fr {K ρ n H} {N : List Str} {ds : List D} {vs : List V} (r : RpL K H ρ n ds vs) : FrR K ρ n H (startF N.length ds) (L2.start N vs) := by
  have hl := r.length
  refine ⟨by simp [startF, L2.start, hl], fun i d h => ?_⟩
  unfold startF at h
  rw [List.getElem?_append] at h
  split at h
  · rename_i hi
    have hi' : i < ds.length := by simpa using hi
    rw [List.getElem?_map, Option.map_eq_some_iff] at h
    obtain ⟨d', h1, h2⟩ := h
    cases h2
    obtain ⟨v, hv, rv⟩ := r.get h1
    refine ⟨v, ?_, rv⟩
    unfold L2.start
    rw [List.getElem?_append_left (by simp; omega), List.getElem?_map, hv]; rfl
  · rw [List.getElem?_replicate] at h
    split at h <;> cases h
end MP

namespace MP
open PySem PySem.Spec PyProof.Rows L2
/-! ### what a dict tells, by its keys -/
/-- the place of a key -/
def dix (ks : List D) (k : D) : Option Nat := ks.findIdx? fun x => deq x k
/-- the value at a key -/
def dget (ks vs : List D) (k : D) : Option D := (dix ks k).bind fun i => vs[i]?
def dput (ks vs : List D) (k v : D) : List D × List D := match dix ks k with
  | some i => (ks, vs.set i v)
  | none => (ks ++ [k], vs ++ [v])
section
variable {κ β : Type} [DecidableEq κ]
theorem dix_gen {f : D → Option κ} (hf : ∀ d e a b, f d = some a → f e = some b → deq d e = decide (a = b)) {k : D} {q : κ} (fk : f k = some q) :
    ∀ {ks : List D} {ps : List (κ × β)}, ks.map f = ps.map (fun p => some p.1) → dix ks k = ps.findIdx? fun p => decide (p.1 = q)
  | [], ps, e => by
    have : ps = [] := by simpa using e.symm
    subst this; rfl
  | d :: ks, [], e => by simp at e
  | d :: ks, p :: ps, e => by
    simp only [List.map_cons, List.cons.injEq] at e
    have ih := dix_gen hf fk e.2
    unfold dix at ih ⊢
    rw [List.findIdx?_cons, List.findIdx?_cons, hf d k _ _ e.1 fk, ih]
theorem find_ix (p : β → Bool) : ∀ l : List β, l.find? p = (l.findIdx? p).bind fun i => l[i]?
  | [] => rfl
  | x :: l => by
    rw [List.find?_cons, List.findIdx?_cons]
    cases h : p x with
    | true => rfl
    | false =>
      rw [find_ix p l]
      cases l.findIdx? p <;> simp
theorem ix_get {p : β → Bool} {l : List β} {i : Nat} (h : l.findIdx? p = some i) : ∃ x, l[i]? = some x ∧ p x = true := by
  obtain ⟨h1, h2, _⟩ := List.findIdx?_eq_some_iff_getElem.mp h
  exact ⟨_, List.getElem?_eq_getElem h1, h2⟩
theorem map_if_no {g : κ × β → κ × β} {k : κ} : ∀ {l : List (κ × β)}, ¬ k ∈ l.map (·.1) → l.map (fun x => if x.1 = k then g x else x) = l
  | [], _ => rfl
  | x :: l, h => by
    simp only [List.map_cons, List.mem_cons, not_or] at h
    rw [List.map_cons, if_neg (Ne.symm h.1), map_if_no h.2]
theorem map_if_set {g : κ × β → κ × β} {k : κ} : ∀ {l : List (κ × β)} {i : Nat} {p : κ × β}, (l.map (·.1)).Nodup → l.findIdx? (fun p => decide (p.1 = k)) = some i → l[i]? = some p → l.map (fun x => if x.1 = k then g x else x) = l.set i (g p)
  | [], _, _, _, h, _ => by simp at h
  | x :: l, i, p, nd, h, hp => by
    simp only [List.map_cons, List.nodup_cons] at nd
    rw [List.findIdx?_cons] at h
    by_cases hx : x.1 = k
    · rw [decide_eq_true hx, if_pos rfl] at h
      cases h
      cases hp
      rw [List.map_cons, if_pos hx, map_if_no (by rw [← hx]; exact nd.1)]; rfl
    · rw [decide_eq_false hx, if_neg (by simp)] at h
      rw [Option.map_eq_some_iff] at h
      obtain ⟨j, hj, rfl⟩ := h
      rw [List.map_cons, if_neg hx, map_if_set nd.2 hj (by simpa using hp)]; rfl
theorem ix_none {k : κ} {l : List (κ × β)} (h : l.findIdx? (fun p => decide (p.1 = k)) = none) : ¬ k ∈ l.map (·.1) := fun hm => by
  obtain ⟨x, hx, rfl⟩ := List.mem_map.mp hm
  have := List.findIdx?_eq_none_iff.mp h x hx
  simp at this
end
theorem deq_key {a b : D} {p q : Key} (ha : keyOf a = some p) (hb : keyOf b = some q) : deq a b = decide (p = q) := by
  cases a <;> cases ha <;> cases b <;> cases hb
  · rename_i i j
    show (i == j) = _
    by_cases h : i = j <;> simp [h]
  · rfl
  · rfl
  · rename_i x y
    show (x == y) = _
    by_cases h : x = y
    · subst h; simp
    · have : ¬ (mkS x = mkS y) := fun e => h (mkS_inj e)
      simp [h, this]
mutual
theorem deq_nk : ∀ (a b : D) (p q : NestedKey), nkOf a = some p → nkOf b = some q → deq a b = NestedKey.beq p q
  | .non, b, p, q, ha, hb => by
    cases ha
    cases b <;> first
      | (simp [nkOf] at hb; done)
      | (cases hb; rfl)
      | (simp only [nkOf, Option.map_eq_some_iff] at hb; obtain ⟨ks, _, rfl⟩ := hb; rfl)
  | .int i, b, p, q, ha, hb => by
    cases ha
    cases b <;> first
      | (simp [nkOf] at hb; done)
      | (cases hb; rfl)
      | (cases hb; simp [deq, NestedKey.beq]; done)
      | (simp only [nkOf, Option.map_eq_some_iff] at hb; obtain ⟨ks, _, rfl⟩ := hb; rfl)
  | .str s, b, p, q, ha, hb => by
    cases ha
    cases b with
    | str y =>
      cases hb
      show (s == y) = decide _
      by_cases h : s = y
      · subst h; simp
      · have : ¬ (mkS s = mkS y) := fun e => h (mkS_inj e)
        simp [h, this]
    | tup ds => simp only [nkOf, Option.map_eq_some_iff] at hb; obtain ⟨ks, _, rfl⟩ := hb; rfl
    | non => cases hb; rfl
    | int _ => cases hb; rfl
    | _ => simp [nkOf] at hb
  | .tup xs, b, p, q, ha, hb => by
    simp only [nkOf, Option.map_eq_some_iff] at ha
    obtain ⟨ks, h1, rfl⟩ := ha
    cases b with
    | tup ds =>
      simp only [nkOf, Option.map_eq_some_iff] at hb
      obtain ⟨ls, h2, rfl⟩ := hb
      show deqL xs ds = NestedKey.beqAll ks ls
      exact deqL_nk xs ds ks ls h1 h2
    | non => cases hb; rfl
    | int _ => cases hb; rfl
    | str _ => cases hb; rfl
    | _ => simp [nkOf] at hb
  | .bl _, b, p, q, ha, hb => by simp [nkOf] at ha
  | .lst _, b, p, q, ha, hb => by simp [nkOf] at ha
  | .dct _ _, b, p, q, ha, hb => by simp [nkOf] at ha
  | .scr _, b, p, q, ha, hb => by simp [nkOf] at ha
  | .ref _, b, p, q, ha, hb => by simp [nkOf] at ha
  | .con _, b, p, q, ha, hb => by simp [nkOf] at ha
theorem deqL_nk : ∀ (a b : List D) (p q : List NestedKey), nkOfL a = some p → nkOfL b = some q → deqL a b = NestedKey.beqAll p q
  | [], [], p, q, ha, hb => by cases ha; cases hb; rfl
  | [], y :: ys, p, q, ha, hb => by
    cases ha
    simp only [nkOfL, Option.bind_eq_some_iff, Option.map_eq_some_iff] at hb
    obtain ⟨k, _, r, _, rfl⟩ := hb
    rfl
  | x :: xs, [], p, q, ha, hb => by
    cases hb
    simp only [nkOfL, Option.bind_eq_some_iff, Option.map_eq_some_iff] at ha
    obtain ⟨k, _, r, _, rfl⟩ := ha
    rfl
  | x :: xs, y :: ys, p, q, ha, hb => by
    simp only [nkOfL, Option.bind_eq_some_iff, Option.map_eq_some_iff] at ha hb
    obtain ⟨k, h1, r, h2, rfl⟩ := ha
    obtain ⟨k', h1', r', h2', rfl⟩ := hb
    show (deq x y && deqL xs ys) = (NestedKey.beq k k' && NestedKey.beqAll r r')
    rw [deq_nk x y k k' h1 h1', deqL_nk xs ys r r' h2 h2']
end
theorem deq_nk' {a b : D} {p q : NestedKey} (ha : nkOf a = some p) (hb : nkOf b = some q) : deq a b = decide (p = q) := by
  rw [deq_nk a b p q ha hb, NestedKey.decide_eq]
/-- a tuple key -/
def nkB (d : D) : Bool := match d with
  | .tup _ => (match nkOf d with
    | some k => decide (k.depth ≤ 8)
    | none => false)
  | _ => false
def kB (d : D) : Bool := (keyOf d).isSome
/-- the key k may be asked of a dict with the keys ks -/
def KOk (ks : List D) (k : D) : Prop := (kB k = true ∧ ks.all kB = true) ∨ (nkB k = true ∧ ks.all nkB = true)
theorem keyOf_rp {K H ρ n k v q} (r : Rp K H ρ n k v) (e : keyOf k = some q) : v = kV q := by
  cases k <;> cases e
  · exact rp_int r
  · exact (rp_str r).1
theorem nkB_some {d : D} (h : nkB d = true) : ∃ k, nkOf d = some k ∧ k.depth ≤ 8 ∧ ∃ ds, d = .tup ds := by
  cases d <;> first
    | (simp [nkB] at h; done)
    | (simp only [nkB] at h; split at h <;> first | cases h | (rename_i k e; exact ⟨k, e, of_decide_eq_true h, _, rfl⟩))
theorem kB_nkB {d : D} (h : kB d = true) : nkB d = false := by
  cases d <;> first | rfl | (simp [kB, keyOf] at h)
section
variable {X : Cx} {pins : List (Addr × Obj)} {σ : L2.St} {H : Hp} {s : Shared}
mutual
theorem nk_is {ρ n} (I : Inv X pins σ H s) : ∀ (d : D) (v : V) (u : Value) (k : NestedKey), Rp X.kw H ρ n d v → nkOf d = some k → L2.RelV v u → NestedIs s.heap k u
  | .non, v, u, k, r, e, rv => by rw [rp_non r] at rv; cases e; cases rv; exact .none
  | .int i, v, u, k, r, e, rv => by rw [rp_int r] at rv; cases e; obtain ⟨t, rfl⟩ := rv; exact .int _ _
  | .str x, v, u, k, r, e, rv => by rw [(rp_str r).1] at rv; cases e; obtain ⟨t, rfl⟩ := rv; exact .text _ _
  | .tup ds, v, u, k, r, e, rv => by
    simp only [nkOf, Option.map_eq_some_iff] at e
    obtain ⟨ks, e1, rfl⟩ := e
    obtain ⟨a, xs, rfl, q, l⟩ := rp_tup r
    cases rv
    obtain ⟨its, ri, p, hz⟩ := I.tuple q
    obtain ⟨o, ho, hc, m, hd⟩ := p
    exact .tup ho hc hd (by simpa using nk_all I ds xs its ks l e1 ri)
  | .bl _, v, u, k, r, e, rv => by simp [nkOf] at e
  | .lst _, v, u, k, r, e, rv => by simp [nkOf] at e
  | .dct _ _, v, u, k, r, e, rv => by simp [nkOf] at e
  | .scr _, v, u, k, r, e, rv => by simp [nkOf] at e
  | .ref _, v, u, k, r, e, rv => by simp [nkOf] at e
  | .con _, v, u, k, r, e, rv => by simp [nkOf] at e
theorem nk_all {ρ n} (I : Inv X pins σ H s) : ∀ (ds : List D) (vs : List V) (us : List Value) (ks : List NestedKey), RpL X.kw H ρ n ds vs → nkOfL ds = some ks → Vals vs us → NestedAll s.heap ks us
  | [], vs, us, ks, r, e, rv => by
    rw [r.nil_inv] at rv
    cases e; cases rv; exact .nil
  | d :: ds, vs, us, ks, r, e, rv => by
    simp only [nkOfL, Option.bind_eq_some_iff, Option.map_eq_some_iff] at e
    obtain ⟨k, e1, r', e2, rfl⟩ := e
    obtain ⟨x, xs, rfl, r1, r2⟩ := r.cons_inv
    cases rv with
    | cons h t => exact .cons (nk_is I d x _ k r1 e1 h) (nk_all I ds xs _ r' r2 e2 t)
end
/-- the two kinds of dicts, asked for a key -/
theorem d_kinds {ρ n} {d : Addr} {u : HO} {ks vs : List D} {kv xs : List V} {k : D} {y : V} {yu : Value} (I : Inv X pins σ H s) (rd : Rd H d u) (du : dctU X.w d u ks kv xs) (rk : RpL X.kw H ρ n ks kv) (rvs : RpL X.kw H ρ n vs xs) (ok : KOk ks k) (r : Rp X.kw H ρ n k y) (ry : L2.RelV y yu) :
    (∃ ps q, u = .dK ps ∧ keyOf k = some q ∧ y = kV q ∧ ks.map keyOf = ps.map (fun p => some p.1) ∧ kv = ps.map (fun p => kV p.1) ∧ xs = ps.map (·.2) ∧ (ps.map (·.1)).Nodup ∧ dix ks k = ps.findIdx? fun p => decide (p.1 = q)) ∨
    (∃ nks q b, s.heap.DictOfH (nestedKind X.prog X.w) d nks ∧ (d == sysModules) = false ∧ nkOf k = some q ∧ q.depth ≤ 8 ∧ y = .ref b ∧ yu = .ref b ∧ (nestedKind X.prog X.w).is s.heap q b ∧ ks.map nkOf = nks.map (fun p => some p.1) ∧
      kv = nks.map (fun x => .ref x.2.1) ∧ Paired L2.RelV xs (nks.map (·.2.2)) ∧ (nks.map (·.1)).Nodup ∧ nks.length ≤ sizeLine ∧ dix ks k = (nks.findIdx? fun p => decide (p.1 = q))) := by
  rcases ok with ⟨o1, o2⟩ | ⟨o1, o2⟩
  · obtain ⟨q, hq⟩ := Option.isSome_iff_exists.mp o1
    rcases du with ⟨ps, rfl, e1, rfl, rfl, nd⟩ | ⟨o, es, ep, nks, rfl, sy, ex, dt, e1, e2, rfl, pv, nd, dp, hz, ne⟩
    · exact .inl ⟨ps, q, rfl, hq, keyOf_rp r hq, e1, rfl, rfl, nd, dix_gen (fun _ _ _ _ => deq_key) hq e1⟩
    · exfalso
      cases nks with
      | nil => exact ne rfl
      | cons z zs =>
        cases ks with
        | nil => simp at e2
        | cons k0 ks =>
          simp only [List.all_cons, Bool.and_eq_true] at o2
          obtain ⟨x0, r0, z1, rr, _⟩ := rk.cons_inv
          simp only [List.map_cons, List.cons.injEq] at z1
          obtain ⟨q0, hq0⟩ := Option.isSome_iff_exists.mp o2.1
          have := keyOf_rp rr hq0
          rw [← z1.1] at this
          cases q0 <;> cases this
  · obtain ⟨q, hq, hdp, ds, rfl⟩ := nkB_some o1
    obtain ⟨b, xs0, rfl, _, _⟩ := rp_tup r
    cases ry
    have his : (nestedKind X.prog X.w).is s.heap q b := ⟨nk_is I _ _ _ q r hq rfl, hdp⟩
    rcases du with ⟨ps, rfl, e1, rfl, rfl, nd⟩ | ⟨o, es, ep, nks, rfl, sy, ex, dt, e1, e2, rfl, pv, nd, dp, hz, ne⟩
    · cases ps with
      | nil =>
        have : ks = [] := by simpa using e1
        subst this
        obtain ⟨z, hs, vs', kv', o, es, ep, ho, hx, hdt, hk, hp, hn⟩ := rd.ok I.hok
        have l0 : vs' = [] := by
          have := Paired.length kv'
          simpa using this.symm
        subst l0
        have le : es.toList = [] := by
          have := hp.length
          simpa using this
        exact .inr ⟨[], q, b, ⟨o, es, ep, ho, hx, hdt, by simpa using le, fun x hx => by simp at hx, List.nodup_nil⟩, hs, hq, hdp, rfl, rfl, his, rfl, rfl, .nil, List.nodup_nil, Nat.zero_le _, rfl⟩
      | cons z zs =>
        exfalso
        cases ks with
        | nil => simp at e1
        | cons k0 ks =>
          simp only [List.all_cons, Bool.and_eq_true] at o2
          simp only [List.map_cons, List.cons.injEq] at e1
          have h1 : kB k0 = true := by unfold kB; rw [e1.1]; rfl
          rw [kB_nkB h1] at o2
          exact absurd o2.1 (by simp)
    · obtain ⟨z, _⟩ := rd.ok I.hok
      refine .inr ⟨nks, q, b, ⟨o, es, ep, z, ex, dt, e1, fun x hx => ?_, nd⟩, sy, hq, hdp, rfl, rfl, his, e2, rfl, pv, nd, hz, dix_gen (fun _ _ _ _ => deq_nk') hq e2⟩
      have e3 : ∀ (ks : List D) (nks : List (NestedKey × Addr × Value)), ks.map nkOf = nks.map (fun p => some p.1) → RpL X.kw H ρ n ks (nks.map fun x => .ref x.2.1) → ∀ x ∈ nks, NestedIs s.heap x.1 (.ref x.2.1) := by
        intro ks
        induction ks with
        | nil => intro nks e _ x hx; have : nks = [] := by simpa using e.symm
                 subst this; simp at hx
        | cons k ks ih =>
          intro nks e rr x hx
          cases nks with
          | nil => simp at e
          | cons y ys =>
            simp only [List.map_cons, List.cons.injEq] at e
            obtain ⟨x0, r0, z1, r1, r2⟩ := rr.cons_inv
            simp only [List.map_cons, List.cons.injEq] at z1
            obtain ⟨rfl, rfl⟩ := z1
            rcases List.mem_cons.mp hx with rfl | hx
            · exact nk_is I k _ _ _ r1 e.1 rfl
            · exact ih ys e.2 r2 x hx
      exact ⟨e3 ks nks e2 rk x hx, dp x hx⟩
theorem atKey_ix {nks : List (NestedKey × Addr × Value)} {q : NestedKey} : atKey nks q = ((nks.findIdx? fun p => decide (p.1 = q)).bind fun i => nks[i]?).map (·.2) := by
  unfold atKey
  rw [find_ix]
theorem valV_ix {ps : List (Key × V)} {q : Key} : valV ps q = ((ps.findIdx? fun p => decide (p.1 = q)).bind fun i => ps[i]?).map (·.2) := by
  unfold valV
  rw [find_ix]
end
end MP

namespace MP
open PySem PySem.Spec PyProof.Rows L2
/-! ### a dict's pairs changed -/
section
variable {K : KW} {H : Hp} {ρ : Nat → Addr} {n : Nat}
structure LeafR (K : KW) (H : Hp) (ρ : Nat → Addr) (n : Nat) (ks vs : List D) (ps : List (Key × V)) : Prop where
  key : ks.map keyOf = ps.map (fun p => some p.1)
  rk : RpL K H ρ n ks (ps.map fun p => kV p.1)
  rv : RpL K H ρ n vs (ps.map (·.2))
  nd : (ps.map (·.1)).Nodup
structure NestR (K : KW) (H : Hp) (ρ : Nat → Addr) (n : Nat) (ks vs : List D) (nks : List (NestedKey × Addr × Value)) : Prop where
  key : ks.map nkOf = nks.map (fun p => some p.1)
  rk : RpL K H ρ n ks (nks.map fun x => .ref x.2.1)
  rv : ∃ xs, RpL K H ρ n vs xs ∧ Paired RelV xs (nks.map (·.2.2))
  nd : (nks.map (·.1)).Nodup
  dp : ∀ x ∈ nks, x.1.depth ≤ 8
theorem putK_ix {ps : List (Key × V)} {q : Key} {x : V} (nd : (ps.map (·.1)).Nodup) : putK ps q x = match ps.findIdx? (fun p => decide (p.1 = q)) with
    | some i => ps.set i (q, x)
    | none => ps ++ [(q, x)] := by
  unfold putK
  cases h : ps.findIdx? (fun p => decide (p.1 = q)) with
  | some i =>
    obtain ⟨p, hp, hq⟩ := ix_get h
    have hq' : p.1 = q := of_decide_eq_true hq
    rw [if_pos (List.any_eq_true.mpr ⟨p, List.mem_of_getElem? hp, hq⟩), map_if_set nd h hp, hq']
  | none =>
    have : ¬ (ps.any fun kv => decide (kv.1 = q)) = true := fun hm => by
      obtain ⟨a, ha, hb⟩ := List.any_eq_true.mp hm
      have := List.findIdx?_eq_none_iff.mp h a ha
      rw [hb] at this; cases this
    rw [if_neg this]
theorem storedH_ix {nks : List (NestedKey × Addr × Value)} {q : NestedKey} {b : Addr} {v : Value} (nd : (nks.map (·.1)).Nodup) : storedH nks q b v = match nks.findIdx? (fun p => decide (p.1 = q)) with
    | some i => (match nks[i]? with | some p => nks.set i (p.1, p.2.1, v) | none => nks)
    | none => nks ++ [(q, b, v)] := by
  cases h : nks.findIdx? (fun p => decide (p.1 = q)) with
  | some i =>
    obtain ⟨p, hp, hq⟩ := ix_get h
    have ek : atKey nks q = some p.2 := by rw [atKey_ix, h]; simp [hp]
    rw [storedH_old ek]
    simp only [hp]
    have e : nks.map (putAt q v) = nks.map (fun x => if x.1 = q then (x.1, x.2.1, v) else x) := rfl
    rw [e]
    exact map_if_set (g := fun x => (x.1, x.2.1, v)) nd h hp
  | none =>
    have ek : atKey nks q = none := by rw [atKey_ix, h]; rfl
    rw [storedH_new ek]
theorem map_set_same {α β : Type} {f : α → β} {l : List α} {i : Nat} {x y : α} (h : l[i]? = some x) (e : f y = f x) : (l.set i y).map f = l.map f := by
  rw [List.map_set, e]
  apply List.ext_getElem?
  intro j
  by_cases hj : i = j
  · subst hj
    have hlt := (List.getElem?_eq_some_iff.mp h).1
    rw [List.getElem?_set_self (by simpa using hlt), List.getElem?_map, h]; rfl
  · rw [List.getElem?_set_ne hj]
theorem Paired.set' {α β : Type} {G : α → β → Prop} {a : α} {b : β} (h : G a b) : ∀ {xs : List α} {ys : List β} (i : Nat), Paired G xs ys → Paired G (xs.set i a) (ys.set i b)
  | _, _, _, .nil => .nil
  | _, _, 0, .cons _ t => .cons h t
  | _, _, i + 1, .cons r t => .cons r (Paired.set' h i t)
theorem LeafR.dix {ks vs ps k q} (R : LeafR K H ρ n ks vs ps) (e : keyOf k = some q) : dix ks k = ps.findIdx? fun p => decide (p.1 = q) := dix_gen (fun _ _ _ _ => deq_key) e R.key
theorem NestR.dix {ks vs nks k q} (R : NestR K H ρ n ks vs nks) (e : nkOf k = some q) : dix ks k = nks.findIdx? fun p => decide (p.1 = q) := dix_gen (fun _ _ _ _ => deq_nk') e R.key
theorem nd_app {κ β : Type} [DecidableEq κ] {l : List (κ × β)} {q : κ} {x : β} (nd : (l.map (·.1)).Nodup) (h : ¬ q ∈ l.map (·.1)) : ((l ++ [(q, x)]).map (·.1)).Nodup := by
  rw [List.map_append]
  exact List.nodup_append.mpr ⟨nd, by simp, fun a ha b hb => by
    have : b = q := by simpa using hb
    subst this
    intro e; subst e; exact h ha⟩
theorem LeafR.put {ks vs ps k q d x} (R : LeafR K H ρ n ks vs ps) (e : keyOf k = some q) (rk : Rp K H ρ n k (kV q)) (rd : Rp K H ρ n d x) : LeafR K H ρ n (dput ks vs k d).1 (dput ks vs k d).2 (putK ps q x) := by
  rw [putK_ix R.nd]
  unfold dput
  rw [R.dix e]
  cases h : ps.findIdx? (fun p => decide (p.1 = q)) with
  | some i =>
    obtain ⟨p, hp, hq⟩ := ix_get h
    have hq' : q = p.1 := (of_decide_eq_true hq).symm
    have h1 : (ps.set i (q, x)).map (·.1) = ps.map (·.1) := map_set_same hp hq'
    refine ⟨?_, ?_, ?_, ?_⟩
    · have : (ps.set i (q, x)).map (fun p => some p.1) = ps.map (fun p => some p.1) := map_set_same hp (by show some q = some p.1; rw [hq'])
      rw [this]; exact R.key
    · have : (ps.set i (q, x)).map (fun p => kV p.1) = ps.map (fun p => kV p.1) := map_set_same hp (by show kV q = kV p.1; rw [hq'])
      rw [this]; exact R.rk
    · rw [List.map_set]; exact RpL.set i R.rv rd
    · rw [h1]; exact R.nd
  | none =>
    have hn := ix_none h
    refine ⟨by simp [R.key, e], ?_, ?_, nd_app R.nd hn⟩
    · rw [List.map_append]; exact R.rk.app (RpL.cons rk RpL.nil)
    · rw [List.map_append]; exact R.rv.app (RpL.cons rd RpL.nil)
theorem NestR.put {ks vs nks k q d x b xv} (R : NestR K H ρ n ks vs nks) (e : nkOf k = some q) (hd : q.depth ≤ 8) (rk : Rp K H ρ n k (.ref b)) (rd : Rp K H ρ n d x) (rx : RelV x xv) : NestR K H ρ n (dput ks vs k d).1 (dput ks vs k d).2 (storedH nks q b xv) := by
  obtain ⟨xs, r1, r2⟩ := R.rv
  rw [storedH_ix R.nd]
  unfold dput
  rw [R.dix e]
  cases h : nks.findIdx? (fun p => decide (p.1 = q)) with
  | some i =>
    obtain ⟨p, hp, hq⟩ := ix_get h
    simp only [hp]
    have h1 : (nks.set i (p.1, p.2.1, xv)).map (·.1) = nks.map (·.1) := map_set_same hp rfl
    refine ⟨?_, ?_, ⟨xs.set i x, RpL.set i r1 rd, ?_⟩, ?_, fun z hz => ?_⟩
    · have : (nks.set i (p.1, p.2.1, xv)).map (fun p => some p.1) = nks.map (fun p => some p.1) := map_set_same hp rfl
      rw [this]; exact R.key
    · have : (nks.set i (p.1, p.2.1, xv)).map (fun x => V.ref x.2.1) = nks.map (fun x => V.ref x.2.1) := map_set_same hp rfl
      rw [this]; exact R.rk
    · rw [List.map_set]; exact Paired.set' rx i r2
    · rw [h1]; exact R.nd
    · rcases List.mem_or_eq_of_mem_set hz with hz | rfl
      · exact R.dp z hz
      · exact R.dp p (List.mem_of_getElem? hp)
  | none =>
    have hn := ix_none h
    refine ⟨by simp [R.key, e], ?_, ⟨xs ++ [x], r1.app (RpL.cons rd RpL.nil), ?_⟩, nd_app R.nd hn, fun z hz => ?_⟩
    · rw [List.map_append]; exact R.rk.app (RpL.cons rk RpL.nil)
    · rw [List.map_append]; exact Paired.snoc r2 rx
    · rcases List.mem_append.mp hz with hz | hz
      · exact R.dp z hz
      · rw [List.mem_singleton.mp hz]; exact hd
theorem storedH_ne {nks : List (NestedKey × Addr × Value)} {q b v} : storedH nks q b v ≠ [] := by
  unfold storedH
  split
  · rename_i h
    intro e
    have : nks = [] := List.map_eq_nil_iff.mp e
    subst this
    simp [atKey] at h
  · simp
theorem storedH_len {nks : List (NestedKey × Addr × Value)} {q b v} : (storedH nks q b v).length ≤ nks.length + 1 := by
  unfold storedH
  split
  · rw [List.length_map]; omega
  · simp
/-- what a raw dict gives to the heap -/
theorem dctU_nest {w : World} {P : Program} {d : Addr} {h : Heap} {ks vs nks} {H1 : Hp} {ρ1 n1} (R : NestR K H1 ρ1 n1 ks vs nks) (D : h.DictOfH (nestedKind P w) d nks) (sy : (d == sysModules) = false) (hz : nks.length ≤ sizeLine) (ne : nks ≠ []) :
    ∃ o xs, h.get? d = some o ∧ dctU w d (rawO d o) ks (nks.map fun x => .ref x.2.1) xs ∧ RpL K H1 ρ1 n1 vs xs := by
  obtain ⟨o, es, ep, ho, hx, hd, he, _, nd⟩ := D
  obtain ⟨xs, r1, r2⟩ := R.rv
  exact ⟨o, xs, ho, .inr ⟨o, es, ep, nks, rfl, sy, hx, hd, he, R.key, rfl, r2, R.nd, R.dp, hz, ne⟩, r1⟩
end
/-! ### dicts of the heap and dicts that change no more -/
def dctOf (h : Hq) : D → Option (List D × List D)
  | .dct ks vs => some (ks, vs)
  | .ref n => (match h[n]? with
    | some (.dct ks vs) => some (ks, vs)
    | some (.lck ks vs) => some (ks, vs)
    | _ => none)
  | _ => none
theorem dct_ok {K ρ h H d v ks vs} (S : Sim K ρ h H) (r : Rp K H ρ h.length d v) (e : dctOf h d = some (ks, vs)) : ∃ a u kv xs, v = .ref a ∧ Rd H a u ∧ dctU K.2 a u ks kv xs ∧ RpL K H ρ h.length ks kv ∧ RpL K H ρ h.length vs xs := by
  cases d with
  | dct ks' vs' =>
    cases e
    obtain ⟨a, u, kv, xs, h1, _, h2, h3, h4, h5⟩ := rp_dct r
    exact ⟨a, u, kv, xs, h1, h2, h3, h4, h5⟩
  | ref n =>
    have e' : (match h[n]? with
      | some (.dct ks vs) => some (ks, vs)
      | some (.lck ks vs) => some (ks, vs)
      | _ => none) = some (ks, vs) := e
    split at e'
    · cases e'
      rename_i q
      obtain ⟨u, kv, xs, h1, h2, h3, h4⟩ := S.ob n _ q
      exact ⟨_, u, kv, xs, (rp_ref r).2, .inl h1, h2, h3, h4⟩
    · cases e'
      rename_i q
      obtain ⟨u, kv, xs, h1, h2, h3, h4⟩ := S.ob n _ q
      exact ⟨_, u, kv, xs, (rp_ref r).2, h1, h2, h3, h4⟩
    · cases e'
  | _ => cases e
/-- k in d -/
def gInD (neg : Bool) : W2 := fun k e h P => match dctOf h e with
  | some (ks, vs) => KOk ks k ∧ P (.bl (xor neg (dix ks k).isSome)) h
  | none => False
/-- d[k] -/
def gIxD : W2 := fun e k h P => match dctOf h e with
  | some (ks, vs) => KOk ks k ∧ ∃ d, dget ks vs k = some d ∧ P d h
  | none => False
section
variable {X : Cx}
theorem room8 (hu : X.A.units + 65 < cLine) : (nestedKind X.prog X.w).room X.A.in1 := by
  show X.A.in1.units + 8 < cLine
  simp only [Around.in1_units]; omega
theorem og_inDn (hu : X.A.units + 65 < cLine) {neg : Bool} : OpR X (compareOp (if neg = true then .NotIn else .In)) (lift2 X.kw (gInD neg)) := by
  intro pins s σ H x y v u Q I rx ry ⟨ρ, h, d, e, P, S, r1, r2, w, c⟩
  unfold gInD at w
  split at w
  · rename_i ks vs q
    obtain ⟨a, uo, kv, xs, rfl, rd, du, l1, l2⟩ := dct_ok S r2 q
    cases ry
    rcases d_kinds I rd du l1 l2 w.1 r1 rx with ⟨ps, k, rfl, hk, rfl, e1, rfl, rfl, nd, ix⟩ | ⟨nks, k, b, DH, sy, hk, hdp, rfl, rfl, his, e1, rfl, pv, nd, hz, ix⟩
    · have ei : (valV ps k).isSome = (dix ks d).isSome := by
        rw [valV_ix, ix]
        cases hj : ps.findIdx? (fun p => decide (p.1 = k)) with
        | none => rfl
        | some j => obtain ⟨p, hp, _⟩ := ix_get hj; simp [hp]
      cases neg with
      | false =>
        refine d_in (by omega) I (.inl ⟨ps, k, rd, rfl, rfl⟩) rx fun s' I' => ⟨.bl _, H, I', rfl, ?_⟩
        rw [ei]
        exact c ρ h H _ _ .refl S of_bl (by simpa using w.2)
      | true =>
        refine d_notIn (by omega) I (.inl ⟨ps, k, rd, rfl, rfl⟩) rx fun s' I' => ⟨.bl _, H, I', rfl, ?_⟩
        rw [ei]
        exact c ρ h H _ _ .refl S of_bl (by simpa using w.2)
    · have ei : (atKey nks k).isSome = (dix ks d).isSome := by
        rw [atKey_ix, ix]
        cases hj : nks.findIdx? (fun p => decide (p.1 = k)) with
        | none => rfl
        | some j => obtain ⟨p, hp, _⟩ := ix_get hj; simp [hp]
      cases neg with
      | false =>
        refine wpAny_in_heap (room8 hu) his sy DH ⟨.bl _, H, I.tok _, rfl, ?_⟩
        rw [ei]
        exact c ρ h H _ _ .refl S of_bl (by simpa using w.2)
      | true =>
        refine wpAny_notIn_heap (room8 hu) his sy DH ⟨.bl _, H, I.tok _, rfl, ?_⟩
        rw [ei]
        exact c ρ h H _ _ .refl S of_bl (by simpa using w.2)
  · exact w.elim
theorem call_dget (hu : X.A.units + 65 < cLine) : OpR X getItem (lift2 X.kw gIxD) := by
  intro pins s σ H x y v u Q I rx ry ⟨ρ, h, d, e, P, S, r1, r2, w, c⟩
  unfold gIxD at w
  split at w
  · rename_i ks vs q
    obtain ⟨w1, dv, hd, w2⟩ := w
    obtain ⟨a, uo, kv, xs, rfl, rd, du, l1, l2⟩ := dct_ok S r1 q
    cases rx
    unfold dget at hd
    rw [Option.bind_eq_some_iff] at hd
    obtain ⟨i, hi, hv⟩ := hd
    rcases d_kinds I rd du l1 l2 w1 r2 ry with ⟨ps, k, rfl, hk, rfl, e1, rfl, rfl, nd, ix⟩ | ⟨nks, k, b, DH, sy, hk, hdp, rfl, rfl, his, e1, rfl, pv, nd, hz, ix⟩
    · obtain ⟨xv, hx, rx⟩ := l2.get hv
      rw [List.getElem?_map, Option.map_eq_some_iff] at hx
      obtain ⟨p, hp, rfl⟩ := hx
      rw [ix] at hi
      have g1 : valV ps k = some p.2 := by rw [valV_ix, hi]; simp [hp]
      refine d_getItem (v := p.2) (by omega) I (.inl ⟨ps, k, rd, rfl, g1.symm⟩) ry fun w' s' I' rw' => ⟨p.2, H, I', rw', ?_⟩
      exact c ρ h H _ _ .refl S rx w2
    · obtain ⟨xv, hx, rx⟩ := l2.get hv
      obtain ⟨z, hz1, rz⟩ := paired_get pv hx
      rw [List.getElem?_map, Option.map_eq_some_iff] at hz1
      obtain ⟨p, hp, rfl⟩ := hz1
      rw [ix] at hi
      have g1 : atKey nks k = some p.2 := by rw [atKey_ix, hi]; simp [hp]
      exact wpAny_getItem_heap (room8 hu) his DH g1 ⟨xv, H, I.tok _, rz, c ρ h H _ _ .refl S rx w2⟩
  · exact w.elim
theorem dct_type {pins : List (Addr × Obj)} {σ : L2.St} {H : Hp} {s : Shared} {d : Addr} {u : HO} {ks : List D} {kv xs : List V} (I : Inv X pins σ H s) (hd : Rd H d u) (du : dctU X.w d u ks kv xs) : s.TypeIs (.ref d) "dict" ∧ ∀ b, Value.ref d = .ref b → ∃ ob, s.heap.get? b = some ob ∧ ob.dict = none := by
  obtain ⟨o, es, ep, R⟩ := raw_of I hd du
  exact ⟨⟨o, R.get, R.exact_.1⟩, fun b e => by cases e; exact ⟨o, R.get, R.exact_.2.1⟩⟩
theorem ixgD (hu : X.A.units + 65 < cLine) : IxR X (lift2 X.kw gIxD) := by
  intro value slice pins s σ H x y v u Q I rx ry q hs
  have hT : s.TypeIs v "dict" := by
    obtain ⟨ρ, h, d, e, P, S, r1, r2, w, c⟩ := q
    unfold gIxD at w
    split at w
    · rename_i ks vs q
      obtain ⟨a, uo, kv, xs, rfl, rd, du, l1, l2⟩ := dct_ok S r1 q
      cases rx
      exact (dct_type I rd du).1
    · exact w.elim
  have h2 := call_dget hu pins s σ H x y v u Q I rx ry q
  unfold subscriptTail
  refine wpAny_bind ?_
  rw [getitemInPython_of_ne hT.not_modules]
  refine wpAny_bind (wpAny_specialOf hT PySem.F.slot_dict_getitem.lookup ?_)
  have fin : wpAny (model X.prog X.w) X.A (subscripted slice false v u) (fun r s₃ => wpAny (model X.prog X.w) X.A (letTemporaryGo value v r >>= fun _ => pure r) (EP X pins σ Q) X.xe s₃) X.xe s := by
    rw [hs]
    exact wpAny_operating (wpAny_mono h2 (fun r s₃ h₃ => wpAny_bind (wpAny_letTemporaryGo (wpAny_pure h₃))) fun _ _ x => x)
  first
    | exact wpAny_pure (wpAny_bind fin)
    | exact wpAny_bind (wpAny_pure (wpAny_bind fin))
    | exact wpAny_bind fin
/-- o[k], a dict or else -/
def gIxU : W2 := fun d e h P => match d with
  | .dct _ _ => gIxD d e h P
  | .ref n => (match h[n]? with
    | some (.lst ds) => (match e with
      | .int i => (match atI ds i with
        | some x => P x h
        | none => False)
      | _ => False)
    | some (.dct ks vs) => KOk ks e ∧ ∃ d, dget ks vs e = some d ∧ P d h
    | some (.lck ks vs) => KOk ks e ∧ ∃ d, dget ks vs e = some d ∧ P d h
    | _ => False)
  | d => gIx d e h P
theorem gIxU_or {d e : D} {h : Hq} {P : WK} (w : gIxU d e h P) : gIxD d e h P ∨ gIx d e h P := by
  unfold gIxU at w
  split at w
  · exact .inl w
  · rename_i n
    split at w
    · rename_i ds q
      split at w
      · right
        have e1 : lstAt h n = some ds := by unfold lstAt; rw [q]
        unfold gIx
        simp only [seqOf, e1]
        exact w
      · exact w.elim
    · rename_i ks vs q
      left
      have e1 : dctOf h (.ref n) = some (ks, vs) := by unfold dctOf; simp only [q]
      unfold gIxD
      simp only [e1]
      exact w
    · rename_i ks vs q
      left
      have e1 : dctOf h (.ref n) = some (ks, vs) := by unfold dctOf; simp only [q]
      unfold gIxD
      simp only [e1]
      exact w
    · exact w.elim
  · exact .inr w
theorem ixgU (hu : X.A.units + 65 < cLine) : IxR X (lift2 X.kw gIxU) := by
  intro value slice pins s σ H x y v u Q I rx ry ⟨ρ, h, d, e, P, S, r1, r2, w, c⟩ hs
  rcases gIxU_or w with w | w
  · exact ixgD hu value slice pins s σ H x y v u Q I rx ry ⟨ρ, h, d, e, P, S, r1, r2, w, c⟩ hs
  · exact ixg value slice pins s σ H x y v u Q I rx ry ⟨ρ, h, d, e, P, S, r1, r2, w, c⟩ hs
def isDct (h : Hq) : D → Bool
  | .dct _ _ => true
  | .ref n => (match h[n]? with
    | some (.dct _ _) => true
    | some (.lck _ _) => true
    | _ => false)
  | _ => false
def gInU (neg : Bool) : W2 := fun d e h P => match dctOf h e with
  | some (ks, _) => KOk ks d ∧ P (.bl (xor neg (dix ks d).isSome)) h
  | none => gIn neg d e h P
theorem gInU_or {neg : Bool} {d e : D} {h : Hq} {P : WK} (w : gInU neg d e h P) : gInD neg d e h P ∨ gIn neg d e h P := by
  unfold gInU at w
  unfold gInD
  split at w
  · exact .inl w
  · exact .inr w
theorem dct_ref {h : Hq} {n : Nat} {ks vs : List D} (e : h[n]? = some (.dct ks vs)) : dctOf h (.ref n) = some (ks, vs) := by
  unfold dctOf; simp only [e]
theorem dct_lck {h : Hq} {n : Nat} {ks vs : List D} (e : h[n]? = some (.lck ks vs)) : dctOf h (.ref n) = some (ks, vs) := by
  unfold dctOf; simp only [e]
theorem og_inU (hu : X.A.units + 65 < cLine) : OpR X (compareOp .In) (lift2 X.kw (gInU false)) := by
  intro pins s σ H x y v u Q I rx ry ⟨ρ, h, d, e, P, S, r1, r2, w, c⟩
  rcases gInU_or w with w | w
  · exact og_inDn (neg := false) hu pins s σ H x y v u Q I rx ry ⟨ρ, h, d, e, P, S, r1, r2, w, c⟩
  · exact og_in hu pins s σ H x y v u Q I rx ry ⟨ρ, h, d, e, P, S, r1, r2, w, c⟩
theorem og_notInU (hu : X.A.units + 65 < cLine) : OpR X (compareOp .NotIn) (lift2 X.kw (gInU true)) := by
  intro pins s σ H x y v u Q I rx ry ⟨ρ, h, d, e, P, S, r1, r2, w, c⟩
  rcases gInU_or w with w | w
  · exact og_inDn (neg := true) hu pins s σ H x y v u Q I rx ry ⟨ρ, h, d, e, P, S, r1, r2, w, c⟩
  · exact og_notin hu pins s σ H x y v u Q I rx ry ⟨ρ, h, d, e, P, S, r1, r2, w, c⟩
end
end MP

namespace MP
open PySem PySem.Spec PyProof.Rows L2
section
variable {X : Cx} {pos : Pos}
/-! ### {} and {k: v} -/
theorem leaf_empty {w : World} {p : Addr} : dctU w p (.dK []) [] [] [] := .inl ⟨[], rfl, rfl, rfl, rfl, List.nodup_nil⟩
/-- {}, to be changed -/
def wDnewM : WE := fun _ h P => P (.ref h.length) (h ++ [.dct [] []])
/-- {}, not to be changed -/
def wDnew : WE := fun _ h P => P (.dct [] []) h
theorem se_dnewM : SE X (.Dict [] [] pos) wDnewM := by
  refine PE.imp pe_dnewK fun σ H Q ⟨ρ, fr, h, P, S, F, w, c⟩ => fun p hp => ?_
  have e1 : Ext X.kw ρ h.length H (rho ρ h.length p) (h.length + 1) (upd H p (.dK [])) := Ext.newOb hp
  have e : Ext X.kw ρ h.length H (rho ρ h.length p) (h ++ [Ob.dct [] []]).length (upd H p (.dK [])) := by rw [List.length_append]; exact e1
  refine c (rho ρ h.length p) _ _ (.ref h.length) (.ref p) e (S.newOb hp ⟨_, [], [], upd_same, leaf_empty, RpL.nil, RpL.nil⟩) ?_ w
  unfold Rp
  exact ⟨by simp, by rw [rho_new]⟩
theorem se_dnew : SE X (.Dict [] [] pos) wDnew := by
  refine PE.imp pe_dnewK fun σ H Q ⟨ρ, fr, h, P, S, F, w, c⟩ => fun p hp => ?_
  have e : Ext X.kw ρ h.length H ρ h.length (upd H p (.dK [])) := Ext.new hp
  refine c ρ h _ (.dct [] []) (.ref p) e (S.new hp) ?_ w
  unfold Rp
  exact ⟨p, _, [], [], rfl, S.off hp, .inl upd_same, leaf_empty, RpL.nil, RpL.nil⟩
def dkB (b : Bool) (d : D) : Bool := if b = true then nkB d else kB d
theorem wpAny_Dict_rawH {prog : Program} {w : World} {K : Type} [DecidableEq K] {knd : HeapKind prog w K} {A : Around} {E : Value → Shared → Prop} {s : Shared} {env : Env} {keys : List (Option Expr)} {values : List Expr} {pairs : List (Sem Value × Sem Value)} {Q : Value → Shared → Prop} (hu : knd.room A)
    (hshape : (evalEachOpt keys env).zip ((evalEach values env).map fun v => do let x ← v; standAt pos; pure x) = pairs.map fun p => (some p.1, p.2)) (h0 : pairs ≠ []) (hlen : pairs.length ≤ 15)
    (h : wpAny (model prog w) A (evalPairs pairs) (fun vs s₁ => ∃ ps, CarriesH knd s₁.heap vs ps ∧ s₁.heap.DictOfH knd s.heap.objs.size [] ∧
      ∀ h' tk, h'.DictOfH knd s.heap.objs.size (storedAllH [] ps) → Heap.SameBut s.heap.objs.size s₁.heap h' → Q (.ref s.heap.objs.size) { s₁ with heap := h', toks := tk }) E
      { s with heap := s.heap.push { cls := .type "dict", data := .dict #[] } }) :
    wpAny (model prog w) A (eval (.Dict keys values pos) env) Q E s := by
  rw [arm_eval_Dict, hshape, dictDisplay_pairs pairs h0 (by omega)]
  exact wpAny_bind (wpAny_standAt (wpAny_bind (wpAny_subDictH (knd := knd) (Q := fun d s' => wpAny (model prog w) A (pure (Value.ref d)) Q E s') hu hlen
    (wpAny_mono h (fun vs s₁ h₁ => by obtain ⟨ps, hc, hm, hq⟩ := h₁; exact ⟨ps, hc, hm, fun h' tk a b => wpAny_pure (hq h' tk a b)⟩) fun _ _ e => e))))
/-- {k: v}; b: the key is a tuple -/
def wDisp (b : Bool) (wk wv : WE) : WE := fun fr h P => wk fr (h ++ [.dct [] []]) fun k h1 => wv fr h1 fun v h2 => match h2[h.length]? with
  | some (.dct [] []) => dkB b k = true ∧ P (.ref h.length) (h2.set h.length (.dct [k] [v]))
  | _ => False
theorem se_disp {b : Bool} {k v : Expr} {wk wv : WE} (hu : X.A.units + 65 < cLine) (hk : SE X k wk) (hv : SE X v wv) : SE X (.Dict [some k] [v] pos) (wDisp b wk wv) := by
  refine ⟨fun pins s σ H Q I ⟨ρ, fr, h, P, S, F, w, c⟩ => ?_⟩
  have hn := I.hok.fresh (Nat.le_refl s.heap.objs.size)
  have I1 := I.laid (a := s.heap.objs.size) (o := .dK []) (h' := s.heap.push { cls := .type "dict", data := .dict #[] }) (t' := s.toks) (fun _ _ q => Heap.get?_push_of_some _ q) (Nat.le_refl _) (dk_empty s.heap I.big)
  have e0 : Ext X.kw ρ h.length H (rho ρ h.length s.heap.objs.size) (h.length + 1) (upd H s.heap.objs.size (.dK [])) := Ext.newOb hn
  have S0 : Sim X.kw (rho ρ h.length s.heap.objs.size) (h ++ [.dct [] []]) (upd H s.heap.objs.size (.dK [])) := S.newOb hn ⟨_, [], [], upd_same, leaf_empty, RpL.nil, RpL.nil⟩
  have hlen : (h ++ [Ob.dct [] []]).length = h.length + 1 := by simp
  have core : wpAny (model X.prog X.w) X.A (evalPairs (pairTrees [some k] [v] X.env pos)) (fun vs s2 => ∃ (ρ2 : Nat → Addr) (h2 : Hq) (H2 : Hp) (dk dv : D) (xk xv : V) (uk uv : Value), vs = [(uk, uv)] ∧ Inv X pins σ H2 s2 ∧ RelV xk uk ∧ RelV xv uv ∧
      Ext X.kw ρ h.length H ρ2 h2.length H2 ∧ Sim X.kw ρ2 h2 H2 ∧ ρ2 h.length = s.heap.objs.size ∧ h.length < h2.length ∧ Rp X.kw H2 ρ2 h2.length dk xk ∧ Rp X.kw H2 ρ2 h2.length dv xv ∧
      h2[h.length]? = some (.dct [] []) ∧ dkB b dk = true ∧ P (.ref h.length) (h2.set h.length (.dct [dk] [dv]))) X.xe { s with heap := s.heap.push { cls := .type "dict", data := .dict #[] } } := by
    refine pairTrees_cons_walk (thn (hk.run pins _ σ _ (fun x H1 => ∃ ρ1 h1 d, Ext X.kw (rho ρ h.length s.heap.objs.size) (h.length + 1) (upd H s.heap.objs.size (.dK [])) ρ1 h1.length H1 ∧ Sim X.kw ρ1 h1 H1 ∧ Rp X.kw H1 ρ1 h1.length d x ∧
      wv fr h1 fun v h2 => match h2[h.length]? with
        | some (.dct [] []) => dkB b d = true ∧ P (.ref h.length) (h2.set h.length (.dct [d] [v]))
        | _ => False) I1 ⟨_, fr, _, _, S0, by rw [hlen]; exact F.ext e0, w, fun ρ1 h1 H1 d v e1 S1 r1 w1 => ⟨ρ1, h1, d, by rw [hlen] at e1; exact e1, S1, r1, w1⟩⟩) fun u s1 ⟨x, H1, I2, rx, ρ1, h1, d, e1, S1, r1, w1⟩ => ?_)
    refine thn (hv.run pins s1 σ H1 (fun y H2 => ∃ ρ2 h2 e, Ext X.kw ρ1 h1.length H1 ρ2 h2.length H2 ∧ Sim X.kw ρ2 h2 H2 ∧ Rp X.kw H2 ρ2 h2.length e y ∧ (match h2[h.length]? with
        | some (.dct [] []) => dkB b d = true ∧ P (.ref h.length) (h2.set h.length (.dct [d] [e]))
        | _ => False)) I2 ⟨ρ1, fr, h1, _, S1, F.ext (e0.trans e1), w1, fun ρ2 h2 H2 e y e2 S2 r2 w2 => ⟨ρ2, h2, e, e2, S2, r2, w2⟩⟩) fun u2 s2 ⟨y, H2, I3, ry, ρ2, h2, e, e2, S2, r2, w2⟩ => ?_
    refine pairTrees_nil_walk ?_
    have ag : ρ2 h.length = s.heap.objs.size := by
      rw [e2.ag _ (Nat.lt_of_lt_of_le (Nat.lt_succ_self _) e1.le), e1.ag _ (Nat.lt_succ_self _), rho_new]
    split at w2
    · rename_i q
      exact ⟨ρ2, h2, H2, d, e, x, y, u, u2, rfl, I3, rx, ry, e0.trans (e1.trans e2), S2, ag, Nat.lt_of_lt_of_le (Nat.lt_succ_self _) (e1.trans e2).le, Rp.ext e2 _ _ r1, r2, q, w2.1, w2.2⟩
    · exact w2.elim
  cases b with
  | false =>
    refine wpAny_Dict_walk (knd := mixKind X.prog X.w) rfl rfl (by simp) (by simp) (thn core fun ws s2 ⟨ρ2, h2, H2, dk, dv, xk, xv, uk, uv, ews, I3, rx, ry, e3, S2, ag, hlt, r1, r2, q, ok, p⟩ => ?_)
    subst ews
    obtain ⟨u0, kv0, xs0, a1, a2, a3, a4⟩ := S2.ob _ _ q
    have e5 : H2 s.heap.objs.size = some (.dK []) := by
      rw [ag] at a1
      rcases a2 with ⟨ps, rfl, b1, _⟩ | ⟨o, es, ep, nks, rfl, _, _, _, _, b1, _, _, _, _, _, ne⟩
      · have : ps = [] := by simpa using b1
        subst this; exact a1
      · have : nks = [] := by simpa using b1
        exact absurd this ne
    obtain ⟨q1, hq1⟩ := Option.isSome_iff_exists.mp (show (keyOf dk).isSome = true from ok)
    have hx := keyOf_rp r1 hq1
    subst hx
    obtain ⟨z, hd, vs0, r0, dd⟩ := dk_of I3.hok e5
    cases r0
    refine ⟨[(q1, uv)], ⟨kV_is rx, rfl, True.intro⟩, dd, fun h' dd' hs => ?_⟩
    have he : ∃ q, h'.get? s.heap.objs.size = some q := let ⟨q, _, _, hq, _⟩ := dd'; ⟨q, hq⟩
    have I4 := d_write (t' := s2.toks + 1) (ob := .dK [(q1, xv)]) I3 (by rw [e5]; exact True.intro) hs he (dk_new (kvs := [(q1, xv)]) (vs := [(q1, uv)]) (by rw [sizeLine_eq]; simp) hd (.cons ⟨rfl, ry⟩ .nil) dd')
    obtain ⟨S3, e4⟩ := S2.setOb (i := h.length) (o1 := .dct [dk] [dv]) (z := .dK [(q1, xv)]) hlt (fun o z e => by rw [ag, e5] at e; cases e) fun e4 => by
      rw [ag] at e4 ⊢
      exact ⟨_, _, _, upd_same, .inl ⟨[(q1, xv)], rfl, by simp [hq1], rfl, rfl, by simp⟩, RpL.ext e4 _ _ (RpL.cons r1 RpL.nil), RpL.ext e4 _ _ (RpL.cons r2 RpL.nil)⟩
    rw [ag] at S3 e4
    refine ⟨.ref s.heap.objs.size, _, I4, rfl, c ρ2 _ _ _ _ (e3.trans e4) S3 ?_ p⟩
    unfold Rp
    exact ⟨by simpa using hlt, by rw [ag]⟩
  | true =>
    have hu8 : (nestedKind X.prog X.w).room X.A := by
      show X.A.units + 8 < cLine
      omega
    refine wpAny_Dict_rawH (knd := nestedKind X.prog X.w) (pairs := pairTrees [some k] [v] X.env pos) hu8 (zip_pairTrees _ _ _ _ rfl rfl) (by simp [pairTrees]) (by simp [pairTrees]) (thn core fun ws s2 ⟨ρ2, h2, H2, dk, dv, xk, xv, uk, uv, ews, I3, rx, ry, e3, S2, ag, hlt, r1, r2, q, ok, p⟩ => ?_)
    subst ews
    obtain ⟨u0, kv0, xs0, a1, a2, a3, a4⟩ := S2.ob _ _ q
    rw [ag] at a1
    obtain ⟨q1, hq1, hdp, ds, rfl⟩ := nkB_some ok
    obtain ⟨b, xs1, rfl, _, _⟩ := rp_tup r1
    cases rx
    rcases d_kinds (k := .tup ds) (y := .ref b) (yu := .ref b) I3 (.inl a1) (by rw [ag] at a2; exact a2) a3 a4 (.inr ⟨ok, rfl⟩) r1 rfl with ⟨ps, q', rfl, hk', _⟩ | ⟨nks, q', b', DH, sy, hk', hdp', ey, _, his, e1, _, pv, nd, hz, ix⟩
    · cases hk'
    · cases ey
      have en : nks = [] := by simpa using e1
      subst en
      have eq' : q' = q1 := by rw [hk'] at hq1; exact Option.some.inj hq1
      subst eq'
      refine ⟨[(q', b, uv)], ⟨rfl, rfl, his, True.intro⟩, DH, fun h' tk dd' hs => ?_⟩
      have dd2 : h'.DictOfH (nestedKind X.prog X.w) s.heap.objs.size [(q', b, uv)] := dd'
      have R0 : NestR X.kw H2 ρ2 h2.length [D.tup ds] [dv] [(q', b, uv)] := ⟨by simp [hk'], RpL.cons r1 RpL.nil, ⟨[xv], RpL.cons r2 RpL.nil, .cons ry .nil⟩, by simp, by simpa using hdp'⟩
      obtain ⟨o', xs', ho', du', rl'⟩ := dctU_nest R0 dd2 sy (by rw [sizeLine_eq]; simp) (by simp)
      have I4 := d_write (t' := tk) (ob := rawO s.heap.objs.size o') I3 (by rw [a1]; exact a2.mut) hs ⟨o', ho'⟩ ⟨ho', ⟨o', ho'⟩, fun h1 h2 q k => k _ q⟩
      obtain ⟨S3, e4⟩ := S2.setOb (i := h.length) (o1 := .dct [.tup ds] [dv]) (z := rawO s.heap.objs.size o') hlt (fun o z e => by rw [ag, a1] at e; exact (by rw [ag] at a2; exact a2.nofrz o z (Option.some.inj e))) fun e4 => by
        rw [ag] at e4 ⊢
        exact ⟨_, _, _, upd_same, du', RpL.ext e4 _ _ R0.rk, RpL.ext e4 _ _ rl'⟩
      rw [ag] at S3 e4
      refine ⟨.ref s.heap.objs.size, _, I4, rfl, c ρ2 _ _ _ _ (e3.trans e4) S3 ?_ p⟩
      unfold Rp
      exact ⟨by simpa using hlt, by rw [ag]⟩
end
end MP

namespace MP
open PySem PySem.Spec PyProof.Rows L2
section
variable {X : Cx} {pos : Pos}
/-! ### d[k] = v, l[i] = v -/
/-- the heap with the pair put in -/
def putH (h : Hq) (n : Nat) (ks vs : List D) (k d : D) : Hq := h.set n (.dct (dput ks vs k d).1 (dput ks vs k d).2)
theorem dput_core {pins : List (Addr × Obj)} {σ : L2.St} {H : Hp} {s : Shared} {ρ : Nat → Addr} {h : Hq} {n : Nat} {ks vs : List D} {k d : D} {y v : V} {yu vu : Value} (hu : X.A.units + 65 < cLine) (I : Inv X pins σ H s) (S : Sim X.kw ρ h H) (hn : h[n]? = some (.dct ks vs))
    (ok : KOk ks k) (hz : ks.length < sizeLine) (rk : Rp X.kw H ρ h.length k y) (rd : Rp X.kw H ρ h.length d v) (ry : RelV y yu) (rv : RelV v vu) :
    (∃ ps q, H (ρ n) = some (.dK ps) ∧ keyOf k = some q ∧ y = kV q ∧ ps.length < sizeLine ∧ valV ps q = ((dix ks k).bind fun i => ps[i]?).map (·.2) ∧ (dix ks k).isSome = (valV ps q).isSome ∧ RpL X.kw H ρ h.length vs (ps.map (·.2)) ∧
      Sim X.kw ρ (putH h n ks vs k d) (upd H (ρ n) (.dK (putK ps q v))) ∧ Ext X.kw ρ h.length H ρ (putH h n ks vs k d).length (upd H (ρ n) (.dK (putK ps q v)))) ∨
    (∃ nks q b xs, s.heap.DictOfH (nestedKind X.prog X.w) (ρ n) nks ∧ (ρ n == sysModules) = false ∧ yu = .ref b ∧ (nestedKind X.prog X.w).is s.heap q b ∧ nks.length < sizeLine ∧ atKey nks q = ((dix ks k).bind fun i => nks[i]?).map (·.2) ∧ (dix ks k).isSome = (atKey nks q).isSome ∧ RpL X.kw H ρ h.length vs xs ∧ Paired RelV xs (nks.map (·.2.2)) ∧ Mut (H (ρ n)) ∧
      ∀ h', h'.DictOfH (nestedKind X.prog X.w) (ρ n) (storedH nks q b vu) → Heap.SameBut (ρ n) s.heap h' → ∀ tk, ∃ H', Inv X pins σ H' { s with heap := h', toks := tk } ∧ Sim X.kw ρ (putH h n ks vs k d) H' ∧ Ext X.kw ρ h.length H ρ (putH h n ks vs k d).length H') := by
  obtain ⟨u, kv, xs, e1, du, l1, l2⟩ := S.ob n _ hn
  have hlt := get_lt hn
  have nf : ∀ o z, H (ρ n) ≠ some (.frz o z) := fun o z e => by rw [e1] at e; exact du.nofrz o z (Option.some.inj e)
  rcases d_kinds I (.inl e1) du l1 l2 ok rk ry with ⟨ps, q, rfl, hq, rfl, a1, rfl, rfl, nd, ix⟩ | ⟨nks, q, b, DH, sy, hq, hdp, rfl, rfl, his, a1, rfl, pv, nd, hz2, ix⟩
  · have R0 : LeafR X.kw H ρ h.length ks vs ps := ⟨a1, l1, l2, nd⟩
    have lk : ks.length = ps.length := by have := l1.length; rwa [List.length_map] at this
    have R1 := R0.put hq rk rd
    refine .inl ⟨ps, q, e1, hq, rfl, by omega, by rw [valV_ix, ix], ?_, l2, S.setOb hlt nf fun e4 => ⟨_, _, _, upd_same, .inl ⟨_, rfl, R1.key, rfl, rfl, R1.nd⟩, RpL.ext e4 _ _ R1.rk, RpL.ext e4 _ _ R1.rv⟩⟩
    rw [valV_ix, ix]
    cases hj : ps.findIdx? (fun p => decide (p.1 = q)) with
    | none => rfl
    | some j => obtain ⟨p, hp, _⟩ := ix_get hj; simp [hp]
  · have lk : ks.length = nks.length := by have := l1.length; rwa [List.length_map] at this
    obtain ⟨o0, es, ep, _, _, _, _, hi0, _⟩ := id DH
    have R0 : NestR X.kw H ρ h.length ks vs nks := ⟨a1, l1, ⟨xs, l2, pv⟩, nd, fun x hx => (hi0 x hx).2⟩
    have R1 := R0.put hq hdp rk rd rv
    refine .inr ⟨nks, q, b, xs, DH, sy, rfl, his, by omega, by rw [atKey_ix, ix], ?_, l2, pv, by rw [e1]; exact du.mut, fun h' D' hs tk => ?_⟩
    · rw [atKey_ix, ix]
      cases hj : nks.findIdx? (fun p => decide (p.1 = q)) with
      | none => rfl
      | some j => obtain ⟨p, hp, _⟩ := ix_get hj; simp [hp]
    · obtain ⟨o', xs', ho', du', rl'⟩ := dctU_nest R1 D' sy (by have := storedH_len (nks := nks) (q := q) (b := b) (v := vu); omega) storedH_ne
      obtain ⟨S3, e4⟩ := S.setOb (i := n) (o1 := .dct (dput ks vs k d).1 (dput ks vs k d).2) (z := rawO (ρ n) o') hlt nf fun e4 => ⟨_, _, _, upd_same, du', RpL.ext e4 _ _ R1.rk, RpL.ext e4 _ _ rl'⟩
      exact ⟨_, d_write (t' := tk) (ob := rawO (ρ n) o') I (by rw [e1]; exact du.mut) hs ⟨o', ho'⟩ ⟨ho', ⟨o', ho'⟩, fun h1 h2 q k => k _ q⟩, S3, e4⟩
def gSetU : D → D → D → Hq → (Hq → Prop) → Prop := fun o i d h P => match o with
  | .ref n => (match h[n]? with
    | some (.lst ds) => (match i with
      | .int k => (match ixN ds.length k with
        | some j => P (h.set n (.lst (ds.set j d)))
        | none => False)
      | _ => False)
    | some (.dct ks vs) => (KOk ks i ∧ ks.length < sizeLine) ∧ P (h.set n (.dct (dput ks vs i d).1 (dput ks vs i d).2))
    | _ => False)
  | _ => False
def wgSub (wo wi : WE) : WG := fun d fr h P => wo fr h fun o h1 => wi fr h1 fun i h2 => gSetU o i d h2 fun h3 => P fr h3
theorem set_u (hu : X.A.units + 65 < cLine) : PSet X (fun o i v H Q => ∃ ρ h od id d P, Sim X.kw ρ h H ∧ Rp X.kw H ρ h.length od o ∧ Rp X.kw H ρ h.length id i ∧ Rp X.kw H ρ h.length d v ∧ gSetU od id d h P ∧
    ∀ h' H', Ext X.kw ρ h.length H ρ h'.length H' → Sim X.kw ρ h' H' → P h' → Q H') := by
  intro pins s σ H o i v ov iv u Q I ro ri rv ⟨ρ, h, od, id, d, P, S, r1, r2, r3, w, c⟩
  unfold gSetU at w
  split at w
  · rename_i n
    obtain ⟨hn, rfl⟩ := rp_ref r1
    split at w
    · rename_i ds hq
      split at w
      · rename_i k
        have h2 := rp_int r2
        subst h2
        split at w
        · rename_i j qj
          obtain ⟨xs, q1, l1⟩ := S.ob n _ hq
          obtain ⟨S3, e5⟩ := S.setL hq (RpL.set j l1 r3)
          exact set_list pins s σ H _ _ _ ov iv u Q I ro ri rv ⟨_, xs, k, j, rfl, rfl, q1, by rw [← l1.length]; exact qj, c _ _ e5 S3 w⟩
        · exact w.elim
      · exact w.elim
    · rename_i ks vs hq
      cases ro
      rcases dput_core hu I S hq w.1.1 w.1.2 r2 r3 ri rv with ⟨ps, q, e1, _, rfl, hz, _, _, _, S3, e5⟩ | ⟨nks, q, b, xs, DH, sy, rfl, his, hz, _, _, _, _, mu, fin⟩
      · exact d_setItem (by omega) I (DPut.k e1 hz) ri rv fun s' I' => ⟨_, I', c _ _ e5 S3 w.2⟩
      · refine wpAny_setItem_heap (hsz := by omega) (room8 hu) his DH fun h' D' hs => ?_
        obtain ⟨H', I', S', e'⟩ := fin h' D' hs (s.toks + (nestedKind X.prog X.w).draws q)
        exact ⟨H', I', c _ _ e' S' w.2⟩
    · exact w.elim
  · exact w.elim
theorem sg_sub (hu : X.A.units + 65 < cLine) {o i : Expr} {wo wi : WE} (ho : SE X o wo) (hi : SE X i wi) (hp : ∀ v, assign (.Subscript o i pos) X.env v = (do
      let ov ← holding [v] (eval o X.env)
      let iv ← holding [v, ov] (eval i X.env)
      standAt pos
      holding [v, ov, iv] (setItem ov iv v)
      release [v, ov, iv] [])) : SG X (.Subscript o i pos) (wgSub wo wi) := by
  refine PG.imp (pg_sub ho hi (set_u hu) hp) fun v σ H Q ⟨ρ, fr, h, d, P, S, F, r, w, c⟩ => ?_
  refine ⟨ρ, fr, h, _, S, F, w, fun ρ1 h1 H1 d1 v1 e1 S1 r1 w1 => ?_⟩
  refine ⟨ρ1, fr, h1, _, S1, F.ext e1, w1, fun ρ2 h2 H2 d2 v2 e2 S2 r2 w2 => ?_⟩
  exact ⟨ρ2, h2, d1, d2, d, _, S2, Rp.ext e2 _ _ r1, r2, Rp.ext (e1.trans e2) _ _ r, w2, fun h' H' e' S' w' => c ρ2 h' H' _ _ ((e1.trans e2).trans e') S' (F.ext ((e1.trans e2).trans e')) w'⟩
/-! ### len -/
def bLenU : WL := fun ds h P => match ds with
  | [.dct ks _] => P (.int (ks.length : Nat)) h
  | [.ref n] => (match h[n]? with
    | some (.lst es) => P (.int (es.length : Nat)) h
    | some (.dct ks _) => P (.int (ks.length : Nat)) h
    | some (.lck ks _) => P (.int (ks.length : Nat)) h
    | _ => False)
  | ds => bLen ds h P
theorem wpAny_len_body_raw {prog : Program} {w : World} {A : Around} {E : Value → Shared → Prop} {s : Shared} {d : Addr} {es : Array DictEntry} {ep : Nat} {Q : Value → Shared → Prop} (hd : (d == sysModules) = false) (hm : s.heap.DictRaw d es ep) (hfit : (es.size : Int) < 2 ^ 63)
    (h : Q (.int es.size (s.toks + 1)) { s with toks := s.toks + 1 + 1 }) : wpAny (model prog w) A (Builtin.«len» ⟨[.ref d], []⟩) (fun fin s' => ∃ r, fin = .done (.ret r) ∧ Q r s') E s := by
  have hT : s.TypeIs (.ref d) "dict" := let ⟨o, ho, hc, _⟩ := hm; ⟨o, ho, hc.1⟩
  unfold Builtin.«len»
  refine wpAny_bind (m := oneArg "len" _) (wpAny_pure ?_)
  refine wpAny_bind (m := callSpecial? (.ref d) (Str.ofString "__len__")) (wpAny_callSpecial?_slot (name := Str.ofString "__len__") hT PySem.F.slot_dict_len
    (call_len_raw hd hm ?_))
  show wpAny _ _ _ _ _ { s with toks := s.toks + 1 }
  refine wpAny_bind (wpAny_holding (wpAny_pure ?_))
  refine wpAny_bind (wpAny_letGo ?_)
  show wpAny _ _ (if ((es.size : Nat) : Int) < 0 then _ else _) _ _ _
  rw [if_neg (by omega)]
  show wpAny _ _ (if ((es.size : Nat) : Int) ≥ 2 ^ 63 then _ else _) _ _ _
  rw [if_neg (by omega)]
  exact wpAny_bind (wpAny_mkInt (wpAny_pure ⟨_, rfl, h⟩))
theorem len_raw {pins : List (Addr × Obj)} {σ : L2.St} {H : Hp} {s : Shared} {d : Addr} {u : HO} {ks : List D} {kv xs : List V} (I : Inv X pins σ H s) (rd : Rd H d u) (du : dctU X.w d u ks kv xs) {Q : VK} (hl : ks.length = kv.length) (q : Q (.int (ks.length : Nat)) H) :
    wpAny (model X.prog X.w) X.A (call (.builtin "len") [.ref d]) (EP X pins σ Q) X.xe s := by
  obtain ⟨o, es, ep, R⟩ := raw_of I rd du
  have hz : ks.length ≤ sizeLine := by
    rcases du with ⟨ps, rfl, e1, _⟩ | ⟨o, es, ep, nks, _, _, _, _, _, e1, _, _, _, _, hz, _⟩
    · have := congrArg List.length e1
      simp only [List.length_map] at this
      rw [this]; exact (rd.ok I.hok).1
    · have := congrArg List.length e1
      simp only [List.length_map] at this
      rw [this]; exact hz
  have es' : es.size = ks.length := by rw [R.size, hl]
  refine Calls.call_function_entry kind_len plain_len entry_len (args_len1 _) (wpAny_len_body_raw R.sys ⟨o, R.get, R.exact_, R.data⟩ (by rw [sizeLine_eq] at hz; omega) ?_)
  refine ⟨.int (ks.length : Nat), H, I.tok _, ⟨_, by rw [es']⟩, q⟩
theorem cg_lenU : CallR X (.builtin "len") (liftL X.kw bLenU) := by
  intro pins s σ H xs us Q I rx ⟨ρ, h, ds, P, S, r, w, c⟩
  unfold bLenU at w
  split at w
  · obtain ⟨x, rfl, r1⟩ := rpl1 r
    obtain ⟨a, u, kv, xs, rfl, _, rd, du, l1, l2⟩ := rp_dct r1
    obtain ⟨u', rfl, ru⟩ := vals1 rx
    cases ru
    exact len_raw I rd du l1.length (c ρ h H _ _ .refl S of_int w)
  · rename_i n
    obtain ⟨x, rfl, r1⟩ := rpl1 r
    split at w
    · rename_i es q
      refine cg_len pins s σ H _ us Q I rx ⟨ρ, h, [.ref n], P, S, RpL.cons r1 RpL.nil, ?_, c⟩
      unfold bLen lenD
      simp only [seqOf, lstAt, q, Option.map_some]
      exact w
    · rename_i ks vs q
      obtain ⟨u, kv, xs, a1, du, l1, l2⟩ := S.ob n _ q
      obtain ⟨_, rfl⟩ := rp_ref r1
      obtain ⟨u', rfl, ru⟩ := vals1 rx
      cases ru
      exact len_raw I (.inl a1) du l1.length (c ρ h H _ _ .refl S of_int w)
    · rename_i ks vs q
      obtain ⟨u, kv, xs, rd, du, l1, l2⟩ := S.ob n _ q
      obtain ⟨_, rfl⟩ := rp_ref r1
      obtain ⟨u', rfl, ru⟩ := vals1 rx
      cases ru
      exact len_raw I rd du l1.length (c ρ h H _ _ .refl S of_int w)
    · exact w.elim
  · exact cg_len pins s σ H xs us Q I rx ⟨ρ, h, ds, P, S, r, w, c⟩
/-! ### methods of dicts -/
def wBD (g : D → List D → Hq → WK → Prop) (o : WE) (a : WA) : WE := fun fr h P => o fr h fun d h1 => isDct h1 d = true ∧ a fr h1 fun ds h2 => g d ds h2 P
theorem isDct_of {h : Hq} {d : D} (e : isDct h d = true) : ∃ ks vs, dctOf h d = some (ks, vs) := by
  unfold isDct at e
  split at e
  · exact ⟨_, _, rfl⟩
  · rename_i n
    split at e
    · rename_i ks vs q; exact ⟨ks, vs, by unfold dctOf; simp only [q]⟩
    · rename_i ks vs q; exact ⟨ks, vs, by unfold dctOf; simp only [q]⟩
    · cases e
  · cases e
theorem se_bd {o e : Expr} {es : List Expr} {wo : WE} {wa : WA} {name : Str} {apos cpos : Pos} {id : String} {g : D → List D → Hq → WK → Prop} (slot : Slot "dict" name id) (hty : typeOf (.builtin id) = pure (.type "method_descriptor"))
    (hm : MtR X id (liftM X.kw g)) (ho : SE X o wo) (ha : SA X (e :: es) wa) (hbase : attributeBase o name X.env (eval o X.env) = eval o X.env)
    (hfew : ((backTo cpos (starEach (e :: es) X.env)).all (fun x => !x.1) && (backToKw cpos (keywordEach [] X.env)).all (fun x => x.1.isSome)
      && decide ((e :: es).length + ([] : List Keyword).length + (if ([] : List Keyword).isEmpty then 0 else 1) < 30)) = true)
    (hline : (apos.endLine == cpos.line) = true) (hs : starEach (e :: es) X.env = (false, eval e X.env) :: starEach es X.env) (hplain : (backTo cpos (starEach es X.env)).any (·.1) = false) :
    SE X (.Call (.Attribute o name apos) (e :: es) [] cpos) (wBD g wo wa) := by
  refine ⟨fun pins s σ H Q I ⟨ρ, fr, h, P, S, F, w, c⟩ => ?_⟩
  refine wpAny_Call_method_late hbase hfew hline rfl (thn (ho.run pins s σ H (fun x H1 => ∃ ρ1 h1 d, Ext X.kw ρ h.length H ρ1 h1.length H1 ∧ Sim X.kw ρ1 h1 H1 ∧ Rp X.kw H1 ρ1 h1.length d x ∧ isDct h1 d = true ∧ wa fr h1 fun ds h2 => g d ds h2 P) I
    ⟨ρ, fr, h, _, S, F, w, fun ρ1 h1 H1 d v e1 S1 r1 w1 => ⟨ρ1, h1, d, e1, S1, r1, w1⟩⟩) fun v s1 ⟨x, H1, I1, r1, ρ1, h1, d, e1, S1, rx, w1, w2⟩ => ?_)
  obtain ⟨ks, vs, q⟩ := isDct_of w1
  obtain ⟨a, u, kv, xs, rfl, rd, du, l1, l2⟩ := dct_ok S1 rx q
  cases r1
  obtain ⟨h1', h2'⟩ := dct_type I1 rd du
  refine ⟨"dict", id, PySem.F.plainAttrs_dict, slot, hty, h1', h2', ?_⟩
  have hA := ha.run cpos pins s1 σ H1 (fun ys H2 => ∃ ρ2 h2 ds, Ext X.kw ρ1 h1.length H1 ρ2 h2.length H2 ∧ Sim X.kw ρ2 h2 H2 ∧ RpL X.kw H2 ρ2 h2.length ds ys ∧ g d ds h2 P) I1 ⟨ρ1, fr, h1, _, S1, F.ext e1, w2, fun ρ2 h2 H2 ds ys e2 S2 r2 w3 => ⟨ρ2, h2, ds, e2, S2, r2, w3⟩⟩
  rw [hs] at hA ⊢
  refine Calls.callWith_builtin (by show (false || (backTo cpos (starEach es X.env)).any (·.1)) = false; rw [hplain] <;> rfl) (Calls.evalArgs_plain ?_)
  exact thn hA fun us s2 ⟨ys, H2, I2, r2, ρ2, h2, ds, e2, S2, rl, w3⟩ => hm pins s2 σ H2 (.ref a) ys (.ref a) us Q I2 rfl r2 ⟨ρ2, h2, d, ds, P, S2, Rp.ext e2 _ _ rx, rl, w3, c.step (e1.trans e2)⟩
/-- d.get(k), d.get(k, x) -/
def mGet : D → List D → Hq → WK → Prop := fun d ds h P => match dctOf h d, ds with
  | some (ks, vs), [k] => (kB k = true ∧ ks.all kB = true) ∧ P ((dget ks vs k).getD .non) h
  | some (ks, vs), [k, x] => (kB k = true ∧ ks.all kB = true) ∧ P ((dget ks vs k).getD x) h
  | _, _ => False
theorem get_leaf {pins : List (Addr × Obj)} {σ : L2.St} {H : Hp} {s : Shared} {ρ : Nat → Addr} {n : Nat} {d : Addr} {u : HO} {ks vs : List D} {kv xs : List V} {k : D} {y : V} {yu : Value} (I : Inv X pins σ H s) (rd : Rd H d u) (du : dctU X.w d u ks kv xs)
    (rk : RpL X.kw H ρ n ks kv) (rvs : RpL X.kw H ρ n vs xs) (ok : kB k = true ∧ ks.all kB = true) (r : Rp X.kw H ρ n k y) (ry : RelV y yu) : ∃ o, DGet H d y o ∧ ∀ dd x, Rp X.kw H ρ n dd x → Rp X.kw H ρ n ((dget ks vs k).getD dd) (o.getD x) := by
  rcases d_kinds I rd du rk rvs (.inl ok) r ry with ⟨ps, q, rfl, hk, rfl, e1, rfl, rfl, nd, ix⟩ | ⟨nks, q, b, DH, sy, hk, hdp, rfl, rfl, his, e1, rfl, pv, nd, hz, ix⟩
  · refine ⟨valV ps q, .inl ⟨ps, q, rd, rfl, rfl⟩, fun dd x rx => ?_⟩
    unfold dget
    rw [valV_ix, ix]
    cases hj : ps.findIdx? (fun p => decide (p.1 = q)) with
    | none => exact rx
    | some j =>
      obtain ⟨p, hp, _⟩ := ix_get hj
      have hlt : j < vs.length := by have := rvs.length; rw [List.length_map] at this; rw [this]; exact (List.getElem?_eq_some_iff.mp hp).1
      obtain ⟨z, hz1, hz2⟩ := rvs.get (List.getElem?_eq_getElem hlt)
      rw [List.getElem?_map, hp] at hz1
      cases hz1
      simp only [Option.bind_some, hp, List.getElem?_eq_getElem hlt, Option.map_some, Option.getD_some]
      exact hz2
  · exfalso
    have h1 := ok.1
    cases k <;> first | (cases hk; done) | (simp [kB, keyOf] at h1; done) | (have := rp_int r; cases this) | (have := (rp_str r).1; cases this)
theorem mg_get (hu : X.A.units + 65 < cLine) : MtR X "dict.get" (liftM X.kw mGet) := by
  intro pins s σ H x xs v us Q I rx rv ⟨ρ, h, d, ds, P, S, r1, r2, w, c⟩
  unfold mGet at w
  split at w
  · rename_i ks vs k q
    obtain ⟨a, u, kv, ys, rfl, rd, du, l1, l2⟩ := dct_ok S r1 q
    cases rx
    obtain ⟨y, rfl, ry⟩ := rpl1 r2
    obtain ⟨yu, rfl, ryu⟩ := vals1 rv
    obtain ⟨o, g1, g2⟩ := get_leaf I rd du l1 l2 w.1 ry ryu
    exact d_get1 (by omega) I g1 ryu fun w' s' I' rw' => ⟨_, H, I', rw', c ρ h H _ _ .refl S (g2 .non .non of_non) w.2⟩
  · rename_i ks vs k z q
    obtain ⟨a, u, kv, ys, rfl, rd, du, l1, l2⟩ := dct_ok S r1 q
    cases rx
    obtain ⟨y, y2, rfl, ry, ry2⟩ := rpl2 r2
    obtain ⟨yu, yu2, rfl, ryu, ryu2⟩ := vals2 rv
    obtain ⟨o, g1, g2⟩ := get_leaf I rd du l1 l2 w.1 ry ryu
    exact d_get2 (by omega) I g1 ryu ryu2 fun w' s' I' rw' => ⟨_, H, I', rw', c ρ h H _ _ .refl S (g2 _ _ ry2) w.2⟩
  · exact w.elim
/-- d.setdefault(k, x) -/
def mSetd : D → List D → Hq → WK → Prop := fun d ds h P => match d, ds with
  | .ref n, [k, x] => (match h[n]? with
    | some (.dct ks vs) => (KOk ks k ∧ ks.length < sizeLine) ∧ (match dix ks k with
      | some i => ∃ v, vs[i]? = some v ∧ P v h
      | none => P x (h.set n (.dct (ks ++ [k]) (vs ++ [x]))))
    | _ => False)
  | _, _ => False
theorem mg_setd (hu : X.A.units + 65 < cLine) : MtR X "dict.setdefault" (liftM X.kw mSetd) := by
  intro pins s σ H x xs v us Q I rx rv ⟨ρ, h, d, ds, P, S, r1, r2, w, c⟩
  unfold mSetd at w
  split at w
  · rename_i n k z
    split at w
    · rename_i ks vs hq
      obtain ⟨_, rfl⟩ := rp_ref r1
      cases rx
      obtain ⟨y, y2, rfl, ry, ry2⟩ := rpl2 r2
      obtain ⟨yu, yu2, rfl, ryu, ryu2⟩ := vals2 rv
      obtain ⟨⟨w1, w2⟩, w3⟩ := w
      rcases dput_core hu I S hq w1 w2 ry ry2 ryu ryu2 with ⟨ps, q, e1, _, rfl, hz, ev, es, rl, S3, e5⟩ | ⟨nks, q, b, xs', DH, sy, rfl, his, hz, ev, es, rl, pv, mu, fin⟩
      · refine d_setd I e1 ryu ryu2 hz (fun v0 hv w' s' I' rw' => ?_) fun hv w' s' I' rw' => ?_
        · rw [hv] at es
          obtain ⟨i, hi⟩ := Option.isSome_iff_exists.mp es
          rw [hi] at w3
          obtain ⟨dv, hdv, w3⟩ := w3
          obtain ⟨z1, hz1, hz2⟩ := rl.get hdv
          rw [hv, hi] at ev
          rw [List.getElem?_map] at hz1
          have hps : ∃ p, ps[i]? = some p := by
            cases hp : ps[i]? with
            | none => rw [hp] at hz1; cases hz1
            | some p => exact ⟨p, rfl⟩
          obtain ⟨p, hp⟩ := hps
          rw [hp] at hz1
          simp only [Option.bind_some, hp, Option.map_some, Option.some.injEq] at ev hz1
          subst ev hz1
          exact ⟨_, H, I', rw', c ρ h H _ _ .refl S hz2 w3⟩
        · rw [hv] at es
          have hi : dix ks k = none := by
            cases hj : dix ks k with
            | none => rfl
            | some j => rw [hj] at es; cases es
          rw [hi] at w3
          have e6 : putH h n ks vs k z = h.set n (.dct (ks ++ [k]) (vs ++ [z])) := by unfold putH dput; rw [hi]
          rw [e6] at S3 e5
          exact ⟨_, _, I', rw', c ρ _ _ _ _ e5 S3 (Rp.ext e5 _ _ ry2) w3⟩
      · refine call_setdefault_heap (hsz := by omega) (room8 hu) his sy DH (fun p hp => ?_) fun hp h' D' hs => ?_
        · rw [hp] at es
          obtain ⟨i, hi⟩ := Option.isSome_iff_exists.mp es
          rw [hi] at w3
          obtain ⟨dv, hdv, w3⟩ := w3
          obtain ⟨z1, hz1, hz2⟩ := rl.get hdv
          obtain ⟨z2, hz3, hz4⟩ := paired_get pv hz1
          rw [hp, hi] at ev
          rw [List.getElem?_map] at hz3
          have hps : ∃ p, nks[i]? = some p := by
            cases hp : nks[i]? with
            | none => rw [hp] at hz3; cases hz3
            | some p => exact ⟨p, rfl⟩
          obtain ⟨p2, hp2⟩ := hps
          rw [hp2] at hz3
          simp only [Option.bind_some, hp2, Option.map_some, Option.some.injEq] at ev hz3
          subst ev hz3
          exact ⟨z1, H, I.tok _, hz4, c ρ h H _ _ .refl S hz2 w3⟩
        · rw [hp] at es
          have hi : dix ks k = none := by
            cases hj : dix ks k with
            | none => rfl
            | some j => rw [hj] at es; cases es
          rw [hi] at w3
          have e6 : putH h n ks vs k z = h.set n (.dct (ks ++ [k]) (vs ++ [z])) := by unfold putH dput; rw [hi]
          obtain ⟨H', I', S', e'⟩ := fin h' D' hs (s.toks + (nestedKind X.prog X.w).draws q)
          rw [e6] at S' e'
          exact ⟨y2, H', I', ryu2, c ρ _ _ _ _ e' S' (Rp.ext e' _ _ ry2) w3⟩
    · exact w.elim
  · exact w.elim
end
end MP

namespace MP
open PySem PySem.Spec PyProof.Rows L2
/-! ### dict comprehensions: keys ints and texts -/
theorem leaf_of {K : KW} {H : Hp} {ρ : Nat → Addr} {n : Nat} {a : Addr} {u : HO} {ks vs : List D} {kv xs : List V} (du : dctU K.2 a u ks kv xs) (rk : RpL K H ρ n ks kv) (rv : RpL K H ρ n vs xs) (ok : ks.all kB = true) : ∃ ps, u = .dK ps ∧ LeafR K H ρ n ks vs ps := by
  rcases du with ⟨ps, rfl, e1, rfl, rfl, nd⟩ | ⟨o, es, ep, nks, rfl, sy, ex, dt, e1, e2, rfl, pv, nd, dp, hz, ne⟩
  · exact ⟨ps, rfl, e1, rk, rv, nd⟩
  · exfalso
    cases nks with
    | nil => exact ne rfl
    | cons z zs =>
      cases ks with
      | nil => simp at e2
      | cons k0 ks =>
        simp only [List.all_cons, Bool.and_eq_true] at ok
        obtain ⟨x0, r0, z1, rr, _⟩ := rk.cons_inv
        simp only [List.map_cons, List.cons.injEq] at z1
        obtain ⟨q0, hq0⟩ := Option.isSome_iff_exists.mp ok.1
        have := keyOf_rp rr hq0
        rw [← z1.1] at this
        cases q0 <;> cases this
def dcN (s : Src) (n : Nat) (step : D → Hq → (D → D → Hq → Prop) → (Hq → Prop) → Prop) (P : WK) : Nat → Nat → Hq → Prop
  | 0, _, _ => False
  | k + 1, i, h => match s.tick h i with
    | some (some d) => step d h (fun y z h4 => match h4[n]? with
      | some (.dct ks vs) => (kB y = true ∧ ks.all kB = true ∧ ks.length < sizeLine) ∧ dcN s n step P k (i + 1) (h4.set n (.dct (dput ks vs y z).1 (dput ks vs y z).2))
      | _ => False) (fun h3 => dcN s n step P k (i + 1) h3)
    | some none => P (.ref n) h
    | none => False
def dcStep (p : Pat) (tt : WT) (tk tv : WE) (fr : Fr) : D → Hq → (D → D → Hq → Prop) → (Hq → Prop) → Prop := fun d h kp sk =>
  match bindP p d fr with
  | some fr2 => tt fr2 h fun b h3 => if b = true then tk fr2 h3 fun y h4 => tv fr2 h4 fun z h5 => kp y z h5 else sk h3
  | none => False
/-- a dict that will change -/
def wDcM (wi : WI) (p : Pat) (tt : WT) (tk tv : WE) (vs : List Nat) : WE := fun fr h P => wi fr h fun s h1 => ∃ k, dcN s h1.length (dcStep p tt tk tv (wipeF fr vs)) P k 0 (h1 ++ [.dct [] []])
def wDc (wi : WI) (p : Pat) (tt : WT) (tk tv : WE) (vs : List Nat) : WE := wGc (wDcM wi p tt tk tv vs)
theorem dc_lift {K : KW} {wi : WI} {p : Pat} {tt : WT} {tk tv : WE} {vs : List Nat} (hw : p.within vs = true) {σ H Q} (q : liftE K (wDcM wi p tt tk tv vs) σ H Q) : tDc (liftI K wi) (hPat K p) (liftT K tt) (liftE K tk) (liftE K tv) vs σ H Q := by
  obtain ⟨ρ, fr, h, P, S, F, w, c⟩ := q
  refine ⟨ρ, fr, h, _, S, F, w, fun ρ1 h1 H1 J s e1 S1 o ⟨k, w1⟩ => fun D hD => ?_⟩
  have eD : Ext K ρ1 h1.length H1 (rho ρ1 h1.length D) (h1 ++ [Ob.dct [] []]).length (upd H1 D (.dK [])) := by
    rw [List.length_append]; exact Ext.newOb hD
  have SD := S1.newOb (p := D) (z := .dK []) (o0 := .dct [] []) hD ⟨_, [], [], upd_same, leaf_empty, RpL.nil, RpL.nil⟩
  have hlt : h1.length < (h1 ++ [Ob.dct [] []]).length := by simp
  have o' := o.ext eD
  refine ⟨fun i m H => ∃ ρ2 h2, Ext K (rho ρ1 h1.length D) (h1 ++ [Ob.dct [] []]).length (upd H1 D (.dK [])) ρ2 h2.length H ∧ Sim K ρ2 h2 H ∧ dcN s h1.length (dcStep p tt tk tv (wipeF fr vs)) P m i h2, ⟨k, _, _, .refl, SD, w1⟩, ?_⟩
  rintro i m H2 ⟨ρ2, h2, e2, S2, w2⟩
  cases m with
  | zero => exact w2.elim
  | succ m =>
    unfold dcN at w2
    obtain ⟨o1, o2⟩ := o' ρ2 h2 H2 i e2 S2
    have eAll := e1.trans (eD.trans e2)
    split at w2
    · rename_i d hd
      obtain ⟨go, yl⟩ := o2 d hd
      refine .inr ⟨go, fun H3 => ∃ ρ3 h3, Ext K (rho ρ1 h1.length D) (h1 ++ [Ob.dct [] []]).length (upd H1 D (.dK [])) ρ3 h3.length H3 ∧ Sim K ρ3 h3 H3 ∧ dcN s h1.length (dcStep p tt tk tv (wipeF fr vs)) P m (i + 1) h3, fun H3 q => ⟨m, Nat.lt_succ_self m, q⟩, fun x H3 hy => ?_⟩
      obtain ⟨e3, S3, r3⟩ := yl x H3 hy
      unfold dcStep at w2
      split at w2
      · rename_i fr2 hb
        have F3 : FrR K ρ2 h2.length H3 (wipeF fr vs) (wipe σ vs) := (F.ext (eAll.trans e3)).wipe vs
        refine hPat_run p d x _ fr2 (wipe σ vs) _ hw F3 r3 hb fun σ2 F4 w4 => ⟨w4.trans (wipe_idem vs vs fun _ h => h), ?_⟩
        refine ⟨ρ2, fr2, h2, _, S3, F4, w2, fun ρ5 h5 H5 b e5 S5 w5 => ?_⟩
        cases b with
        | true =>
          rw [if_pos rfl] at w5 ⊢
          refine ⟨ρ5, fr2, h5, _, S5, F4.ext e5, w5, fun ρ6 h6 H6 y yv e6 S6 r6 w6 => ?_⟩
          refine ⟨ρ6, fr2, h6, _, S6, F4.ext (e5.trans e6), w6, fun ρ7 h7 H7 z zv e7 S7 r7 w7 => ?_⟩
          have e27 := e3.trans (e5.trans (e6.trans e7))
          have hn7 : h1.length < h7.length := Nat.lt_of_lt_of_le hlt (e2.trans e27).le
          have eρ : ρ7 h1.length = D := by rw [(e2.trans e27).ag _ hlt, rho_new]
          dsimp only at w7
          split at w7
          · rename_i ks vs' hq
            obtain ⟨⟨k1, k2, k3⟩, w8⟩ := w7
            obtain ⟨u, kv, xs, q1, du, l1, l2⟩ := S7.ob _ _ hq
            obtain ⟨ps, rfl, R⟩ := leaf_of du l1 l2 k2
            obtain ⟨kq, hkq⟩ := Option.isSome_iff_exists.mp k1
            have ry := Rp.ext e7 _ _ r6
            have hy' := keyOf_rp ry hkq
            subst hy'
            have R1 := R.put hkq ry r7
            rw [eρ] at q1
            have lk : ks.length = ps.length := by have := R.rk.length; rwa [List.length_map] at this
            obtain ⟨S8, e8⟩ := S7.setOb (i := h1.length) (o1 := .dct (dput ks vs' y z).1 (dput ks vs' y z).2) (z := .dK (putK ps kq zv)) hn7 (fun o w e => by rw [eρ, q1] at e; cases e) fun e8 => by
              rw [eρ] at e8 ⊢
              exact ⟨_, _, _, upd_same, .inl ⟨_, rfl, R1.key, rfl, rfl, R1.nd⟩, RpL.ext e8 _ _ R1.rk, RpL.ext e8 _ _ R1.rv⟩
            rw [eρ] at S8 e8
            exact ⟨ps, kq, rfl, q1, by omega, ρ7, _, (e2.trans e27).trans e8, S8, w8⟩
          · exact w7.elim
        | false =>
          rw [if_neg Bool.false_ne_true] at w5 ⊢
          exact ⟨ρ5, h5, e2.trans (e3.trans e5), S5, w5⟩
      · exact w2.elim
    · rename_i hd
      refine .inl ⟨o1 hd, c ρ2 h2 H2 _ _ eAll S2 ?_ w2⟩
      unfold Rp
      exact ⟨Nat.lt_of_lt_of_le hlt e2.le, by rw [e2.ag _ hlt, rho_new]⟩
    · exact w2.elim
section
variable {X : Cx}
theorem se_dc {kx vx tg iter : Expr} {ifs : List Expr} {scope : Scope} {own : List (Str × Nat)} {pos : Pos} {wi : WI} {p : Pat} {tt : WT} {tk tv : WE} (hc : X.calm = true) (hN : X.N.Nodup) (hi : SI X tg iter wi) (ok : BlkOk X.N X.env.scope scope own)
    (hw : p.within (own.map (·.2)) = true)
    (hg : ∀ (s : Shared) (H : Hp) (C : Addr) (cl : List (Str × Addr)) (fp : List Addr), PG (X.blk s H scope (compEnvC scope cl C X.env) fp) tg (hPat X.kw p)) (ht : ∀ (s : Shared) (H : Hp) (C : Addr) (cl : List (Str × Addr)) (fp : List Addr), STs (X.blk s H scope (compEnvC scope cl C X.env) fp) ifs tt)
    (hk : ∀ (s : Shared) (H : Hp) (C : Addr) (cl : List (Str × Addr)) (fp : List Addr), SE (X.blk s H scope (compEnvC scope cl C X.env) fp) kx tk)
    (he : ∀ (s : Shared) (H : Hp) (C : Addr) (cl : List (Str × Addr)) (fp : List Addr), SE (X.blk s H scope (compEnvC scope cl C X.env) fp) vx tv) (hs : ∀ x, foldedSetIterable iter X.env x = pure x) :
    SE X (.DictComp kx vx [⟨tg, iter, ifs, 0⟩] scope pos) (wDcM wi p tt tk tv (own.map (·.2))) :=
  PE.imp (pe_dc (tt := liftT X.kw tt) (tk := liftE X.kw tk) (tv := liftE X.kw tv) hc hN hi ok hg ht hk he hs) fun σ H Q q => dc_lift hw q
theorem ps_setDc {i : Nat} {y : Str} {py : Pos} {kx vx tg iter : Expr} {ifs : List Expr} {scope : Scope} {own : List (Str × Nat)} {pos spos : Pos} {wi : TI} {g : TG} {tt : TT} {tk tv : TE} (hc : X.calm = true) (hN : X.N.Nodup) (hy : X.N[i]? = some y) (hyl : X.env.scope.names.lookup y = some .local)
    (hsw : swapsWith (.DictComp kx vx [⟨tg, iter, ifs, 0⟩] scope pos) (some (.Name y py)) spos.line X.env = pure true) (hi : PI X tg iter wi) (ok : BlkOk X.N X.env.scope scope own)
    (hg : ∀ (s : Shared) (H : Hp) (C : Addr) (cl : List (Str × Addr)) (fp : List Addr), PG (X.blk s H scope (compEnvC scope cl C X.env) fp) tg g) (ht : ∀ (s : Shared) (H : Hp) (C : Addr) (cl : List (Str × Addr)) (fp : List Addr), PTs (X.blk s H scope (compEnvC scope cl C X.env) fp) ifs tt)
    (hk : ∀ (s : Shared) (H : Hp) (C : Addr) (cl : List (Str × Addr)) (fp : List Addr), PE (X.blk s H scope (compEnvC scope cl C X.env) fp) kx tk)
    (he : ∀ (s : Shared) (H : Hp) (C : Addr) (cl : List (Str × Addr)) (fp : List Addr), PE (X.blk s H scope (compEnvC scope cl C X.env) fp) vx tv) (hs : ∀ x, foldedSetIterable iter X.env x = pure x) :
    PS X (.Assign [.Name y py] (.DictComp kx vx [⟨tg, iter, ifs, 0⟩] scope pos) spos) (tAsg (tDc wi g tt tk tv (own.map (·.2))) (L2.gName i)) := by
  refine ⟨fun pins s σ H D I h => ?_⟩
  rw [exec_Assign_Name_used _ _ _ _ hsw]
  refine wpAny_bind (wpAny_standAt (wpAny_bind ?_))
  show wpAny _ X.A (do let _ ← comprehension (.DictComp kx vx [⟨tg, iter, ifs, 0⟩] scope pos) scope X.env (firstIterPos [⟨tg, iter, ifs, 0⟩] pos) newDict false (eval iter X.env) (some (assign (.Name y py) X.env))) _ _ s
  have h : tDc wi g tt tk tv (own.map (·.2)) σ H (fun x H1 => L2.gName i x σ H1 D.nx) := h
  refine wpAny_bind (thn (dc_core (Qf := fun _ s' => SP X pins D .next s') hc hN I hi ok hg ht hk he hs h fun L C s' m H' I' q hn f => ?_) fun _ s' hq => wpAny_pure (wpAny_pure hq))
  show wpAny _ _ (assign (.Name y py) X.env (.ref L)) _ _ _
  refine wpAny_assign_Name (store_ok2 (v := V.ref L) I' hN hy (.inl hyl) rfl (fun s2 I2 ⟨a, sb, ha⟩ => ?_) (.inr hyl))
  obtain ⟨f0, f1, f2, f3, f4, f5⟩ := f
  have haC : C ≠ a := by
    rcases ha with z | z
    · rw [z]; exact f1
    · exact fun e => f4 _ _ z e.symm
  refine ⟨m, hn.sameBut sb haC, fun h3 sb3 => ?_⟩
  exact ⟨_, H', I2.turned (t' := s2.toks) (fun b o hb e => (sb3.2 b hb).trans e) f0 f1 f3 f4 f5, q⟩
theorem ss_setDcM {i : Nat} {y : Str} {py : Pos} {kx vx tg iter : Expr} {ifs : List Expr} {scope : Scope} {own : List (Str × Nat)} {pos spos : Pos} {wi : WI} {p : Pat} {tt : WT} {tk tv : WE} (hc : X.calm = true) (hN : X.N.Nodup) (hy : X.N[i]? = some y) (hyl : X.env.scope.names.lookup y = some .local)
    (hsw : swapsWith (.DictComp kx vx [⟨tg, iter, ifs, 0⟩] scope pos) (some (.Name y py)) spos.line X.env = pure true) (hi : SI X tg iter wi) (ok : BlkOk X.N X.env.scope scope own)
    (hw : p.within (own.map (·.2)) = true)
    (hg : ∀ (s : Shared) (H : Hp) (C : Addr) (cl : List (Str × Addr)) (fp : List Addr), PG (X.blk s H scope (compEnvC scope cl C X.env) fp) tg (hPat X.kw p)) (ht : ∀ (s : Shared) (H : Hp) (C : Addr) (cl : List (Str × Addr)) (fp : List Addr), STs (X.blk s H scope (compEnvC scope cl C X.env) fp) ifs tt)
    (hk : ∀ (s : Shared) (H : Hp) (C : Addr) (cl : List (Str × Addr)) (fp : List Addr), SE (X.blk s H scope (compEnvC scope cl C X.env) fp) kx tk)
    (he : ∀ (s : Shared) (H : Hp) (C : Addr) (cl : List (Str × Addr)) (fp : List Addr), SE (X.blk s H scope (compEnvC scope cl C X.env) fp) vx tv) (hs : ∀ x, foldedSetIterable iter X.env x = pure x) :
    SS X (.Assign [.Name y py] (.DictComp kx vx [⟨tg, iter, ifs, 0⟩] scope pos) spos) (wsAsg (gName i) (wDcM wi p tt tk tv (own.map (·.2)))) := by
  refine PS.imp (ps_setDc (tt := liftT X.kw tt) (tk := liftE X.kw tk) (tv := liftE X.kw tv) hc hN hy hyl hsw hi ok hg ht hk he hs) fun D σ H ⟨ρ, fr, h, M, S, F, w, c1, c2, c3, c4⟩ => ?_
  exact dc_lift hw ⟨ρ, fr, h, _, S, F, w, fun ρ1 h1 H1 d v e1 S1 r1 w1 => c1 ρ1 h1 H1 _ _ e1 S1 ((F.ext e1).set r1) w1⟩
/-- what a name is given is forgotten but for its value -/
theorem ss_gcName {e : Expr} {y : Str} {py spos : Pos} {i : Nat} {w : WE} {t : TE} (h : PS X (.Assign [.Name y py] e spos) (tAsg t (L2.gName i))) (l : ∀ σ H Q, liftE X.kw w σ H Q → t σ H Q) : SS X (.Assign [.Name y py] e spos) (wsAsg (gName i) (wGc w)) := by
  refine PS.imp h fun D σ H ⟨ρ, fr, h, M, S, F, w, c1, c2, c3, c4⟩ => ?_
  exact l _ _ _ ⟨ρ, fr, h, _, S, F, w, fun ρ1 h1 H1 d v e1 S1 r1 w1 => gc_ok (P := fun d h1 => M.nx (fr.set i (some d)) h1) (Q := fun v H' => D.nx (σ.set i (some v)) H') S e1 S1 r1 w1 fun ρ2 h2 H2 d2 v2 e2 S2 r2 w2 => c1 ρ2 h2 H2 _ _ e2 S2 ((F.ext e2).set r2) w2⟩
end
end MP

namespace MP
open PySem PySem.Spec PyProof.Rows L2
/-! ### instances -/
/-- the text's class: its name, its attributes in the order in which they are stored -/
structure ClsT (K : PySem.W.Frag) (c : Str) (ns : List Str) : Prop where
  ex : ∃ C, PySem.W.nsIn K mainGlobals c = some (some (.ref C)) ∧ Cls K C ∧ ∀ f ∈ ns, NoAttr K C f
  nd : ns.Nodup
  few : ns.length < 1000
theorem lookup_ix {α : Type} {f : Str} {v : α} : ∀ {fs : List (Str × α)} {i : Nat}, (fs.map (·.1)).Nodup → fs[i]? = some (f, v) → fs.lookup f = some v
  | [], _, _, h => by simp at h
  | (g, u) :: fs, 0, nd, h => by
    simp only [List.getElem?_cons_zero, Option.some.injEq, Prod.mk.injEq] at h
    obtain ⟨rfl, rfl⟩ := h
    simp [List.lookup_cons]
  | (g, u) :: fs, i + 1, nd, h => by
    simp only [List.getElem?_cons_succ] at h
    simp only [List.map_cons, List.nodup_cons] at nd
    have hm : f ∈ fs.map (·.1) := List.mem_map.mpr ⟨(f, v), List.mem_of_getElem? h, rfl⟩
    have hne : (f == g) = false := by
      rw [beq_eq_false_iff_ne]
      intro e
      subst e
      exact nd.1 hm
    rw [List.lookup_cons, hne]
    exact lookup_ix nd.2 h
theorem lookup_no {α : Type} {f : Str} : ∀ {fs : List (Str × α)}, f ∉ fs.map (·.1) → fs.lookup f = none
  | [], _ => rfl
  | (g, u) :: fs, h => by
    simp only [List.map_cons, List.mem_cons, not_or] at h
    have hne : (f == g) = false := by rw [beq_eq_false_iff_ne]; exact h.1
    rw [List.lookup_cons, hne]
    exact lookup_no h.2
theorem putF_set {f : Str} {y : V} : ∀ {fs : List (Str × V)} {i : Nat} {u : V}, (fs.map (·.1)).Nodup → fs[i]? = some (f, u) → putF f y fs = fs.set i (f, y)
  | [], _, _, _, h => by simp at h
  | (g, z) :: fs, 0, u, nd, h => by
    simp only [List.getElem?_cons_zero, Option.some.injEq, Prod.mk.injEq] at h
    obtain ⟨rfl, rfl⟩ := h
    simp [putF]
  | (g, z) :: fs, i + 1, u, nd, h => by
    simp only [List.getElem?_cons_succ] at h
    simp only [List.map_cons, List.nodup_cons] at nd
    have hm : f ∈ fs.map (·.1) := List.mem_map.mpr ⟨(f, u), List.mem_of_getElem? h, rfl⟩
    have hne : ¬ g = f := by
      intro e
      subst e
      exact nd.1 hm
    unfold putF
    rw [if_neg hne, putF_set nd.2 h]
    rfl
theorem putF_new {f : Str} {y : V} : ∀ {fs : List (Str × V)}, f ∉ fs.map (·.1) → putF f y fs = fs ++ [(f, y)]
  | [], _ => rfl
  | (g, z) :: fs, h => by
    simp only [List.map_cons, List.mem_cons, not_or] at h
    unfold putF
    rw [if_neg (fun e => h.1 e.symm), putF_new h.2]
    rfl
/-- d is an instance of c -/
def insP (c : Str) (ns : List Str) (h : Hq) (d : D) : Prop := match d with
  | .ref n => match h[n]? with
    | some (.ins c' ns' ds) => c' = c ∧ ns' = ns.take ds.length
    | _ => False
  | _ => False
/-- o.f -/
def gFld (c : Str) (ns : List Str) (i : Nat) : W1 := fun d h P => match d with
  | .ref n => match h[n]? with
    | some (.ins c' ns' ds) => (c' = c ∧ ns' = ns.take ds.length) ∧ (match ds[i]? with
      | some x => P x h
      | none => False)
    | _ => False
  | _ => False
def putI (ds : List D) (i : Nat) (d : D) : List D := if i < ds.length then ds.set i d else ds ++ [d]
/-- o.f = value -/
def gFldSet (c : Str) (ns : List Str) (i : Nat) : D → D → Hq → (Hq → Prop) → Prop := fun o d h P => match o with
  | .ref n => match h[n]? with
    | some (.ins c' ns' ds) => (c' = c ∧ ns' = ns.take ds.length ∧ i ≤ ds.length) ∧ P (h.set n (.ins c (ns.take (putI ds i d).length) (putI ds i d)))
    | _ => False
  | _ => False
def wsFld (c : Str) (ns : List Str) (i : Nat) (we wo : WE) : WS := fun M fr h => we fr h fun d h1 => wo fr h1 fun o h2 => gFldSet c ns i o d h2 fun h3 => M.nx fr h3
theorem ins_ok {K : KW} {ρ h H n c c' ns ns' ds} (T : ClsT K.1 c ns) (S : Sim K ρ h H) (e : h[n]? = some (.ins c' ns' ds)) (hc : c' = c) (hn : ns' = ns.take ds.length) : ∃ C dx fs, PySem.W.nsIn K.1 mainGlobals c = some (some (.ref C)) ∧ H (ρ n) = some (.ins C dx fs) ∧
    Cls K.1 C ∧ (∀ f ∈ ns, NoAttr K.1 C f) ∧ fs.map (·.1) = ns.take ds.length ∧ RpL K H ρ h.length ds (fs.map (·.2)) ∧ fs.length = ds.length ∧ (fs.map (·.1)).Nodup := by
  obtain ⟨C, dx, fs, h1, h2, h3, h4⟩ := S.ob n _ e
  obtain ⟨C', g1, g2, g3⟩ := T.ex
  subst hc
  rw [g1] at h1
  obtain rfl : C' = C := Value.ref.inj (Option.some.inj (Option.some.inj h1))
  have hl := h4.length
  rw [List.length_map] at hl
  rw [hn] at h3
  exact ⟨C', dx, fs, g1, h2, g2, g3, h3, h4, hl.symm, by rw [h3]; exact T.nd.sublist (List.take_sublist _ _)⟩
section
variable {X : Cx} {pos : Pos}
theorem se_fld {e : Expr} {we : WE} {c : Str} {ns : List Str} {i : Nat} {f : Str} (T : ClsT X.K c ns) (hf : ns[i]? = some f) (he : SE X e we) (hb : attributeBase e f X.env (eval e X.env) = eval e X.env) : SE X (.Attribute e f pos) (wUn (gFld c ns i) we) := by
  refine PE.imp (pe_fld he hb) fun σ H Q ⟨ρ, fr, h, P, S, F, w, cl⟩ => ⟨ρ, fr, h, _, S, F, w, fun ρ1 h1 H1 d v e1 S1 r1 w1 => ?_⟩
  unfold gFld at w1
  split at w1
  · rename_i n
    split at w1
    · rename_i c' ns' ds hn
      obtain ⟨⟨rfl, q2⟩, w2⟩ := w1
      split at w2
      · rename_i x hx
        obtain ⟨C, dx, fs, g1, g2, g3, g4, g5, g6, g7, g8⟩ := ins_ok (K := X.kw) T S1 hn rfl q2
        obtain ⟨_, rfl⟩ := rp_ref r1
        obtain ⟨y, hy, ry⟩ := g6.get hx
        rw [List.getElem?_map, Option.map_eq_some_iff] at hy
        obtain ⟨⟨f', y'⟩, hy, rfl⟩ := hy
        have hlt : i < ds.length := (List.getElem?_eq_some_iff.mp hx).1
        have hf' : f' = f := by
          have h3 : (fs.map (·.1))[i]? = some f' := by rw [List.getElem?_map, hy]; rfl
          rw [g5, List.getElem?_take_of_lt hlt, hf] at h3
          exact (Option.some.inj h3).symm
        subst hf'
        exact ⟨ρ1 n, C, dx, fs, y', rfl, g2, g3, g4 _ (List.mem_of_getElem? hf), lookup_ix g8 hy, cl ρ1 h1 H1 _ _ e1 S1 ry w2⟩
      · exact w2.elim
    · exact w1.elim
  · exact w1.elim
theorem ss_fld {o value : Expr} {wo we : WE} {c : Str} {ns : List Str} {i : Nat} {f : Str} {pos' : Pos} (T : ClsT X.K c ns) (hf : ns[i]? = some f) (ho : SE X o wo) (hv : SE X value we) (hs : swapsWith value (some (.Attribute o f pos')) pos.line X.env = pure false) :
    SS X (.Assign [.Attribute o f pos'] value pos) (wsFld c ns i we wo) := by
  refine PS.imp (ps_fld ho hv hs) fun D σ H ⟨ρ, fr, h, M, S, F, w, c1, c2, c3, c4⟩ => ⟨ρ, fr, h, _, S, F, w, fun ρ1 h1 H1 d v e1 S1 r1 w1 => ⟨ρ1, fr, h1, _, S1, F.ext e1, w1, fun ρ2 h2 H2 od ov e2 S2 r2 w2 => ?_⟩⟩
  unfold gFldSet at w2
  split at w2
  · rename_i n
    split at w2
    · rename_i c' ns' ds hn
      obtain ⟨⟨rfl, q2, q3⟩, w3⟩ := w2
      obtain ⟨C, dx, fs, g1, g2, g3, g4, g5, g6, g7, g8⟩ := ins_ok (K := X.kw) T S2 hn rfl q2
      obtain ⟨_, rfl⟩ := rp_ref r2
      have rd := Rp.ext e2 _ _ r1
      have hfew := T.few
      have hile : i < ns.length := (List.getElem?_eq_some_iff.mp hf).1
      have hle : fs.length ≤ ns.length := by
        have := congrArg List.length g5
        rw [List.length_map, List.length_take] at this
        omega
      refine ⟨ρ2 n, C, dx, fs, rfl, g2, g3, g4 _ (List.mem_of_getElem? hf), by omega, ?_⟩
      have key : (putF f v fs).map (·.1) = ns.take (putI ds i d).length ∧ RpL X.kw H2 ρ2 h2.length (putI ds i d) ((putF f v fs).map (·.2)) := by
        unfold putI
        by_cases hlt : i < ds.length
        · rw [if_pos hlt, List.length_set]
          have hi : i < fs.length := by omega
          have hfi : fs[i]? = some (f, (fs[i]).2) := by
            rw [List.getElem?_eq_getElem hi]
            have h3 : (fs.map (·.1))[i]? = some (fs[i]).1 := by rw [List.getElem?_map, List.getElem?_eq_getElem hi]; rfl
            rw [g5, List.getElem?_take_of_lt hlt, hf] at h3
            rw [Option.some.inj h3]
          rw [putF_set g8 hfi]
          refine ⟨?_, ?_⟩
          · rw [map_set_same (f := fun p : Str × V => p.1) (y := (f, v)) hfi rfl, g5]
          · rw [List.map_set]
            exact RpL.set i g6 rd
        · rw [if_neg hlt, List.length_append]
          have hi : i = ds.length := by omega
          have hno : f ∉ fs.map (·.1) := by
            rw [g5, ← hi]
            intro hm
            obtain ⟨j, hj, ej⟩ := List.mem_take_iff_getElem.mp hm
            have hf2 := List.getElem?_eq_some_iff.mp hf
            have := (List.getElem_inj (h₀ := by omega) (h₁ := hile) T.nd).mp (ej.trans hf2.2.symm)
            omega
          rw [putF_new hno]
          refine ⟨?_, ?_⟩
          · rw [List.map_append, g5, ← hi]
            show ns.take i ++ [f] = ns.take (i + 1)
            rw [List.take_add_one, hf]; rfl
          · rw [List.map_append]
            exact RpL.app g6 (RpL.cons rd RpL.nil)
      have hlt2 : n < h2.length := get_lt hn
      obtain ⟨S3, e3⟩ := S2.setOb (o1 := .ins c' (ns.take (putI ds i d).length) (putI ds i d)) (z := .ins C dx (putF f v fs)) hlt2 (fun o z e => by rw [g2] at e; cases e) fun e3 => ⟨C, dx, _, g1, upd_same, key.1, RpL.ext e3 _ _ key.2⟩
      exact c1 ρ2 _ _ _ _ (e1.trans (e2.trans e3)) S3 (F.ext (e1.trans (e2.trans e3))) w3
    · exact w2.elim
  · exact w2.elim
end
/-! ### methods and making -/
/-- a method that keeps the contract g (of self and the arguments) -/
structure ME (P : Program) (w : World) (K : PySem.W.Frag) (mg : Str → Option Value) (base : Heap) (k : Nat) (c m : Str) (g : WL) : Prop where
  ex : ∃ C f fd ps, PySem.W.nsIn K mainGlobals c = some (some (.ref C)) ∧ Cls K C ∧ Meth K C m f ∧ Binds K fd ps [] ∧ FnOk P w K mg base CX0 k f fd ps (liftF (K, w) g)
theorem ME.mono {P w K mg base j k c m g} (F : ME P w K mg base j c m g) (h : j ≤ k) : ME P w K mg base k c m g := by
  obtain ⟨C, f, fd, ps, a, b, c, d, e⟩ := F.ex
  exact ⟨C, f, fd, ps, a, b, c, d, e.mono h⟩
/-- a class whose __init__ keeps the contract g; k: one more than __init__'s -/
structure KE (P : Program) (w : World) (K : PySem.W.Frag) (mg : Str → Option Value) (base : Heap) (k : Nat) (c : Str) (g : WL) : Prop where
  ex : ∃ C f fd ps j, k = j + 1 ∧ mg c = some (.ref C) ∧ PySem.W.nsIn K mainGlobals c = some (some (.ref C)) ∧ Mk K C f ∧ Binds K fd ps [] ∧ FnOk P w K mg base CX0 j f fd ps (liftF (K, w) g)
theorem KE.mono {P w K mg base j k c g} (F : KE P w K mg base j c g) (h : j ≤ k) : KE P w K mg base k c g := by
  obtain ⟨C, f, fd, ps, i, rfl, b, c, d, e, z⟩ := F.ex
  exact ⟨C, f, fd, ps, k - 1, by omega, b, c, d, e, z.mono (by omega)⟩
def wMt (c : Str) (ns : List Str) (g : WL) (o : WE) (a : WA) : WE := fun fr h P => o fr h fun d h1 => insP c ns h1 d ∧ a fr h1 fun ds h2 => g (d :: ds) h2 P
def wMk (c : Str) (g : WL) (a : WA) : WE := fun fr h P => a fr h fun ds h1 => g (.ref h1.length :: ds) (h1 ++ [.ins c [] []]) fun d h2 => d = .non ∧ P (.ref h1.length) h2
section
variable {X : Cx} {pos : Pos}
theorem meth_lift {K : KW} {c : Str} {ns : List Str} {m : Str} {g : WL} {wo : WE} {wa : WA} {C : Addr} (T : ClsT K.1 c ns) (hm : m ∉ ns) (hC : PySem.W.nsIn K.1 mainGlobals c = some (some (.ref C))) {E : XK} {σ H Q} (q : liftE K (wMt c ns g wo wa) σ H Q) :
    tMeth C m (liftF K g) [] E (liftE K wo) (liftA K wa) σ H Q := by
  obtain ⟨ρ, fr, h, P, S, F, w, cl⟩ := q
  refine ⟨ρ, fr, h, _, S, F, w, fun ρ1 h1 H1 d v e1 S1 r1 ⟨w1, w2⟩ => ?_⟩
  unfold insP at w1
  split at w1
  · rename_i n
    split at w1
    · rename_i c' ns' ds hn
      obtain ⟨rfl, q2⟩ := w1
      obtain ⟨C', dx, fs, g1, g2, g3, g4, g5, g6, g7, g8⟩ := ins_ok T S1 hn rfl q2
      rw [hC] at g1
      obtain rfl : C = C' := Value.ref.inj (Option.some.inj (Option.some.inj g1))
      obtain ⟨_, rfl⟩ := rp_ref r1
      refine ⟨_, dx, fs, rfl, g2, lookup_no (by rw [g5]; exact fun hh => hm (List.mem_of_mem_take hh)), ρ1, fr, h1, _, S1, F.ext e1, w2, fun ρ2 h2 H2 ds2 xs2 e2 S2 r2 w3 => ?_⟩
      show liftL K g (_ :: (xs2 ++ [])) H2 Q
      rw [List.append_nil]
      exact ⟨ρ2, h2, _, P, S2, RpL.cons (Rp.ext e2 _ _ r1) r2, w3, cl.step (e1.trans e2)⟩
    · exact w1.elim
  · exact w1.elim
theorem se_meth {k : Nat} {c m : Str} {ns : List Str} {g : WL} {o e : Expr} {es : List Expr} {wo : WE} {a : WA} {apos cpos : Pos} (T : ClsT X.K c ns) (F : ME X.prog X.w X.K X.mg X.base k c m g) (hr : Room k X.A) (hm : m ∉ ns) (ho : SE X o wo) (ha : SA X (e :: es) a)
    (he : starEach (e :: es) X.env = (false, eval e X.env) :: starEach es X.env) (hpl : (backTo cpos (starEach es X.env)).any (·.1) = false) {pl : Sem Bool}
    (ht : eval (.Call (.Attribute o m apos) (e :: es) [] cpos) X.env = (do
      let ov ← eval o X.env
      standAt apos.atName
      let (f, first) ← holding [ov] (getMethod ov m pl)
      callWith cpos f first (backTo cpos (starEach (e :: es) X.env)) (backToKw cpos (keywordEach [] X.env)))) : SE X (.Call (.Attribute o m apos) (e :: es) [] cpos) (wMt c ns g wo a) := by
  obtain ⟨C, f, fd, ps, hC, cl, M, hb, hF⟩ := F.ex
  exact PE.imp (pe_meth (pl := pl) ho cl M hF hr hb .nil pass0 ha he hpl ht) fun σ H Q q => meth_lift (K := X.kw) T hm hC q
theorem se_meth0 {k : Nat} {c m : Str} {ns : List Str} {g : WL} {o : Expr} {wo : WE} {apos cpos : Pos} (T : ClsT X.K c ns) (F : ME X.prog X.w X.K X.mg X.base k c m g) (hr : Room k X.A) (hm : m ∉ ns) (ho : SE X o wo) {pl : Sem Bool}
    (ht : eval (.Call (.Attribute o m apos) [] [] cpos) X.env = (do
      let ov ← eval o X.env
      standAt apos.atName
      let (f, first) ← holding [ov] (getMethod ov m pl)
      callWith cpos f first (backTo cpos (starEach [] X.env)) (backToKw cpos (keywordEach [] X.env)))) : SE X (.Call (.Attribute o m apos) [] [] cpos) (wMt c ns g wo waNil) := by
  obtain ⟨C, f, fd, ps, hC, cl, M, hb, hF⟩ := F.ex
  refine PE.imp (pe_meth0 (pl := pl) ho cl M hF hr hb .nil pass0 ht) fun σ H Q q => ?_
  obtain ⟨ρ, fr, h, P, S, F, w, c'⟩ := meth_lift (K := X.kw) (E := fun _ _ _ => False) T hm hC q
  refine ⟨ρ, fr, h, _, S, F, w, fun ρ1 h1 H1 d v e1 S1 r1 w1 => ?_⟩
  obtain ⟨a, dx, fs, q1, q2, q3, q4⟩ := c' ρ1 h1 H1 d v e1 S1 r1 w1
  refine ⟨a, dx, fs, q1, q2, q3, ?_⟩
  obtain ⟨ρ2, fr2, h2, P2, S2, F2, w2, c2⟩ := q4
  exact c2 ρ2 h2 _ [] [] .refl S2 RpL.nil w2
theorem se_make {k : Nat} {c : Str} {g : WL} {e : Expr} {es : List Expr} {p : Pos} {a : WA} (F : KE X.prog X.w X.K X.mg X.base k c g) (hr : Room k X.A) (hg : Gl X c) (ha : SA X (e :: es) a)
    (hdb : (c == ("__debug__" : Str)) = false) (he : starEach (e :: es) X.env = (false, eval e X.env) :: starEach es X.env) (hpl : (backTo pos (starEach es X.env)).any (·.1) = false) : SE X (.Call (.Name c p) (e :: es) [] pos) (wMk c g a) := by
  obtain ⟨C, f, fd, ps, j, rfl, hmg, hC, M, hb, hF⟩ := F.ex
  refine PE.imp (pe_make M hF hr hg hmg hb .nil pass0 ha hdb he hpl) fun σ H Q ⟨ρ, fr, h, P, S, F, w, cl⟩ => ⟨ρ, fr, h, _, S, F, w, fun ρ1 h1 H1 ds xs e1 S1 r1 w1 x dx hx hdx hne => ?_⟩
  have S2 := S1.new (p := dx) (z := .own x) hdx
  have e2 : Ext X.kw ρ1 h1.length H1 ρ1 h1.length (upd H1 dx (.own x)) := Ext.new hdx
  have hx2 : (upd H1 dx (.own x)) x = none := by rw [upd_ne (fun e => hne e.symm)]; exact hx
  have e3 : Ext X.kw ρ1 h1.length (upd H1 dx (.own x)) (rho ρ1 h1.length x) (h1 ++ [Ob.ins c [] []]).length (upd (upd H1 dx (.own x)) x (.ins C dx [])) := by
    rw [List.length_append]; exact Ext.newOb hx2
  have S3 := S2.newOb (p := x) (z := .ins C dx []) (o0 := .ins c [] []) hx2 ⟨C, dx, [], hC, upd_same, rfl, RpL.nil⟩
  have hlt : h1.length < (h1 ++ [Ob.ins c [] []]).length := by simp
  have rx : Rp X.kw (upd (upd H1 dx (.own x)) x (.ins C dx [])) (rho ρ1 h1.length x) (h1 ++ [Ob.ins c [] []]).length (.ref h1.length) (.ref x) := by
    have := of_ref (K := X.kw) (H := upd (upd H1 dx (.own x)) x (.ins C dx [])) (ρ := rho ρ1 h1.length x) hlt
    rw [rho_new] at this
    exact this
  show liftL X.kw g (.ref x :: (xs ++ [])) _ _
  rw [List.append_nil]
  refine ⟨_, _, _, _, S3, RpL.cons rx (RpL.ext (e2.trans e3) _ _ r1), w1, fun ρ4 h4 H4 d v e4 S4 r4 ⟨ed, p4⟩ => ?_⟩
  subst ed
  refine ⟨rp_non r4, cl ρ4 h4 H4 _ _ (e1.trans (e2.trans (e3.trans e4))) S4 (Rp.ext e4 _ _ rx) p4⟩
end
theorem meth_ht {o : Expr} {m : Str} {apos cpos : Pos} {es : List Expr} {env : Env} (hb : attributeBase o m env (eval o env) = eval o env) (hl : (apos.endLine == cpos.line) = true)
    (hf : methodCallForm (es.length + ([] : List Keyword).length) (backTo cpos (starEach es env)) (backToKw cpos (keywordEach [] env)) = true) : eval (.Call (.Attribute o m apos) es [] cpos) env = (do
      let ov ← eval o env
      standAt apos.atName
      let (f, first) ← holding [ov] (getMethod ov m (do return (← importBound o env).getD true))
      callWith cpos f first (backTo cpos (starEach es env)) (backToKw cpos (keywordEach [] env))) := by
  rw [arm_eval_Call, hb]
  have hpos : methodCallPos true o env apos cpos = pure cpos := by unfold methodCallPos; simp [hl]
  unfold methodCall
  rw [hf, hpos]
  rfl
/-- str(x) of a whole number -/
def decI (i : Int) : List Nat := (toString i : Str).cps.toList
def bStr : WL := fun ds h P => match ds with
  | [.int i] => (i.natAbs.log2 < 1920 ∧ StrOk (decI i)) ∧ P (.str (decI i)) h
  | [.str s] => P (.str s) h
  | _ => False
theorem cg_str {X : Cx} : CallR X (.type "str") (liftL X.kw bStr) := by
  intro pins s σ H xs us Q I rx ⟨ρ, h, ds, P, S, r, w, c⟩
  unfold bStr at w
  split at w
  · rename_i i
    obtain ⟨v, rfl, rv⟩ := rpl1 r
    obtain rfl := rp_int rv
    obtain ⟨⟨w1, w2⟩, w3⟩ := w
    refine call_str_int pins s σ H _ us Q I rx ⟨i, rfl, w1, ?_⟩
    have e : (toString i : Str) = mkS (decI i) := by
      unfold decI mkS
      simp
    rw [e]
    exact c ρ h H _ _ .refl S (of_str w2) w3
  · rename_i t
    obtain ⟨v, rfl, rv⟩ := rpl1 r
    obtain ⟨rfl, o⟩ := rp_str rv
    exact SkE.call_str_str pins s σ H _ us Q I rx ⟨_, rfl, c ρ h H _ _ .refl S (of_str o) w⟩
  · exact w.elim
end MP

namespace MP
open PySem PySem.Spec PyProof.Rows L2
/-! ### dicts against the empty dict -/
section
variable {prog : Program} {w : World} {A : Around} {E : Value → Shared → Prop} {s : Shared}
theorem same_raw0 {nm : String} {a b : Addr} {oa ob : Obj} {es es' : Array DictEntry} {ep ep' : Nat} {Q : Bool → Shared → Prop} (ha : (a == sysModules) = false) (hb : (b == sysModules) = false)
    (hoa : s.heap.get? a = some oa) (hda : oa.data = .dict es ep) (hob : s.heap.get? b = some ob) (hdb : ob.data = .dict es' ep') (h0 : es'.size = 0) (h : Q (es.size == 0) s) :
    wpAny (model prog w) A (Builtin.Dict.samePairs nm a b) Q E s := by
  unfold Builtin.Dict.samePairs Builtin.Dict.showsAll
  rw [if_neg (show ¬ (a == sysModules) = true by rw [ha]; exact Bool.false_ne_true), if_neg (show ¬ (b == sysModules) = true by rw [hb]; exact Bool.false_ne_true)]
  refine wpAny_bind (wpAny_pure (wpAny_bind (wpAny_pure ?_)))
  refine wpAny_bind (wpAny_dictEntries hoa hda ?_)
  dsimp only
  refine wpAny_bind (wpAny_dictEntries hob hdb ?_)
  by_cases hsz : es.size = es'.size
  case neg =>
    rw [if_pos (by simpa using hsz)]
    have hbf : (es.size == 0) = false := by rw [h0] at hsz; simpa using hsz
    rw [hbf] at h
    exact wpAny_bind (wpAny_rule (wpAny_pure h))
  case pos =>
    have hz : es.size = 0 := by omega
    have h' : Q true s := by rw [hz] at h; exact h
    rw [if_neg (by rw [hsz]; simp)]
    refine wpAny_bind (wpAny_dictEpoch hoa hda ?_)
    refine wpAny_bind ?_
    rw [Std.Legacy.Range.forIn_eq_forIn_range']
    simp only [Std.Legacy.Range.size, Nat.sub_zero, Nat.add_sub_cancel, Nat.div_one, hz, List.range'_zero]
    exact wpAny_pure (wpAny_pure h')
end

/-- == of data; a dict against the empty dict -/
def gEqU (neg : Bool) : W2 := fun d e h P => match e with
  | .dct [] [] => (match dctOf h d with
    | some (ks, _) => P (.bl (xor neg ks.isEmpty)) h
    | none => gEqN neg d e h P)
  | e => gEqN neg d e h P
section
variable {X : Cx}
theorem raw_eq0 {prog : Program} {w : World} {A : Around} {E : Value → Shared → Prop} {s : Shared} {a b : Addr} {oa ob : Obj} {es es' : Array DictEntry} {ep ep' : Nat} {Q : Value → Shared → Prop} (hu : A.units < cLine) (t1 : s.TypeIs (.ref a) "dict") (t2 : s.TypeIs (.ref b) "dict") (ha : (a == sysModules) = false) (hb : (b == sysModules) = false)
    (hoa : s.heap.get? a = some oa) (hda : oa.data = .dict es ep) (hob : s.heap.get? b = some ob) (hdb : ob.data = .dict es' ep') (h0 : es'.size = 0) (neg : Bool) (h : Q (.bool (xor neg (es.size == 0))) s) :
    wpAny (model prog w) A (compareOp (if neg = true then .NotEq else .Eq) (.ref a) (.ref b)) Q E s := by
  cases neg with
  | false =>
    rw [if_neg Bool.false_ne_true]
    refine wpAny_richCompare_same_room (op := .Eq) t1 t2 PySem.F.slot_dict_eq (wpAny_call_entry PySem.F.slot_dict_eq t1 PySem.F.entry_dict_eq ?_ (PySem.F.args_dict_eq_2 _ _)) hu
    show wpAny _ _ (Builtin.Dict.dictSlotArgs "__eq__" ⟨[.ref a, .ref b], []⟩ >>= _) _ _ s
    refine wpAny_bind ?_
    unfold Builtin.Dict.dictSlotArgs
    refine wpAny_bind (wpAny_notOrdered_dict t1 ?_)
    show wpAny _ _ (pure (Value.ref a, Value.ref b)) _ _ s
    refine wpAny_pure ?_
    refine wpAny_bind (wpAny_isInstance (T := "dict") t2 PySem.F.sub_dict_dict ?_)
    simp only [Bool.not_true, Bool.false_eq_true, if_false]
    refine wpAny_bind (wpAny_pure (wpAny_bind (wpAny_pure ?_)))
    refine wpAny_bind (same_raw0 ha hb hoa hda hob hdb h0 ?_)
    refine wpAny_pure ⟨_, rfl, ?_, ?_⟩
    · exact fun x => nomatch x
    · simpa using h
  | true =>
    rw [if_pos rfl]
    refine wpAny_richCompare_same_room (op := .NotEq) t1 t2 PySem.F.slot_dict_ne (wpAny_call_entry PySem.F.slot_dict_ne t1 PySem.F.entry_dict_ne ?_ (PySem.F.args_dict_ne_2 _ _)) hu
    show wpAny _ _ (Builtin.Dict.dictSlotArgs "__ne__" ⟨[.ref a, .ref b], []⟩ >>= _) _ _ s
    refine wpAny_bind ?_
    unfold Builtin.Dict.dictSlotArgs
    refine wpAny_bind (wpAny_notOrdered_dict t1 ?_)
    show wpAny _ _ (pure (Value.ref a, Value.ref b)) _ _ s
    refine wpAny_pure ?_
    refine wpAny_bind (wpAny_isInstance (T := "dict") t2 PySem.F.sub_dict_dict ?_)
    simp only [Bool.not_true, Bool.false_eq_true, if_false]
    refine wpAny_bind (wpAny_pure (wpAny_bind (wpAny_pure ?_)))
    refine wpAny_bind (same_raw0 ha hb hoa hda hob hdb h0 ?_)
    refine wpAny_pure ⟨_, rfl, ?_, ?_⟩
    · exact fun x => nomatch x
    · simpa using h
theorem eq0_ok {neg : Bool} (hu : X.A.units + 65 < cLine) {pins : List (Addr × Obj)} {σ : L2.St} {H : Hp} {s : Shared} {a b : Addr} {u u2 : HO} {ks : List D} {kv xs kv2 xs2 : List V} (I : Inv X pins σ H s)
    (rd : Rd H a u) (du : dctU X.w a u ks kv xs) (rd2 : Rd H b u2) (du2 : dctU X.w b u2 [] kv2 xs2) (hl : ks.length = kv.length) (hl2 : kv2.length = 0) {Q : VK} (q : Q (.bl (xor neg ks.isEmpty)) H) :
    wpAny (model X.prog X.w) X.A (compareOp (if neg = true then .NotEq else .Eq) (.ref a) (.ref b)) (EP X pins σ Q) X.xe s := by
  obtain ⟨oa, es, ep, R⟩ := raw_of I rd du
  obtain ⟨ob, es', ep', R'⟩ := raw_of I rd2 du2
  refine raw_eq0 (by omega) ⟨oa, R.get, R.exact_.1⟩ ⟨ob, R'.get, R'.exact_.1⟩ R.sys R'.sys R.get R.data R'.get R'.data (by rw [R'.size, hl2]) neg ?_
  refine ⟨.bl (xor neg ks.isEmpty), H, I, ?_, q⟩
  show _ = _
  rw [R.size, ← hl]
  cases ks <;> rfl
theorem og_eqN (hu : X.A.units + 65 < cLine) (neg : Bool) : OpR X (compareOp (if neg = true then .NotEq else .Eq)) (lift2 X.kw (gEqU neg)) := by
  intro pins s σ H x y v u Q I rx ry ⟨ρ, h, d, e, P, S, r1, r2, w, c⟩
  have old : gEqN neg d e h P → wpAny (model X.prog X.w) X.A (compareOp (if neg = true then .NotEq else .Eq) v u) (EP X pins σ Q) X.xe s := fun w => by
    cases neg with
    | false => exact og_eq (by omega) pins s σ H x y v u Q I rx ry ⟨ρ, h, d, e, P, S, r1, r2, w, c⟩
    | true => exact og_ne (by omega) pins s σ H x y v u Q I rx ry ⟨ρ, h, d, e, P, S, r1, r2, w, c⟩
  unfold gEqU at w
  split at w
  · split at w
    · rename_i ks vs q
      obtain ⟨a, u1, kv, xs, rfl, rd, du, l1, l2⟩ := dct_ok S r1 q
      obtain ⟨b, u2, kv2, xs2, rfl, _, rd2, du2, l3, l4⟩ := rp_dct r2
      cases rx
      cases ry
      exact eq0_ok hu I rd du rd2 du2 l1.length l3.length.symm (c ρ h H _ _ .refl S of_bl w)
    · exact old w
  · exact old w
theorem og_eqU (hu : X.A.units + 65 < cLine) : OpR X (compareOp .Eq) (lift2 X.kw (gEqU false)) := og_eqN hu false
theorem og_neU (hu : X.A.units + 65 < cLine) : OpR X (compareOp .NotEq) (lift2 X.kw (gEqU true)) := og_eqN hu true
end
end MP

namespace MP
open PySem PySem.Spec PyProof.Rows L2
/-! ### d.update(e) -/
def dmerge : List D → List D → List D → List D → List D × List D
  | ks, vs, k :: ks2, v :: vs2 => dmerge (dput ks vs k v).1 (dput ks vs k v).2 ks2 vs2
  | ks, vs, _, _ => (ks, vs)
section
variable {K : KW} {H : Hp} {ρ : Nat → Addr} {n : Nat}
theorem LeafR.merge : ∀ {ks2 vs2 : List D} {ps2 : List (Key × V)} {ks vs : List D} {ps : List (Key × V)}, LeafR K H ρ n ks vs ps → ks2.map keyOf = ps2.map (fun p => some p.1) → RpL K H ρ n ks2 (ps2.map fun p => kV p.1) → RpL K H ρ n vs2 (ps2.map (·.2)) →
    LeafR K H ρ n (dmerge ks vs ks2 vs2).1 (dmerge ks vs ks2 vs2).2 (ps2.foldl (fun acc p => putK acc p.1 p.2) ps)
  | [], _, [], _, _, _, R, _, _, _ => by unfold dmerge; exact R
  | [], _, _ :: _, _, _, _, _, e, _, _ => by simp at e
  | _ :: _, _, [], _, _, _, _, e, _, _ => by simp at e
  | k :: ks2, vs2, p :: ps2, ks, vs, ps, R, e, rk, rv => by
    simp only [List.map_cons, List.cons.injEq] at e
    obtain ⟨x, xs, hx, r1, r2⟩ := rk.cons_inv
    simp only [List.map_cons, List.cons.injEq] at hx
    obtain ⟨rfl, rfl⟩ := hx
    cases vs2 with
    | nil =>
      have := rv.nil_inv
      simp at this
    | cons v vs2 =>
      obtain ⟨y, ys, hy, r3, r4⟩ := rv.cons_inv
      simp only [List.map_cons, List.cons.injEq] at hy
      obtain ⟨rfl, rfl⟩ := hy
      show LeafR K H ρ n (dmerge (dput ks vs k v).1 (dput ks vs k v).2 ks2 vs2).1 (dmerge (dput ks vs k v).1 (dput ks vs k v).2 ks2 vs2).2 (ps2.foldl (fun acc p => putK acc p.1 p.2) (putK ps p.1 p.2))
      exact LeafR.merge (R.put e.1 r1 r3) e.2 r2 r4
theorem NestR.merge : ∀ {ks2 vs2 : List D} {more : List (NestedKey × Addr × Value)} {ks vs : List D} {nks : List (NestedKey × Addr × Value)} {xs2 : List V}, NestR K H ρ n ks vs nks → ks2.map nkOf = more.map (fun p => some p.1) → RpL K H ρ n ks2 (more.map fun x => .ref x.2.1) → RpL K H ρ n vs2 xs2 → Paired RelV xs2 (more.map (·.2.2)) → (∀ x ∈ more, x.1.depth ≤ 8) →
    NestR K H ρ n (dmerge ks vs ks2 vs2).1 (dmerge ks vs ks2 vs2).2 (storedAllH nks more)
  | [], _, [], _, _, _, _, R, _, _, _, _, _ => by unfold dmerge; exact R
  | [], _, _ :: _, _, _, _, _, _, e, _, _, _, _ => by simp at e
  | _ :: _, _, [], _, _, _, _, _, e, _, _, _, _ => by simp at e
  | k :: ks2, vs2, p :: more, ks, vs, nks, xs2, R, e, rk, rv, pv, dp => by
    simp only [List.map_cons, List.cons.injEq] at e
    obtain ⟨x, xs, hx, r1, r2⟩ := rk.cons_inv
    simp only [List.map_cons, List.cons.injEq] at hx
    obtain ⟨rfl, rfl⟩ := hx
    cases vs2 with
    | nil =>
      rw [rv.nil_inv] at pv
      cases pv
    | cons v vs2 =>
      obtain ⟨y, ys, rfl, r3, r4⟩ := rv.cons_inv
      cases pv with
      | cons h t =>
        show NestR K H ρ n (dmerge (dput ks vs k v).1 (dput ks vs k v).2 ks2 vs2).1 (dmerge (dput ks vs k v).1 (dput ks vs k v).2 ks2 vs2).2 (storedAllH (storedH nks p.1 p.2.1 p.2.2) more)
        exact NestR.merge (R.put e.1 (dp p (List.mem_cons_self ..)) r1 r3 h) e.2 r2 r4 t fun z hz => dp z (List.mem_cons_of_mem _ hz)
end

def UpdOk (n : Nat) (e : D) (ks ks2 : List D) : Prop := (∀ m, e = .ref m → m ≠ n) ∧ ks.length + ks2.length ≤ sizeLine ∧ ((ks.all kB = true ∧ ks2.all kB = true) ∨ (ks.all nkB = true ∧ ks2.all nkB = true ∧ ks2 ≠ [] ∧ (ks ≠ [] ∨ ks2.length = 1)))
def mUpd : D → List D → Hq → WK → Prop := fun d ds h P => match d, ds with
  | .ref n, [e] => (match h[n]? with
    | some (.dct ks vs) => (match dctOf h e with
      | some (ks2, vs2) => UpdOk n e ks ks2 ∧ P .non (h.set n (.dct (dmerge ks vs ks2 vs2).1 (dmerge ks vs ks2 vs2).2))
      | none => False)
    | _ => False)
  | _, _ => False
theorem kv_merge {ps2 : List (Key × V)} {vs2 : List (Key × Value)} (r2 : KV ps2 vs2) : ∀ {ps : List (Key × V)} {vs : List (Key × Value)}, KV ps vs → KV (ps2.foldl (fun acc p => putK acc p.1 p.2) ps) (merged vs vs2) := by
  unfold KV at r2
  induction r2 with
  | nil => intro ps vs r; exact r
  | @cons p q ps' qs h t ih =>
    intro ps vs r
    obtain ⟨h1, h2⟩ := h
    have := ih (r.put p.1 h2)
    show KV (ps'.foldl _ (putK ps p.1 p.2)) (merged (stored vs q.1 q.2) qs)
    rw [← h1]
    exact this
theorem foldK_len : ∀ {ps2 ps : List (Key × V)}, (ps2.foldl (fun acc p => putK acc p.1 p.2) ps).length ≤ ps.length + ps2.length
  | [], ps => Nat.le_refl _
  | p :: ps2, ps => by
    have h1 := length_putK ps p.1 p.2
    have h2 := foldK_len (ps2 := ps2) (ps := putK ps p.1 p.2)
    simp only [List.foldl_cons, List.length_cons] at *
    omega
theorem storedAll_len : ∀ {more nks : List (NestedKey × Addr × Value)}, (storedAllH nks more).length ≤ nks.length + more.length
  | [], nks => Nat.le_refl _
  | p :: more, nks => by
    have h1 := storedH_len (nks := nks) (q := p.1) (b := p.2.1) (v := p.2.2)
    have h2 := storedAll_len (more := more) (nks := storedH nks p.1 p.2.1 p.2.2)
    show (storedAllH (storedH nks p.1 p.2.1 p.2.2) more).length ≤ _
    rw [List.length_cons]
    omega
theorem storedAll_ne : ∀ {more nks : List (NestedKey × Addr × Value)}, more ≠ [] → storedAllH nks more ≠ []
  | [], _, h => absurd rfl h
  | [p], nks, _ => storedH_ne
  | p :: p2 :: more, nks, _ => storedAll_ne (more := p2 :: more) (nks := storedH nks p.1 p.2.1 p.2.2) (by simp)
section
variable {X : Cx}
theorem mg_upd (hu : X.A.units + 65 < cLine) : MtR X "dict.update" (liftM X.kw mUpd) := by
  intro pins s σ H x xs v us Q I rx rv ⟨ρ, h, d, ds, P, S, r1, r2, w, c⟩
  unfold mUpd at w
  split at w
  · rename_i n e
    split at w
    · rename_i ks vs hq
      split at w
      · rename_i ks2 vs2 he
        obtain ⟨⟨w1, w2, w3⟩, w4⟩ := w
        obtain ⟨hlt, rfl⟩ := rp_ref r1
        cases rx
        obtain ⟨y, rfl, ry⟩ := rpl1 r2
        obtain ⟨yu, rfl, ryu⟩ := vals1 rv
        obtain ⟨a2, u2, kv2, xs2, rfl, rd2, du2, l3, l4⟩ := dct_ok S ry he
        cases ryu
        obtain ⟨u, kv, xs, e1, du, l1, l2⟩ := S.ob n _ hq
        have nf : ∀ o z, H (ρ n) ≠ some (.frz o z) := fun o z e => by rw [e1] at e; exact du.nofrz o z (Option.some.inj e)
        have hne : ρ n ≠ a2 := by
          cases e with
          | ref m =>
            obtain ⟨hm, em⟩ := rp_ref ry
            cases em
            intro hh
            exact w1 m rfl (S.inj _ _ hlt hm hh).symm
          | dct k1 v1 =>
            obtain ⟨a3, _, _, _, e3, o3, _⟩ := rp_dct ry
            cases e3
            exact o3 n hlt
          | _ => cases he
        rcases w3 with ⟨o1, o2⟩ | ⟨o1, o2, o3, o4⟩
        · obtain ⟨ps, rfl, R⟩ := leaf_of du l1 l2 o1
          obtain ⟨ps2, rfl, R2⟩ := leaf_of du2 l3 l4 o2
          obtain ⟨z, hd, us, rel, dd⟩ := dk_of I.hok e1
          obtain ⟨z2, hd2, us2, rel2, dd2⟩ := dk_rd I.hok rd2
          have RM := R.merge R2.key R2.rk R2.rv
          have lk : ks.length = ps.length := by have := congrArg List.length R.key; simpa using this
          have lk2 : ks2.length = ps2.length := by have := congrArg List.length R2.key; simpa using this
          refine call_meetsIn PySem.F.slot_dict_update dd.typeIs PySem.F.entry_dict_update (PySem.F.args_dict_update_2 _ _) (meets_dict_update (mixKind X.prog X.w) (ρ n) a2 hne hd2) ⟨us, us2, dd, dd2, by rw [← rel.length, ← rel2.length]; omega, fun h' d1 d2 hs => ?_⟩
          have hex : ∃ q, h'.get? (ρ n) = some q := let ⟨q, _, _, hq, _⟩ := d1; ⟨q, hq⟩
          have I' := d_write (t' := s.toks) (ob := .dK (ps2.foldl (fun acc p => putK acc p.1 p.2) ps)) I (by rw [e1]; exact True.intro) hs hex (dk_new (by have := foldK_len (ps2 := ps2) (ps := ps); omega) hd (kv_merge rel2 rel) d1)
          obtain ⟨S3, e3⟩ := S.setOb (i := n) (o1 := .dct (dmerge ks vs ks2 vs2).1 (dmerge ks vs ks2 vs2).2) (z := .dK (ps2.foldl (fun acc p => putK acc p.1 p.2) ps)) hlt nf fun e4 => ⟨_, _, _, upd_same, .inl ⟨_, rfl, RM.key, rfl, rfl, RM.nd⟩, RpL.ext e4 _ _ RM.rk, RpL.ext e4 _ _ RM.rv⟩
          exact ⟨.non, _, I', rfl, c ρ _ _ _ _ e3 S3 of_non w4⟩
        · cases ks2 with
          | nil => exact (o3 rfl).elim
          | cons k2 kr =>
            obtain ⟨y2, kvr, rfl, rk2, rkr⟩ := l3.cons_inv
            simp only [List.all_cons, Bool.and_eq_true] at o2
            obtain ⟨ob2, es2, ep2, RW⟩ := raw_of I rd2 du2
            obtain ⟨en, hen, ren⟩ := RW.key 0 y2 rfl
            have ok1 : KOk ks k2 := .inr ⟨o2.1, o1⟩
            have ok2 : KOk (k2 :: kr) k2 := .inr ⟨o2.1, by simp [o2.1, o2.2]⟩
            have nleaf : ∀ q, keyOf k2 ≠ some q := fun q hq => by
              have : kB k2 = true := by unfold kB; rw [hq]; rfl
              rw [kB_nkB this] at o2
              exact Bool.noConfusion o2.1
            rcases d_kinds I (.inl e1) du l1 l2 ok1 rk2 ren with ⟨_, q, _, hq', _⟩ | ⟨nks, q, b, DH, sy, hqk, hdp, _, _, his, a1, rfl, pv, nd, hz2, ix⟩
            · exact (nleaf q hq').elim
            rcases d_kinds I rd2 du2 (RpL.cons rk2 rkr) l4 ok2 rk2 ren with ⟨_, q, _, hq', _⟩ | ⟨more, q', b', DH2, sy2, hqk2, hdp2, _, _, his2, b1, b2, pv2, nd2, hz3, ix2⟩
            · exact (nleaf q hq').elim
            obtain ⟨o0, es0, ep0, _, _, _, _, hi0, _⟩ := id DH
            obtain ⟨o9, es9, ep9, _, _, _, _, hi9, _⟩ := id DH2
            have R0 : NestR X.kw H ρ h.length ks vs nks := ⟨a1, l1, ⟨xs, l2, pv⟩, nd, fun x hx => (hi0 x hx).2⟩
            have lk : ks.length = nks.length := by have := congrArg List.length a1; simpa using this
            have lk2 : (k2 :: kr).length = more.length := by have := congrArg List.length b1; simpa using this
            have RM := R0.merge b1 (by rw [← b2]; exact RpL.cons rk2 rkr) l4 pv2 (fun x hx => (hi9 x hx).2)
            have mne : more ≠ [] := by intro e; rw [e] at lk2; simp at lk2
            refine call_update_dictH (room8 hu) hne sy2 DH DH2 ?_ (by rw [← lk, ← lk2]; exact w2) fun h' D1 D2 hs => ?_
            · rcases o4 with o4 | o4
              · exact .inl fun e => o4 (by rw [e] at lk; exact List.length_eq_zero_iff.mp lk)
              · right
                have hm1 : ∃ p, more = [p] := by
                  cases more with
                  | nil => exact (mne rfl).elim
                  | cons p r =>
                    cases r with
                    | nil => exact ⟨p, rfl⟩
                    | cons _ _ => rw [o4] at lk2; simp at lk2
                obtain ⟨p, rfl⟩ := hm1
                refine ⟨fun x hx => ?_, by simp⟩
                have hxp := List.mem_singleton.mp hx
                subst hxp
                have hn := (hi9 x (by simp)).1
                have hq2 : nkOf k2 = some x.1 := by simpa using congrArg List.head? b1
                obtain ⟨_, _, _, ds, rfl⟩ := nkB_some o2.1
                simp only [nkOf, Option.map_eq_some_iff] at hq2
                obtain ⟨kk, _, hkk⟩ := hq2
                rw [← hkk] at hn
                cases hn with
                | tup g1 g2 g3 g4 => exact ⟨_, g1, g2⟩
            · obtain ⟨o', xs', ho', du', rl'⟩ := dctU_nest RM D1 sy (by have := storedAll_len (more := more) (nks := nks); omega) (storedAll_ne mne)
              obtain ⟨S3, e4⟩ := S.setOb (i := n) (o1 := .dct (dmerge ks vs (k2 :: kr) vs2).1 (dmerge ks vs (k2 :: kr) vs2).2) (z := rawO (ρ n) o') hlt nf fun e4 => ⟨_, _, _, upd_same, du', RpL.ext e4 _ _ RM.rk, RpL.ext e4 _ _ rl'⟩
              exact ⟨.non, _, d_write (t' := s.toks) (ob := rawO (ρ n) o') I (by rw [e1]; exact du.mut) hs ⟨o', ho'⟩ ⟨ho', ⟨o', ho'⟩, fun h1 h2 q k => k _ q⟩, rfl, c ρ _ _ _ _ e4 S3 of_non w4⟩
      · exact w.elim
    · exact w.elim
  · exact w.elim
end
end MP

namespace MP
open PySem PySem.Spec PyProof.Rows L2
/-! ### list(range(n)) -/
def wRgL (w : WE) : WE := fun fr h P => w fr h fun d h1 => match d with
  | .int n => RgOk 0 n ∧ P (.lst ((List.range n.toNat).map fun i : Nat => D.int (i : Int))) h1
  | _ => False
theorem rgV0 {K : KW} {H : Hp} {ρ : Nat → Addr} {m : Nat} (n : Int) : RpL K H ρ m ((List.range n.toNat).map fun i : Nat => D.int (i : Int)) (rgV 0 n) := by
  have e : rgV 0 n = (List.range n.toNat).map fun i : Nat => V.int (i : Int) := by
    unfold rgV
    rw [Int.sub_zero]
    apply List.map_congr_left
    intro i _
    rw [Int.zero_add]
  rw [e]
  have : ∀ l : List Nat, RpL K H ρ m (l.map fun i : Nat => D.int (i : Int)) (l.map fun i : Nat => V.int (i : Int)) := by
    intro l
    induction l with
    | nil => exact RpL.nil
    | cons a l ih => exact RpL.cons of_int ih
  exact this _
section
variable {X : Cx}
theorem se_rgl {e : Expr} {we : WE} {p p2 pos pos2 : Pos} (hc : X.calm = true) (hg : Gl X "list") (hm : X.mg "list" = none) (hg2 : Gl X "range") (hm2 : X.mg "range" = none) (he : SE X e we) (hs : starEach [e] X.env = (false, eval e X.env) :: starEach [] X.env) :
    SE X (.Call (.Name "list" p) [.Call (.Name "range" p2) [e] [] pos2] [] pos) (wRgL we) := by
  refine PE.imp (pe_listRg hc hg hm (prg_1 hg2 hm2 he hs) rfl) fun σ H Q ⟨ρ, fr, h, P, S, F, w, c⟩ => ⟨ρ, fr, h, _, S, F, w, fun ρ1 h1 H1 d v e1 S1 r1 w1 => ?_⟩
  split at w1
  · rename_i n
    obtain rfl := rp_int r1
    exact ⟨n, rfl, w1.1, new_lst S1 (rgV0 n) w1.2 (c.step e1)⟩
  · exact w1.elim
/-! ### list(d) of a dict -/
theorem list_dct (hc : X.calm = true) {pins : List (Addr × Obj)} {σ : L2.St} {H : Hp} {s : Shared} {d : Addr} {u : HO} {ks : List D} {kv xs : List V} (I : Inv X pins σ H s) (rd : Rd H d u) (du : dctU X.w d u ks kv xs) (hl : ks.length = kv.length) {Q : VK} (q : ∀ p, H p = none → Q (.ref p) (upd H p (.lst kv))) :
    wpAny (model X.prog X.w) X.A (call (.type "list") [.ref d]) (EP X pins σ Q) X.xe s := by
  obtain ⟨o, es, ep, R⟩ := raw_of I rd du
  have hz : ks.length ≤ sizeLine := by
    rcases du with ⟨ps, rfl, e1, _⟩ | ⟨o, es, ep, nks, _, _, _, _, _, e1, _, _, _, _, hz, _⟩
    · have := congrArg List.length e1
      simp only [List.length_map] at this
      rw [this]; exact (rd.ok I.hok).1
    · have := congrArg List.length e1
      simp only [List.length_map] at this
      rw [this]; exact hz
  have l1 : es.size = kv.length := R.size
  refine PySem.W.kdl_call (kdl_raw R.sys R.exact_ R.data) (I.ok.hd hc) R.get (by omega) fun h' tk acc' c' kp e it => ?_
  have rv : Vals kv acc'.toList := by
    refine L2.vals_of_at (l1.symm.trans (it.1.symm.trans (Array.length_toList (xs := acc')).symm)) fun j x v hx hv => ?_
    obtain ⟨en, hen, hv'⟩ := it.2 j v (by rw [← Array.getElem?_toList]; exact hv)
    obtain ⟨en', hen', hr⟩ := R.key j x hx
    rw [hen] at hen'
    cases hen'
    rw [hv']; exact hr
  refine ⟨.ref s.heap.objs.size, _, I.laid (t' := tk) (o := .lst kv) kp (Nat.le_refl _) ?_, rfl, q _ (I.hok.fresh (Nat.le_refl _))⟩
  exact ⟨by omega, acc'.toList, c', rv, by rw [Array.toArray_toList]; exact e⟩
def bLstU : WL := fun ds h P => match ds with
  | [d] => (match dctOf h d with
    | some (ks, _) => P (.lst ks) h
    | none => bLst [d] h P)
  | _ => False
def bLstUM : WL := fun ds h P => match ds with
  | [d] => (match dctOf h d with
    | some (ks, _) => P (.ref h.length) (h ++ [.lst ks])
    | none => bLstM [d] h P)
  | _ => False
theorem cg_lstU (hc : X.calm = true) : CallR X (.type "list") (liftL X.kw bLstU) := by
  intro pins s σ H xs us Q I rx ⟨ρ, h, ds, P, S, r, w, c⟩
  unfold bLstU at w
  split at w
  · rename_i d
    obtain ⟨x, rfl, r1⟩ := rpl1 r
    split at w
    · rename_i ks vs q
      obtain ⟨a, u, kv, xs, rfl, rd, du, l1, l2⟩ := dct_ok S r1 q
      obtain ⟨u', rfl, ru⟩ := vals1 rx
      cases ru
      exact list_dct hc I rd du l1.length (new_lst S l1 w c)
    · exact cg_lst hc pins s σ H _ us Q I rx ⟨ρ, h, [d], P, S, RpL.cons r1 RpL.nil, w, c⟩
  · exact w.elim
theorem cg_lstUM (hc : X.calm = true) : CallR X (.type "list") (liftL X.kw bLstUM) := by
  intro pins s σ H xs us Q I rx ⟨ρ, h, ds, P, S, r, w, c⟩
  unfold bLstUM at w
  split at w
  · rename_i d
    obtain ⟨x, rfl, r1⟩ := rpl1 r
    split at w
    · rename_i ks vs q
      obtain ⟨a, u, kv, xs, rfl, rd, du, l1, l2⟩ := dct_ok S r1 q
      obtain ⟨u', rfl, ru⟩ := vals1 rx
      cases ru
      exact list_dct hc I rd du l1.length (new_lstM S l1 w c)
    · exact cg_lstM hc pins s σ H _ us Q I rx ⟨ρ, h, [d], P, S, RpL.cons r1 RpL.nil, w, c⟩
  · exact w.elim
end
end MP

/-! ### sorted of a dict -/
namespace MP
open PySem PySem.Spec PyProof.Rows L2 PySem.W
section
variable {prog : Program} {w : World} {A : Around} {E : Value → Shared → Prop} {s : Shared} {T : String} {r d : Addr} {n : Nat} {P : Nat → Value → Prop} {OK : Heap → Prop}
theorem collect_kdl {Q : List Value → Shared → Prop} (K : KdlSrc prog w T r d n P OK) (hh : A.handled = none) (hok : OK s.heap) (hn : n ≤ sizeLine)
    (hQ : ∀ (h' : Heap) (tk : Nat) (acc : Array Value), (∀ b o, s.heap.get? b = some o → h'.get? b = some o) → s.heap.objs.size ≤ h'.objs.size → ItemsOf P acc n → Q acc.toList { s with heap := h', toks := tk }) :
    wpAny (model prog w) A (collect (.ref r)) Q E s := by
  unfold collect
  refine wpAny_bind (wpAny_runValue (codeAny_builtin F.entry_proto_collect ?_))
  rw [Around.under_plainId F.plain_proto_collect _]
  show wpAny _ A.in1 (newList [] >>= fun l => again (.builtin "list.__iadd__" ⟨[l, .ref r], []⟩)) _ _ s
  refine wpAny_bind (wpAny_newObj_type ?_)
  refine wpAny_pure ⟨plainId_quiet F.plain_list_iadd _, codeAny_builtin F.entry_list_iadd ?_⟩
  rw [Around.under_plainId F.plain_list_iadd _]
  have hS : (s.heap.push { cls := .type "list", data := .seq ([] : List Value).toArray }).get? s.heap.objs.size = some { cls := .type "list", data := .seq ([] : List Value).toArray } := Heap.get?_push_size _ rfl
  have hlt := K.there _ hok
  show wpAny _ A.in1 (Builtin.List.listExtendWith (.ref s.heap.objs.size) (.ref r) (.ref s.heap.objs.size)) _ _ _
  refine kdl_extend (R := fun r s' => match r with
    | .ok (.ret v) => wpAny (model prog w) A (match v with
      | .ref a => do
        let o ← load a
        match o.data with
        | .seq xs _ => pure xs.toList
        | _ => unsupported "internal:collect"
      | _ => unsupported "internal:collect") Q E s'
    | .ok _ => False
    | .error e => E e s') (s := { s with heap := s.heap.push { cls := .type "list", data := .seq ([] : List Value).toArray } }) K hh (K.keep _ _ hok fun b _ o e => Heap.get?_push_of_some _ e) s.heap.objs.size (Nat.ne_of_gt hlt.1) (Nat.ne_of_gt hlt.2) (.ref s.heap.objs.size) 0 hS (fun h' tk acc' c' hk hS' hacc => ?_) hn
  show wpAny (model prog w) A (do
      let o ← load s.heap.objs.size
      match o.data with
      | .seq xs _ => pure xs.toList
      | _ => unsupported "internal:collect") Q E { s with heap := h', toks := tk }
  refine wpAny_bind (wpAny_load hS' ?_)
  exact wpAny_pure (hQ h' tk acc' (fun b o e => hk b o (Nat.ne_of_lt (Heap.lt_size e)) (Heap.get?_push_of_some _ e)) (Nat.le_of_lt (Heap.lt_size hS')) hacc)
/-- sorted(x): what is gathered is put in order -/
theorem sorted_col {x : Value} {ltv : Value → Value → Bool} {Q : Value → Shared → Prop} (O : SrtO.Swo ltv)
    (hcol : wpAny (model prog w) A.in1 (collect x) (fun vs s1 => vs.length ≤ sizeLine ∧ (2 ≤ vs.length → ∀ (h₁ : Heap) (a : Addr), (∀ b o, s1.heap.get? b = some o → b ≠ a ∧ h₁.get? b = some o) → SrtO.SortableO prog w A.in1.in1 { s1 with heap := h₁ } a vs ltv) ∧
      ∀ out : List Value, SrtO.Srtd ltv out → SrtO.Stb ltv out vs → Q (.ref s1.heap.objs.size) { s1 with heap := sortedHeap (s1.heap.push (seqObj "list" vs.toArray 0)) s1.heap.objs.size vs out.toArray }) E s) :
    wpAny (model prog w) A (call (.builtin "sorted") [x]) Q E s := by
  refine Calls.call_function_entry kind_sorted plain_sorted entry_sorted (args_sorted1 _) ?_
  unfold Builtin.«sorted»
  refine wpAny_bind (m := checkCount "sorted" 1 1 _) (wpAny_pure ?_)
  refine wpAny_bind (wpAny_mono hcol (fun vs s1 ⟨hz, hS, hq⟩ => ?_) fun _ _ e => e)
  refine wpAny_bind (wpAny_newList ?_ hz)
  have hoL : (s1.heap.push (seqObj "list" vs.toArray 0)).get? s1.heap.objs.size = some (seqObj "list" vs.toArray 0) := Heap.get?_push_size _ rfl
  refine wpAny_bind (wpAny_holding (wpAny_call_entry slot_list_sort ⟨_, hoL, rfl⟩ entry_list_sort (SrtO.list_sort_ord O hoL hz (fun h2 => hS h2 _ _ fun b o q => ⟨Nat.ne_of_lt (Heap.lt_size q), Heap.get?_push_of_some _ q⟩) fun out hs hb => ⟨_, rfl, ?_⟩) (args_list_sort _)))
  exact wpAny_pure ⟨_, rfl, hq out hs hb⟩
end
end MP

namespace MP
open PySem PySem.Spec PyProof.Rows L2 PySem.W
/-! ### flat tuples in order -/
inductive Sc where
  | i (n : Int) | s (x : Str)
def ScV : Sc → Value → Prop
  | .i n, v => ∃ t, v = .int n t
  | .s x, v => ∃ t, v = .str x t
def Sc.enc : Sc → List Int
  | .i n => [0, n]
  | .s x => 1 :: x.cps.toList.map fun c : Nat => (c : Int)
def sameK : Sc → Sc → Bool
  | .i _, .i _ => true
  | .s _, .s _ => true
  | _, _ => false
abbrev FlL := List Sc
def encL (cs : FlL) : List (List Int) := cs.map Sc.enc
def scLt (c d : Sc) : Bool := decide (c.enc < d.enc)
def tupLt (cs ds : FlL) : Bool := decide (encL cs < encL ds)
theorem map_lt : ∀ a b : List Nat, (a.map fun c : Nat => (c : Int)) < (b.map fun c : Nat => (c : Int)) ↔ a < b
  | [], [] => by simp
  | [], _ :: _ => by simp
  | _ :: _, [] => by simp
  | x :: a, y :: b => by
    rw [List.map_cons, List.map_cons, List.cons_lt_cons_iff, List.cons_lt_cons_iff, map_lt a b]
    constructor
    · rintro (h | ⟨h1, h2⟩)
      · exact .inl (by omega)
      · exact .inr ⟨by omega, h2⟩
    · rintro (h | ⟨h1, h2⟩)
      · exact .inl (by omega)
      · exact .inr ⟨by omega, h2⟩
theorem scLt_i (a b : Int) : scLt (.i a) (.i b) = decide (a < b) := by
  unfold scLt Sc.enc
  apply decide_eq_decide.mpr
  rw [List.cons_lt_cons_iff, List.cons_lt_cons_iff]
  simp
theorem scLt_s (a b : Str) : scLt (.s a) (.s b) = decide (a.cps.toList < b.cps.toList) := by
  unfold scLt Sc.enc
  apply decide_eq_decide.mpr
  rw [List.cons_lt_cons_iff, map_lt]
  simp
theorem enc_inj : ∀ {c d : Sc}, c.enc = d.enc → c = d
  | .i a, .i b, h => by simp [Sc.enc] at h; rw [h]
  | .i a, .s b, h => by simp [Sc.enc] at h
  | .s a, .i b, h => by simp [Sc.enc] at h
  | .s a, .s b, h => by
    simp only [Sc.enc, List.cons.injEq, true_and] at h
    have : a.cps.toList = b.cps.toList := List.map_inj_right (fun x y e => by omega) |>.mp h
    congr 1
    obtain ⟨⟨a⟩⟩ := a
    obtain ⟨⟨b⟩⟩ := b
    simp at this
    rw [this]
/-- where two first differ, they are of a kind -/
def Compat : FlL → FlL → Prop
  | c :: cs, d :: ds => (c = d → Compat cs ds) ∧ (c ≠ d → sameK c d = true)
  | _, _ => True
section
variable {prog : Program} {w : World} {A : Around} {s : Shared}
theorem eq_sc {c d : Sc} {p q : Value} {Q : Bool → Shared → Prop} {E : Value → Shared → Prop} (hp : ScV c p) (hq : ScV d q) (hk : c ≠ d → sameK c d = true) (h1 : c = d → Q true s) (h2 : c ≠ d → Q false s) : wpAny (model prog w) A (eqBool p q) Q E s := by
  cases c with
  | i a =>
    cases d with
    | i b =>
      obtain ⟨t, rfl⟩ := hp
      obtain ⟨u, rfl⟩ := hq
      refine wpAny_eqBool_int ?_
      by_cases e : a = b
      · rw [beq_iff_eq.mpr e]; exact h1 (by rw [e])
      · rw [beq_eq_false_iff_ne.mpr e]; exact h2 (fun z => e (by cases z; rfl))
    | s b => exact absurd (hk (by intro z; cases z)) (by simp [sameK])
  | s a =>
    cases d with
    | i b => exact absurd (hk (by intro z; cases z)) (by simp [sameK])
    | s b =>
      obtain ⟨t, rfl⟩ := hp
      obtain ⟨u, rfl⟩ := hq
      refine wpAny_eqBool_str ?_
      by_cases e : a = b
      · rw [decide_eq_true e]; exact h1 (by rw [e])
      · rw [decide_eq_false e]; exact h2 (fun z => e (by cases z; rfl))
theorem lt_sc {c d : Sc} {p q : Value} {b : Bool} {Q : Bool → Shared → Prop} {E : Value → Shared → Prop} (hp : ScV c p) (hq : ScV d q) (hk : sameK c d = true) (h : Q (scLt c d) s) : wpAny (model prog w) A (oneLt' b p q) Q E s := by
  cases c with
  | i a =>
    cases d with
    | i e =>
      obtain ⟨t, rfl⟩ := hp
      obtain ⟨u, rfl⟩ := hq
      rw [scLt_i] at h
      cases b with
      | true => exact oneLt_int h
      | false => exact kat_one _ _ (lt_int h)
    | s e => simp [sameK] at hk
  | s a =>
    cases d with
    | i e => simp [sameK] at hk
    | s e =>
      obtain ⟨t, rfl⟩ := hp
      obtain ⟨u, rfl⟩ := hq
      rw [scLt_s] at h
      cases b with
      | true => exact oneLt_str h
      | false => exact kat_one _ _ (lt_str h)
theorem lex_ok {b fin : Bool} {Q : Bool → Shared → Prop} : ∀ {cs ds : FlL} {xs ys : List Value} {i : Nat}, Paired ScV cs xs → Paired ScV ds ys → Compat cs ds → fin = decide (xs.length < ys.length) → Q (tupLt cs ds) s → KatLex prog w A b fin Q (xs.zip ys) i s
  | [], [], _, _, i, .nil, .nil, _, hf, q => by subst hf; exact kat_nil q
  | [], d :: ds, _, _, i, .nil, .cons _ _, _, hf, q => by
    subst hf
    refine kat_nil ?_
    have : tupLt [] (d :: ds) = true := by unfold tupLt encL; simp
    rw [this] at q
    simpa using q
  | c :: cs, [], _, _, i, .cons _ _, .nil, _, hf, q => by
    subst hf
    refine kat_nil ?_
    have : tupLt (c :: cs) [] = false := by unfold tupLt encL; simp
    rw [this] at q
    simpa using q
  | c :: cs, d :: ds, _, _, i, .cons hp tp, .cons hq tq, hc, hf, q => by
    rw [List.zip_cons_cons]
    refine kat_cons (eq_sc hp hq hc.2 (fun e => kat_yes ?_) fun ne => kat_no ?_)
    · refine lex_ok tp tq (hc.1 e) (by rw [hf]; simp) ?_
      have : tupLt (c :: cs) (d :: ds) = tupLt cs ds := by
        subst e
        unfold tupLt encL
        apply decide_eq_decide.mpr
        rw [List.map_cons, List.map_cons, List.cons_lt_cons_iff]
        simp [List.lt_irrefl]
      rw [this] at q
      exact q
    · refine lt_sc hp hq (hc.2 ne) ?_
      have : tupLt (c :: cs) (d :: ds) = scLt c d := by
        unfold tupLt encL scLt
        apply decide_eq_decide.mpr
        rw [List.map_cons, List.map_cons, List.cons_lt_cons_iff]
        exact ⟨fun h => h.elim id fun ⟨e, _⟩ => (ne (enc_inj e)).elim, .inl⟩
      rw [this] at q
      exact q
end
/-- a flat tuple of the heap -/
def FlatT (h : Heap) (v : Value) (cs : FlL) : Prop := ∃ a o xs n, v = .ref a ∧ h.get? a = some o ∧ o.cls = .type "tuple" ∧ o.data = .seq xs n ∧ Paired ScV cs xs.toList
theorem ScV.inj {c d : Sc} {v : Value} (h1 : ScV c v) (h2 : ScV d v) : c = d := by
  cases c <;> cases d <;> obtain ⟨t, rfl⟩ := h1 <;> obtain ⟨u, e⟩ := h2 <;> cases e <;> rfl
theorem scs_inj : ∀ {cs ds : FlL} {xs : List Value}, Paired ScV cs xs → Paired ScV ds xs → cs = ds
  | _, _, _, .nil, .nil => rfl
  | _, _, _, .cons h1 t1, .cons h2 t2 => by rw [ScV.inj h1 h2, scs_inj t1 t2]
theorem FlatT.inj {h : Heap} {v : Value} {cs ds : FlL} (h1 : FlatT h v cs) (h2 : FlatT h v ds) : cs = ds := by
  obtain ⟨a, o, xs, n, rfl, ho, _, hd, p⟩ := h1
  obtain ⟨a', o', xs', n', e, ho', _, hd', p'⟩ := h2
  cases e
  rw [ho] at ho'
  cases ho'
  rw [hd] at hd'
  cases hd'
  exact scs_inj p p'
theorem FlatT.keep {h h' : Heap} {v : Value} {cs : FlL} (f : FlatT h v cs) (k : ∀ b o, h.get? b = some o → h'.get? b = some o) : FlatT h' v cs := by
  obtain ⟨a, o, xs, n, rfl, ho, hc, hd, p⟩ := f
  exact ⟨a, o, xs, n, rfl, k a o ho, hc, hd, p⟩
noncomputable def decT (h : Heap) (v : Value) : FlL := @dite _ (∃ cs, FlatT h v cs) (Classical.propDecidable _) (fun e => Classical.choose e) fun _ => []
theorem decT_eq {h : Heap} {v : Value} {cs : FlL} (f : FlatT h v cs) : decT h v = cs := by
  have e : ∃ cs, FlatT h v cs := ⟨cs, f⟩
  unfold decT
  rw [dif_pos e]
  exact (Classical.choose_spec e).inj f
noncomputable def ltT (h : Heap) (v u : Value) : Bool := tupLt (decT h v) (decT h u)
theorem swoT {h : Heap} : SrtO.Swo (ltT h) := by
  refine ⟨fun x y e => ?_, fun x y z e1 e2 => ?_⟩
  · have a := of_decide_eq_true (p := encL (decT h x) < encL (decT h y)) e
    exact decide_eq_false (p := encL (decT h y) < encL (decT h x)) (List.lt_asymm a)
  · have a := of_decide_eq_false (p := encL (decT h y) < encL (decT h x)) e1
    have b := of_decide_eq_false (p := encL (decT h z) < encL (decT h y)) e2
    exact decide_eq_false (p := encL (decT h z) < encL (decT h x)) (List.not_lt.mpr (List.le_trans (List.not_lt.mp a) (List.not_lt.mp b)))
end MP

namespace MP
open PySem PySem.Spec PyProof.Rows L2 PySem.W
theorem perm_vals {K : KW} {H : Hp} {ρ : Nat → Addr} {n : Nat} {out vs : List Value} (p : out.Perm vs) : ∀ {ks : List D} {kv : List V}, RpL K H ρ n ks kv → Vals kv vs → ∃ (es : List D) (ev : List V), es.Perm ks ∧ RpL K H ρ n es ev ∧ Vals ev out := by
  have key : ∀ {out vs : List Value}, vs.Perm out → ∀ {ks : List D} {kv : List V}, RpL K H ρ n ks kv → Vals kv vs → ∃ (es : List D) (ev : List V), es.Perm ks ∧ RpL K H ρ n es ev ∧ Vals ev out := by
    intro out vs p
    induction p with
    | nil =>
      intro ks kv r v
      cases v
      exact ⟨ks, [], .refl _, r, .nil⟩
    | cons x p ih =>
      intro ks kv r v
      cases v with
      | @cons a _ kv' _ h t =>
        cases ks with
        | nil => have := r.nil_inv; cases this
        | cons d ks =>
          obtain ⟨y, ys, e, r1, r2⟩ := r.cons_inv
          cases e
          obtain ⟨es, ev, q1, q2, q3⟩ := ih r2 t
          exact ⟨d :: es, a :: ev, q1.cons d, RpL.cons r1 q2, .cons h q3⟩
    | swap x y l =>
      intro ks kv r v
      cases v with
      | @cons a _ kv' _ h t =>
        cases t with
        | @cons b _ kv'' _ h2 t2 =>
          cases ks with
          | nil => have := r.nil_inv; cases this
          | cons d ks =>
            obtain ⟨y1, ys, e, r1, r2⟩ := r.cons_inv
            cases e
            cases ks with
            | nil => have := r2.nil_inv; cases this
            | cons d2 ks =>
              obtain ⟨y2, ys2, e, r3, r4⟩ := r2.cons_inv
              cases e
              exact ⟨d2 :: d :: ks, b :: a :: kv'', List.Perm.swap _ _ _, RpL.cons r3 (RpL.cons r1 r4), .cons h2 (.cons h t2)⟩
    | trans _ _ ih1 ih2 =>
      intro ks kv r v
      obtain ⟨es, ev, q1, q2, q3⟩ := ih1 r v
      obtain ⟨es2, ev2, q4, q5, q6⟩ := ih2 q2 q3
      exact ⟨es2, ev2, q4.trans q1, q5, q6⟩
  intro ks kv r v
  exact key p.symm r v
/-- a value of one kind -/
def scOf : D → Option Sc
  | .int i => some (.i i)
  | .str s => some (.s (mkS s))
  | _ => none
def scsOf : List D → Option FlL
  | [] => some []
  | d :: ds => (scOf d).bind fun c => (scsOf ds).map fun r => c :: r
/-- a flat tuple that begins with a text -/
def flOf : D → Option FlL
  | .tup (.str t :: ds) => (scsOf ds).map fun r => .s (mkS t) :: r
  | _ => none
def FlOk (ks : List D) : Prop := (∀ k ∈ ks, ∃ c, flOf k = some c) ∧ ∀ k ∈ ks, ∀ k' ∈ ks, ∀ c c', flOf k = some c → flOf k' = some c' → Compat c c'
theorem sc_val {K : KW} {H : Hp} {ρ : Nat → Addr} {n : Nat} {d : D} {v : V} {u : Value} {c : Sc} (r : Rp K H ρ n d v) (rv : RelV v u) (e : scOf d = some c) : ScV c u := by
  cases d <;> cases e
  · obtain rfl := rp_int r
    obtain ⟨t, rfl⟩ := rv
    exact ⟨t, rfl⟩
  · rw [(rp_str r).1] at rv
    obtain ⟨t, rfl⟩ := rv
    exact ⟨t, rfl⟩
theorem scs_val {K : KW} {H : Hp} {ρ : Nat → Addr} {n : Nat} : ∀ {ds : List D} {vs : List V} {us : List Value} {cs : FlL}, RpL K H ρ n ds vs → Vals vs us → scsOf ds = some cs → Paired ScV cs us
  | [], vs, us, cs, r, rv, e => by
    cases e
    rw [r.nil_inv] at rv
    cases rv
    exact .nil
  | d :: ds, vs, us, cs, r, rv, e => by
    obtain ⟨y, ys, rfl, r1, r2⟩ := r.cons_inv
    simp only [scsOf, Option.bind_eq_some_iff, Option.map_eq_some_iff] at e
    obtain ⟨c, h1, cs', h2, rfl⟩ := e
    cases rv with
    | cons h t => exact .cons (sc_val r1 h h1) (scs_val r2 t h2)
section
variable {X : Cx} {pins : List (Addr × Obj)} {σ : L2.St} {H : Hp} {s : Shared}
theorem fl_val {ρ : Nat → Addr} {n : Nat} (I : Inv X pins σ H s) {d : D} {v : V} {u : Value} {c : FlL} (r : Rp X.kw H ρ n d v) (rv : RelV v u) (e : flOf d = some c) : FlatT s.heap u c ∧ ∃ x r', c = .s x :: r' := by
  unfold flOf at e
  split at e
  · rename_i t ds
    rw [Option.map_eq_some_iff] at e
    obtain ⟨cs, h1, rfl⟩ := e
    obtain ⟨a, xs, rfl, q, l⟩ := rp_tup r
    cases rv
    obtain ⟨its, ri, ⟨o, ho, hc, m, hd⟩, hz⟩ := I.tuple q
    refine ⟨⟨a, o, its.toArray, m, rfl, ho, hc, hd, ?_⟩, _, _, rfl⟩
    have : scsOf (.str t :: ds) = some (.s (mkS t) :: cs) := by
      show ((some (Sc.s (mkS t))).bind fun c => (scsOf ds).map fun r => c :: r) = _
      rw [h1]; rfl
    exact scs_val l ri this
  · cases e
theorem fl_sortable {prog : Program} {w : World} {A : Around} {s : Shared} {h0 : Heap} {a : Addr} {vs : List Value} (h2 : 2 ≤ vs.length) (hk : ∀ b o, h0.get? b = some o → b ≠ a ∧ s.heap.get? b = some o)
    (hf : ∀ v ∈ vs, ∃ x r, FlatT h0 v (.s x :: r)) (hc : ∀ v ∈ vs, ∀ u ∈ vs, Compat (decT h0 v) (decT h0 u)) : SrtO.SortableO prog w A s a vs (ltT h0) := by
  intro h' hk'
  have keep : ∀ b o, h0.get? b = some o → h'.get? b = some o := fun b o e => hk' b o (hk b o e).1 (hk b o e).2
  have tups : ∀ l : List Value, (∀ v ∈ l, v ∈ vs) → ∃ fs, KatTups h' l fs ∧ fs.length = l.length ∧ ∀ f ∈ fs, ∃ x t, f = Value.str x t := by
    intro l
    induction l with
    | nil => exact fun _ => ⟨[], .nil, rfl, fun _ h => by simp at h⟩
    | cons v l ih =>
      intro hl
      obtain ⟨fs, q1, q2, q3⟩ := ih fun u hu => hl u (List.mem_cons_of_mem _ hu)
      obtain ⟨x, r, f⟩ := hf v (hl v (List.mem_cons_self ..))
      obtain ⟨b, o, xs, n, rfl, ho, hcl, hd, p⟩ := f
      obtain ⟨xs⟩ := xs
      replace p : Paired ScV (.s x :: r) xs := p
      cases p with
      | @cons _ y _ ys h t =>
        obtain ⟨tk, rfl⟩ := h
        exact ⟨.str x tk :: fs, .cons (keep _ _ ho) hcl hd (by simp) q1, by simp [q2], fun f hf => by
          rcases List.mem_cons.mp hf with rfl | hf
          · exact ⟨_, _, rfl⟩
          · exact q3 f hf⟩
  obtain ⟨fs, q1, q2, q3⟩ := tups vs fun _ h => h
  refine ⟨_, fun Q E hq => kat_kind (T := .type "str") q1 (by omega) (fun v hv => ?_) (by decide) hq, fun p q hp hq => ?_⟩
  · obtain ⟨x, t, rfl⟩ := q3 v hv
    exact Looks.of_pure rfl
  · obtain ⟨x1, r1, f1⟩ := hf p.1 hp
    obtain ⟨x2, r2, f2⟩ := hf q.1 hq
    have hcc := hc p.1 hp q.1 hq
    have e1 := decT_eq f1
    have e2 := decT_eq f2
    show wpAny (model prog w) A (keyLt' _ p.1 q.1) (fun r s' => s' = { s with heap := h' } ∧ r = tupLt (decT h0 p.1) (decT h0 q.1)) (fun _ _ => False) { s with heap := h' }
    rw [e1, e2] at hcc ⊢
    obtain ⟨a1, o1, xs1, n1, ep, g1, _, d1, p1⟩ := f1
    obtain ⟨a2, o2, xs2, n2, eq, g2, _, d2, p2⟩ := f2
    rw [ep, eq]
    exact kat_lt (keep _ _ g1) d1 (keep _ _ g2) d2 (lex_ok p1 p2 hcc (by simp) ⟨rfl, rfl⟩)
/-- sorted(d): flat tuples, each beginning with a text -/
def bSortT : WL := fun ds h P => match ds with
  | [d] => (match dctOf h d with
    | some (ks, _) => FlOk ks ∧ ∀ es : List D, es.Perm ks → P (.lst es) h
    | none => False)
  | _ => False
theorem cg_sortT (hc : X.calm = true) : CallR X (.builtin "sorted") (liftL X.kw bSortT) := by
  intro pins s σ H xs us Q I rx ⟨ρ, h, ds, P, S, r, w, c⟩
  unfold bSortT at w
  split at w
  · rename_i d
    obtain ⟨x, rfl, r1⟩ := rpl1 r
    split at w
    · rename_i ks vs q
      obtain ⟨⟨f1, f2⟩, w2⟩ := w
      obtain ⟨a, u, kv, xs, rfl, rd, du, l1, l2⟩ := dct_ok S r1 q
      obtain ⟨u', rfl, ru⟩ := vals1 rx
      cases ru
      obtain ⟨o, es, ep, R⟩ := raw_of I rd du
      have hz : ks.length ≤ sizeLine := by
        rcases du with ⟨ps, rfl, e1, _⟩ | ⟨o, es, ep, nks, _, _, _, _, _, e1, _, _, _, _, hz, _⟩
        · have := congrArg List.length e1
          simp only [List.length_map] at this
          rw [this]; exact (rd.ok I.hok).1
        · have := congrArg List.length e1
          simp only [List.length_map] at this
          rw [this]; exact hz
      have hl := l1.length
      have hes : es.size = kv.length := R.size
      refine sorted_col (swoT (h := s.heap)) (collect_kdl (kdl_raw R.sys R.exact_ R.data) (I.ok.hd hc) R.get (by omega) fun h' tk acc keep hsz it => ?_)
      have rv : Vals kv acc.toList := by
        refine L2.vals_of_at (hes.symm.trans (it.1.symm.trans (Array.length_toList (xs := acc)).symm)) fun j x v hx hv => ?_
        obtain ⟨en, hen, hv'⟩ := it.2 j v (by rw [← Array.getElem?_toList]; exact hv)
        obtain ⟨en', hen', hr⟩ := R.key j x hx
        rw [hen] at hen'
        cases hen'
        rw [hv']; exact hr
      have mem : ∀ v ∈ acc.toList, ∃ k ∈ ks, ∃ c, flOf k = some c ∧ FlatT s.heap v c ∧ ∃ x r', c = .s x :: r' := by
        intro v hv
        obtain ⟨j, hj, ej⟩ := List.mem_iff_getElem.mp hv
        have hjk : j < ks.length := by have := rv.length; omega
        obtain ⟨y, hy, ry⟩ := l1.get (List.getElem?_eq_getElem hjk)
        obtain ⟨c0, hc0⟩ := f1 ks[j] (List.getElem_mem hjk)
        have rvj : RelV y v := by
          obtain ⟨z, hz1, hz2⟩ := paired_get rv hy
          rw [List.getElem?_eq_getElem hj, ej] at hz1
          cases hz1
          exact hz2
        exact ⟨_, List.getElem_mem hjk, c0, hc0, (fl_val I ry rvj hc0).1, (fl_val I ry rvj hc0).2⟩
      refine ⟨by rw [← rv.length]; omega, fun h2 h₁ a' hk => ?_, fun out hs hb => ?_⟩
      · refine fl_sortable h2 (fun b o e => hk b o (keep b o e)) (fun v hv => ?_) fun v hv u hu => ?_
        · obtain ⟨k, _, c, _, hfl, x, r', rfl⟩ := mem v hv
          exact ⟨x, r', hfl⟩
        · obtain ⟨k, hk1, c1, e1, g1, _⟩ := mem v hv
          obtain ⟨k2, hk2, c2, e2, g2, _⟩ := mem u hu
          rw [decT_eq g1, decT_eq g2]
          exact f2 k hk1 k2 hk2 c1 c2 e1 e2
      · obtain ⟨es2, ev, p1, p2, p3⟩ := perm_vals hb.perm l1 rv
        obtain ⟨ep2, he2⟩ := sortedHeap_at (h := h'.push (seqObj "list" acc.toList.toArray 0)) (a := h'.objs.size) (vs := acc.toList) (n := 0) (out := out.toArray) (Heap.get?_push_size _ rfl)
        have keep2 : ∀ b o, s.heap.get? b = some o → (sortedHeap (h'.push (seqObj "list" acc.toList.toArray 0)) h'.objs.size acc.toList out.toArray).get? b = some o := fun b o e => by
          have e' := keep b o e
          have hlt := Heap.lt_size e'
          rw [sortedHeap_old (Nat.ne_of_lt hlt) (by rw [size_push']; exact Nat.lt_succ_of_lt hlt)]
          exact Heap.get?_push_of_some _ e'
        have hlen : ev.length ≤ sizeLine := by
          have := p2.length
          have := p1.length_eq
          omega
        refine ⟨.ref h'.objs.size, upd H h'.objs.size (.lst ev), I.laid (t' := tk) keep2 hsz ⟨hlen, out, ep2, p3, he2⟩, rfl, ?_⟩
        exact new_lst S p2 (w2 es2 p1) c _ (I.hok.fresh hsz)
    · exact w.elim
  · exact w.elim
end
end MP

namespace MP
open PySem PySem.Spec PyProof.Rows L2 PySem.W
/-! ### min of texts -/
theorem min_strs : ∀ (ss : List (List Nat)) (a : List Nat), ∃ m ∈ a :: ss, minD (.str (mkS a)) (ss.map fun s => PyData.str (mkS s)) = .str (mkS m) ∧ ∀ x ∈ a :: ss, ¬ x < m
  | [], a => ⟨a, List.mem_cons_self .., rfl, fun x hx => by
      rw [List.mem_singleton] at hx
      subst hx
      exact List.lt_irrefl _⟩
  | b :: ss, a => by
    have e : minD (.str (mkS a)) ((b :: ss).map fun s => PyData.str (mkS s)) = minD (if dataLt (.str (mkS b)) (.str (mkS a)) = true then .str (mkS b) else .str (mkS a)) (ss.map fun s => PyData.str (mkS s)) := rfl
    have e2 : dataLt (.str (mkS b)) (.str (mkS a)) = decide (b < a) := by rw [dataLt_str, str_list, str_list]
    rw [e]
    by_cases h : b < a
    · rw [if_pos (e2.trans (decide_eq_true h))]
      obtain ⟨m, hm, h1, h2⟩ := min_strs ss b
      refine ⟨m, List.mem_cons_of_mem _ hm, h1, fun x hx => ?_⟩
      rcases List.mem_cons.mp hx with rfl | hx
      · intro hlt
        exact h2 b (List.mem_cons_self ..) (List.lt_trans h hlt)
      · exact h2 x hx
    · rw [if_neg (by rw [e2]; exact fun q => h (of_decide_eq_true q))]
      obtain ⟨m, hm, h1, h2⟩ := min_strs ss a
      refine ⟨m, ?_, h1, fun x hx => ?_⟩
      · rcases List.mem_cons.mp hm with rfl | hm
        · exact List.mem_cons_self ..
        · exact List.mem_cons_of_mem _ (List.mem_cons_of_mem _ hm)
      · rcases List.mem_cons.mp hx with rfl | hx
        · exact h2 x (List.mem_cons_self ..)
        · rcases List.mem_cons.mp hx with rfl | hx
          · intro hlt
            rcases List.mem_cons.mp hm with rfl | hm'
            · exact h hlt
            · have h3 : ¬ a < m := h2 a (List.mem_cons_self ..)
              exact h3 (List.lt_of_le_of_lt (List.not_lt.mp h) hlt)
          · exact h2 x (List.mem_cons_of_mem _ hx)
theorem reads_strs {h : Heap} {K : KW} {H : Hp} {ρ : Nat → Addr} {n : Nat} : ∀ {ss : List (List Nat)} {xs : List V} {its : List Value}, RpL K H ρ n (ss.map D.str) xs → Vals xs its → ∃ as, ReadsAll h its (ss.map fun s => PyData.str (mkS s)) as
  | [], xs, its, r, rv => by
    rw [r.nil_inv] at rv
    cases rv
    exact ⟨_, .nil⟩
  | s :: ss, xs, its, r, rv => by
    obtain ⟨y, ys, rfl, r1, r2⟩ := r.cons_inv
    rw [(rp_str r1).1] at rv
    cases rv with
    | cons h1 t =>
      obtain ⟨tk, rfl⟩ := h1
      obtain ⟨as, q⟩ := reads_strs r2 t
      exact ⟨_, .cons (.str _ _) q⟩
theorem depth_strs : ∀ ss : List (List Nat), PyData.depthAll (ss.map fun s => PyData.str (mkS s)) = 0
  | [] => rfl
  | s :: ss => by
    show max 0 (PyData.depthAll (ss.map fun s => PyData.str (mkS s))) = 0
    rw [depth_strs ss]; rfl
theorem alike_strs (ss : List (List Nat)) : AlikeAll (ss.map fun s => PyData.str (mkS s)) := by
  constructor
  · intro x hx y hy
    obtain ⟨a, _, rfl⟩ := List.mem_map.mp hx
    obtain ⟨b, _, rfl⟩ := List.mem_map.mp hy
    rfl
  · intro x hx
    obtain ⟨a, _, rfl⟩ := List.mem_map.mp hx
    exact fun e => nomatch e
/-- min(xs): a list of texts, not empty -/
def bMinS : WL := fun ds h P => match ds with
  | [d] => (match lisOf h d with
    | some es => ∃ a ss, es = (a :: ss).map D.str ∧ ∀ m ∈ a :: ss, (∀ x ∈ a :: ss, ¬ x < m) → P (.str m) h
    | none => False)
  | _ => False
/-- sorted(xs): a list of numbers -/
def bSortI : WL := fun ds h P => match ds with
  | [d] => (match lisOf h d with
    | some es => ∃ ns : List Int, es = ns.map D.int ∧ ∀ ns' : List Int, ns'.Perm ns → ns'.Pairwise (· ≤ ·) → P (.lst (ns'.map D.int)) h
    | none => False)
  | _ => False
theorem ints_rp {K : KW} {H : Hp} {ρ : Nat → Addr} {n : Nat} : ∀ {ns : List Int} {xs : List V}, RpL K H ρ n (ns.map D.int) xs → xs = ns.map V.int
  | [], xs, r => r.nil_inv
  | s :: ss, xs, r => by
    obtain ⟨y, ys, rfl, r1, r2⟩ := r.cons_inv
    rw [rp_int r1, ints_rp r2]; rfl
section
variable {X : Cx}
theorem cg_minS (hc : X.calm = true) (hu : X.A.units + 65 < cLine) : CallR X (.builtin "min") (liftL X.kw bMinS) := by
  intro pins s σ H xs us Q I rx ⟨ρ, h, ds, P, S, r, w, c⟩
  unfold bMinS at w
  split at w
  · rename_i d
    obtain ⟨x, rfl, r1⟩ := rpl1 r
    split at w
    · rename_i es q
      obtain ⟨b, ss, rfl, w⟩ := w
      obtain ⟨a, ys, rfl, h1, l⟩ := lis_ok S r1 q
      obtain ⟨u', rfl, ru⟩ := vals1 rx
      cases ru
      obtain ⟨its, rv, hl, hz⟩ := I.list h1
      obtain ⟨as, hr⟩ := reads_strs (h := s.heap) l rv
      refine min_list_data (I.ok.hd hc) hl.isList (x := .str (mkS b)) (xs := ss.map fun s => PyData.str (mkS s)) (as := as) (by simpa using hr) (alike_strs (b :: ss)) (by
        have : PyData.depthAll (PyData.str (mkS b) :: ss.map fun s => PyData.str (mkS s)) = 0 := depth_strs (b :: ss)
        rw [this]; omega) fun i v h' tk bs hv hrd keep => ?_
      obtain ⟨m, hm, e, hmin⟩ := min_strs ss b
      rw [e] at hrd
      cases hrd
      have I' := I.kept (t' := tk) (h' := h') keep
      have ok : StrOk m := by
        obtain ⟨j, hj, ej⟩ := List.mem_iff_getElem.mp hm
        obtain ⟨y, hy, ry⟩ := l.get (i := j) (d := .str m) (by rw [List.getElem?_map, List.getElem?_eq_getElem hj, ej]; rfl)
        exact (rp_str ry).2
      exact ⟨.str (mkS m), H, I', ⟨_, rfl⟩, c ρ h H _ _ .refl S (of_str ok) (w m hm hmin)⟩
    · exact w.elim
  · exact w.elim
theorem cg_sortI : CallR X (.builtin "sorted") (liftL X.kw bSortI) := by
  refine CallR.imp cr_sortedI fun xs H Q ⟨ρ, h, ds, P, S, r, w, c⟩ => ?_
  unfold bSortI at w
  split at w
  · rename_i d
    obtain ⟨x, rfl, r1⟩ := rpl1 r
    split at w
    · rename_i es q
      obtain ⟨ns, rfl, w⟩ := w
      obtain ⟨a, ys, rfl, h1, l⟩ := lis_ok S r1 q
      rw [ints_rp l] at h1
      refine ⟨a, ns, rfl, h1, fun ns' p hp hs hn => ?_⟩
      have l' : RpL X.kw H ρ h.length (ns'.map D.int) (ns'.map V.int) := RpL.ints ns'
      exact new_lst S l' (w ns' hp hs) c _ hn
    · exact w.elim
  · exact w.elim
/-- sorted, whichever of the two -/
def bSrt : WL := fun ds h P => bSortT ds h P ∨ bSortI ds h P
theorem cg_srt (hc : X.calm = true) : CallR X (.builtin "sorted") (liftL X.kw bSrt) := by
  intro pins s σ H xs us Q I rx ⟨ρ, h, ds, P, S, r, w, c⟩
  rcases w with w | w
  · exact cg_sortT hc pins s σ H xs us Q I rx ⟨ρ, h, ds, P, S, r, w, c⟩
  · exact cg_sortI pins s σ H xs us Q I rx ⟨ρ, h, ds, P, S, r, w, c⟩
end
end MP

/-! ### a set made of a list of numbers or texts, put in order -/
namespace MP
open PySem PySem.Spec PyProof.Rows L2
/-- the key that a value is -/
def kOf : Value → Key
  | .int i _ => .inl i
  | .str x _ => .inr x
  | _ => .inl 0
theorem kOf_is {k : Key} {v : Value} (h : keyIs k v = true) : kOf v = k := by
  rcases keyIs_shape h with ⟨i, t, rfl, rfl⟩ | ⟨x, t, rfl, rfl⟩ <;> rfl
def EntG (w : World) (e : Int × Value) : Prop := keyIs (kOf e.2) e.2 = true ∧ e.1 = keyH w (kOf e.2)
def eKs (es : Array (Int × Value)) : List Key := es.toList.map fun e => kOf e.2
open Classical in
noncomputable def addK (ks : List Key) (k : Key) : List Key := if k ∈ ks then ks else ks ++ [k]
theorem addK_len (ks : List Key) (k : Key) : (addK ks k).length ≤ ks.length + 1 := by
  unfold addK
  split
  · omega
  · simp
theorem addK_mem {ks : List Key} {k j : Key} : j ∈ addK ks k ↔ j ∈ ks ∨ j = k := by
  unfold addK
  split
  · rename_i h
    exact ⟨.inl, fun q => q.elim id fun e => e ▸ h⟩
  · rw [List.mem_append, List.mem_singleton]
theorem addK_nd {ks : List Key} {k : Key} (n : ks.Nodup) : (addK ks k).Nodup := by
  unfold addK
  split
  · exact n
  · rename_i h
    rw [List.nodup_append]
    refine ⟨n, List.nodup_cons.mpr ⟨by simp, List.nodup_nil⟩, fun a ha b hb e => ?_⟩
    rw [List.mem_singleton.mp hb] at e
    exact h (e ▸ ha)
/-- the keys of a list, each once -/
noncomputable def dedK (ks : List Key) : List Key := ks.foldl addK []
/-- what a set's table says of its order -/
structure TabG (w : World) (es : Array (Int × Value)) (t : SetTable) : Prop where
  few : es.size < scanBound
  fit : t.fits es.size = true
  ris : Ris t.place.toList
  led : w.params.followText "set-order" = true ∨ t.led = true
structure SetK' (w : World) (h : Heap) (a : Addr) (ks : List Key) (o : Obj) (es : Array (Int × Value)) (ep : Nat) (t : SetTable) : Prop where
  at_ : h.get? a = some o
  ex : o.ExactSet
  dat : o.data = .set es ep t
  good : ∀ e ∈ es.toList, EntG w e
  perm : (eKs es).Perm ks
  tab : TabG w es t
def SetG (w : World) (h : Heap) (a : Addr) (ks : List Key) : Prop := ∃ o es ep t, SetK' w h a ks o es ep t
section
variable {P : Program} {w : World} {A : Around} {E : Value → Shared → Prop} {s : Shared} {a : Addr} {ks : List Key}
theorem SetG.keep {h h' : Heap} (R : SetG w h a ks) (k : ∀ o, h.get? a = some o → h'.get? a = some o) : SetG w h' a ks := by
  obtain ⟨o, es, ep, t, c⟩ := R
  exact ⟨o, es, ep, t, k o c.at_, c.ex, c.dat, c.good, c.perm, c.tab⟩
theorem eKs_len (es : Array (Int × Value)) : (eKs es).length = es.size := by
  unfold eKs; rw [List.length_map, Array.length_toList]
theorem elems_good {l : List (Int × Value)} (g : ∀ e ∈ l, EntG w e) : ElemsOf (mixKind P w) l := fun e he => by
  obtain ⟨g1, g2⟩ := g e he
  refine ⟨⟨kOf e.2, g1, g2⟩, ?_⟩
  rcases keyIs_shape g1 with ⟨i, t, _, q⟩ | ⟨x, t, _, q⟩ <;> (rw [q]; rfl)
theorem is_iff {e : Int × Value} (g : EntG w e) (k : Key) : (mixKind P w).is k e.2 = true ↔ kOf e.2 = k :=
  ⟨fun q => kOf_is q, fun q => by rw [← q]; exact g.1⟩
theorem put_at {h : Heap} {o : Obj} {es es' : Array (Int × Value)} {ep : Nat} {t t' : SetTable} (ho : h.get? a = some o) (hd : o.data = .set es ep t) : (h.update a (Obj.putSet es' t')).get? a = some { o with data := .set es' (ep + 1) t' } := L2.store_at ho hd
/-- the end of an add: the entries stored, laid anew if the table is too full -/
theorem add_end {g : Bool → Sem Unit} (hg : ∀ (b : Bool) (s₁ : Shared) (Q' : Unit → Shared → Prop), Q' () s₁ → wpAny (model P w) A (g b) Q' E s₁) {o : Obj} {es es1 : Array (Int × Value)} {ep : Nat} {t t2 : SetTable} {js : List Key} {wasDummy : Bool}
    (ho : s.heap.get? a = some o) (hex : o.ExactSet) (hd : o.data = .set es ep t) (good : ∀ e ∈ es1.toList, EntG w e) (pm : (eKs es1).Perm js) (T : TabG w es1 t2) {R : Option Bool → Shared → Prop}
    (hR : ∀ h', Heap.SameBut a s.heap h' → SetG w h' a js → R (some true) { s with heap := h' }) :
    wpAny (model P w) A (storeSet a es1 t2 >>= fun _ => if (!wasDummy && t2.tooFull) = true then (g (relayAll t2 es1 (SetTable.grown es1.size)).2.2 >>= fun _ => storeSet a (relayAll t2 es1 (SetTable.grown es1.size)).1 (relayAll t2 es1 (SetTable.grown es1.size)).2.1 >>= fun _ => pure (some true)) else pure (some true)) R E s := by
  have o1 := put_at (es' := es1) (t' := t2) ho hd
  have b1 := Heap.SameBut.update s.heap a (Obj.putSet es1 t2)
  refine wpAny_bind (wpAny_storeSet_of ho hd ?_ (fits_of_scanBound T.few))
  by_cases c : (!wasDummy && t2.tooFull) = true
  · rw [if_pos c]
    have q1 := relayAll_perm t2 es1 (SetTable.grown es1.size)
    have q2 := relayAll_fits t2 es1 (SetTable.grown es1.size)
    have q3 := relayAll_ris t2 es1 (SetTable.grown es1.size)
    have q4 := relayAll_led t2 es1 (SetTable.grown es1.size)
    cases hz : relayAll t2 es1 (SetTable.grown es1.size) with
    | mk es2 z =>
      obtain ⟨t3, gave⟩ := z
      rw [hz] at q1 q2 q3 q4
      have hn : es2.size = es1.size := by
        have := q1.length_eq
        rwa [Array.length_toList, Array.length_toList] at this
      have T2 : TabG w es2 t3 := ⟨by rw [hn]; exact T.few, q2, q3, T.led.imp id fun e => q4.trans e⟩
      refine wpAny_bind (hg gave _ _ ?_)
      have o2 := put_at (es' := es2) (t' := t3) o1 rfl
      exact wpAny_bind (wpAny_storeSet_of o1 rfl (wpAny_pure (hR _ (b1.trans (Heap.SameBut.update _ a _)) ⟨_, es2, _, t3, o2, hex, rfl, fun e he => good e (q1.mem_iff.mp he), (q1.map _).trans pm, T2⟩)) (fits_of_scanBound T2.few))
  · rw [if_neg c]
    exact wpAny_pure (hR _ b1 ⟨_, es1, _, t2, o1, hex, rfl, good, pm, T⟩)
theorem add_key {k : Key} {v : Value} (hk : keyIs k v = true) (R : SetG w s.heap a ks) (room : ks.length + 1 < scanBound) {Q : Bool → Shared → Prop}
    (hQ : ∀ h' b, Heap.SameBut a s.heap h' → SetG w h' a (addK ks k) → Q b { s with heap := h' }) : wpAny (model P w) A (setAddHashed a v (keyH w k)) Q E s := by
  obtain ⟨o, es, ep, t, C⟩ := R
  have hsc : v.scannable = true := by
    rcases keyIs_shape hk with ⟨i, u, _, q⟩ | ⟨x, u, _, q⟩ <;> (rw [q]; rfl)
  have hkey : (mixKind P w).is k v = true := hk
  have hel : ElemsOf (mixKind P w) es.toList := elems_good C.good
  have hhash : keyH w k = (mixKind P w).hash k := rfl
  rw [hhash]
  unfold setAddHashed setAddHashedIn
  refine wpAny_holding (wpAny_bind (wpAny_setState_of C.at_ C.dat C.tab.fit ?_))
  simp only [byScan_of hsc C.tab.few hel, ↓reduceIte]
  unfold setAddByScan
  refine wpAny_bind (wpAny_bind (wpAny_rule (wpAny_bind (wpAny_setScan_of hkey C.at_ C.dat C.tab.fit hel ?_))))
  cases hfi : List.findIdx? (fun e => (mixKind P w).is k e.2) es.toList with
  | some j =>
    obtain ⟨hj, pj, _⟩ := List.findIdx?_eq_some_iff_getElem.mp hfi
    have hm : k ∈ ks := C.perm.mem_iff.mp (List.mem_map.mpr ⟨es.toList[j], List.getElem_mem hj, (is_iff (C.good _ (List.getElem_mem hj)) k).mp pj⟩)
    have q := hQ s.heap false (Heap.SameBut.refl a s.heap) ⟨o, es, ep, t, by unfold addK; rw [if_pos hm]; exact C⟩
    exact wpAny_pure (wpAny_pure q)
  | none =>
    have hnm : k ∉ ks := fun z => by
      obtain ⟨e, he, q⟩ := List.mem_map.mp (C.perm.mem_iff.mpr z)
      have c := List.findIdx?_eq_none_iff.mp hfi e he
      rw [(is_iff (P := P) (C.good e he) k).mpr q] at c
      cases c
    have ek : addK ks k = ks ++ [k] := by unfold addK; rw [if_neg hnm]
    have q1 := layNew_perm t es ((mixKind P w).hash k) v
    have q2 := layNew_fits t es ((mixKind P w).hash k) v
    have q3 := layNew_ris t es ((mixKind P w).hash k) v C.tab.ris
    have q4 := layNew_led t es ((mixKind P w).hash k) v
    have gave : ∀ (b : Bool) {s₁ : Shared} {Q' : Unit → Shared → Prop}, Q' () s₁ → wpAny (model P w) A (match b with | true => rule "set.scan.the-table-gave-way" | false => pure ()) Q' E s₁ := by
      intro b s₁ Q' q
      cases b
      · exact wpAny_pure q
      · exact wpAny_rule q
    cases hz : layNew t es ((mixKind P w).hash k) v with
    | mk es1 z =>
      obtain ⟨t1, wasDummy, gv⟩ := z
      rw [hz, Array.toList_push] at q1
      rw [hz] at q2 q3 q4
      have pe : (eKs es1).Perm (ks ++ [k]) := by
        have := q1.map fun e : Int × Value => kOf e.2
        rw [List.map_append] at this
        refine this.trans (List.Perm.append C.perm ?_)
        show ([kOf v] : List Key).Perm [k]
        rw [kOf_is hk]
      have gd : ∀ e ∈ es1.toList, EntG w e := fun e he => by
        rcases List.mem_append.mp (q1.mem_iff.mp he) with he | he
        · exact C.good e he
        · rw [List.mem_singleton.mp he]
          refine ⟨?_, ?_⟩
          · show keyIs (kOf v) v = true
            rw [kOf_is hk]; exact hk
          · show _ = keyH w (kOf v)
            rw [kOf_is hk]; rfl
      have hn : es1.size < scanBound := by
        have := pe.length_eq
        rw [eKs_len, List.length_append, List.length_singleton] at this
        omega
      have T1 : TabG w es1 t1 := ⟨hn, q2, q3, C.tab.led.imp id fun e => q4.trans e⟩
      have T1' : TabG w es1 { t1 with plain := false } := ⟨hn, SetTable.fits_plain_off q2, q3, C.tab.led.imp id fun e => q4.trans e⟩
      rw [ek] at hQ
      refine wpAny_bind (gave _ ?_)
      by_cases hp : t1.plain = true
      · simp only [hp, ↓reduceIte]
        refine wpAny_bind ?_
        rw [hashByValue_scannable 8 hsc]
        refine wpAny_pure ?_
        refine add_end (fun b s₁ Q' q => ?_) C.at_ C.ex C.dat gd pe ?_ ?_
        · cases b
          · exact wpAny_pure q
          · exact wpAny_rule q
        · first | exact T1' | (split <;> first | exact T1 | exact T1')
        · intro h' sb r
          exact wpAny_pure (hQ h' true sb r)
      · simp only [hp, ↓reduceIte]
        refine wpAny_bind (wpAny_pure ?_)
        refine add_end (fun b s₁ Q' q => ?_) C.at_ C.ex C.dat gd pe T1 ?_
        · cases b
          · exact wpAny_pure q
          · exact wpAny_rule q
        · intro h' sb r
          exact wpAny_pure (hQ h' true sb r)
end
end MP

namespace MP
open PySem PySem.Spec PyProof.Rows L2
theorem dedK_snoc (js : List Key) (k : Key) : dedK (js ++ [k]) = addK (dedK js) k := by
  unfold dedK; rw [List.foldl_append]; rfl
theorem dedK_len : ∀ js : List Key, (dedK js).length ≤ js.length := by
  intro js
  have key : ∀ (l acc : List Key), (l.foldl addK acc).length ≤ acc.length + l.length := by
    intro l
    induction l with
    | nil => intro acc; simp
    | cons k l ih =>
      intro acc
      have h1 := ih (addK acc k)
      have h2 := addK_len acc k
      rw [List.foldl_cons, List.length_cons]
      omega
  have := key js []
  rw [List.length_nil, Nat.zero_add] at this
  exact this
theorem dedK_mem {js : List Key} {k : Key} : k ∈ dedK js ↔ k ∈ js := by
  have key : ∀ (l acc : List Key), k ∈ l.foldl addK acc ↔ k ∈ acc ∨ k ∈ l := by
    intro l
    induction l with
    | nil => intro acc; simp
    | cons j l ih =>
      intro acc
      rw [List.foldl_cons, ih, addK_mem, List.mem_cons]
      exact or_assoc
  have := key js []
  rw [show (k ∈ ([] : List Key) ∨ k ∈ js) ↔ k ∈ js by simp] at this
  exact this
theorem dedK_nd (js : List Key) : (dedK js).Nodup := by
  have key : ∀ (l acc : List Key), acc.Nodup → (l.foldl addK acc).Nodup := by
    intro l
    induction l with
    | nil => exact fun _ h => h
    | cons j l ih => exact fun acc h => ih _ (addK_nd h)
  exact key js [] List.nodup_nil
abbrev KeysV (js : List Key) (vs : List Value) : Prop := Paired (fun k v => keyIs k v = true) js vs
abbrev noSet (w : World) : Obj := { cls := .type "set", dict := none, data := .set #[] 0 (.fresh 0 0 (!w.params.followText "set-order")) }
theorem fresh_set {w : World} {h : Heap} {a : Addr} (ho : h.get? a = some (noSet w)) : SetG w h a [] := by
  refine ⟨_, #[], 0, _, ho, ⟨rfl, rfl, rfl⟩, rfl, fun e he => by simp at he, .nil, ⟨by decide, rfl, List.Pairwise.nil, ?_⟩⟩
  cases hf : w.params.followText "set-order" with
  | true => exact .inl rfl
  | false => exact .inr rfl
section
variable {P : Program} {w : World} {A : Around} {E : Value → Shared → Prop} {s : Shared}
/-- the loop that adds all of what is walked -/
theorem upd_keys {I : Addr} {fp wr : List Addr} {G : Array GenState → Array GenState → Prop} {Pv : Nat → Value → Prop} {St : Nat → Shared → Prop} {R : Result → Shared → Prop} {js : List Key}
    (W : WalksS P w A.in1 I fp wr G js.length Pv St) {c : Addr} (hc : c ∉ fp) (hb : js.length + 1 < scanBound) (hval : ∀ i v, Pv i v → ∃ k, js[i]? = some k ∧ keyIs k v = true) :
    ∀ (m i : Nat) (s : Shared), m + i = js.length → St i s → SetG w s.heap c (dedK (js.take i)) → (∀ s', Moved (c :: wr) G s s' → SetG w s'.heap c (dedK js) → R (.ok (.ret .none)) s') →
      codeAny (model P w) A (.builtin "set.update.loop" ⟨[.ref c, .ref I], []⟩) R s := by
  have hw : c ∉ wr := fun h => hc (W.sub _ h)
  have up : ∀ b ∈ wr, b ∈ c :: wr := fun b hb => List.mem_cons_of_mem _ hb
  intro m
  induction m with
  | zero =>
    intro i s e hst hS hR
    have ei : i = js.length := by omega
    subst ei
    rw [List.take_length] at hS
    refine codeAny_builtin F.entry_set_update_loop ?_
    rw [Around.under_plainId F.plain_set_update_loop _]
    show wpAny _ A.in1 (pyNext (.ref I) >>= _) _ _ s
    refine wpAny_bind (W.done s _ _ hst fun s' hm => ?_)
    show wpAny _ A.in1 (ret Value.none) _ _ s'
    exact wpAny_pure (hR s' (hm.mono up) (hS.keep fun o q => hm.heap c o hw q))
  | succ m ih =>
    intro i s e hst hS hR
    refine codeAny_builtin F.entry_set_update_loop ?_
    rw [Around.under_plainId F.plain_set_update_loop _]
    show wpAny _ A.in1 (pyNext (.ref I) >>= _) _ _ s
    refine wpAny_bind (W.item i s _ _ (by omega) hst fun v s' hv hst' hm => ?_)
    obtain ⟨k, hk, kv⟩ := hval i v hv
    have hl := dedK_len (js.take i)
    rw [List.length_take] at hl
    have next : ∀ (s2 : Shared) (q : Moved (c :: wr) G s s2), St (i + 1) s2 → SetG w s2.heap c (dedK (js.take (i + 1))) → codeAny (model P w) A (.builtin "set.update.loop" ⟨[.ref c, .ref I], []⟩) R s2 := fun s2 q st g =>
      ih (i + 1) s2 (by omega) st g fun s3 q3 g3 => hR s3 (Moved.trans W.gtrans q q3) g3
    show wpAny _ A.in1 (holding [v] (setAdd c v) >>= _) _ _ s'
    refine wpAny_bind (wpAny_holding ?_)
    unfold setAdd
    refine wpAny_holding (wpAny_bind ((mixKind P w).pyHash (k := k) kv ?_))
    refine add_key (s := { s' with toks := s'.toks + 1 }) kv (hS.keep fun o q => hm.heap c o hw q) (by omega) fun h' b sb g => ?_
    refine wpAny_pure ⟨plainId_quiet F.plain_set_update_loop _, next _ ((hm.mono up).then_heap (Nat.le_succ _) fun b o hb q => ?_) (W.frame _ s' _ _ hst' (Nat.le_succ _) fun b hb o q => ?_) ?_⟩
    · rw [sb.2 b (fun z : b = c => hb (by rw [z]; exact List.mem_cons_self ..))]; exact q
    · rw [sb.2 b (fun z : b = c => hc (by rw [← z]; exact hb))]; exact q
    · rw [List.take_add_one, hk]
      show SetG w h' c (dedK (js.take i ++ [k]))
      rw [dedK_snoc]
      exact g
theorem paired_at {α β : Type} {R : α → β → Prop} : ∀ {xs : List α} {ys : List β} {i : Nat} {y : β}, Paired R xs ys → ys[i]? = some y → ∃ x, xs[i]? = some x ∧ R x y
  | _, _, _, _, .nil, e => by simp at e
  | _, _, 0, _, .cons r _, e => by simp at e; subst e; exact ⟨_, rfl, r⟩
  | _, _, i + 1, y, .cons _ t, e => by
    obtain ⟨x, h1, h2⟩ := paired_at (i := i) (y := y) t (by simpa using e)
    exact ⟨x, by simpa using h1, h2⟩
set_option maxHeartbeats 3200000 in
/-- set(xs), xs a list -/
theorem call_setK {l : Addr} {items : Array Value} {js : List Key} {Q : Value → Shared → Prop} (hh : A.handled = none) (hl : s.heap.IsList l items) (hj : KeysV js items.toList) (hb : js.length + 1 < scanBound)
    (h : ∀ (h' : Heap) (tk : Nat), SetG w h' s.heap.objs.size (dedK js) → (∀ b o, s.heap.get? b = some o → h'.get? b = some o) → Q (.ref s.heap.objs.size) { s with heap := h', toks := tk }) :
    wpAny (model P w) A (call (.type "set") [.ref l]) Q E s := by
  have hn : items.size = js.length := by
    have q := Paired.length hj
    rw [Array.length_toList] at q
    exact q.symm
  obtain ⟨c, tl, hmro⟩ := F.called_set.mro
  have hmade := F.called_set.made
  have hsub := F.called_set.sub
  refine wpAny_call (codeAny_of_tree ?_)
  show wpAny _ _ (callAny (.type "set") _) _ _ _
  refine wpAny_pure ⟨Code.quiet_builtin _ (by decide +kernel), codeAny_builtin F.entry_type_call ?_⟩
  rw [Around.under_plain (weight_type_call_type "set" [.ref l] []) rfl]
  have h1 := F.called_set.notType
  have h2 := F.called_set.canCreate
  have hct := F.typeCall_set_1 (.ref l)
  repeat (any_goals (first | assumption | wp_step))
  refine codeAny_mono (code_set_led1 (.ref l) (E := E) (Q₁ := fun obj s₁ => obj = .ref s.heap.objs.size ∧ s₁ = { s with heap := s.heap.push (noSet w) }) ⟨rfl, rfl⟩) fun r s₁ hr => ?_
  cases r with
  | error e => exact hr
  | ok fl =>
    cases fl with
    | ret obj =>
      obtain ⟨rfl, rfl⟩ := hr
      have hS : (s.heap.push (noSet w)).get? s.heap.objs.size = some (noSet w) := Heap.get?_push_size _ rfl
      have hT : Shared.TypeIs { s with heap := s.heap.push (noSet w) } (.ref s.heap.objs.size) "set" := ⟨_, hS, rfl⟩
      have hli := F.called_set.init.lookup
      have hbi := F.called_set.init.bind (.ref s.heap.objs.size)
      repeat (any_goals (first | assumption | wp_step))
      refine codeAny_mono (codeAny_call_builtin (R := wants (fun r s₂ => r = .none ∧ ∃ h' tk, s₂ = { s with heap := h', toks := tk } ∧ SetG w h' s.heap.objs.size (dedK js) ∧ (∀ b o, s.heap.get? b = some o → h'.get? b = some o)) E)
        F.called_set.init.plain F.entry_set_init (check_set_init_1 hT ?_)) fun r₂ s₂ hr₂ => ?_
      · obtain ⟨ol, hol, hcl, nl, hdl⟩ := hl
        obtain ⟨ocls, odict, odata, oslots⟩ := ol
        simp only at hcl hdl
        subst hcl; subst hdl
        have hol' : (s.heap.push (noSet w)).get? l = some { cls := .type "list", dict := odict, data := .seq items nl, slots := oslots } := Heap.get?_push_of_some _ hol
        have n1 := F.sub_list_set
        have n2 := F.sub_list_frozenset
        have n3 : (Value.type "list" == Value.type "dict") = false := by decide
        have hl1 : (s.heap.push (noSet w)).IsList l items := ⟨_, hol', rfl, nl, rfl⟩
        unfold Builtin.«set.__init__» noKeywords Builtin.Frozenset.updateFrom
        generalize hPI : pyIter = PI
        wp_walk
        subst hPI
        refine wpAny_pyIter_list hl1 (wpAny_bind (wpAny_runValue ?_))
        have hlt : l < s.heap.objs.size := Heap.lt_size hol
        have hz : (s.heap.push (noSet w)).objs.size = s.heap.objs.size + 1 := Heap.size_push ..
        have hne : l ≠ (s.heap.push (noSet w)).objs.size := by rw [hz]; exact Nat.ne_of_lt (Nat.lt_succ_of_lt hlt)
        have hcf : s.heap.objs.size ∉ [(s.heap.push (noSet w)).objs.size, l] := by
          rw [hz]
          simp only [List.mem_cons, List.not_mem_nil, or_false, not_or]
          exact ⟨Nat.ne_of_lt (Nat.lt_succ_self _), Nat.ne_of_gt hlt⟩
        have hval : ∀ (i : Nat) (v : Value), items[i]? = some v → ∃ k, js[i]? = some k ∧ keyIs k v = true := fun i v hv => paired_at (R := fun k v => keyIs k v = true) hj (by rw [Array.getElem?_toList]; exact hv)
        have W := (Walks.list (prog := P) (w := w) (show A.in1.in1.in1.handled = none by simp [hh]) _ l hne items).toS
        rw [hn] at W
        refine upd_keys W hcf hb hval js.length 0 _ rfl ⟨⟨_, Heap.get?_push_size _ rfl, rfl, rfl⟩, hl1.push _⟩ (fresh_set (Heap.get?_push_of_some _ hS)) fun s' hm hS' => ?_
        obtain ⟨h', g2, d', tk', os'⟩ := s'
        have eg : g2 = s.gens := hm.gens
        have ed : d' = s.drawn := hm.drawn
        have eo : os' = s.os := hm.os
        subst eg; subst ed; subst eo
        show wpAny _ _ _ _ _ _
        refine wpAny_pure ?_
        show wpAny _ _ (ret Value.none) _ _ _
        refine wpAny_pure ⟨rfl, h', tk', rfl, hS', fun b o e => ?_⟩
        have hb0 : b < s.heap.objs.size := Heap.lt_size e
        refine hm.heap b o (fun z => ?_) (Heap.get?_push_of_some _ (Heap.get?_push_of_some _ e))
        rcases List.mem_cons.mp z with z | z
        · exact Nat.ne_of_lt hb0 z
        · have z2 := List.mem_singleton.mp z
          rw [hz] at z2
          exact Nat.ne_of_lt (Nat.lt_succ_of_lt hb0) z2
      · cases r₂ with
        | error e => exact hr₂
        | ok fl₂ =>
          cases fl₂ with
          | ret r =>
            obtain ⟨rfl, h', tk, rfl, hS', hk'⟩ := hr₂
            repeat (any_goals (first | assumption | wp_step))
            exact h _ _ hS' hk'
          | _ => exact hr₂.elim
    | _ => exact hr.elim
end
end MP

namespace MP
open PySem PySem.Spec PyProof.Rows L2
/-! ### sorted(set(xs)), xs a list of numbers or a list of texts -/
def sv : Value → List Nat
  | .str x _ => x.cps.toList
  | _ => []
def ltSv (v u : Value) : Bool := decide (sv v < sv u)
theorem swo_str : SrtO.Swo ltSv := by
  refine ⟨fun x y h => decide_eq_false fun q => ?_, fun x y z h1 h2 => decide_eq_false fun q => ?_⟩
  · exact List.lt_irrefl _ (List.lt_trans (of_decide_eq_true h) q)
  · have a1 : ¬ sv y < sv x := of_decide_eq_false h1
    have a2 : ¬ sv z < sv y := of_decide_eq_false h2
    exact a1 (List.lt_of_le_of_lt (List.not_lt.mp a2) q)
section
variable {prog : Program} {w : World} {A : Around} {E : Value → Shared → Prop} {s : Shared}
theorem strs_sortable {a : Addr} {vs : List Value} {ss : List Str} (hS : StrsAre vs ss) (h2 : 2 ≤ vs.length) : SrtO.SortableO prog w A s a vs ltSv := by
  intro h' _
  refine ⟨oneType', fun Q E hq => ?_, fun p q hp hq => ?_⟩
  · match vs, hS, h2 with
    | v1 :: v2 :: rest, hS, _ =>
      rw [keyKind_strs hS]
      exact wpAny_pure hq
    | [], _, h => exact absurd h (by decide)
    | [v], _, h => exact absurd h (by simp)
  · obtain ⟨x, t, e⟩ := hS.all _ hp
    obtain ⟨y, u, e2⟩ := hS.all _ hq
    show wpAny (model prog w) A (keyLt' oneType' p.1 q.1) (fun r s' => s' = { s with heap := h' } ∧ r = ltSv p.1 q.1) (fun _ _ => False) { s with heap := h' }
    rw [e, e2, keyLt'_oneType]
    exact oneLt_str ⟨rfl, rfl⟩
end
/-- keys in order -/
def leK : Key → Key → Prop
  | .inl i, .inl j => i ≤ j
  | .inr x, .inr y => ¬ y.cps.toList < x.cps.toList
  | _, _ => False
def SameK (ks : List Key) : Prop := (∀ k ∈ ks, ∃ i, k = .inl i) ∨ ∀ k ∈ ks, ∃ x, k = .inr x
theorem strs_of : ∀ {vs : List Value}, (∀ v ∈ vs, ∃ x t, v = Value.str x t) → ∃ ss, StrsAre vs ss
  | [], _ => ⟨[], .nil⟩
  | v :: vs, h => by
    obtain ⟨x, t, rfl⟩ := h v (List.mem_cons_self ..)
    obtain ⟨ss, q⟩ := strs_of fun u hu => h u (List.mem_cons_of_mem _ hu)
    exact ⟨x :: ss, .cons _ _ q⟩
section
variable {P : Program} {w : World} {A : Around} {E : Value → Shared → Prop} {s : Shared} {a : Addr} {ks : List Key}
/-- the members of a set, put in order -/
theorem sorted_setK {Q : Value → Shared → Prop} (R : SetG w s.heap a ks) (hh : A.handled = none) (hs : SameK ks)
    (hQ : ∀ (s' : Shared) (p : Addr) (out : List Value) (c : Nat), (∀ b o, s.heap.get? b = some o → s'.heap.get? b = some o) → s'.gens = s.gens → s'.os = s.os → s.heap.objs.size ≤ p → s'.heap.get? p = some (seqObj "list" out.toArray c) →
      out.length ≤ sizeLine → (out.map kOf).Perm ks → (∀ v ∈ out, keyIs (kOf v) v = true) → (out.map kOf).Pairwise leK → Q (.ref p) s') :
    wpAny (model P w) A (call (.builtin "sorted") [.ref a]) Q E s := by
  obtain ⟨o, es, ep, t, C⟩ := R
  have fin : ∀ (lt : Value → Value → Bool) (O : SrtO.Swo lt), (∀ vs : List Value, (∀ v ∈ vs, keyIs (kOf v) v = true ∧ kOf v ∈ ks) → 2 ≤ vs.length → ∀ (s : Shared) (a : Addr), SrtO.SortableO P w A.in1.in1 s a vs lt) →
      (∀ x y : Value, keyIs (kOf x) x = true ∧ kOf x ∈ ks → keyIs (kOf y) y = true ∧ kOf y ∈ ks → lt y x = false → leK (kOf x) (kOf y)) → wpAny (model P w) A (call (.builtin "sorted") [.ref a]) Q E s := by
    intro lt O hS hle
    refine sorted_col O (collect_set (A := A.in1) (by simp [hh]) ⟨o, C.at_, C.ex.1, C.dat⟩ C.tab.fit C.tab.few C.tab.ris C.tab.led fun s' vs keep hz hg ho pm => ?_)
    have pk : (vs.map kOf).Perm ks := by
      have := pm.map kOf
      rw [List.map_map] at this
      exact this.trans C.perm
    have gd : ∀ v ∈ vs, keyIs (kOf v) v = true ∧ kOf v ∈ ks := fun v hv => by
      refine ⟨?_, pk.mem_iff.mp (List.mem_map_of_mem hv)⟩
      obtain ⟨e, he, q⟩ := List.mem_map.mp (pm.mem_iff.mp hv)
      have := (C.good e he).1
      rw [q] at this
      exact this
    have hvl : vs.length ≤ sizeLine := by
      rw [pm.length_eq, List.length_map, Array.length_toList]
      exact fits_of_scanBound C.tab.few
    refine ⟨hvl, fun h2 h₁ a' _ => hS vs gd h2 _ _, fun out hsr hst => ?_⟩
    have po := hst.perm
    have go : ∀ v ∈ out, keyIs (kOf v) v = true ∧ kOf v ∈ ks := fun v hv => gd v (po.mem_iff.mp hv)
    have hoL : (s'.heap.push (seqObj "list" vs.toArray 0)).get? s'.heap.objs.size = some (seqObj "list" vs.toArray 0) := Heap.get?_push_size _ rfl
    obtain ⟨c, hc⟩ := sortedHeap_at (vs := vs) (out := out.toArray) hoL
    refine hQ _ s'.heap.objs.size out c (fun b u e => ?_) hg ho hz hc (by rw [po.length_eq]; exact hvl) ((po.map kOf).trans pk) (fun v hv => (go v hv).1) ?_
    · have q := keep b u e
      have hlt := Heap.lt_size q
      show (sortedHeap (s'.heap.push (seqObj "list" vs.toArray 0)) s'.heap.objs.size vs out.toArray).get? b = some u
      rw [sortedHeap_old (Nat.ne_of_lt hlt) (by rw [size_push']; exact Nat.lt_succ_of_lt hlt)]
      exact Heap.get?_push_of_some _ q
    · refine List.pairwise_map.mpr (List.Pairwise.imp_of_mem (fun {x y} hx hy h => hle x y (go x hx) (go y hy) h) hsr)
  rcases hs with hs | hs
  · refine fin SrtO.ltIv SrtO.swo_int (fun vs hv h2 s a => ?_) (fun x y hx hy h => ?_)
    · refine SrtO.ints_sortable (SrtO.ints_iv fun v q => ?_) h2
      obtain ⟨h1, h3⟩ := hv v q
      obtain ⟨i, e⟩ := hs _ h3
      rw [e] at h1
      rcases keyIs_shape h1 with ⟨j, t, _, r⟩ | ⟨_, _, z, _⟩
      · exact ⟨j, t, r⟩
      · cases z
    · obtain ⟨i, ei⟩ := hs _ hx.2
      obtain ⟨j, ej⟩ := hs _ hy.2
      have hx1 := hx.1
      have hy1 := hy.1
      rw [ei] at hx1 ⊢
      rw [ej] at hy1 ⊢
      rcases keyIs_shape hx1 with ⟨i', t, z, r⟩ | ⟨_, _, z, _⟩
      · rcases keyIs_shape hy1 with ⟨j', t', z', r'⟩ | ⟨_, _, z', _⟩
        · cases z
          cases z'
          rw [r, r'] at h
          have h' : ¬ j < i := of_decide_eq_false h
          show i ≤ j
          omega
        · cases z'
      · cases z
  · refine fin ltSv swo_str (fun vs hv h2 s a => ?_) (fun x y hx hy h => ?_)
    · obtain ⟨ss, hS⟩ := strs_of (vs := vs) fun v q => by
        obtain ⟨h1, h3⟩ := hv v q
        obtain ⟨i, e⟩ := hs _ h3
        rw [e] at h1
        rcases keyIs_shape h1 with ⟨_, _, z, _⟩ | ⟨j, t, _, r⟩
        · cases z
        · exact ⟨j, t, r⟩
      exact strs_sortable hS h2
    · obtain ⟨i, ei⟩ := hs _ hx.2
      obtain ⟨j, ej⟩ := hs _ hy.2
      have hx1 := hx.1
      have hy1 := hy.1
      rw [ei] at hx1 ⊢
      rw [ej] at hy1 ⊢
      rcases keyIs_shape hx1 with ⟨_, _, z, _⟩ | ⟨i', t, z, r⟩
      · cases z
      · rcases keyIs_shape hy1 with ⟨_, _, z', _⟩ | ⟨j', t', z', r'⟩
        · cases z'
        · cases z
          cases z'
          rw [r, r'] at h
          exact of_decide_eq_false h
end
def SetHO (w : World) (a : Addr) (ks : List Key) : HO := .ext fun h => SetG w h a ks
theorem setHO_new {P : Program} {w : World} {H : Hp} {h : Heap} {a : Addr} {ks : List Key} (R : SetG w h a ks) : ObjOk P w H h a (SetHO w a ks) := by
  have ⟨o, es, ep, t, C⟩ := R
  exact ⟨R, ⟨o, C.at_⟩, fun h1 h2 p k => p.keep k⟩
section
variable {X : Cx}
theorem keys_vals : ∀ {js : List Key} {us : List Value}, Vals (js.map kV) us → KeysV js us
  | [], _, .nil => .nil
  | k :: js, _, .cons r t => by
    refine .cons ?_ (keys_vals t)
    cases k with
    | inl i =>
      obtain ⟨t, rfl⟩ := r
      exact keyIs_int i t
    | inr x =>
      obtain ⟨t, rfl⟩ := r
      exact keyIs_str x t
theorem vals_keys : ∀ {us : List Value}, (∀ v ∈ us, keyIs (kOf v) v = true) → Vals ((us.map kOf).map kV) us
  | [], _ => .nil
  | v :: us, h => by
    refine .cons ?_ (vals_keys fun u hu => h u (List.mem_cons_of_mem _ hu))
    rcases keyIs_shape (h v (List.mem_cons_self ..)) with ⟨i, t, e, r⟩ | ⟨x, t, e, r⟩
    · rw [e, r]; exact ⟨t, rfl⟩
    · rw [e, r]; exact ⟨t, rfl⟩
def rSetK (X : Cx) : List V → Hp → VK → Prop := fun xs H Q => ∃ (l : Addr) (js : List Key), xs = [V.ref l] ∧ SqL X.K H l (js.map kV) ∧ js.length + 1 < scanBound ∧ ∀ a, H a = none → Q (.ref a) (upd H a (SetHO X.w a (dedK js)))
theorem cr_setK (hc : X.calm = true) : CallR X (.type "set") (rSetK X) := by
  intro pins s σ H xs us Q I r ⟨l, js, e, hl, hb, q⟩
  subst e
  rw [Vals.ref1 r]
  obtain ⟨its, rv, pl, hz⟩ := I.list hl
  refine call_setK (P := X.prog) (w := X.w) (I.ok.hd hc) pl.isList (by simpa using keys_vals rv) hb fun h' tk R k => ?_
  exact ⟨.ref s.heap.objs.size, upd H s.heap.objs.size (SetHO X.w s.heap.objs.size (dedK js)), I.laid (t' := tk) k (Nat.le_refl _) (setHO_new R), rfl, q _ (I.hok.fresh (Nat.le_refl _))⟩
def rSortK (X : Cx) : List V → Hp → VK → Prop := fun xs H Q => ∃ (a : Addr) (ks : List Key), xs = [V.ref a] ∧ H a = some (SetHO X.w a ks) ∧ SameK ks ∧ ∀ (js : List Key) (p : Addr), js.Perm ks → js.Pairwise leK → H p = none → Q (.ref p) (upd H p (.lst (js.map kV)))
theorem cr_sortK (hc : X.calm = true) : CallR X (.builtin "sorted") (rSortK X) := by
  intro pins s σ H xs us Q I r ⟨a, ks, e, ha, hs, q⟩
  subst e
  have R : SetG X.w s.heap a ks := (I.hok a _ ha).1
  rw [Vals.ref1 r]
  refine sorted_setK R (I.ok.hd hc) hs fun s' p out c k g o hp hg hz pm gd pw => ?_
  have hn : H p = none := I.hok.fresh hp
  have hlen : ((out.map kOf).map kV).length ≤ sizeLine := by rw [List.length_map, List.length_map]; exact hz
  have J : Inv X pins σ (upd H p (.lst ((out.map kOf).map kV))) { s with heap := s'.heap, gens := s'.gens, drawn := s'.drawn, toks := s'.toks } :=
    I.call (ch := []) (Un.laid k hp hn) (I.hok.laid k hp ⟨hlen, out, c, vals_keys gd, hg⟩) (by rw [g]; exact I.bare) (fun _ z => nomatch z)
  have e : s' = { s with heap := s'.heap, gens := s'.gens, drawn := s'.drawn, toks := s'.toks } := by
    cases s'
    cases s
    cases o
    rfl
  rw [e]
  exact ⟨.ref p, _, J, rfl, q (out.map kOf) p pm pw hn⟩
end
end MP

namespace MP
open PySem PySem.Spec PyProof.Rows L2
/-! ### enumerate of a list, a tuple, a text -/
abbrev egH (h : Heap) (c : Zc) : Heap := (h.push c.obj).push { cls := .type "enumerate", data := .fields #[.none, .bool false, .ref h.objs.size, rawInt 0, .none, .none] }
set_option maxHeartbeats 1000000 in
theorem meets_enumG_new (c : Zc) :
    Meets (Builtin.«enumerate.__new__» ⟨[.type "enumerate", c.val], []⟩) (fun _ R s => c.has s.heap ∧ R (.ok (.ret (.ref (s.heap.push c.obj).objs.size))) { s with heap := egH s.heap c }) :=
  .of_wp fun prog w A R s h => by
    obtain ⟨hp, g, d, tk, os⟩ := s
    obtain ⟨hl, h⟩ := h
    have hsub := sub_enumerate
    have hL : c.has (Shared.heap ⟨hp, g, d, tk, os⟩) := hl
    wp_walk using Zc.iter hL
    refine wpAny_stack_any fun st => wpAny_pure ?_
    split
    · rename_i c2 _ _ _ _ _
      cases (c2 == Value.type "enumerate")
      all_goals
        wp_walk using Zc.iter hL
        exact ⟨_, rfl, h⟩
    · wp_walk using Zc.iter hL
      exact ⟨_, rfl, h⟩
section
variable {prog : Program} {w : World} {A : Around} {E : Value → Shared → Prop} {s : Shared}
theorem call_enumG {c : Zc} {Q : Value → Shared → Prop} (hl : c.has s.heap)
    (h : ∀ h', IsEnum h' (s.heap.objs.size + 1) s.heap.objs.size 0 .none → c.st s.heap.objs.size 0 h' → (∀ b o, s.heap.get? b = some o → h'.get? b = some o) → Q (.ref (s.heap.objs.size + 1)) { s with heap := h' }) :
    wpAny (model prog w) A (call (.type "enumerate") [c.val]) Q E s := by
  refine callType_new F.called_enumerate (by decide) (F.typeCall_enumerate_1 _) (F.newCall_enumerate_1 _) (fun obj => F.args_object_init_2 obj _) F.entry_enumerate_new (meets_enumG_new c) ⟨hl, ?_⟩
  have hz : (s.heap.push c.obj).objs.size = s.heap.objs.size + 1 := Heap.size_push ..
  show _ ∧ _
  rw [hz]
  have he : (egH s.heap c).get? (s.heap.push c.obj).objs.size = some _ := Heap.get?_push_size _ rfl
  rw [hz] at he
  exact ⟨⟨_, he, rfl⟩, h _ he (c.st0 (Heap.get?_push_of_some _ (Heap.get?_push_size _ c.notFreed))) fun b o q => Heap.get?_push_of_some _ (Heap.get?_push_of_some _ q)⟩
end
/-- each item with its number in a new pair -/
def ItN (K : PySem.W.Frag) (d : Vc) : It :=
  ⟨fun i H => ∃ x, d.at_ K H i x, fun i H v H' => ∃ T x, v = .ref T ∧ H T = none ∧ H' = upd H T (.tup [.int (i : Nat), x]) ∧ d.must K H i x, fun i H => d.no K H i⟩
theorem turn_enumG {P : Program} {w : World} {K : PySem.W.Frag} {elts : List Expr} {kk : Nat} {tpos : Pos} {c : Zc} {e it : Addr} (hne : e ≠ it) (hef : e ∉ c.fp it) (ha : ∀ a, (c = .l a ∨ c = .t a) → a ≠ it) :
    Turn P w K (.Tuple elts kk tpos) (ItN K c.vc) [e, it] e (fun i h => (∃ old, IsEnum h e it ((i : Nat) : Int) old) ∧ c.st it i h) where
  mem := by simp
  obj := fun i h st b hb => by
    obtain ⟨⟨old, he⟩, st⟩ := st
    have e' : b = e ∨ b = it := by simpa using hb
    rcases e' with z | z
    · rw [z]; exact ⟨_, he, fun v q => nomatch q⟩
    · rw [z]; exact Zc.st_obj st
  keep := fun i h h' st k => let ⟨⟨old, he⟩, q⟩ := st; ⟨⟨old, k e (by simp) _ he⟩, Zc.st_kept q fun o q => k it (by simp) o q⟩
  item := by
    intro X hP hw hK hc i pins s σ H E I hf st hg
    subst hP hw hK
    obtain ⟨⟨old, he⟩, hst⟩ := st
    obtain ⟨x, at1⟩ := hg
    obtain ⟨n1, P1, St1, D1, l1, t1, b1, m1⟩ := Zc.draw (it := it) I (I.ok.hd hc) (fun _ _ => Decidable.em _) ha at1
    have hel : e < s.heap.objs.size := Heap.lt_size he
    refine wpAny_pyNext_enum_itemD D1 he (t1 _ (fun _ _ => rfl) hst) l1 hne hef fun u h' tk p1 ho s1' hT hsz hk => ?_
    have hst' := b1 h' s1'
    obtain ⟨ru, mu⟩ := m1 u p1
    refine ⟨_, rfl, wpAny_letOwnedTupleGo_enum (s := { s with heap := h', toks := tk + 1 }) ho fun h'' he' sb => ?_⟩
    have hT2 : h''.get? s.heap.objs.size = some { cls := .type "tuple", data := .seq #[.int i tk, u] } := (sb.2 _ (Nat.ne_of_gt hel)).trans hT
    have new : ObjOk X.prog X.w (upd H s.heap.objs.size (.tup [.int (i : Nat), x])) h'' s.heap.objs.size (.tup [.int (i : Nat), x]) :=
      ⟨by show 2 ≤ sizeLine; decide, [.int i tk, u], .cons ⟨_, rfl⟩ (.cons ru .nil), ⟨_, hT2, rfl, _, rfl⟩⟩
    have I1 : Inv X pins σ (upd H s.heap.objs.size (.tup [.int (i : Nat), x])) { s with heap := h'', toks := tk + 1 } :=
      I.turnedNew (t' := tk + 1) (ch := [e, it]) (fun b ob hb q => (sb.2 b (fun z => hb (by simp [z]))).trans (hk b ob (fun z => hb (by simp [z])) (fun z => hb (by simp [z])) q)) hf (Nat.le_refl _) new
    refine ⟨.ref s.heap.objs.size, _, I1, rfl, ⟨_, x, rfl, I.hok.fresh (Nat.le_refl _), rfl, mu⟩, ⟨⟨u, ?_⟩, Zc.st_kept hst' fun o q => (sb.2 it (Ne.symm hne)).trans q⟩, fun b hb => ?_⟩
    · have e1 : ((i + 1 : Nat) : Int) = (i : Int) + 1 := by omega
      rw [e1]; exact he'
    · have hb' : b < s.heap.objs.size := by
        have e' : b = e ∨ b = it := by simpa using hb
        rcases e' with z | z
        · rw [z]; exact hel
        · rw [z]; obtain ⟨_, q, _⟩ := Zc.st_obj hst; exact Heap.lt_size q
      rw [upd_ne (Nat.ne_of_lt hb')]
      exact (hf b hb).1
  done := by
    intro X hP hw hK hc i pins s σ H E I hf st hg
    subst hP hw hK
    obtain ⟨⟨old, he⟩, hst⟩ := st
    obtain ⟨P1, St1, D1, t1⟩ := Zc.drawEnd (it := it) I (I.ok.hd hc) hg
    obtain ⟨f0, f1, f2, f3, f4, f5⟩ := hf it (by simp)
    exact wpAny_pyNext_enum_endD D1 he (t1 _ (fun _ _ => rfl) hst) fun h' eb => ⟨rfl, I.turned (t' := s.toks) (fun b o hb q => eb b o hb q) f0 f1 f3 f4 f5⟩
  self := fun A i s Q E st h => let ⟨⟨_, he⟩, _⟩ := st; wpAny_pyIter_enum he h
theorem itok_enum {K ρ n H c s} (o : CpOk K ρ n H c s) : ItOk K ρ n H (ItN K.1 c) (.enum s) := by
  intro ρ' h' H' i e S
  obtain ⟨n1, a1⟩ := o ρ' h' H' i e S
  refine ⟨fun z => ?_, fun d z => ?_⟩
  · cases q1 : s.tick h' i with
    | none => simp [Src.tick, q1] at z
    | some t1 =>
      cases t1 with
      | none => exact n1 q1
      | some d1 => simp [Src.tick, q1] at z
  · cases q1 : s.tick h' i with
    | none => simp [Src.tick, q1] at z
    | some t1 =>
      cases t1 with
      | none => simp [Src.tick, q1] at z
      | some d1 =>
        simp only [Src.tick, q1, Option.some.injEq] at z
        obtain ⟨x, hx, mx⟩ := a1 d1 q1
        refine ⟨⟨x, hx⟩, fun v H'' ⟨T, x', e1, nT, e2, m1⟩ => ?_⟩
        subst e1 e2 z
        have ex : Ext K ρ' h'.length H' ρ' h'.length (upd H' T (.tup [.int (i : Nat), x'])) := Ext.new nT
        refine ⟨ex, S.new nT, ?_⟩
        unfold Rp
        exact ⟨T, [.int (i : Nat), x'], rfl, .inl upd_same, RpL.ext ex _ _ (RpL.cons of_int (RpL.cons (mx x' m1) .nil))⟩
def wiEnum (w : WE) : WI := fun fr h P => w fr h fun d h1 => match srcOf h1 d with
  | some s => P (.enum s) h1
  | none => False
section
variable {X : Cx}
theorem si_enum {e : Expr} {we : WE} {p pos tpos : Pos} {elts : List Expr} {kk : Nat} (hg : Gl X "enumerate") (hm : X.mg "enumerate" = none) (ha : SE X e we) (hs : starEach [e] X.env = (false, eval e X.env) :: starEach [] X.env) :
    SI X (.Tuple elts kk tpos) (.Call (.Name "enumerate" p) [e] [] pos) (wiEnum we) := by
  refine ⟨fun pins s σ H R I ⟨ρ, fr, h, P, S, F, w, c⟩ => ?_⟩
  refine Call_ (ld_blt I hg hm PyProof.Rows.boot_enumerate (PyProof.Rows.callWith_type1 (args_cons (thn (ha.run pins s σ H (fun v H1 => ∃ ρ1 h1 d, Ext X.kw ρ h.length H ρ1 h1.length H1 ∧ Sim X.kw ρ1 h1 H1 ∧ Rp X.kw H1 ρ1 h1.length d v ∧
    (match srcOf h1 d with | some s => P (.enum s) h1 | none => False)) I ⟨ρ, fr, h, _, S, F, w, fun ρ1 h1 H1 d v e1 S1 r1 w1 => ⟨ρ1, h1, d, e1, S1, r1, w1⟩⟩) fun u s1 ⟨v, H1, I1, r1, ρ1, h1, d, e1, S1, l1, w1⟩ => args_nil ?_) hs) hs))
  split at w1
  · rename_i s' q
    obtain ⟨c1, rfl, o1, hl1, ht1⟩ := zc_of S1 l1 r1 q
    obtain ⟨has1, lt1⟩ := zc_has I1 hl1 ht1
    refine call_enumG has1 fun h' he st hk => wpAny_pyIter_enum he ?_
    have I2 : Inv X pins σ H1 { s1 with heap := h' } := I1.kept (t' := s1.toks) hk
    have f1 : s1.heap.objs.size + 1 ∉ c1.fp s1.heap.objs.size := fun hm1 => by
      rcases fp_mem hm1 with z | z
      · exact nne (n := s1.heap.objs.size) (a := 1) (b := 0) (by decide) z
      · exact nlt (lt1 _ z) rfl
    refine ⟨s1.heap.objs.size + 1, [s1.heap.objs.size + 1, s1.heap.objs.size], _, _, H1, rfl, I2, turn_enumG (c := c1) (nne (b := 0) (by decide)) f1 (fun a z => Nat.ne_of_lt (lt1 a z)), ⟨⟨.none, he⟩, st⟩, fun b hb => ?_, ?_⟩
    · have e' : b = s1.heap.objs.size + 1 ∨ b = s1.heap.objs.size := by simpa using hb
      have hle : s1.heap.objs.size ≤ b := by
        rcases e' with z | z
        · rw [z]; exact Nat.le_add_right _ _
        · rw [z]; exact Nat.le_refl _
      exact I1.fpOk hle (I1.hok.fresh hle)
    · exact c ρ1 h1 H1 _ _ e1 S1 (itok_enum o1) w1
  · exact w1.elim
end
end MP

namespace MP
open PySem PySem.Spec PyProof.Rows L2
/-! ### a set made of a text -/
/-- the signs of a text, each a text -/
def signs (x : Str) : List Key := x.cps.toList.map fun c => .inr ⟨#[c]⟩
theorem signs_size {x : Str} : x.cps.size = (signs x).length := by unfold signs; rw [List.length_map, Array.length_toList]
theorem sign_key {x : Str} {i : Nat} {v : Value} (h : SignAt x i v) : ∃ k, (signs x)[i]? = some k ∧ keyIs k v = true := by
  obtain ⟨c, t, e, rfl⟩ := h
  refine ⟨.inr ⟨#[c]⟩, ?_, keyIs_str _ _⟩
  unfold signs
  rw [List.getElem?_map, Array.getElem?_toList, e]; rfl
theorem sub_str_setM : isSubtype (.type "str") (.type "set") = pure false := by rw [isSubtype_type]; kernel_rfl
theorem sub_str_frzM : isSubtype (.type "str") (.type "frozenset") = pure false := by rw [isSubtype_type]; kernel_rfl
section
variable {P : Program} {w : World} {A : Around} {E : Value → Shared → Prop} {s : Shared}
set_option maxHeartbeats 3200000 in
/-- set(x), x a text -/
theorem call_setS {x : Str} {tx : Tok} {Q : Value → Shared → Prop} (hh : A.handled = none) (hb : (signs x).length + 1 < scanBound)
    (h : ∀ (h' : Heap) (tk : Nat), SetG w h' s.heap.objs.size (dedK (signs x)) → (∀ b o, s.heap.get? b = some o → h'.get? b = some o) → Q (.ref s.heap.objs.size) { s with heap := h', toks := tk }) :
    wpAny (model P w) A (call (.type "set") [.str x tx]) Q E s := by
  obtain ⟨c, tl, hmro⟩ := F.called_set.mro
  have hmade := F.called_set.made
  have hsub := F.called_set.sub
  refine wpAny_call (codeAny_of_tree ?_)
  show wpAny _ _ (callAny (.type "set") _) _ _ _
  refine wpAny_pure ⟨Code.quiet_builtin _ (by decide +kernel), codeAny_builtin F.entry_type_call ?_⟩
  rw [Around.under_plain (weight_type_call_type "set" [.str x tx] []) rfl]
  have h1 := F.called_set.notType
  have h2 := F.called_set.canCreate
  have hct := F.typeCall_set_1 (.str x tx)
  repeat (any_goals (first | assumption | wp_step))
  refine codeAny_mono (code_set_led1 (.str x tx) (E := E) (Q₁ := fun obj s₁ => obj = .ref s.heap.objs.size ∧ s₁ = { s with heap := s.heap.push (noSet w) }) ⟨rfl, rfl⟩) fun r s₁ hr => ?_
  cases r with
  | error e => exact hr
  | ok fl =>
    cases fl with
    | ret obj =>
      obtain ⟨rfl, rfl⟩ := hr
      have hS : (s.heap.push (noSet w)).get? s.heap.objs.size = some (noSet w) := Heap.get?_push_size _ rfl
      have hT : Shared.TypeIs { s with heap := s.heap.push (noSet w) } (.ref s.heap.objs.size) "set" := ⟨_, hS, rfl⟩
      have hli := F.called_set.init.lookup
      have hbi := F.called_set.init.bind (.ref s.heap.objs.size)
      repeat (any_goals (first | assumption | wp_step))
      refine codeAny_mono (codeAny_call_builtin (R := wants (fun r s₂ => r = .none ∧ ∃ h' tk, s₂ = { s with heap := h', toks := tk } ∧ SetG w h' s.heap.objs.size (dedK (signs x)) ∧ (∀ b o, s.heap.get? b = some o → h'.get? b = some o)) E)
        F.called_set.init.plain F.entry_set_init (check_set_init_1 hT ?_)) fun r₂ s₂ hr₂ => ?_
      · have n1 := sub_str_setM
        have n2 := sub_str_frzM
        have n3 : (Value.type "str" == Value.type "dict") = false := by decide
        unfold Builtin.«set.__init__» noKeywords Builtin.Frozenset.updateFrom
        generalize hPI : pyIter = PI
        wp_walk
        subst hPI
        have hz : (s.heap.push (noSet w)).objs.size = s.heap.objs.size + 1 := Heap.size_push ..
        refine wpAny_pyIter_str fun o St hW hst => wpAny_bind (wpAny_runValue ?_)
        have hcf : s.heap.objs.size ∉ [(s.heap.push (noSet w)).objs.size] := by
          rw [hz]
          simp only [List.mem_cons, List.not_mem_nil, or_false]
          exact Nat.ne_of_lt (Nat.lt_succ_self _)
        have W := (hW A.in1.in1.in1 (by simp [hh])).toS
        rw [signs_size] at W
        refine upd_keys W hcf hb (fun i v hv => sign_key hv) (signs x).length 0 _ rfl hst (fresh_set (Heap.get?_push_of_some _ hS)) fun s' hm hS' => ?_
        obtain ⟨h', g2, d', tk', os'⟩ := s'
        have eg : g2 = s.gens := hm.gens
        have ed : d' = s.drawn := hm.drawn
        have eo : os' = s.os := hm.os
        subst eg; subst ed; subst eo
        show wpAny _ _ _ _ _ _
        refine wpAny_pure ?_
        show wpAny _ _ (ret Value.none) _ _ _
        refine wpAny_pure ⟨rfl, h', tk', rfl, hS', fun b o e => ?_⟩
        have hb0 : b < s.heap.objs.size := Heap.lt_size e
        refine hm.heap b o (fun z => ?_) (Heap.get?_push_of_some _ (Heap.get?_push_of_some _ e))
        rcases List.mem_cons.mp z with z | z
        · exact Nat.ne_of_lt hb0 z
        · have z2 := List.mem_singleton.mp z
          rw [hz] at z2
          exact Nat.ne_of_lt (Nat.lt_succ_of_lt hb0) z2
      · cases r₂ with
        | error e => exact hr₂
        | ok fl₂ =>
          cases fl₂ with
          | ret r =>
            obtain ⟨rfl, h', tk, rfl, hS', hk'⟩ := hr₂
            repeat (any_goals (first | assumption | wp_step))
            exact h _ _ hS' hk'
          | _ => exact hr₂.elim
    | _ => exact hr.elim
end
end MP

namespace MP
open PySem PySem.Spec PyProof.Rows L2
/-! ### sorted(set(x)), len(set(x)), sorted(x) of texts -/
/-- the parts of a list or of a text -/
def setArg (h : Hq) : D → Option (List D)
  | .str s => some (s.map fun c => .str [c])
  | d => lisOf h d
def SrtSetP (d : D) (h : Hq) (P : WK) : Prop :=
  (∃ ns : List Int, setArg h d = some (ns.map D.int) ∧ ns.length ≤ 4000 ∧ ∀ out : List Int, out.Pairwise (· < ·) → (∀ k, k ∈ out ↔ k ∈ ns) → P (.lst (out.map D.int)) h) ∨
  (∃ ss : List (List Nat), setArg h d = some (ss.map D.str) ∧ ss.length ≤ 4000 ∧ ∀ out : List (List Nat), out.Pairwise (· < ·) → (∀ k, k ∈ out ↔ k ∈ ss) → P (.lst (out.map D.str)) h)
def wSrtSet (w : WE) : WE := fun fr h P => w fr h fun d h1 => SrtSetP d h1 P
def LenSetP (d : D) (h : Hq) (P : WK) : Prop := ∃ ss : List (List Nat), setArg h d = some (ss.map D.str) ∧ ss.length ≤ 4000 ∧ ∀ out : List (List Nat), out.Nodup → (∀ k, k ∈ out ↔ k ∈ ss) → P (.int (out.length : Nat)) h
def wLenSet (w : WE) : WE := fun fr h P => w fr h fun d h1 => LenSetP d h1 P
/-- what a value comes to as a list of keys -/
def KeysOf (K : PySem.W.Frag) (H : Hp) (x : V) (js : List Key) : Prop := (∃ l, x = .ref l ∧ SqL K H l (js.map kV)) ∨ ∃ t, x = .str t ∧ js = signs t
section
variable {X : Cx}
/-- set(x) as a value that is used at once -/
def tSetK (X : Cx) (te : TE) : TE := fun σ H Q => te σ H fun x H1 => ∃ js, KeysOf X.K H1 x js ∧ js.length + 1 < scanBound ∧ ∀ a, H1 a = none → Q (.ref a) (upd H1 a (SetHO X.w a (dedK js)))
theorem pe_setK {e : Expr} {te : TE} {p pos : Pos} (hc : X.calm = true) (hg : Gl X "set") (hm : X.mg "set" = none) (he : PE X e te) (hs : starEach [e] X.env = (false, eval e X.env) :: starEach [] X.env) : PE X (.Call (.Name "set" p) [e] [] pos) (tSetK X te) := by
  refine ⟨fun pins s σ H Q I h => ?_⟩
  refine Call_ (ld_blt I hg hm boot_set (PyProof.Rows.callWith_type1 (args_cons (thn (he.run pins s σ H _ I h) fun u s1 ⟨x, H1, I1, rx, js, hk, hb, q⟩ => args_nil ?_) hs) hs))
  rcases hk with ⟨l, rfl, hl⟩ | ⟨t, rfl, rfl⟩
  · cases rx
    obtain ⟨its, rv, pl, hz⟩ := I1.list hl
    refine call_setK (P := X.prog) (w := X.w) (I1.ok.hd hc) pl.isList (by simpa using keys_vals rv) hb fun h' tk R k => ?_
    exact ⟨.ref s1.heap.objs.size, _, I1.laid (t' := tk) k (Nat.le_refl _) (setHO_new R), rfl, q _ (I1.hok.fresh (Nat.le_refl _))⟩
  · obtain ⟨tk, rfl⟩ := rx
    refine call_setS (P := X.prog) (w := X.w) (I1.ok.hd hc) hb fun h' tk' R k => ?_
    exact ⟨.ref s1.heap.objs.size, _, I1.laid (t' := tk') k (Nat.le_refl _) (setHO_new R), rfl, q _ (I1.hok.fresh (Nat.le_refl _))⟩
end
/-! keys of D's -/
theorem ints_keys {K : KW} {H : Hp} {ρ : Nat → Addr} {n : Nat} : ∀ {ns : List Int} {xs : List V}, RpL K H ρ n (ns.map D.int) xs → xs = (ns.map fun i => (.inl i : Key)).map kV
  | [], xs, r => r.nil_inv
  | i :: ns, xs, r => by
    obtain ⟨y, ys, rfl, r1, r2⟩ := r.cons_inv
    rw [rp_int r1, ints_keys r2]; rfl
theorem strs_keys {K : KW} {H : Hp} {ρ : Nat → Addr} {n : Nat} : ∀ {ss : List (List Nat)} {xs : List V}, RpL K H ρ n (ss.map D.str) xs → xs = (ss.map fun s => (.inr (mkS s) : Key)).map kV ∧ ∀ s ∈ ss, StrOk s
  | [], xs, r => ⟨r.nil_inv, by simp⟩
  | s :: ss, xs, r => by
    obtain ⟨y, ys, rfl, r1, r2⟩ := r.cons_inv
    obtain ⟨e, o⟩ := rp_str r1
    obtain ⟨e2, o2⟩ := strs_keys r2
    refine ⟨by rw [e, e2]; rfl, fun t ht => ?_⟩
    rcases List.mem_cons.mp ht with rfl | ht
    · exact o
    · exact o2 t ht
theorem strs_rpS {K : KW} {H : Hp} {ρ : Nat → Addr} {n : Nat} : ∀ {ss : List (List Nat)}, (∀ s ∈ ss, StrOk s) → RpL K H ρ n (ss.map D.str) (ss.map fun s => V.str (mkS s))
  | [], _ => RpL.nil
  | s :: ss, h => RpL.cons (of_str (h s (List.mem_cons_self ..))) (strs_rpS fun t ht => h t (List.mem_cons_of_mem _ ht))
theorem signs_mk (s : List Nat) : signs (mkS s) = (s.map fun c => [c]).map fun t => (.inr (mkS t) : Key) := by
  unfold signs
  rw [str_list, List.map_map]
  rfl
theorem inl_keys {js : List Key} (h : ∀ k ∈ js, ∃ i, k = .inl i) : ∃ ns : List Int, js = ns.map .inl := by
  induction js with
  | nil => exact ⟨[], rfl⟩
  | cons k js ih =>
    obtain ⟨i, rfl⟩ := h k (List.mem_cons_self ..)
    obtain ⟨ns, rfl⟩ := ih fun k hk => h k (List.mem_cons_of_mem _ hk)
    exact ⟨i :: ns, rfl⟩
theorem inr_keys {js : List Key} (h : ∀ k ∈ js, ∃ i, k = .inr i) : ∃ ss : List (List Nat), js = ss.map fun s => .inr (mkS s) := by
  induction js with
  | nil => exact ⟨[], rfl⟩
  | cons k js ih =>
    obtain ⟨x, rfl⟩ := h k (List.mem_cons_self ..)
    obtain ⟨ss, rfl⟩ := ih fun k hk => h k (List.mem_cons_of_mem _ hk)
    refine ⟨x.cps.toList :: ss, ?_⟩
    rw [List.map_cons]
    congr 1
theorem pw_lt {α : Type} {le lt : α → α → Prop} {f : α → Key} : ∀ {l : List α}, (∀ a b, le a b → f a ≠ f b → lt a b) → l.Pairwise le → (l.map f).Nodup → l.Pairwise lt
  | [], _, _, _ => .nil
  | a :: l, h, p, n => by
    obtain ⟨p1, p2⟩ := List.pairwise_cons.mp p
    rw [List.map_cons] at n
    obtain ⟨n1, n2⟩ := List.nodup_cons.mp n
    exact List.pairwise_cons.mpr ⟨fun b hb => h a b (p1 b hb) fun e => n1 (by rw [e]; exact List.mem_map_of_mem hb), pw_lt h p2 n2⟩
section
variable {X : Cx}
theorem keys_ints {K : KW} {ρ : Nat → Addr} {h : Hq} {H : Hp} {d : D} {v : V} {ns : List Int} (S : Sim K ρ h H) (r : Rp K H ρ h.length d v) (e : setArg h d = some (ns.map D.int)) : KeysOf K.1 H v (ns.map .inl) := by
  cases d with
  | str s =>
    have e' : (s.map fun c => D.str [c]) = ns.map D.int := Option.some.inj e
    cases s with
    | nil =>
      cases ns with
      | nil => exact .inr ⟨mkS [], (rp_str r).1, rfl⟩
      | cons _ _ => cases e'
    | cons c s =>
      cases ns with
      | nil => cases e'
      | cons _ _ => simp at e'
  | _ =>
    obtain ⟨a, xs, h1, q1, l1⟩ := lis_ok S r e
    rw [ints_keys l1] at q1
    exact .inl ⟨a, h1, q1⟩
theorem keys_strs {K : KW} {ρ : Nat → Addr} {h : Hq} {H : Hp} {d : D} {v : V} {ss : List (List Nat)} (S : Sim K ρ h H) (r : Rp K H ρ h.length d v) (e : setArg h d = some (ss.map D.str)) : KeysOf K.1 H v (ss.map fun s => .inr (mkS s)) ∧ ∀ s ∈ ss, StrOk s := by
  cases d with
  | str s =>
    have e' : (s.map fun c => D.str [c]) = ss.map D.str := Option.some.inj e
    have e2 : ss = s.map fun c => [c] := by
      have : (ss.map D.str) = (s.map fun c => [c]).map D.str := by rw [← e', List.map_map]; rfl
      exact (List.map_inj_right (fun a b q => D.str.inj q)).mp this
    obtain ⟨h1, h2⟩ := rp_str r
    refine ⟨.inr ⟨mkS s, h1, by rw [e2, signs_mk]⟩, fun t ht => ?_⟩
    rw [e2] at ht
    obtain ⟨c, hc, rfl⟩ := List.mem_map.mp ht
    exact ⟨by rw [sizeLine_eq]; simp, fun z hz => by rw [List.mem_singleton.mp hz]; exact h2.2 c hc⟩
  | _ =>
    obtain ⟨a, xs, h1, q1, l1⟩ := lis_ok S r e
    obtain ⟨l2, l3⟩ := strs_keys l1
    rw [l2] at q1
    exact ⟨.inl ⟨a, h1, q1⟩, l3⟩
theorem se_srtset {e : Expr} {we : WE} {p p2 pos pos2 : Pos} (hc : X.calm = true) (hg : Gl X "sorted") (hm : X.mg "sorted" = none) (hg2 : Gl X "set") (hm2 : X.mg "set" = none) (he : SE X e we) (hs : starEach [e] X.env = (false, eval e X.env) :: starEach [] X.env)
    (hs2 : starEach [Expr.Call (.Name "set" p2) [e] [] pos2] X.env = (false, eval (.Call (.Name "set" p2) [e] [] pos2) X.env) :: starEach [] X.env) :
    SE X (.Call (.Name "sorted" p) [.Call (.Name "set" p2) [e] [] pos2] [] pos) (wSrtSet we) := by
  refine PE.imp (pe_callB (cr_sortK hc) hg hm boot_sorted (pa_cons (pe_setK hc hg2 hm2 he hs) pa_nil hs2) (by decide) (by decide) hs2 (by rfl)) fun σ H Q ⟨ρ, fr, h, P, S, F, w, c⟩ => ?_
  refine ⟨ρ, fr, h, _, S, F, w, fun ρ1 h1 H1 d v e1 S1 r1 w1 => ?_⟩
  have c1 := c.step e1
  have gone : ∀ {a : Addr} {o : HO}, H1 a = none → Sim X.kw ρ1 h1 (upd H1 a o) ∧ ClE X.kw ρ1 h1 (upd H1 a o) P Q := fun {a o} ha => ⟨S1.new ha, c1.step (Ext.new ha)⟩
  rcases w1 with ⟨ns, es, hz, q⟩ | ⟨ss, es, hz, q⟩
  · refine ⟨ns.map .inl, keys_ints S1 r1 es, by rw [List.length_map]; unfold scanBound; omega, fun a ha => ?_⟩
    obtain ⟨S2, c2⟩ := gone (o := SetHO X.w a (dedK (ns.map .inl))) ha
    have hin : ∀ k ∈ dedK (ns.map .inl), ∃ i, k = .inl i := fun k hk => by
      obtain ⟨i, _, z⟩ := List.mem_map.mp (dedK_mem.mp hk)
      exact ⟨i, z.symm⟩
    refine ⟨a, dedK (ns.map .inl), rfl, upd_same, .inl hin, fun js p pm pw hp => ?_⟩
    obtain ⟨out, rfl⟩ := inl_keys (js := js) fun k hk => hin k (pm.mem_iff.mp hk)
    have nd : (out.map (.inl : Int → Key)).Nodup := pm.nodup_iff.mpr (dedK_nd _)
    have r : RpL X.kw (upd H1 a (SetHO X.w a (dedK (ns.map .inl)))) ρ1 h1.length (out.map D.int) ((out.map (.inl : Int → Key)).map kV) := by
      rw [List.map_map]
      exact RpL.ints out
    refine new_lst S2 r (q out (pw_lt (le := (· ≤ ·)) (f := fun i : Int => (Sum.inl i : Key)) (fun x y hle hne => ?_) (List.Pairwise.imp (fun {x y} (q : leK (.inl x) (.inl y)) => q) (List.pairwise_map.mp pw)) nd) fun k => ?_) c2 p hp
    · have : x ≠ y := fun z => hne (by rw [z])
      omega
    · have h1 : (Sum.inl k : Key) ∈ out.map (.inl : Int → Key) ↔ k ∈ out := by
        rw [List.mem_map]
        exact ⟨fun ⟨j, hj, z⟩ => by cases z; exact hj, fun hk => ⟨k, hk, rfl⟩⟩
      have h2 : (Sum.inl k : Key) ∈ ns.map (.inl : Int → Key) ↔ k ∈ ns := by
        rw [List.mem_map]
        exact ⟨fun ⟨j, hj, z⟩ => by cases z; exact hj, fun hk => ⟨k, hk, rfl⟩⟩
      rw [← h1, pm.mem_iff, dedK_mem, h2]
  · obtain ⟨hk, hok⟩ := keys_strs S1 r1 es
    refine ⟨ss.map fun s => .inr (mkS s), hk, by rw [List.length_map]; unfold scanBound; omega, fun a ha => ?_⟩
    obtain ⟨S2, c2⟩ := gone (o := SetHO X.w a (dedK (ss.map fun s => .inr (mkS s)))) ha
    have hin : ∀ k ∈ dedK (ss.map fun s => (.inr (mkS s) : Key)), ∃ s ∈ ss, k = .inr (mkS s) := fun k hk => by
      obtain ⟨i, hi, z⟩ := List.mem_map.mp (dedK_mem.mp hk)
      exact ⟨i, hi, z.symm⟩
    refine ⟨a, dedK (ss.map fun s => .inr (mkS s)), rfl, upd_same, .inr fun k hk => by obtain ⟨s, _, z⟩ := hin k hk; exact ⟨_, z⟩, fun js p pm pw hp => ?_⟩
    obtain ⟨out, rfl⟩ := inr_keys (js := js) fun k hk => by obtain ⟨s, _, z⟩ := hin k (pm.mem_iff.mp hk); exact ⟨_, z⟩
    have nd : (out.map fun s => (.inr (mkS s) : Key)).Nodup := pm.nodup_iff.mpr (dedK_nd _)
    have mem1 : ∀ (k : List Nat) (l : List (List Nat)), (Sum.inr (mkS k) : Key) ∈ l.map (fun s => (.inr (mkS s) : Key)) ↔ k ∈ l := fun k l => by
      rw [List.mem_map]
      exact ⟨fun ⟨j, hj, z⟩ => by rw [← mkS_inj (Sum.inr.inj z)]; exact hj, fun hk => ⟨k, hk, rfl⟩⟩
    have mem2 : ∀ k, k ∈ out ↔ k ∈ ss := fun k => by rw [← mem1 k out, pm.mem_iff, dedK_mem, mem1]
    have r : RpL X.kw (upd H1 a (SetHO X.w a (dedK (ss.map fun s => .inr (mkS s))))) ρ1 h1.length (out.map D.str) ((out.map fun s => (.inr (mkS s) : Key)).map kV) := by
      rw [List.map_map]
      exact strs_rpS fun s hs => hok s ((mem2 s).mp hs)
    refine new_lst S2 r (q out (pw_lt (le := fun x y => ¬ y < x) (f := fun s => (Sum.inr (mkS s) : Key)) (fun x y hle hne => ?_) ?_ nd) mem2) c2 p hp
    · rcases List.le_iff_lt_or_eq.mp (List.not_lt.mp hle) with z | z
      · exact z
      · exact absurd (by rw [z]) hne
    · refine List.Pairwise.imp (fun {x y} q => ?_) (List.pairwise_map.mp pw)
      have q' : ¬ (mkS y).cps.toList < (mkS x).cps.toList := q
      rw [str_list, str_list] at q'
      exact q'
end
end MP

namespace MP
open PySem PySem.Spec PyProof.Rows L2
/-! ### sorted(x): a text, a list of texts, a dict of numbers -/
def bSortX : WL := fun ds h P => match ds with
  | [d] => ∃ ss : List (List Nat), setArg h d = some (ss.map D.str) ∧ ∀ out : List (List Nat), out.Perm ss → out.Pairwise (fun a b => ¬ b < a) → P (.lst (out.map D.str)) h
  | _ => False
def bSortD : WL := fun ds h P => match ds with
  | [d] => (match dctOf h d with
    | some (ks, _) => ∃ ns : List Int, ks = ns.map D.int ∧ ns.length < 64 ∧ ∀ out : List Int, out.Perm ns → out.Pairwise (· ≤ ·) → P (.lst (out.map D.int)) h
    | none => False)
  | _ => False
theorem strs_list : ∀ {ss : List (List Nat)} {us : List Value}, Vals (ss.map fun s => V.str (mkS s)) us → StrsAre us (ss.map mkS)
  | [], _, .nil => .nil
  | s :: ss, _, .cons r t => by
    obtain ⟨tk, rfl⟩ := r
    exact .cons _ _ (strs_list t)
theorem strs_vals : ∀ {us : List Value}, (∀ v ∈ us, ∃ x t, v = Value.str x t) → Vals ((us.map sv).map fun s => V.str (mkS s)) us
  | [], _ => .nil
  | v :: us, h => by
    obtain ⟨x, t, rfl⟩ := h v (List.mem_cons_self ..)
    refine .cons ⟨t, ?_⟩ (strs_vals fun u hu => h u (List.mem_cons_of_mem _ hu))
    show Value.str x t = Value.str (mkS x.cps.toList) t
    congr 1
theorem sv_strs : ∀ {us : List Value} {ss : List (List Nat)}, StrsAre us (ss.map mkS) → us.map sv = ss
  | [], [], _ => rfl
  | [], s :: ss, h => by cases h
  | u :: us, [], h => by cases h
  | u :: us, s :: ss, h => by
    cases h with
    | cons x t hr =>
      rw [List.map_cons, sv_strs hr]
      show sv (Value.str (mkS s) _) :: ss = _
      show (mkS s).cps.toList :: ss = _
      rw [str_list]
section
variable {prog : Program} {w : World} {A : Around} {E : Value → Shared → Prop} {s : Shared}
/-- the signs of a text, gathered; the heap has grown -/
theorem collect_txt {Q : List Value → Shared → Prop} (hh : A.handled = none) (x : Str) (t : Tok) (hn : x.cps.size ≤ sizeLine)
    (hQ : ∀ s' acc, (∀ b o, s.heap.get? b = some o → s'.heap.get? b = some o) → s.heap.objs.size ≤ s'.heap.objs.size → s'.gens = s.gens → s'.drawn = s.drawn → s'.os = s.os → ItemsOf (SignAt x) acc x.cps.size → Q acc.toList s') :
    wpAny (model prog w) A (collect (.str x t)) Q E s := by
  unfold collect
  refine wpAny_bind (wpAny_runValue (codeAny_builtin F.entry_proto_collect ?_))
  rw [Around.under_plainId F.plain_proto_collect _]
  show wpAny _ A.in1 (newList [] >>= fun l => again (.builtin "list.__iadd__" ⟨[l, .str x t], []⟩)) _ _ s
  refine wpAny_bind (wpAny_newObj_type ?_)
  refine wpAny_pure ⟨plainId_quiet F.plain_list_iadd _, codeAny_builtin F.entry_list_iadd ?_⟩
  rw [Around.under_plainId F.plain_list_iadd _]
  show wpAny _ A.in1 (Builtin.List.listExtendWith (.ref s.heap.objs.size) (.str x t) (.ref s.heap.objs.size)) _ _ _
  unfold Builtin.List.listExtendWith
  refine wpAny_bind (wpAny_typeOf (T := "str") (v := .str x t) rfl ?_)
  have c1 : Builtin.List.listSameRef (.ref s.heap.objs.size) (.str x t) = false := rfl
  have c2 : (Value.type "str" == Value.type "list") = false := by decide
  have c3 : (Value.type "str" == Value.type "tuple") = false := by decide
  simp only [c1, c2, c3, Bool.or_false, Bool.false_eq_true, if_false]
  refine wpAny_bind (wpAny_pyIter_str fun o St W hst => wpAny_bind (wpAny_holding ?_))
  unfold Builtin.List.listLengthHint
  refine wpAny_bind (wpAny_specialOf (T := "str") (v := .str x t) rfl F.str_len ?_)
  wp_delta
  refine wpAny_bind (wpAny_isInstance (T := "str") (v := .str x t) (b := true) rfl (by rw [isSubtype_type]; kernel_rfl) ?_)
  show wpAny _ A.in1 (typeOf (Value.str x t) >>= _) _ _ _
  refine wpAny_bind (wpAny_typeOf (T := "str") (v := .str x t) rfl (wpAny_pure ?_))
  rw [if_neg (by decide)]
  have z1 : (s.heap.push { cls := .type "list", data := .seq ([] : List Value).toArray }).objs.size = s.heap.objs.size + 1 := Heap.size_push ..
  have g1 : (s.heap.push { cls := .type "list", data := .seq ([] : List Value).toArray }).get? s.heap.objs.size = some { cls := .type "list", data := .seq ([] : List Value).toArray } := Heap.get?_push_size _ rfl
  have old : ∀ b o', s.heap.get? b = some o' → (s.heap.push { cls := .type "list", data := .seq ([] : List Value).toArray }).get? b = some o' := fun b o' e => Heap.get?_push_of_some _ e
  generalize s.heap.push { cls := .type "list", data := .seq ([] : List Value).toArray } = H at W hst z1 g1 old ⊢
  have off : s.heap.objs.size ∉ [H.objs.size] := fun hm => by
    have := List.mem_singleton.mp hm
    rw [z1] at this
    exact absurd this (Nat.ne_of_lt (Nat.lt_succ_self _))
  refine wpAny_pure ⟨plainId_quiet F.plain_extend_loop _, codeAny_extend_loopS (W A.in1 hh).toS hn _ off _ x.cps.size 0 _ _ _ rfl (Nat.zero_le _) hst (Heap.get?_push_of_some _ g1) (ItemsOf.nil _) fun s' acc' c' hm hS' hacc => ?_⟩
  show wpAny _ A (load s.heap.objs.size >>= _) _ _ s'
  refine wpAny_bind (wpAny_load hS' (wpAny_pure (hQ s' acc' (fun b o' e => hm.heap b o' (fun hb => ?_) (Heap.get?_push_of_some _ (old b o' e))) (Nat.le_of_lt (Heap.lt_size hS')) hm.gens hm.drawn hm.os hacc)))
  have hlt := Heap.lt_size e
  rcases List.mem_cons.mp hb with q | q
  · exact Nat.ne_of_lt hlt q
  · have q2 := List.mem_singleton.mp q
    rw [z1] at q2
    exact Nat.ne_of_lt (Nat.lt_succ_of_lt hlt) q2
end
section
variable {X : Cx}
theorem cg_sortX (hc : X.calm = true) : CallR X (.builtin "sorted") (liftL X.kw bSortX) := by
  intro pins s σ H xs us Q I rx ⟨ρ, h, ds, P, S, r, w, c⟩
  unfold bSortX at w
  split at w
  · rename_i d
    obtain ⟨x, rfl, r1⟩ := rpl1 r
    obtain ⟨u', rfl, ru⟩ := vals1 rx
    obtain ⟨ss, q, w⟩ := w
    obtain ⟨hk, hok⟩ := keys_strs S r1 q
    -- what is known of the values put in order
    have fin : ∀ (vs out : List Value) (h' : Heap) (tk : Nat) (p : Addr) (ep : Nat), StrsAre vs (ss.map mkS) → SrtO.Srtd ltSv out → SrtO.Stb ltSv out vs → (∀ b o, s.heap.get? b = some o → h'.get? b = some o) → s.heap.objs.size ≤ p → h'.get? p = some (seqObj "list" out.toArray ep) → vs.length ≤ sizeLine →
        EP X pins σ Q (.ref p) { s with heap := h', toks := tk } := by
      intro vs out h' tk p ep hS hsr hst keep hp hat hz
      have pm := hst.perm
      have ho : ∀ v ∈ out, ∃ x t, v = Value.str x t := fun v hv => hS.all v (pm.mem_iff.mp hv)
      have po : (out.map sv).Perm ss := by
        have := pm.map sv
        rwa [sv_strs hS] at this
      have pw : (out.map sv).Pairwise (fun a b => ¬ b < a) := List.pairwise_map.mpr (hsr.imp fun {x y} (q : ltSv y x = false) => of_decide_eq_false q)
      have hv := strs_vals ho
      have hlen : ((out.map sv).map fun s => V.str (mkS s)).length ≤ sizeLine := by
        rw [List.length_map, List.length_map, pm.length_eq]; exact hz
      refine ⟨.ref p, upd H p (.lst ((out.map sv).map fun s => V.str (mkS s))), I.laid (t' := tk) keep hp ⟨hlen, out, ep, hv, hat⟩, rfl, ?_⟩
      exact new_lst S (strs_rpS fun s hs => hok s (po.mem_iff.mp hs)) (w _ po pw) c _ (I.hok.fresh hp)
    rcases hk with ⟨l, rfl, hl⟩ | ⟨t, rfl, e⟩
    · cases ru
      obtain ⟨its, rv, pl, hz⟩ := I.list hl
      rw [List.map_map] at rv
      have hS : StrsAre its (ss.map mkS) := strs_list rv
      have hn : its.length ≤ sizeLine := by
        have := rv.length
        rw [List.length_map] at this hz
        rw [← this]
        simpa using hz
      refine SrtO.sorted_ord swo_str pl.isList hn (fun h2 h₁ a' _ _ => strs_sortable hS h2) fun out h1 h2 => ?_
      obtain ⟨ep, he'⟩ := PyProof.Rows.sortedAll_at s.heap its out.toArray
      exact fin its out _ s.toks _ ep hS h1 h2 (fun _ _ => PyProof.Rows.sortedAll_old) (Nat.le_succ _) he' hn
    · obtain ⟨tk, rfl⟩ := ru
      have hsz : t.cps.size ≤ sizeLine := by
        cases d with
        | str s0 =>
          obtain ⟨z, o⟩ := rp_str r1
          cases z
          have : (mkS s0).cps.size = s0.length := str_len s0
          rw [this]; exact o.1
        | _ =>
          obtain ⟨a, xs, h1, _⟩ := lis_ok S r1 q
          cases h1
      have es : ss = t.cps.toList.map fun c => [c] := by
        have e2 : (ss.map fun s => (.inr (mkS s) : Key)) = (t.cps.toList.map fun c => [c]).map fun s => (.inr (mkS s) : Key) := by
          rw [e, List.map_map]; rfl
        exact (List.map_inj_right (fun a b q => mkS_inj (Sum.inr.inj q))).mp e2
      refine sorted_col swo_str (collect_txt (A := X.A.in1) (by have := I.ok.hd hc; simp [this]) t tk hsz fun s1 acc keep hle g1 d1 o1 it => ?_)
      have hS : StrsAre acc.toList (ss.map mkS) := by
        have key : ∀ (l : List Value) (m : List Nat), l.length = m.length → (∀ (i : Nat) v, l[i]? = some v → ∃ c t, m[i]? = some c ∧ v = Value.str ⟨#[c]⟩ t) → StrsAre l (m.map fun c => mkS [c]) := by
          intro l
          induction l with
          | nil =>
            intro m hm _
            cases m with
            | nil => exact .nil
            | cons _ _ => cases hm
          | cons v l ih =>
            intro m hm hv
            cases m with
            | nil => cases hm
            | cons c m =>
              obtain ⟨c', t', e1, e2⟩ := hv 0 v rfl
              cases e1
              subst e2
              exact .cons _ _ (ih m (by simpa using hm) fun i u hu => by
                obtain ⟨c', t', e1, e2⟩ := hv (i + 1) u (by simpa using hu)
                exact ⟨c', t', by simpa using e1, e2⟩)
        rw [es, List.map_map]
        refine key _ _ (by rw [Array.length_toList, Array.length_toList]; exact it.1) fun i v hv => ?_
        obtain ⟨c, t', e1, e2⟩ := it.2 i v (by rw [← Array.getElem?_toList]; exact hv)
        exact ⟨c, t', by rw [Array.getElem?_toList]; exact e1, e2⟩
      have hn : acc.toList.length ≤ sizeLine := by rw [Array.length_toList, it.1]; exact hsz
      refine ⟨hn, fun h2 h₁ a' _ => strs_sortable hS h2, fun out h1 h2 => ?_⟩
      have hoL : (s1.heap.push (seqObj "list" acc.toList.toArray 0)).get? s1.heap.objs.size = some (seqObj "list" acc.toList.toArray 0) := Heap.get?_push_size _ rfl
      obtain ⟨ep, he'⟩ := sortedHeap_at (vs := acc.toList) (out := out.toArray) hoL
      have e3 : ({ s1 with heap := sortedHeap (s1.heap.push (seqObj "list" acc.toList.toArray 0)) s1.heap.objs.size acc.toList out.toArray } : Shared) =
          { s with heap := sortedHeap (s1.heap.push (seqObj "list" acc.toList.toArray 0)) s1.heap.objs.size acc.toList out.toArray, toks := s1.toks } := by
        obtain ⟨hp1, gg1, dd1, tk1, os1⟩ := s1
        obtain ⟨hp0, gg0, dd0, tk0, os0⟩ := s
        cases g1
        cases d1
        cases o1
        rfl
      rw [e3]
      refine fin acc.toList out _ s1.toks _ ep hS h1 h2 (fun b o q => ?_) hle he' hn
      have q' := keep b o q
      have hlt := Heap.lt_size q'
      rw [sortedHeap_old (Nat.ne_of_lt hlt) (by rw [size_push']; exact Nat.lt_succ_of_lt hlt)]
      exact Heap.get?_push_of_some _ q'
  · exact w.elim
theorem cg_sortD (hc : X.calm = true) : CallR X (.builtin "sorted") (liftL X.kw bSortD) := by
  refine CallR.imp (call_sortedDI hc) fun xs H Q ⟨ρ, h, ds, P, S, r, w, c⟩ => ?_
  unfold bSortD at w
  split at w
  · rename_i d
    obtain ⟨x, rfl, r1⟩ := rpl1 r
    split at w
    · rename_i ks vs q
      obtain ⟨ns, rfl, h64, w⟩ := w
      obtain ⟨a, u, kv, xs, rfl, rd, du, l1, l2⟩ := dct_ok S r1 q
      rcases du with ⟨ps, rfl, e1, e2, e3, e4⟩ | ⟨o, es, ep, nks, _, _, _, _, _, e1, e2, _, _, _, hz, hne⟩
      · refine ⟨a, ps, ns, rfl, rd, ?_, h64, fun ys p hp hs hn => ?_⟩
        · have key : ∀ (l : List Int) (m : List (Key × V)), (l.map D.int).map keyOf = m.map (fun p => some p.1) → m.map (·.1) = l.map Sum.inl := by
            intro l
            induction l with
            | nil =>
              intro m e
              cases m with
              | nil => rfl
              | cons _ _ => cases e
            | cons i l ih =>
              intro m e
              cases m with
              | nil => cases e
              | cons p m =>
                simp only [List.map_cons, List.cons.injEq] at e ⊢
                exact ⟨(Option.some.inj e.1).symm, ih m e.2⟩
          exact key ns ps e1
        · exact new_lst S (RpL.ints ys) (w ys hp hs) c p hn
      · exfalso
        have : nks = [] := by
          cases nks with
          | nil => rfl
          | cons x nks =>
            cases kv with
            | nil => cases e2
            | cons v kv =>
              cases ns with
              | nil =>
                have := l1.nil_inv
                cases this
              | cons i ns =>
                obtain ⟨y, ys, z, r2, _⟩ := l1.cons_inv
                have z1 := (List.cons.inj z).1
                have z2 := (List.cons.inj e2).1
                rw [rp_int r2] at z1
                rw [z1] at z2
                cases z2
        exact hne this
    · exact w.elim
  · exact w.elim
/-- sorted, whatever it is of -/
def bSrt4 : WL := fun ds h P => bSortT ds h P ∨ bSortI ds h P ∨ bSortX ds h P ∨ bSortD ds h P
theorem cg_srt4 (hc : X.calm = true) : CallR X (.builtin "sorted") (liftL X.kw bSrt4) := by
  intro pins s σ H xs us Q I rx ⟨ρ, h, ds, P, S, r, w, c⟩
  rcases w with w | w | w | w
  · exact cg_sortT hc pins s σ H xs us Q I rx ⟨ρ, h, ds, P, S, r, w, c⟩
  · exact cg_sortI pins s σ H xs us Q I rx ⟨ρ, h, ds, P, S, r, w, c⟩
  · exact cg_sortX hc pins s σ H xs us Q I rx ⟨ρ, h, ds, P, S, r, w, c⟩
  · exact cg_sortD hc pins s σ H xs us Q I rx ⟨ρ, h, ds, P, S, r, w, c⟩
end
end MP

namespace MP
open PySem PySem.Spec PyProof.Rows L2
/-! ### len(set(x)) -/
section
variable {X : Cx}
def rLenK (X : Cx) : List V → Hp → VK → Prop := fun xs H Q => ∃ (a : Addr) (ks : List Key), xs = [V.ref a] ∧ H a = some (SetHO X.w a ks) ∧ Q (.int (ks.length : Nat)) H
theorem cr_lenK : CallR X (.builtin "len") (rLenK X) := by
  intro pins s σ H xs us Q I r ⟨a, ks, e, ha, q⟩
  subst e
  have R : SetG X.w s.heap a ks := (I.hok a _ ha).1
  obtain ⟨o, es, ep, t, C⟩ := R
  rw [Vals.ref1 r]
  have hn : es.size = ks.length := by
    have := C.perm.length_eq
    rwa [eKs_len] at this
  refine call_len_set C.at_ C.ex C.dat C.tab.fit (by have := C.tab.few; unfold scanBound at this; omega) ⟨.int (ks.length : Nat), H, I.tok _, ⟨_, by rw [hn]⟩, q⟩
theorem se_lenset {e : Expr} {we : WE} {p p2 pos pos2 : Pos} (hc : X.calm = true) (hg : Gl X "len") (hm : X.mg "len" = none) (hg2 : Gl X "set") (hm2 : X.mg "set" = none) (he : SE X e we) (hs : starEach [e] X.env = (false, eval e X.env) :: starEach [] X.env)
    (hs2 : starEach [Expr.Call (.Name "set" p2) [e] [] pos2] X.env = (false, eval (.Call (.Name "set" p2) [e] [] pos2) X.env) :: starEach [] X.env) :
    SE X (.Call (.Name "len" p) [.Call (.Name "set" p2) [e] [] pos2] [] pos) (wLenSet we) := by
  refine PE.imp (pe_callB cr_lenK hg hm PySem.boot_len (pa_cons (pe_setK hc hg2 hm2 he hs) pa_nil hs2) (by decide) (by decide) hs2 (by rfl)) fun σ H Q ⟨ρ, fr, h, P, S, F, w, c⟩ => ?_
  refine ⟨ρ, fr, h, _, S, F, w, fun ρ1 h1 H1 d v e1 S1 r1 w1 => ?_⟩
  have c1 := c.step e1
  obtain ⟨ss, es, hz, q⟩ := w1
  obtain ⟨hk, hok⟩ := keys_strs S1 r1 es
  refine ⟨ss.map fun s => .inr (mkS s), hk, by rw [List.length_map]; unfold scanBound; omega, fun a ha => ?_⟩
  have S2 : Sim X.kw ρ1 h1 (upd H1 a (SetHO X.w a (dedK (ss.map fun s => .inr (mkS s))))) := S1.new ha
  refine ⟨a, dedK (ss.map fun s => .inr (mkS s)), rfl, upd_same, ?_⟩
  have hin : ∀ k ∈ dedK (ss.map fun s => (.inr (mkS s) : Key)), ∃ x, k = .inr x := fun k hk => by
    obtain ⟨i, hi, z⟩ := List.mem_map.mp (dedK_mem.mp hk)
    exact ⟨_, z.symm⟩
  obtain ⟨out, eo⟩ := inr_keys hin
  have nd : (out.map fun s => (.inr (mkS s) : Key)).Nodup := eo ▸ dedK_nd _
  have mem1 : ∀ (k : List Nat) (l : List (List Nat)), (Sum.inr (mkS k) : Key) ∈ l.map (fun s => (.inr (mkS s) : Key)) ↔ k ∈ l := fun k l => by
    rw [List.mem_map]
    exact ⟨fun ⟨j, hj, z⟩ => by rw [← mkS_inj (Sum.inr.inj z)]; exact hj, fun hk => ⟨k, hk, rfl⟩⟩
  have hl : (dedK (ss.map fun s => (.inr (mkS s) : Key))).length = out.length := by rw [eo, List.length_map]
  rw [hl]
  exact c1 ρ1 h1 _ _ _ (Ext.new ha) S2 of_int (q out (List.Pairwise.of_map _ (fun a b hne e => hne (by rw [e])) nd) fun k => by rw [← mem1 k out, ← eo, dedK_mem, mem1])
end
end MP

namespace MP
open PySem PySem.Spec PyProof.Rows L2

/-! ### from the text to its meaning -/
structure CEnv where
  /-- the frame's names -/
  N : List Str
  /-- what the text's defs promise -/
  fT : List (Str × WL)
  /-- the text's constants -/
  cT : List (Str × D)
  /-- names whose list or dict is written to -/
  M : List Str
  /-- the text's class and its attributes -/
  cN : Str
  aN : List Str
  /-- what its methods promise -/
  mT : List (Str × WL)
  /-- what classes promise: class, promise of the making -/
  kT : List (Str × WL)
structure Comp where
  e : Scope → Expr → Option WE
  t : Scope → Expr → Option WT
  i : Scope → Expr → Expr → Option WI
  s : Scope → Stmt → Option WS

def ixOf : List Str → Str → Option Nat
  | [], _ => none
  | y :: r, x => if y = x then some 0 else (ixOf r x).map (· + 1)
theorem ixOf_get : ∀ {N : List Str} {x : Str} {i : Nat}, ixOf N x = some i → N[i]? = some x
  | [], _, _, h => by cases h
  | y :: r, x, i, h => by
    unfold ixOf at h
    split at h
    · rename_i e; cases h; rw [e]; rfl
    · cases q : ixOf r x with
      | none => rw [q] at h; cases h
      | some j =>
        rw [q] at h
        have := Option.some.inj h
        subst this
        simpa using ixOf_get q
def bNames : List Str := ["len", "isinstance", "all", "any", "tuple", "list", "int", "min", "max", "range", "zip", "bool", "str", "dict", "enumerate", "sorted", "set"]
/-- what is known of the text's globals -/
structure Glo (P : Program) (w : World) (K : PySem.W.Frag) (mg : Str → Option Value) (base : Heap) (k : Nat) (Γ : CEnv) : Prop where
  bl : ∀ x ∈ bNames, mg x = none
  fe : ∀ x g, Γ.fT.lookup x = some g → FE P w K mg base k x g
  ct : ∀ x d, Γ.cT.lookup x = some d → ∃ u v, mg x = some u ∧ RelV v u ∧ ∀ H ρ n, Rp (K, w) H ρ n d v
  nd : Γ.N.Nodup
  cl : Γ.aN = [] ∨ ClsT K Γ.cN Γ.aN
  mt : ∀ m g, Γ.mT.lookup m = some g → ME P w K mg base k Γ.cN m g
  kt : ∀ x g, Γ.kT.lookup x = some g → KE P w K mg base k x g
structure Good (P : Program) (w : World) (K : PySem.W.Frag) (mg : Str → Option Value) (base : Heap) (k : Nat) (N : List Str) (sc : Scope) (X : Cx) : Prop where
  prog : X.prog = P
  w : X.w = w
  K : X.K = K
  mg : X.mg = mg
  base : X.base = base
  N : X.N = N
  calm : X.calm = true
  room : Room k X.A
  loc : ∀ x, sc.names.lookup x = some .local → X.env.scope.names.lookup x = some .local
  cell : ∀ x, sc.names.lookup x = some .cell → X.env.scope.names.lookup x = some .cell
  free : ∀ x, sc.names.lookup x = some .free → X.env.scope.names.lookup x = some .free ∨ X.env.scope.names.lookup x = some .cell
  gl : ∀ x, sc.names.lookup x = some .globalImplicit → X.env.kindOf x = some .globalImplicit
  fn : ∀ x, sc.names.lookup x = some .local ∨ sc.names.lookup x = some .cell → X.fn x = true ∨ X.env.scope.names.lookup x = some .local
  own : PassesOwn (model X.prog X.w) X.A X.env X.xe
theorem relabel_keep {scope : Scope} {env : Env} {x : Str} {k : NameKind} (hk : k ≠ .free) (h : scope.names.lookup x = some k) : (relabel scope env).names.lookup x = some k :=
  lookup_relS_keep (sc := env.scope) hk h
theorem relabel_free {env : Env} : ∀ {names : List (Str × NameKind)} {x : Str}, names.lookup x = some .free →
    (names.map fun (n, k) => if (k == NameKind.free && env.scope.kind == .function && env.kindOf n == some .cell) then (n, NameKind.cell) else (n, k)).lookup x = some .free ∨
    (names.map fun (n, k) => if (k == NameKind.free && env.scope.kind == .function && env.kindOf n == some .cell) then (n, NameKind.cell) else (n, k)).lookup x = some .cell
  | [], x, h => by simp at h
  | (n, k) :: r, x, h => by
    rw [List.lookup_cons] at h
    rw [List.map_cons]
    cases q : x == n with
    | true =>
      rw [q] at h
      have hk : k = .free := Option.some.inj h
      subst hk
      dsimp only
      split
      · right; rw [List.lookup_cons, q]
      · left; rw [List.lookup_cons, q]
    | false =>
      rw [q] at h
      have ih := relabel_free (env := env) h
      dsimp only
      split
      · rw [List.lookup_cons, q]; exact ih
      · rw [List.lookup_cons, q]; exact ih
section
variable {P : Program} {w : World} {K : PySem.W.Frag} {mg : Str → Option Value} {base : Heap} {k : Nat} {Γ : CEnv} {sc scope : Scope} {X : Cx}
theorem Good.blk (G : Good P w K mg base k Γ.N sc X) (s : Shared) (H : Hp) (C : Addr) (cl : List (Str × Addr)) (fp : List Addr) : Good P w K mg base k Γ.N scope (X.blk s H scope (compEnvC scope cl C X.env) fp) := by
  refine ⟨G.prog, G.w, G.K, G.mg, G.base, G.N, G.calm, G.room, fun x h => relabel_keep (by decide) h, fun x h => relabel_keep (by decide) h, fun x h => relabel_free h, fun x h => relabel_keep (by decide) h, fun x h => ?_, PassesOwn.never⟩
  rcases h with h | h
  · right; exact relabel_keep (by decide) h
  · left
    show (scope.names.lookup x == some .cell) = true
    rw [h]; rfl
theorem Good.vis (G : Good P w K mg base k Γ.N sc X) {x : Str} (h : sc.names.lookup x = some .local ∨ sc.names.lookup x = some .cell ∨ sc.names.lookup x = some .free) : Vis X.env.scope x := by
  rcases h with h | h | h
  · exact .inl (G.loc x h)
  · exact .inr (.inl (G.cell x h))
  · exact (G.free x h).elim (fun q => .inr (.inr q)) fun q => .inr (.inl q)
theorem Good.locs (G : Good P w K mg base k Γ.N sc X) {x : Str} (h : sc.names.lookup x = some .local ∨ sc.names.lookup x = some .cell) : Loc X.env.scope x := by
  rcases h with h | h
  · exact .inl (G.loc x h)
  · exact .inr (G.cell x h)
theorem Good.u64 (G : Good P w K mg base k Γ.N sc X) : X.A.units + 64 < cLine := G.room.units
theorem Good.u65 (G : Good P w K mg base k Γ.N sc X) : X.A.units + 65 < cLine := by
  have := G.room.un
  omega
theorem Good.fe (G : Good P w K mg base k Γ.N sc X) {x : Str} {g : WL} (F : FE P w K mg base k x g) : FE X.prog X.w X.K X.mg X.base k x g := by
  rw [G.prog, G.w, G.K, G.mg, G.base]; exact F
theorem Good.me (G : Good P w K mg base k Γ.N sc X) {c m : Str} {g : WL} (F : ME P w K mg base k c m g) : ME X.prog X.w X.K X.mg X.base k c m g := by
  rw [G.prog, G.w, G.K, G.mg, G.base]; exact F
theorem Good.ke (G : Good P w K mg base k Γ.N sc X) {x : Str} {g : WL} (F : KE P w K mg base k x g) : KE X.prog X.w X.K X.mg X.base k x g := by
  rw [G.prog, G.w, G.K, G.mg, G.base]; exact F
theorem Good.cl (G : Good P w K mg base k Γ.N sc X) {c : Str} {ns : List Str} (T : ClsT K c ns) : ClsT X.K c ns := by
  rw [G.K]; exact T
end

/-- forms that are no star, no slice, no set -/
def plainE : Expr → Bool
  | .Starred .. => false
  | .Slice .. => false
  | .Set .. => false
  | _ => true
theorem plain_star {e : Expr} {es : List Expr} {env : Env} (h : plainE e = true) : starEach (e :: es) env = (false, eval e env) :: starEach es env := by
  cases e <;> first
    | rfl
    | cases h
theorem plain_behind {op : CmpOp} {e : Expr} (h : plainE e = true) : behindInMarks op e = false := by
  cases e <;> first
    | rfl
    | cases h
theorem plain_fold {e : Expr} {env : Env} (h : plainE e = true) (x : Value) : foldedSetIterable e env x = pure x := by
  cases e <;> first
    | rfl
    | cases h
theorem plain_ix {e : Expr} (h : plainE e = true) : PlainIx e := by
  cases e <;> first
    | (intro o i; rfl)
    | cases h
theorem plain_any {pos : Pos} {env : Env} : ∀ {es : List Expr}, es.all plainE = true → (backTo pos (starEach es env)).any (·.1) = false
  | [], _ => rfl
  | e :: es, h => by
    simp only [List.all_cons, Bool.and_eq_true] at h
    rw [plain_star h.1]
    have ih := plain_any (pos := pos) (env := env) h.2
    unfold backTo at ih ⊢
    simpa using ih
theorem plain_all {pos : Pos} {env : Env} : ∀ {es : List Expr}, es.all plainE = true → (backTo pos (starEach es env)).all (fun x => !x.1) = true
  | [], _ => rfl
  | e :: es, h => by
    simp only [List.all_cons, Bool.and_eq_true] at h
    rw [plain_star h.1]
    have ih := plain_all (pos := pos) (env := env) h.2
    unfold backTo at ih ⊢
    simpa using ih
/-- forms whose test is their value's truth -/
def valT : Expr → Bool
  | .UnaryOp .Not _ _ => false
  | .BoolOp .. => false
  | .IfExp .. => false
  | .Compare .. => false
  | _ => true
theorem valT_ok {e : Expr} {env : Env} (h : valT e = true) : ∀ whole, isTrue e env whole = (do let v ← whole; standAt e.pos; holding [v] (truthy v)) := by
  cases e with
  | UnaryOp op a p => cases op <;> first
    | (intro _; rfl)
    | cases h
  | BoolOp => cases h
  | IfExp => cases h
  | Compare => cases h
  | _ => intro _; rfl
def isComp : Expr → Bool
  | .ListComp .. => true
  | .SetComp .. => true
  | .DictComp .. => true
  | _ => false
theorem notComp_swaps {e : Expr} {t : Option Expr} {l : Nat} {env : Env} (h : isComp e = false) : swapsWith e t l env = pure false := by
  cases e <;> first
    | rfl
    | cases h
def isCall0 : Expr → Bool
  | .Call (.Name _ _) [] [] _ => true
  | _ => false
theorem notCall0_base {e : Expr} {f : Str} {env : Env} (h : isCall0 e = false) : attributeBase e f env (eval e env) = eval e env := by
  unfold attributeBase
  split
  · cases h
  · rfl

/-! ### expressions -/
def cmpW : CmpOp → W2
  | .Eq => gEqU false
  | .NotEq => gEqU true
  | .Lt => gLt
  | .LtE => gLe
  | .Gt => gGt
  | .GtE => gGe
  | .Is => isD false
  | .IsNot => isD true
  | .In => gInU false
  | .NotIn => gInU true
theorem cmpW_ok {X : Cx} (hu : X.A.units + 65 < cLine) : ∀ op : CmpOp, OpR X (compareOp op) (lift2 X.kw (cmpW op))
  | .Eq => og_eqU hu
  | .NotEq => og_neU hu
  | .Lt => og_lt
  | .LtE => og_le
  | .Gt => og_gt
  | .GtE => og_ge
  | .Is => og_is
  | .IsNot => og_isn
  | .In => og_inU hu
  | .NotIn => og_notInU hu
def binW : Operator → Option W2
  | .Add => some gAdd
  | .Sub => some gSub
  | .Mod => some gMod
  | .FloorDiv => some gFdiv
  | .Mult => some gMul
  | .Pow => some gPow
  | _ => none
theorem binW_ok {X : Cx} {op : Operator} {g : W2} (h : binW op = some g) : OpR X (binaryOp op) (lift2 X.kw g) := by
  cases op <;> first
    | (cases h; done)
    | (cases h; first | exact og_add | exact og_sub | exact og_mod | exact og_fdiv | exact og_mul | exact og_pow)
def notDbg (x : Str) : Bool := !(x == ("__debug__" : Str)) && !(x == ("__classdict__" : Str)) && !(x == ("__name__" : Str))
def tyName (x : Str) : Option String :=
  if x = ("int" : Str) then some "int" else if x = ("bool" : Str) then some "bool" else if x = ("str" : Str) then some "str" else
  if x = ("tuple" : Str) then some "tuple" else if x = ("list" : Str) then some "list" else if x = ("dict" : Str) then some "dict" else none
def bW2 (x : Str) (n : Nat) : Option WL :=
  if x = ("str" : Str) then some bStr else if x = ("min" : Str) then some (if n = 1 then bMinS else bMin2) else if x = ("max" : Str) then some bMax2 else
  if x = ("sorted" : Str) then some bSrt4 else none
def bW (x : Str) (n : Nat) : Option WL :=
  if x = ("len" : Str) then some bLenU else if x = ("isinstance" : Str) then some bIsi else if x = ("all" : Str) then some bAll else if x = ("any" : Str) then some bAny else
  if x = ("tuple" : Str) then some bTup else if x = ("list" : Str) then some bLstU else if x = ("int" : Str) then some bInt else bW2 x n
def cName (Γ : CEnv) (sc : Scope) (x : Str) : Option WE :=
  if notDbg x then match sc.names.lookup x with
    | some .local => (ixOf Γ.N x).map wVar
    | some .cell => (ixOf Γ.N x).map wVar
    | some .free => (ixOf Γ.N x).map wVar
    | some .globalImplicit => (match Γ.cT.lookup x with
      | some d => some (wC d)
      | none => if x ∈ bNames then (tyName x).map fun n => wC (.con (.ty n)) else none)
    | _ => none
  else none
section
variable {P : Program} {w : World} {K : PySem.W.Frag} {mg : Str → Option Value} {base : Heap} {k : Nat} {Γ : CEnv} {sc scope : Scope} {X : Cx}
theorem notDbg_ok {x : Str} (h : notDbg x = true) : (x == ("__debug__" : Str)) = false ∧ (x == ("__classdict__" : Str)) = false ∧ x ≠ "__name__" := by
  unfold notDbg at h
  simp only [Bool.and_eq_true, Bool.not_eq_true'] at h
  exact ⟨h.1.1, h.1.2, fun e => by rw [e] at h; simp at h⟩
theorem tyName_ok {x : Str} {n : String} (h : tyName x = some n) : bootBuiltins x = some (.type n) := by
  unfold tyName at h
  split at h
  · rename_i e; cases h; subst e; decide +kernel
  split at h
  · rename_i e; cases h; subst e; decide +kernel
  split at h
  · rename_i e; cases h; subst e; decide +kernel
  split at h
  · rename_i e; cases h; subst e; decide +kernel
  split at h
  · rename_i e; cases h; subst e; decide +kernel
  split at h
  · rename_i e; cases h; subst e; decide +kernel
  · cases h
theorem cName_ok (GL : Glo P w K mg base k Γ) (G : Good P w K mg base k Γ.N sc X) {x : Str} {p : Pos} {we : WE} (h : cName Γ sc x = some we) : SE X (.Name x p) we := by
  unfold cName at h
  split at h
  · rename_i hd
    obtain ⟨d1, d2, d3⟩ := notDbg_ok hd
    have var : (sc.names.lookup x = some .local ∨ sc.names.lookup x = some .cell ∨ sc.names.lookup x = some .free) → (ixOf Γ.N x).map wVar = some we → SE X (.Name x p) we := fun hv e => by
      rw [Option.map_eq_some_iff] at e
      obtain ⟨i, hi, rfl⟩ := e
      exact se_var (by rw [G.N]; exact ixOf_get hi) (G.vis hv) d1 d2
    split at h
    · rename_i q; exact var (.inl q) h
    · rename_i q; exact var (.inr (.inl q)) h
    · rename_i q; exact var (.inr (.inr q)) h
    · rename_i q
      split at h
      · rename_i d hc
        cases h
        obtain ⟨u, v, hm, r, rp⟩ := GL.ct x d hc
        exact se_c (pe_glob (G.gl x q) (by rw [G.mg]; exact hm) r d1) (by unfold L2.Cx.kw; rw [G.K, G.w]; exact rp)
      · split at h
        · rename_i hb
          rw [Option.map_eq_some_iff] at h
          obtain ⟨n, hn, rfl⟩ := h
          exact se_c (pe_bltn (v := .ty n) (G.gl x q) (by rw [G.mg]; exact GL.bl x hb) (tyName_ok hn) rfl d3 d1) fun _ _ _ => of_con
        · cases h
    · cases h
  · cases h
theorem bW2_ok (GL : Glo P w K mg base k Γ) (G : Good P w K mg base k Γ.N sc X) {x : Str} {n : Nat} {g : WL} {e : Expr} {es : List Expr} {a : WA} {p pos : Pos} (h : bW2 x n = some g) (hg : sc.names.lookup x = some .globalImplicit) (ha : SA X (e :: es) a)
    (he : plainE e = true) (hes : es.all plainE = true) : SE X (.Call (.Name x p) (e :: es) [] pos) (wCB g a) := by
  have m : ∀ y ∈ bNames, X.mg y = none := fun y hy => by rw [G.mg]; exact GL.bl y hy
  unfold bW2 at h
  split at h
  · rename_i e'; cases h; subst e'
    exact se_callTy cg_str (G.gl _ hg) (m _ (by decide)) (by decide +kernel) ha (by decide) (by decide) (plain_star he) (plain_any hes)
  split at h
  · rename_i e'; cases h; subst e'
    by_cases hn : n = 1
    · rw [if_pos hn]
      exact se_callB (cg_minS G.calm G.u65) (G.gl _ hg) (m _ (by decide)) (by decide +kernel) ha (by decide) (by decide) (plain_star he) (plain_any hes)
    · rw [if_neg hn]
      exact se_callB (cg_min2 G.calm) (G.gl _ hg) (m _ (by decide)) (by decide +kernel) ha (by decide) (by decide) (plain_star he) (plain_any hes)
  split at h
  · rename_i e'; cases h; subst e'
    exact se_callB (cg_max2 G.calm) (G.gl _ hg) (m _ (by decide)) (by decide +kernel) ha (by decide) (by decide) (plain_star he) (plain_any hes)
  split at h
  · rename_i e'; cases h; subst e'
    exact se_callB (cg_srt4 G.calm) (G.gl _ hg) (m _ (by decide)) (by decide +kernel) ha (by decide) (by decide) (plain_star he) (plain_any hes)
  · cases h
theorem bW_ok (GL : Glo P w K mg base k Γ) (G : Good P w K mg base k Γ.N sc X) {x : Str} {n : Nat} {g : WL} {e : Expr} {es : List Expr} {a : WA} {p pos : Pos} (h : bW x n = some g) (hg : sc.names.lookup x = some .globalImplicit) (ha : SA X (e :: es) a)
    (he : plainE e = true) (hes : es.all plainE = true) : SE X (.Call (.Name x p) (e :: es) [] pos) (wCB g a) := by
  have m : ∀ y ∈ bNames, X.mg y = none := fun y hy => by rw [G.mg]; exact GL.bl y hy
  unfold bW at h
  split at h
  · rename_i e'; cases h; subst e'
    exact se_callB cg_lenU (G.gl _ hg) (m _ (by decide)) (by decide +kernel) ha (by decide) (by decide) (plain_star he) (plain_any hes)
  split at h
  · rename_i e'; cases h; subst e'
    exact se_callB cg_isi (G.gl _ hg) (m _ (by decide)) (by decide +kernel) ha (by decide) (by decide) (plain_star he) (plain_any hes)
  split at h
  · rename_i e'; cases h; subst e'
    exact se_callB (cg_all G.calm) (G.gl _ hg) (m _ (by decide)) (by decide +kernel) ha (by decide) (by decide) (plain_star he) (plain_any hes)
  split at h
  · rename_i e'; cases h; subst e'
    exact se_callB (cg_any G.calm) (G.gl _ hg) (m _ (by decide)) (by decide +kernel) ha (by decide) (by decide) (plain_star he) (plain_any hes)
  split at h
  · rename_i e'; cases h; subst e'
    exact se_callTy cg_tup (G.gl _ hg) (m _ (by decide)) (by decide +kernel) ha (by decide) (by decide) (plain_star he) (plain_any hes)
  split at h
  · rename_i e'; cases h; subst e'
    exact se_callTy (cg_lstU G.calm) (G.gl _ hg) (m _ (by decide)) (by decide +kernel) ha (by decide) (by decide) (plain_star he) (plain_any hes)
  split at h
  · rename_i e'; cases h; subst e'
    exact se_callTy cg_int (G.gl _ hg) (m _ (by decide)) (by decide +kernel) ha (by decide) (by decide) (plain_star he) (plain_any hes)
  · exact bW2_ok GL G h hg ha he hes
end
end MP

namespace MP
open PySem PySem.Spec PyProof.Rows L2

def cArgs (c : Comp) (sc : Scope) : List Expr → Option WA
  | [] => some waNil
  | e :: r => (c.e sc e).bind fun w => (cArgs c sc r).map fun a => waCons w a
def cItems (c : Comp) (sc : Scope) : List Expr → Option WA
  | [] => some waNil
  | .Starred e _ :: r => (c.e sc e).bind fun w => (cItems c sc r).map fun a => waStar w a
  | e :: r => (c.e sc e).bind fun w => (cItems c sc r).map fun a => waCons w a
def cBoolE (c : Comp) (sc : Scope) (g : WE → WE → WE) : List Expr → Option WE
  | [] => none
  | [a] => c.e sc a
  | a :: r => (c.e sc a).bind fun w => (cBoolE c sc g r).map fun u => g w u
def cBoolT (c : Comp) (sc : Scope) (g : WT → WT → WT) : List Expr → Option WT
  | [] => none
  | [a] => c.t sc a
  | a :: r => (c.t sc a).bind fun w => (cBoolT c sc g r).map fun u => g w u
def cOpt (c : Comp) (sc : Scope) : Option Expr → Option WO
  | none => some woNone
  | some e => (c.e sc e).map fun w => woSome w
mutual
def cPat (Γ : CEnv) (sc : Scope) : Nat → Expr → Option Pat
  | 0, _ => none
  | n + 1, e => match e with
    | .Name x _ => if sc.names.lookup x = some .local ∨ sc.names.lookup x = some .cell then (ixOf Γ.N x).map Pat.nm else none
    | .Tuple es _ _ => (cPats Γ sc n es).map Pat.tp
    | _ => none
def cPats (Γ : CEnv) (sc : Scope) : Nat → List Expr → Option Pats
  | 0, _ => none
  | n + 1, es => match es with
    | [] => some .nil
    | e :: es => (cPat Γ sc n e).bind fun p => (cPats Γ sc n es).map fun ps => Pats.cons p ps
end
def ownOf (N : List Str) (scope : Scope) : List (Str × Nat) := scope.names.filterMap fun y => match y.2 with
  | .local => (ixOf N y.1).map fun i => (y.1, i)
  | .cell => (ixOf N y.1).map fun i => (y.1, i)
  | _ => none
def cIfs (c : Comp) (sc : Scope) : List Expr → Option WT
  | [] => some wtYes
  | [t] => c.t sc t
  | _ => none
/-- a comprehension's parts -/
def cLc1 (c : Comp) (Γ : CEnv) (sc : Scope) (elt tg iter : Expr) (ifs : List Expr) (scope : Scope) : Option (WI × Pat × WT × WE) :=
  if blkC Γ.N sc scope (ownOf Γ.N scope) = true then
    (c.i sc tg iter).bind fun wi => (cPat Γ scope 8 tg).bind fun p => if p.within ((ownOf Γ.N scope).map (·.2)) = true then
      (cIfs c scope ifs).bind fun tt => (c.e scope elt).map fun te => (wi, p, tt, te)
    else none
  else none
mutual
def Pat.ixs : Pat → List Nat
  | .nm i => [i]
  | .tp ps => ps.ixs
def Pats.ixs : Pats → List Nat
  | .nil => []
  | .cons p ps => p.ixs ++ ps.ixs
end
def cLc2 (c : Comp) (Γ : CEnv) (sc : Scope) (elt tg iter : Expr) (ifs : List Expr) (tg1 iter1 : Expr) (ifs1 : List Expr) (scope : Scope) : Option (WI × Pat × WT × WI × Pat × WT × WE) :=
  if blkC Γ.N sc scope (ownOf Γ.N scope) = true then
    (c.i sc tg iter).bind fun wi => (cPat Γ scope 8 tg).bind fun p => if p.within ((ownOf Γ.N scope).map (·.2)) = true then
      (cIfs c scope ifs).bind fun tt => (c.i scope tg1 iter1).bind fun wi1 => (cPat Γ scope 8 tg1).bind fun p1 => if (p1.within p1.ixs && p1.ixs.all fun i => ((ownOf Γ.N scope).map (·.2)).contains i) = true then
        (cIfs c scope ifs1).bind fun tt1 => (c.e scope elt).map fun te => (wi, p, tt, wi1, p1, tt1, te)
      else none
    else none
  else none
def isLc : Expr → Bool
  | .ListComp .. => true
  | _ => false
/-- a dict comprehension's parts -/
def cDc1 (c : Comp) (Γ : CEnv) (sc : Scope) (kx vx tg iter : Expr) (ifs : List Expr) (scope : Scope) : Option (WI × Pat × WT × WE × WE) :=
  if blkC Γ.N sc scope (ownOf Γ.N scope) = true then
    (c.i sc tg iter).bind fun wi => (cPat Γ scope 8 tg).bind fun p => if p.within ((ownOf Γ.N scope).map (·.2)) = true then
      (cIfs c scope ifs).bind fun tt => (c.e scope kx).bind fun tk => (c.e scope vx).map fun tv => (wi, p, tt, tk, tv)
    else none
  else none
section
variable {P : Program} {w : World} {K : PySem.W.Frag} {mg : Str → Option Value} {base : Heap} {k : Nat} {Γ : CEnv}
/-- the recursion's parts are sound -/
structure CS (P : Program) (w : World) (K : PySem.W.Frag) (mg : Str → Option Value) (base : Heap) (k : Nat) (Γ : CEnv) (c : Comp) : Prop where
  pe : ∀ sc e we, c.e sc e = some we → plainE e = true
  e : ∀ sc e we X, c.e sc e = some we → Good P w K mg base k Γ.N sc X → SE X e we
  t : ∀ sc e wt X, c.t sc e = some wt → Good P w K mg base k Γ.N sc X → ST X e wt
  pi : ∀ sc tg e wi, c.i sc tg e = some wi → plainE e = true
  i : ∀ sc tg e wi X, c.i sc tg e = some wi → Good P w K mg base k Γ.N sc X → SI X tg e wi
  s : ∀ sc st ws X, c.s sc st = some ws → Good P w K mg base k Γ.N sc X → X.env.scope = sc → sc.kind = .function → SS X st ws
variable {c : Comp} {sc scope : Scope} {X : Cx}
theorem cArgs_ok (C : CS P w K mg base k Γ c) (G : Good P w K mg base k Γ.N sc X) : ∀ {es : List Expr} {a : WA}, cArgs c sc es = some a → SA X es a ∧ es.all plainE = true
  | [], a, h => by cases h; exact ⟨sa_nil, rfl⟩
  | e :: es, a, h => by
    unfold cArgs at h
    rw [Option.bind_eq_some_iff] at h
    obtain ⟨we, h1, h2⟩ := h
    rw [Option.map_eq_some_iff] at h2
    obtain ⟨a', h3, rfl⟩ := h2
    obtain ⟨i1, i2⟩ := cArgs_ok C G h3
    have pl := C.pe _ _ _ h1
    exact ⟨sa_cons (C.e _ _ _ X h1 G) i1 (plain_star pl), by simp [pl, i2]⟩
theorem cItems_ok (C : CS P w K mg base k Γ c) (G : Good P w K mg base k Γ.N sc X) : ∀ {es : List Expr} {a : WA}, cItems c sc es = some a → SA X es a
  | [], a, h => by cases h; exact sa_nil
  | e :: es, a, h => by
    have plain : (c.e sc e).bind (fun w => (cItems c sc es).map fun a => waCons w a) = some a → SA X (e :: es) a := fun h => by
      rw [Option.bind_eq_some_iff] at h
      obtain ⟨we, h1, h2⟩ := h
      rw [Option.map_eq_some_iff] at h2
      obtain ⟨a', h3, rfl⟩ := h2
      exact sa_cons (C.e _ _ _ X h1 G) (cItems_ok C G h3) (plain_star (C.pe _ _ _ h1))
    cases e with
    | Starred e p =>
      have h' : (c.e sc e).bind (fun w => (cItems c sc es).map fun a => waStar w a) = some a := h
      rw [Option.bind_eq_some_iff] at h'
      obtain ⟨we, h1, h2⟩ := h'
      rw [Option.map_eq_some_iff] at h2
      obtain ⟨a', h3, rfl⟩ := h2
      exact sa_star G.calm (C.e _ _ _ X h1 G) (cItems_ok C G h3) rfl
    | _ => exact plain h
theorem cOpt_ok (C : CS P w K mg base k Γ c) (G : Good P w K mg base k Γ.N sc X) : ∀ {o : Option Expr} {wo : WO}, cOpt c sc o = some wo → PO X o (liftO X.kw wo)
  | none, wo, h => by cases h; exact so_none
  | some e, wo, h => by
    have h' : (c.e sc e).map (fun w => woSome w) = some wo := h
    rw [Option.map_eq_some_iff] at h'
    obtain ⟨we, h1, rfl⟩ := h'
    exact so_some (C.e _ _ _ X h1 G)
theorem cBoolE_and (C : CS P w K mg base k Γ c) (G : Good P w K mg base k Γ.N sc X) {pos : Pos} : ∀ {es : List Expr} {we : WE}, cBoolE c sc wAnd es = some we → SE X (.BoolOp .And es pos) we
  | [], _, h => by cases h
  | [a], we, h => se_one (C.e _ _ _ X h G)
  | a :: b :: r, we, h => by
    have h' : (c.e sc a).bind (fun w => (cBoolE c sc wAnd (b :: r)).map fun u => wAnd w u) = some we := h
    rw [Option.bind_eq_some_iff] at h'
    obtain ⟨wa, h1, h2⟩ := h'
    rw [Option.map_eq_some_iff] at h2
    obtain ⟨wb, h3, rfl⟩ := h2
    exact se_and (C.e _ _ _ X h1 G) (cBoolE_and C G h3)
theorem cBoolE_or (C : CS P w K mg base k Γ c) (G : Good P w K mg base k Γ.N sc X) {pos : Pos} : ∀ {es : List Expr} {we : WE}, cBoolE c sc wOr es = some we → SE X (.BoolOp .Or es pos) we
  | [], _, h => by cases h
  | [a], we, h => se_one (C.e _ _ _ X h G)
  | a :: b :: r, we, h => by
    have h' : (c.e sc a).bind (fun w => (cBoolE c sc wOr (b :: r)).map fun u => wOr w u) = some we := h
    rw [Option.bind_eq_some_iff] at h'
    obtain ⟨wa, h1, h2⟩ := h'
    rw [Option.map_eq_some_iff] at h2
    obtain ⟨wb, h3, rfl⟩ := h2
    exact se_or (C.e _ _ _ X h1 G) (cBoolE_or C G h3)
theorem cBoolT_and (C : CS P w K mg base k Γ c) (G : Good P w K mg base k Γ.N sc X) {pos : Pos} : ∀ {es : List Expr} {we : WT}, cBoolT c sc wtAnd es = some we → SW X (.BoolOp .And es pos) we
  | [], _, h => by cases h
  | [a], we, h => sw_and1 (C.t _ _ _ X h G)
  | a :: b :: r, we, h => by
    have h' : (c.t sc a).bind (fun w => (cBoolT c sc wtAnd (b :: r)).map fun u => wtAnd w u) = some we := h
    rw [Option.bind_eq_some_iff] at h'
    obtain ⟨wa, h1, h2⟩ := h'
    rw [Option.map_eq_some_iff] at h2
    obtain ⟨wb, h3, rfl⟩ := h2
    exact sw_and (C.t _ _ _ X h1 G) (cBoolT_and C G h3)
theorem cBoolT_or (C : CS P w K mg base k Γ c) (G : Good P w K mg base k Γ.N sc X) {pos : Pos} : ∀ {es : List Expr} {we : WT}, cBoolT c sc wtOr es = some we → SW X (.BoolOp .Or es pos) we
  | [], _, h => by cases h
  | [a], we, h => sw_or1 (C.t _ _ _ X h G)
  | a :: b :: r, we, h => by
    have h' : (c.t sc a).bind (fun w => (cBoolT c sc wtOr (b :: r)).map fun u => wtOr w u) = some we := h
    rw [Option.bind_eq_some_iff] at h'
    obtain ⟨wa, h1, h2⟩ := h'
    rw [Option.map_eq_some_iff] at h2
    obtain ⟨wb, h3, rfl⟩ := h2
    exact sw_or (C.t _ _ _ X h1 G) (cBoolT_or C G h3)
def noStar : Expr → Bool
  | .Starred .. => false
  | _ => true
theorem asg_cons {e : Expr} {es : List Expr} {env : Env} (h : noStar e = true) : assignEach (e :: es) env = (false, assign e env) :: assignEach es env := by
  cases e <;> first
    | rfl
    | cases h
mutual
theorem cPat_ok (GL : Glo P w K mg base k Γ) (G : Good P w K mg base k Γ.N sc X) : ∀ (n : Nat) {e : Expr} {p : Pat}, cPat Γ sc n e = some p → PG X e (hPat X.kw p) ∧ noStar e = true
  | 0, _, _, h => by simp [cPat] at h
  | n + 1, e, p, h => by
    cases e with
    | Name x ps =>
      simp only [cPat] at h
      split at h
      · rename_i q
        rw [Option.map_eq_some_iff] at h
        obtain ⟨i, hi, rfl⟩ := h
        unfold hPat
        exact ⟨pg_name (by rw [G.N]; exact GL.nd) (by rw [G.N]; exact ixOf_get hi) (G.locs q) (G.fn x q), rfl⟩
      · cases h
    | Tuple es k' ps =>
      simp only [cPat] at h
      rw [Option.map_eq_some_iff] at h
      obtain ⟨q, hq, rfl⟩ := h
      obtain ⟨h1, h2, h3⟩ := cPats_ok GL G n hq
      unfold hPat
      exact ⟨pg_tup G.calm h1 h2 h3, rfl⟩
    | _ => simp [cPat] at h
theorem cPats_ok (GL : Glo P w K mg base k Γ) (G : Good P w K mg base k Γ.N sc X) : ∀ (n : Nat) {es : List Expr} {ps : Pats}, cPats Γ sc n es = some ps → PGs X es (hPats X.kw ps) ∧ (assignEach es X.env).length = ps.len ∧ (assignEach es X.env).findIdx? (·.1) = none
  | 0, _, _, h => by simp [cPats] at h
  | n + 1, es, ps, h => by
    cases es with
    | nil =>
      simp only [cPats, Option.some.injEq] at h
      subst h
      unfold hPats
      exact ⟨pgs_nil, rfl, rfl⟩
    | cons e es =>
      simp only [cPats] at h
      rw [Option.bind_eq_some_iff] at h
      obtain ⟨p, h1, h2⟩ := h
      rw [Option.map_eq_some_iff] at h2
      obtain ⟨ps', h3, rfl⟩ := h2
      obtain ⟨a1, a2⟩ := cPat_ok GL G n h1
      obtain ⟨b1, b2, b3⟩ := cPats_ok GL G n h3
      have hc := asg_cons (es := es) (env := X.env) a2
      unfold hPats
      refine ⟨pgs_cons a1 b1 (by rw [hc]; rfl), by rw [hc]; simp [Pats.len, b2], ?_⟩
      rw [hc]
      simpa [List.findIdx?_cons] using b3
end
theorem cIfs_ok (C : CS P w K mg base k Γ c) (G : Good P w K mg base k Γ.N sc X) : ∀ {es : List Expr} {wt : WT}, cIfs c sc es = some wt → STs X es wt
  | [], _, h => by cases h; exact sts_nil
  | [t], _, h => sts_one (C.t _ _ _ X h G)
  | _ :: _ :: _, _, h => by cases h
theorem blk_ok (G : Good P w K mg base k Γ.N sc X) {own : List (Str × Nat)} (h : blkC Γ.N sc scope own = true) : BlkOk X.N X.env.scope scope own := by
  have b := blkOk_by h
  rw [G.N]
  refine ⟨b.kind, b.uniq, b.ix, fun y hy hf => ?_, b.own⟩
  rcases b.free y hy hf with q | q
  · exact .inl (G.cell _ q)
  · exact (G.free _ q).symm
end
end MP

namespace MP
open PySem PySem.Spec PyProof.Rows L2
/-! ### further forms (they are added here) -/
def compX (c : Comp) (Γ : CEnv) (sc : Scope) : Expr → Option WE
  | .Attribute o f _ => if (!Γ.aN.isEmpty && !isCall0 o) = true then (ixOf Γ.aN f).bind fun i => (c.e sc o).map fun w => wUn (gFld Γ.cN Γ.aN i) w else none
  | .Call (.Attribute o m apos) [] [] cpos => if (!Γ.aN.isEmpty && (!isCall0 o && ((apos.endLine == cpos.line) && (ixOf Γ.aN m).isNone))) = true then (Γ.mT.lookup m).bind fun g => (c.e sc o).map fun w => wMt Γ.cN Γ.aN g w waNil else none
  | .Call (.Attribute o m apos) (e :: es) [] cpos => if ((!Γ.aN.isEmpty && (!isCall0 o && ((apos.endLine == cpos.line) && (ixOf Γ.aN m).isNone))) && decide ((e :: es).length < 30)) = true then (Γ.mT.lookup m).bind fun g => (c.e sc o).bind fun w => (cArgs c sc (e :: es)).map fun a => wMt Γ.cN Γ.aN g w a else none
  | .Call (.Name x _) [.Call (.Name y _) [e] [] _] [] _ => if (((x == ("list" : Str)) && (y == ("range" : Str))) && ((sc.names.lookup x == some .globalImplicit) && (sc.names.lookup y == some .globalImplicit))) = true then (cArgs c sc [e]).bind fun _ => (c.e sc e).map wRgL
    else if (((x == ("sorted" : Str)) && (y == ("set" : Str))) && ((sc.names.lookup x == some .globalImplicit) && (sc.names.lookup y == some .globalImplicit))) = true then (cArgs c sc [e]).bind fun _ => (c.e sc e).map wSrtSet
    else if (((x == ("len" : Str)) && (y == ("set" : Str))) && ((sc.names.lookup x == some .globalImplicit) && (sc.names.lookup y == some .globalImplicit))) = true then (cArgs c sc [e]).bind fun _ => (c.e sc e).map wLenSet else none
  | .Call (.Name x _) (e :: es) [] _ => if (notDbg x && (sc.names.lookup x == some .globalImplicit)) = true then (Γ.kT.lookup x).bind fun g => (cArgs c sc (e :: es)).map fun a => wMk x g a else none
  | _ => none
def compIX (c : Comp) (Γ : CEnv) (sc : Scope) (tg e : Expr) : Option WI := match tg, e with
  | .Tuple _ _ _, .Call (.Name x _) [e] [] _ => if ((x == ("enumerate" : Str)) && (sc.names.lookup x == some .globalImplicit)) = true then (cArgs c sc [e]).bind fun _ => (c.e sc e).map wiEnum else none
  | _, _ => none
section
variable {P : Program} {w : World} {K : PySem.W.Frag} {mg : Str → Option Value} {base : Heap} {k : Nat} {Γ : CEnv} {c : Comp} {sc scope : Scope} {X : Cx}
theorem ixOf_none : ∀ {N : List Str} {x : Str}, (ixOf N x).isNone = true → x ∉ N
  | [], _, _ => by simp
  | y :: r, x, h => by
    unfold ixOf at h
    split at h
    · cases h
    · rename_i ne
      have h' : (ixOf r x).isNone = true := by simpa using h
      simp only [List.mem_cons, not_or]
      exact ⟨fun e => ne e.symm, ixOf_none h'⟩
theorem few_ok {pos : Pos} {env : Env} {es : List Expr} (h1 : es.all plainE = true) (h2 : decide (es.length < 30) = true) : methodCallForm (es.length + ([] : List Keyword).length) (backTo pos (starEach es env)) (backToKw pos (keywordEach [] env)) = true := by
  unfold methodCallForm
  have e1 : (backTo pos (starEach es env)).all (fun x => !x.1) = true := plain_all h1
  have e2 : (backToKw pos (keywordEach [] env)).all (fun x => x.1.isSome) = true := rfl
  rw [e1, e2]
  have : es.length < 30 := of_decide_eq_true h2
  simpa [backToKw, keywordEach] using this
theorem compX_ok (GL : Glo P w K mg base k Γ) (C : CS P w K mg base k Γ c) (G : Good P w K mg base k Γ.N sc X) {e : Expr} {we : WE} (h : compX c Γ sc e = some we) : SE X e we := by
  have clT : (!Γ.aN.isEmpty) = true → ClsT X.K Γ.cN Γ.aN := fun hn => by
    rcases GL.cl with e | T
    · rw [e] at hn; cases hn
    · exact G.cl T
  unfold compX at h
  split at h
  · split at h
    · rename_i hc
      rw [Bool.and_eq_true, Bool.not_eq_true' (b := isCall0 _)] at hc
      rw [Option.bind_eq_some_iff] at h
      obtain ⟨i, h1, h⟩ := h
      rw [Option.map_eq_some_iff] at h
      obtain ⟨wo, h2, rfl⟩ := h
      exact se_fld (clT hc.1) (ixOf_get h1) (C.e _ _ _ X h2 G) (notCall0_base hc.2)
    · cases h
  · split at h
    · rename_i hc
      rw [Bool.and_eq_true, Bool.and_eq_true, Bool.and_eq_true, Bool.not_eq_true' (b := isCall0 _)] at hc
      rw [Option.bind_eq_some_iff] at h
      obtain ⟨g, h1, h⟩ := h
      rw [Option.map_eq_some_iff] at h
      obtain ⟨wo, h2, rfl⟩ := h
      exact se_meth0 (clT hc.1) (G.me (GL.mt _ _ h1)) G.room (ixOf_none hc.2.2.2) (C.e _ _ _ X h2 G) (meth_ht (notCall0_base hc.2.1) hc.2.2.1 (few_ok rfl rfl))
    · cases h
  · split at h
    · rename_i hc
      rw [Bool.and_eq_true, Bool.and_eq_true, Bool.and_eq_true, Bool.and_eq_true, Bool.not_eq_true' (b := isCall0 _)] at hc
      obtain ⟨hc, hl⟩ := hc
      rw [Option.bind_eq_some_iff] at h
      obtain ⟨g, h1, h⟩ := h
      rw [Option.bind_eq_some_iff] at h
      obtain ⟨wo, h2, h⟩ := h
      rw [Option.map_eq_some_iff] at h
      obtain ⟨a, h3, rfl⟩ := h
      obtain ⟨a1, a2⟩ := cArgs_ok C G h3
      have a3 := a2
      simp only [List.all_cons, Bool.and_eq_true] at a3
      exact se_meth (clT hc.1) (G.me (GL.mt _ _ h1)) G.room (ixOf_none hc.2.2.2) (C.e _ _ _ X h2 G) a1 (plain_star a3.1) (plain_any a3.2) (meth_ht (notCall0_base hc.2.1) hc.2.2.1 (few_ok a2 hl))
    · cases h
  · split at h
    · rename_i hc
      rw [Bool.and_eq_true, Bool.and_eq_true, Bool.and_eq_true] at hc
      obtain ⟨⟨e1, e2⟩, e3, e4⟩ := hc
      have e1 := eq_of_beq e1
      have e2 := eq_of_beq e2
      subst e1
      subst e2
      rw [Option.bind_eq_some_iff] at h
      obtain ⟨a, h1, h⟩ := h
      rw [Option.map_eq_some_iff] at h
      obtain ⟨w1, h2, rfl⟩ := h
      obtain ⟨_, a2⟩ := cArgs_ok C G h1
      simp only [List.all_cons, Bool.and_eq_true] at a2
      exact se_rgl G.calm (G.gl _ (eq_of_beq e3)) (by rw [G.mg]; exact GL.bl _ (by decide)) (G.gl _ (eq_of_beq e4)) (by rw [G.mg]; exact GL.bl _ (by decide)) (C.e _ _ _ X h2 G) (plain_star a2.1)
    · split at h
      · rename_i hc
        rw [Bool.and_eq_true, Bool.and_eq_true, Bool.and_eq_true] at hc
        obtain ⟨⟨e1, e2⟩, e3, e4⟩ := hc
        have e1 := eq_of_beq e1
        have e2 := eq_of_beq e2
        subst e1
        subst e2
        rw [Option.bind_eq_some_iff] at h
        obtain ⟨a, h1, h⟩ := h
        rw [Option.map_eq_some_iff] at h
        obtain ⟨w1, h2, rfl⟩ := h
        obtain ⟨_, a2⟩ := cArgs_ok C G h1
        simp only [List.all_cons, Bool.and_eq_true] at a2
        exact se_srtset G.calm (G.gl _ (eq_of_beq e3)) (by rw [G.mg]; exact GL.bl _ (by decide)) (G.gl _ (eq_of_beq e4)) (by rw [G.mg]; exact GL.bl _ (by decide)) (C.e _ _ _ X h2 G) (plain_star a2.1) (plain_star rfl)
      · split at h
        · rename_i hc
          rw [Bool.and_eq_true, Bool.and_eq_true, Bool.and_eq_true] at hc
          obtain ⟨⟨e1, e2⟩, e3, e4⟩ := hc
          have e1 := eq_of_beq e1
          have e2 := eq_of_beq e2
          subst e1
          subst e2
          rw [Option.bind_eq_some_iff] at h
          obtain ⟨a, h1, h⟩ := h
          rw [Option.map_eq_some_iff] at h
          obtain ⟨w1, h2, rfl⟩ := h
          obtain ⟨_, a2⟩ := cArgs_ok C G h1
          simp only [List.all_cons, Bool.and_eq_true] at a2
          exact se_lenset G.calm (G.gl _ (eq_of_beq e3)) (by rw [G.mg]; exact GL.bl _ (by decide)) (G.gl _ (eq_of_beq e4)) (by rw [G.mg]; exact GL.bl _ (by decide)) (C.e _ _ _ X h2 G) (plain_star a2.1) (plain_star rfl)
        · cases h
  · split at h
    · rename_i hc
      rw [Bool.and_eq_true] at hc
      obtain ⟨d1, d2, d3⟩ := notDbg_ok hc.1
      rw [Option.bind_eq_some_iff] at h
      obtain ⟨g, h1, h⟩ := h
      rw [Option.map_eq_some_iff] at h
      obtain ⟨a, h3, rfl⟩ := h
      obtain ⟨a1, a2⟩ := cArgs_ok C G h3
      simp only [List.all_cons, Bool.and_eq_true] at a2
      exact se_make (G.ke (GL.kt _ _ h1)) G.room (G.gl _ (eq_of_beq hc.2)) a1 d1 (plain_star a2.1) (plain_any a2.2)
    · cases h
  · cases h
theorem compX_plain {e : Expr} {we : WE} (h : compX c Γ sc e = some we) : plainE e = true := by
  cases e <;> first
    | rfl
    | (simp [compX] at h)
theorem compIX_ok (GL : Glo P w K mg base k Γ) (C : CS P w K mg base k Γ c) (G : Good P w K mg base k Γ.N sc X) {tg e : Expr} {wi : WI} (h : compIX c Γ sc tg e = some wi) : SI X tg e wi := by
  unfold compIX at h
  split at h
  · split at h
    · rename_i hc
      rw [Bool.and_eq_true] at hc
      have e1 := eq_of_beq hc.1
      subst e1
      rw [Option.bind_eq_some_iff] at h
      obtain ⟨a, h1, h⟩ := h
      rw [Option.map_eq_some_iff] at h
      obtain ⟨w1, h2, rfl⟩ := h
      obtain ⟨_, a2⟩ := cArgs_ok C G h1
      simp only [List.all_cons, Bool.and_eq_true] at a2
      exact si_enum (G.gl _ (eq_of_beq hc.2)) (by rw [G.mg]; exact GL.bl _ (by decide)) (C.e _ _ _ X h2 G) (plain_star a2.1)
    · cases h
  · cases h
theorem compIX_plain {tg e : Expr} {wi : WI} (h : compIX c Γ sc tg e = some wi) : plainE e = true := by
  unfold compIX at h
  split at h
  · rfl
  · cases h
end
end MP

namespace MP
open PySem PySem.Spec PyProof.Rows L2
/-- is the key of a display surely a tuple? -/
def nestE : Expr → Bool
  | .Tuple .. => true
  | .Subscript _ (.Slice ..) _ => true
  | _ => false
/-- methods of dicts -/
def dW (m : Str) : Option (D → List D → Hq → WK → Prop) :=
  if m = ("get" : Str) then some mGet else if m = ("setdefault" : Str) then some mSetd else if m = ("update" : Str) then some mUpd else none
def mW (m : Str) : Option (String × (D → List D → Hq → WK → Prop)) :=
  if m = ("append" : Str) then some ("list", mAppend) else if m = ("extend" : Str) then some ("list", mExtend) else
  if m = ("join" : Str) then some ("str", mJoin) else if m = ("index" : Str) then some ("str", mIndex) else none
def compE1 (c : Comp) (Γ : CEnv) (sc : Scope) : Expr → Option WE
  | .Name x _ => cName Γ sc x
  | .Constant (.int i) _ _ => some (wC (.int i))
  | .Constant (.bool b) _ _ => some (wC (.bl b))
  | .Constant .none _ _ => some (wC .non)
  | .Constant (.str x) _ _ => if strB x.cps.toList = true then some (wC (.str x.cps.toList)) else none
  | .BinOp a op b _ => (binW op).bind fun g => (c.e sc a).bind fun wa => (c.e sc b).map fun wb => wOp g wa wb
  | .UnaryOp .USub a _ => (c.e sc a).map fun w => wUn gNeg w
  | .UnaryOp .Not a _ => (c.e sc a).map fun w => wNot w
  | .BoolOp .And vs _ => cBoolE c sc wAnd vs
  | .BoolOp .Or vs _ => cBoolE c sc wOr vs
  | .Compare a [op] [b] _ => (c.e sc a).bind fun wa => (c.e sc b).map fun wb => wOp (cmpW op) wa wb
  | .Compare a [op, op'] [b, d] _ => (c.e sc a).bind fun wa => (c.e sc b).bind fun wb => (c.e sc d).map fun wd => wChain (cmpW op) (cmpW op') wa wb wd
  | .IfExp t a b _ => (c.t sc t).bind fun wt => (c.e sc a).bind fun wa => (c.e sc b).map fun wb => wIf wt wa wb
  | .Tuple es _ _ => (cItems c sc es).map fun a => wTup a
  | .List es _ => (cItems c sc es).map fun a => wLst a
  | .Dict [] [] _ => some wDnew
  | .Dict [some a] [b] _ => (c.e sc a).bind fun wa => (c.e sc b).map fun wb => wGc (wDisp (nestE a) wa wb)
  | .Subscript a (.Slice lo hi none _) _ => (c.e sc a).bind fun wa => (cOpt c sc lo).bind fun wl => (cOpt c sc hi).map fun wh => wSl wa wl wh
  | .Subscript a b _ => (c.e sc a).bind fun wa => (c.e sc b).map fun wb => wOp gIxU wa wb
  | .Call (.Name x _) (e :: es) [] _ => if notDbg x = true then (if sc.names.lookup x = some .globalImplicit then (cArgs c sc (e :: es)).bind fun a => (match Γ.fT.lookup x with
      | some g => some (wCB g a)
      | none => (bW x (e :: es).length).map fun g => wCB g a) else none) else none
  | .Call (.Attribute o m apos) (e :: es) [] cpos => if (apos.endLine == cpos.line && !isCall0 o && decide ((e :: es).length < 30)) = true then
      (c.e sc o).bind fun wo => (cArgs c sc (e :: es)).bind fun a => (match mW m with
      | some g => some (wBM g.1 g.2 wo a)
      | none => (dW m).map fun g => wBD g wo a) else none
  | .Call (.Attribute o m apos) [] [] cpos => if (apos.endLine == cpos.line && !isCall0 o) = true then (if m = ("pop" : Str) then (c.e sc o).map fun wo => wBM "list" mPop wo waNil else none) else none
  | .ListComp elt [⟨tg, iter, ifs, a⟩] scope _ => if a = 0 then (cLc1 c Γ sc elt tg iter ifs scope).map fun q => wLc q.1 q.2.1 q.2.2.1 q.2.2.2 ((ownOf Γ.N scope).map (·.2)) else none
  | .ListComp elt [⟨tg, iter, ifs, a⟩, ⟨tg1, iter1, ifs1, b⟩] scope _ => if a = 0 ∧ b = 0 then (cLc2 c Γ sc elt tg iter ifs tg1 iter1 ifs1 scope).map fun q =>
      wLc2 q.1 q.2.1 q.2.2.1 q.2.2.2.1 q.2.2.2.2.1 q.2.2.2.2.2.1 q.2.2.2.2.2.2 ((ownOf Γ.N scope).map (·.2)) q.2.2.2.2.1.ixs else none
  | .DictComp kx vx [⟨tg, iter, ifs, a⟩] scope _ => if a = 0 then (cDc1 c Γ sc kx vx tg iter ifs scope).map fun q => wDc q.1 q.2.1 q.2.2.1 q.2.2.2.1 q.2.2.2.2 ((ownOf Γ.N scope).map (·.2)) else none
  | _ => none
def compE (c : Comp) (Γ : CEnv) (sc : Scope) (e : Expr) : Option WE := match compX c Γ sc e with
  | some w => some w
  | none => compE1 c Γ sc e
def compT (c : Comp) (sc : Scope) : Expr → Option WT
  | .UnaryOp .Not a _ => (c.t sc a).map fun w => wtNot w
  | .BoolOp .And vs _ => cBoolT c sc wtAnd vs
  | .BoolOp .Or vs _ => cBoolT c sc wtOr vs
  | .Compare a [op] [b] _ => (c.e sc a).bind fun wa => (c.e sc b).map fun wb => wtB (wOp (cmpW op) wa wb)
  | .Compare a [op, op'] [b, d] _ => (c.e sc a).bind fun wa => (c.e sc b).bind fun wb => (c.e sc d).map fun wd => wtB (wChain (cmpW op) (cmpW op') wa wb wd)
  | e => if valT e = true then (c.e sc e).map fun w => wtTru w else none
def compI1 (c : Comp) (sc : Scope) (tg : Expr) : Expr → Option WI
  | .Call (.Name x p) es [] pos =>
    if sc.names.lookup x = some .globalImplicit ∧ x = ("range" : Str) then (match es with
      | [a] => (cArgs c sc [a]).map fun a => wiRng1 a
      | [a, b] => (cArgs c sc [a, b]).map fun a => wiRng2 a
      | _ => none)
    else if sc.names.lookup x = some .globalImplicit ∧ x = ("zip" : Str) then (match tg, es with
      | .Tuple _ _ _, [a, b] => (cArgs c sc [a, b]).map fun a => wiZip a
      | _, _ => none)
    else (c.e sc (.Call (.Name x p) es [] pos)).map fun w => wiAny w
  | e => (c.e sc e).map fun w => wiAny w

def compI (c : Comp) (Γ : CEnv) (sc : Scope) (tg e : Expr) : Option WI := match compIX c Γ sc tg e with
  | some w => some w
  | none => compI1 c sc tg e
section
variable {P : Program} {w : World} {K : PySem.W.Frag} {mg : Str → Option Value} {base : Heap} {k : Nat} {Γ : CEnv} {c : Comp} {sc scope : Scope} {X : Cx}
theorem mW_ok {m : Str} {T : String} {g : D → List D → Hq → WK → Prop} (h : mW m = some (T, g)) {o e : Expr} {es : List Expr} {wo : WE} {wa : WA} {apos cpos : Pos} (ho : SE X o wo) (ha : SA X (e :: es) wa) (hbase : isCall0 o = false)
    (hl : (apos.endLine == cpos.line) = true) (hn : decide ((e :: es).length < 30) = true) (he : plainE e = true) (hes : es.all plainE = true) : SE X (.Call (.Attribute o m apos) (e :: es) [] cpos) (wBM T g wo wa) := by
  have hfew : ((backTo cpos (starEach (e :: es) X.env)).all (fun x => !x.1) && (backToKw cpos (keywordEach [] X.env)).all (fun x => x.1.isSome)
      && decide ((e :: es).length + ([] : List Keyword).length + (if ([] : List Keyword).isEmpty then 0 else 1) < 30)) = true := by
    have h1 : (backTo cpos (starEach (e :: es) X.env)).all (fun x => !x.1) = true := plain_all (by simp [he, hes])
    rw [h1]
    have h2 : (backToKw cpos (keywordEach [] X.env)).all (fun x => x.1.isSome) = true := rfl
    rw [h2]
    simpa using hn
  unfold mW at h
  split at h
  · rename_i e'; cases h; subst e'
    exact se_bm PySem.F.plainAttrs_list PySem.F.slot_list_append PySem.F.type_list_append mg_append ho ha (notCall0_base hbase) hfew hl (plain_star he) (plain_any hes)
  split at h
  · rename_i e'; cases h; subst e'
    exact se_bm PySem.F.plainAttrs_list PySem.F.slot_list_extend PySem.F.type_list_extend mg_extend ho ha (notCall0_base hbase) hfew hl (plain_star he) (plain_any hes)
  split at h
  · rename_i e'; cases h; subst e'
    exact se_bm PySem.F.plainAttrs_str PySem.F.slot_str_join PySem.F.type_str_join mg_join ho ha (notCall0_base hbase) hfew hl (plain_star he) (plain_any hes)
  split at h
  · rename_i e'; cases h; subst e'
    exact se_bm PySem.F.plainAttrs_str PySem.F.slot_str_index PySem.F.type_str_index mg_index ho ha (notCall0_base hbase) hfew hl (plain_star he) (plain_any hes)
  · cases h
theorem dW_ok {m : Str} {g : D → List D → Hq → WK → Prop} (hu : X.A.units + 65 < cLine) (h : dW m = some g) {o e : Expr} {es : List Expr} {wo : WE} {wa : WA} {apos cpos : Pos} (ho : SE X o wo) (ha : SA X (e :: es) wa) (hbase : isCall0 o = false)
    (hl : (apos.endLine == cpos.line) = true) (hn : decide ((e :: es).length < 30) = true) (he : plainE e = true) (hes : es.all plainE = true) : SE X (.Call (.Attribute o m apos) (e :: es) [] cpos) (wBD g wo wa) := by
  have hfew : ((backTo cpos (starEach (e :: es) X.env)).all (fun x => !x.1) && (backToKw cpos (keywordEach [] X.env)).all (fun x => x.1.isSome)
      && decide ((e :: es).length + ([] : List Keyword).length + (if ([] : List Keyword).isEmpty then 0 else 1) < 30)) = true := by
    have h1 : (backTo cpos (starEach (e :: es) X.env)).all (fun x => !x.1) = true := plain_all (by simp [he, hes])
    rw [h1]
    have h2 : (backToKw cpos (keywordEach [] X.env)).all (fun x => x.1.isSome) = true := rfl
    rw [h2]
    simpa using hn
  unfold dW at h
  split at h
  · rename_i e'; cases h; subst e'
    exact se_bd PySem.F.slot_dict_get PySem.F.type_dict_get (mg_get hu) ho ha (notCall0_base hbase) hfew hl (plain_star he) (plain_any hes)
  split at h
  · rename_i e'; cases h; subst e'
    exact se_bd PySem.F.slot_dict_setdefault PySem.F.type_dict_setdefault (mg_setd hu) ho ha (notCall0_base hbase) hfew hl (plain_star he) (plain_any hes)
  split at h
  · rename_i e'; cases h; subst e'
    exact se_bd PySem.F.slot_dict_update PySem.F.type_dict_update (mg_upd hu) ho ha (notCall0_base hbase) hfew hl (plain_star he) (plain_any hes)
  · cases h
theorem cDc1_ok (GL : Glo P w K mg base k Γ) (C : CS P w K mg base k Γ c) (G : Good P w K mg base k Γ.N sc X) {kx vx tg iter : Expr} {ifs : List Expr} {wi : WI} {p : Pat} {tt : WT} {tk tv : WE} (h : cDc1 c Γ sc kx vx tg iter ifs scope = some (wi, p, tt, tk, tv)) :
    SI X tg iter wi ∧ BlkOk X.N X.env.scope scope (ownOf Γ.N scope) ∧ p.within ((ownOf Γ.N scope).map (·.2)) = true ∧
    (∀ (s : Shared) (H : Hp) (C : Addr) (cl : List (Str × Addr)) (fp : List Addr), PG (X.blk s H scope (compEnvC scope cl C X.env) fp) tg (hPat X.kw p)) ∧ (∀ (s : Shared) (H : Hp) (C : Addr) (cl : List (Str × Addr)) (fp : List Addr), STs (X.blk s H scope (compEnvC scope cl C X.env) fp) ifs tt) ∧
    (∀ (s : Shared) (H : Hp) (C : Addr) (cl : List (Str × Addr)) (fp : List Addr), SE (X.blk s H scope (compEnvC scope cl C X.env) fp) kx tk) ∧
    (∀ (s : Shared) (H : Hp) (C : Addr) (cl : List (Str × Addr)) (fp : List Addr), SE (X.blk s H scope (compEnvC scope cl C X.env) fp) vx tv) ∧ plainE iter = true := by
  unfold cDc1 at h
  split at h
  · rename_i hb
    rw [Option.bind_eq_some_iff] at h
    obtain ⟨wi', h1, h⟩ := h
    rw [Option.bind_eq_some_iff] at h
    obtain ⟨p', h2, h⟩ := h
    split at h
    · rename_i hw
      rw [Option.bind_eq_some_iff] at h
      obtain ⟨tt', h3, h⟩ := h
      rw [Option.bind_eq_some_iff] at h
      obtain ⟨tk', h4, h⟩ := h
      rw [Option.map_eq_some_iff] at h
      obtain ⟨tv', h5, h6⟩ := h
      cases h6
      exact ⟨C.i _ _ _ _ X h1 G, blk_ok G hb, hw, fun s H A cl fp => (cPat_ok GL (G.blk s H A cl fp) 8 h2).1, fun s H A cl fp => cIfs_ok C (G.blk s H A cl fp) h3, fun s H A cl fp => C.e _ _ _ _ h4 (G.blk s H A cl fp), fun s H A cl fp => C.e _ _ _ _ h5 (G.blk s H A cl fp), C.pi _ _ _ _ h1⟩
    · cases h
  · cases h
theorem cLc1_ok (GL : Glo P w K mg base k Γ) (C : CS P w K mg base k Γ c) (G : Good P w K mg base k Γ.N sc X) {elt tg iter : Expr} {ifs : List Expr} {wi : WI} {p : Pat} {tt : WT} {te : WE} (h : cLc1 c Γ sc elt tg iter ifs scope = some (wi, p, tt, te)) :
    SI X tg iter wi ∧ BlkOk X.N X.env.scope scope (ownOf Γ.N scope) ∧ p.within ((ownOf Γ.N scope).map (·.2)) = true ∧
    (∀ (s : Shared) (H : Hp) (C : Addr) (cl : List (Str × Addr)) (fp : List Addr), PG (X.blk s H scope (compEnvC scope cl C X.env) fp) tg (hPat X.kw p)) ∧ (∀ (s : Shared) (H : Hp) (C : Addr) (cl : List (Str × Addr)) (fp : List Addr), STs (X.blk s H scope (compEnvC scope cl C X.env) fp) ifs tt) ∧
    (∀ (s : Shared) (H : Hp) (C : Addr) (cl : List (Str × Addr)) (fp : List Addr), SE (X.blk s H scope (compEnvC scope cl C X.env) fp) elt te) ∧ plainE iter = true := by
  unfold cLc1 at h
  split at h
  · rename_i hb
    rw [Option.bind_eq_some_iff] at h
    obtain ⟨wi', h1, h⟩ := h
    rw [Option.bind_eq_some_iff] at h
    obtain ⟨p', h2, h⟩ := h
    split at h
    · rename_i hw
      rw [Option.bind_eq_some_iff] at h
      obtain ⟨tt', h3, h⟩ := h
      rw [Option.map_eq_some_iff] at h
      obtain ⟨te', h4, h5⟩ := h
      cases h5
      exact ⟨C.i _ _ _ _ X h1 G, blk_ok G hb, hw, fun s H A cl fp => (cPat_ok GL (G.blk s H A cl fp) 8 h2).1, fun s H A cl fp => cIfs_ok C (G.blk s H A cl fp) h3, fun s H A cl fp => C.e _ _ _ _ h4 (G.blk s H A cl fp), C.pi _ _ _ _ h1⟩
    · cases h
  · cases h
theorem cLc2_ok (GL : Glo P w K mg base k Γ) (C : CS P w K mg base k Γ c) (G : Good P w K mg base k Γ.N sc X) {elt tg iter tg1 iter1 : Expr} {ifs ifs1 : List Expr} {wi wi1 : WI} {p p1 : Pat} {tt tt1 : WT} {te : WE} (h : cLc2 c Γ sc elt tg iter ifs tg1 iter1 ifs1 scope = some (wi, p, tt, wi1, p1, tt1, te)) :
    SI X tg iter wi ∧ BlkOk X.N X.env.scope scope (ownOf Γ.N scope) ∧ (p.within ((ownOf Γ.N scope).map (·.2)) = true ∧ p1.within p1.ixs = true ∧ ∀ i ∈ p1.ixs, i ∈ (ownOf Γ.N scope).map (·.2)) ∧
    (∀ (s : Shared) (H : Hp) (C : Addr) (cl : List (Str × Addr)) (fp : List Addr), PG (X.blk s H scope (compEnvC scope cl C X.env) fp) tg (hPat X.kw p)) ∧ (∀ (s : Shared) (H : Hp) (C : Addr) (cl : List (Str × Addr)) (fp : List Addr), STs (X.blk s H scope (compEnvC scope cl C X.env) fp) ifs tt) ∧
    (∀ (s : Shared) (H : Hp) (C : Addr) (cl : List (Str × Addr)) (fp : List Addr), SI (X.blk s H scope (compEnvC scope cl C X.env) fp) tg1 iter1 wi1) ∧
    (∀ (s : Shared) (H : Hp) (C : Addr) (cl : List (Str × Addr)) (fp : List Addr), PG (X.blk s H scope (compEnvC scope cl C X.env) fp) tg1 (hPat X.kw p1)) ∧ (∀ (s : Shared) (H : Hp) (C : Addr) (cl : List (Str × Addr)) (fp : List Addr), STs (X.blk s H scope (compEnvC scope cl C X.env) fp) ifs1 tt1) ∧
    (∀ (s : Shared) (H : Hp) (C : Addr) (cl : List (Str × Addr)) (fp : List Addr), SE (X.blk s H scope (compEnvC scope cl C X.env) fp) elt te) ∧ plainE iter = true ∧ plainE iter1 = true := by
  unfold cLc2 at h
  split at h
  · rename_i hb
    rw [Option.bind_eq_some_iff] at h
    obtain ⟨wi', h1, h⟩ := h
    rw [Option.bind_eq_some_iff] at h
    obtain ⟨p', h2, h⟩ := h
    split at h
    · rename_i hw
      rw [Option.bind_eq_some_iff] at h
      obtain ⟨tt', h3, h⟩ := h
      rw [Option.bind_eq_some_iff] at h
      obtain ⟨wi1', h4, h⟩ := h
      rw [Option.bind_eq_some_iff] at h
      obtain ⟨p1', h5, h⟩ := h
      split at h
      · rename_i hw1
        rw [Option.bind_eq_some_iff] at h
        obtain ⟨tt1', h6, h⟩ := h
        rw [Option.map_eq_some_iff] at h
        obtain ⟨te', h7, h8⟩ := h
        cases h8
        rw [Bool.and_eq_true] at hw1
        refine ⟨C.i _ _ _ _ X h1 G, blk_ok G hb, ⟨hw, hw1.1, fun i hi => ?_⟩, fun s H A cl fp => (cPat_ok GL (G.blk s H A cl fp) 8 h2).1, fun s H A cl fp => cIfs_ok C (G.blk s H A cl fp) h3, fun s H A cl fp => C.i _ _ _ _ _ h4 (G.blk s H A cl fp),
          fun s H A cl fp => (cPat_ok GL (G.blk s H A cl fp) 8 h5).1, fun s H A cl fp => cIfs_ok C (G.blk s H A cl fp) h6, fun s H A cl fp => C.e _ _ _ _ h7 (G.blk s H A cl fp), C.pi _ _ _ _ h1, C.pi _ _ _ _ h4⟩
        have := List.all_eq_true.mp hw1.2 i hi
        simpa using this
      · cases h
    · cases h
  · cases h

theorem compE1_plain {e : Expr} {we : WE} (h : compE1 c Γ sc e = some we) : plainE e = true := by
  cases e <;> first
    | rfl
    | (simp [compE1] at h)
theorem compE_plain {e : Expr} {we : WE} (h : compE c Γ sc e = some we) : plainE e = true := by
  unfold compE at h
  split at h
  · rename_i q
    exact compX_plain q
  · exact compE1_plain h
theorem compE1_ok (GL : Glo P w K mg base k Γ) (C : CS P w K mg base k Γ c) (G : Good P w K mg base k Γ.N sc X) {e : Expr} {we : WE} (h : compE1 c Γ sc e = some we) : SE X e we := by
  unfold compE1 at h
  split at h
  · exact cName_ok GL G h
  · cases h; exact se_int
  · cases h; exact se_bl
  · cases h; exact se_non
  · split at h
    · rename_i hb; cases h; exact se_str hb
    · cases h
  · -- BinOp
    rw [Option.bind_eq_some_iff] at h
    obtain ⟨g, h1, h⟩ := h
    rw [Option.bind_eq_some_iff] at h
    obtain ⟨wa, h2, h⟩ := h
    rw [Option.map_eq_some_iff] at h
    obtain ⟨wb, h3, rfl⟩ := h
    exact se_op (binW_ok h1) (C.e _ _ _ X h2 G) (C.e _ _ _ X h3 G)
  · rw [Option.map_eq_some_iff] at h
    obtain ⟨wa, h1, rfl⟩ := h
    exact se_un ug_neg (C.e _ _ _ X h1 G)
  · rw [Option.map_eq_some_iff] at h
    obtain ⟨wa, h1, rfl⟩ := h
    exact se_not (C.e _ _ _ X h1 G)
  · exact cBoolE_and C G h
  · exact cBoolE_or C G h
  · rw [Option.bind_eq_some_iff] at h
    obtain ⟨wa, h2, h⟩ := h
    rw [Option.map_eq_some_iff] at h
    obtain ⟨wb, h3, rfl⟩ := h
    exact se_cmp (cmpW_ok G.u65 _) (C.e _ _ _ X h2 G) (C.e _ _ _ X h3 G) (plain_behind (C.pe _ _ _ h3))
  · rw [Option.bind_eq_some_iff] at h
    obtain ⟨wa, h2, h⟩ := h
    rw [Option.bind_eq_some_iff] at h
    obtain ⟨wb, h3, h⟩ := h
    rw [Option.map_eq_some_iff] at h
    obtain ⟨wd, h4, rfl⟩ := h
    exact se_chain (cmpW_ok G.u65 _) (cmpW_ok G.u65 _) (C.e _ _ _ X h2 G) (C.e _ _ _ X h3 G) (C.e _ _ _ X h4 G) (plain_behind (C.pe _ _ _ h4))
  · rw [Option.bind_eq_some_iff] at h
    obtain ⟨wt, h2, h⟩ := h
    rw [Option.bind_eq_some_iff] at h
    obtain ⟨wa, h3, h⟩ := h
    rw [Option.map_eq_some_iff] at h
    obtain ⟨wb, h4, rfl⟩ := h
    exact se_if (C.t _ _ _ X h2 G) (C.e _ _ _ X h3 G) (C.e _ _ _ X h4 G)
  · rw [Option.map_eq_some_iff] at h
    obtain ⟨a, h1, rfl⟩ := h
    exact se_tup (cItems_ok C G h1)
  · rw [Option.map_eq_some_iff] at h
    obtain ⟨a, h1, rfl⟩ := h
    exact se_lst (cItems_ok C G h1)
  · cases h; exact se_dnew
  · rw [Option.bind_eq_some_iff] at h
    obtain ⟨wa, h2, h⟩ := h
    rw [Option.map_eq_some_iff] at h
    obtain ⟨wb, h3, rfl⟩ := h
    exact se_gc (se_disp G.u65 (C.e _ _ _ X h2 G) (C.e _ _ _ X h3 G))
  · rw [Option.bind_eq_some_iff] at h
    obtain ⟨wa, h2, h⟩ := h
    rw [Option.bind_eq_some_iff] at h
    obtain ⟨wl, h3, h⟩ := h
    rw [Option.map_eq_some_iff] at h
    obtain ⟨wh, h4, rfl⟩ := h
    exact se_slice (C.e _ _ _ X h2 G) (cOpt_ok C G h3) (cOpt_ok C G h4)
  · rw [Option.bind_eq_some_iff] at h
    obtain ⟨wa, h2, h⟩ := h
    rw [Option.map_eq_some_iff] at h
    obtain ⟨wb, h3, rfl⟩ := h
    exact se_ix (ixgU G.u65) (C.e _ _ _ X h2 G) (C.e _ _ _ X h3 G) (plain_ix (C.pe _ _ _ h3))
  · -- Call name
    split at h
    · rename_i hd
      obtain ⟨d1, d2, d3⟩ := notDbg_ok hd
      split at h
      · rename_i hg
        rw [Option.bind_eq_some_iff] at h
        obtain ⟨a, h2, h⟩ := h
        obtain ⟨a1, a2⟩ := cArgs_ok C G h2
        simp only [List.all_cons, Bool.and_eq_true] at a2
        split at h
        · rename_i g hf
          cases h
          exact se_call (G.fe (GL.fe _ _ hf)) G.room (G.gl _ hg) a1 d1 (plain_star a2.1) (plain_any a2.2)
        · rw [Option.map_eq_some_iff] at h
          obtain ⟨g, h3, rfl⟩ := h
          exact bW_ok GL G h3 hg a1 a2.1 a2.2
      · cases h
    · cases h
  · -- method
    split at h
    · rename_i hc
      simp only [Bool.and_eq_true, Bool.not_eq_true'] at hc
      rw [Option.bind_eq_some_iff] at h
      obtain ⟨wo, h2, h⟩ := h
      rw [Option.bind_eq_some_iff] at h
      obtain ⟨a, h3, h⟩ := h
      obtain ⟨a1, a2⟩ := cArgs_ok C G h3
      simp only [List.all_cons, Bool.and_eq_true] at a2
      split at h
      · rename_i g h4
        cases h
        obtain ⟨T, g⟩ := g
        exact mW_ok h4 (C.e _ _ _ X h2 G) a1 hc.1.2 hc.1.1 hc.2 a2.1 a2.2
      · rw [Option.map_eq_some_iff] at h
        obtain ⟨g, h4, rfl⟩ := h
        exact dW_ok G.u65 h4 (C.e _ _ _ X h2 G) a1 hc.1.2 hc.1.1 hc.2 a2.1 a2.2
    · cases h
  · split at h
    · rename_i hc
      simp only [Bool.and_eq_true, Bool.not_eq_true'] at hc
      split at h
      · rename_i hm
        subst hm
        rw [Option.map_eq_some_iff] at h
        obtain ⟨wo, h2, rfl⟩ := h
        exact se_bm0 PySem.F.plainAttrs_list PySem.F.slot_list_pop PySem.F.type_list_pop mg_pop (C.e _ _ _ X h2 G) (notCall0_base hc.2) hc.1
      · cases h
    · cases h
  · split at h
    · rename_i ha
      subst ha
      rw [Option.map_eq_some_iff] at h
      obtain ⟨⟨wi, p, tt, te⟩, h2, rfl⟩ := h
      obtain ⟨b1, b2, b3, b4, b5, b6, b7⟩ := cLc1_ok GL C G h2
      exact se_gc (se_lc G.calm (by rw [G.N]; exact GL.nd) b1 b2 b3 b4 b5 b6 (plain_fold b7))
    · cases h
  · split at h
    · rename_i hab
      obtain ⟨rfl, rfl⟩ := hab
      rw [Option.map_eq_some_iff] at h
      obtain ⟨⟨wi, p, tt, wi1, p1, tt1, te⟩, h2, rfl⟩ := h
      obtain ⟨b1, b2, ⟨b3, b3', b3''⟩, b4, b5, b6, b7, b8, b9, b10, b11⟩ := cLc2_ok GL C G h2
      exact se_gc (se_lc2 G.calm (by rw [G.N]; exact GL.nd) b1 b2 b3'' b3 b3' b4 b5 b6 b7 b8 b9 (plain_fold b10) (fun env => plain_fold b11))
    · cases h
  · split at h
    · rename_i ha
      subst ha
      rw [Option.map_eq_some_iff] at h
      obtain ⟨⟨wi, p, tt, tk, tv⟩, h2, rfl⟩ := h
      obtain ⟨b1, b2, b3, b4, b5, b6, b7, b8⟩ := cDc1_ok GL C G h2
      exact se_gc (se_dc G.calm (by rw [G.N]; exact GL.nd) b1 b2 b3 b4 b5 b6 b7 (plain_fold b8))
    · cases h
  · cases h
theorem compE_ok (GL : Glo P w K mg base k Γ) (C : CS P w K mg base k Γ c) (G : Good P w K mg base k Γ.N sc X) {e : Expr} {we : WE} (h : compE c Γ sc e = some we) : SE X e we := by
  unfold compE at h
  split at h
  · rename_i q
    cases h
    exact compX_ok GL C G q
  · exact compE1_ok GL C G h
theorem compT_ok (GL : Glo P w K mg base k Γ) (C : CS P w K mg base k Γ c) (G : Good P w K mg base k Γ.N sc X) {e : Expr} {wt : WT} (h : compT c sc e = some wt) : ST X e wt := by
  unfold compT at h
  split at h
  · rw [Option.map_eq_some_iff] at h
    obtain ⟨wa, h1, rfl⟩ := h
    exact st_not (C.t _ _ _ X h1 G)
  · exact (cBoolT_and C G h).pt
  · exact (cBoolT_or C G h).pt
  · rw [Option.bind_eq_some_iff] at h
    obtain ⟨wa, h2, h⟩ := h
    rw [Option.map_eq_some_iff] at h
    obtain ⟨wb, h3, rfl⟩ := h
    exact st_cmp (cmpW_ok G.u65 _) (C.e _ _ _ X h2 G) (C.e _ _ _ X h3 G) (plain_behind (C.pe _ _ _ h3))
  · rw [Option.bind_eq_some_iff] at h
    obtain ⟨wa, h2, h⟩ := h
    rw [Option.bind_eq_some_iff] at h
    obtain ⟨wb, h3, h⟩ := h
    rw [Option.map_eq_some_iff] at h
    obtain ⟨wd, h4, rfl⟩ := h
    exact st_chain (cmpW_ok G.u65 _) (cmpW_ok G.u65 _) (C.e _ _ _ X h2 G) (C.e _ _ _ X h3 G) (C.e _ _ _ X h4 G) (plain_behind (C.pe _ _ _ h4))
  · split at h
    · rename_i hv
      rw [Option.map_eq_some_iff] at h
      obtain ⟨wa, h1, rfl⟩ := h
      exact st_tru (C.e _ _ _ X h1 G) (valT_ok hv)
    · cases h
theorem compI1_ok (GL : Glo P w K mg base k Γ) (C : CS P w K mg base k Γ c) (G : Good P w K mg base k Γ.N sc X) {tg e : Expr} {wi : WI} (h : compI1 c sc tg e = some wi) : SI X tg e wi := by
  have m : ∀ y ∈ bNames, X.mg y = none := fun y hy => by rw [G.mg]; exact GL.bl y hy
  unfold compI1 at h
  split at h
  · split at h
    · rename_i hx
      obtain ⟨hg, rfl⟩ := hx
      split at h
      · rw [Option.map_eq_some_iff] at h
        obtain ⟨a, h1, rfl⟩ := h
        obtain ⟨a1, a2⟩ := cArgs_ok C G h1
        simp only [List.all_cons, Bool.and_eq_true] at a2
        exact si_rng1 (G.gl _ hg) (m _ (by decide)) a1 (plain_star a2.1)
      · rw [Option.map_eq_some_iff] at h
        obtain ⟨a, h1, rfl⟩ := h
        obtain ⟨a1, a2⟩ := cArgs_ok C G h1
        simp only [List.all_cons, Bool.and_eq_true] at a2
        refine si_rng2 (G.gl _ hg) (m _ (by decide)) a1 ?_ (plain_star a2.2.1)
        rw [plain_star a2.1, plain_star a2.2.1]; rfl
      · cases h
    · split at h
      · rename_i hx
        obtain ⟨hg, rfl⟩ := hx
        split at h
        · rw [Option.map_eq_some_iff] at h
          obtain ⟨a, h1, rfl⟩ := h
          obtain ⟨a1, a2⟩ := cArgs_ok C G h1
          simp only [List.all_cons, Bool.and_eq_true] at a2
          exact si_zip (G.gl _ hg) (m _ (by decide)) a1 (plain_star a2.1) (plain_any (by simp [a2.2.1]))
        · cases h
      · rw [Option.map_eq_some_iff] at h
        obtain ⟨we, h1, rfl⟩ := h
        exact si_any (C.e _ _ _ X h1 G)
  · rw [Option.map_eq_some_iff] at h
    obtain ⟨we, h1, rfl⟩ := h
    exact si_any (C.e _ _ _ X h1 G)
theorem compI1_plain (C : CS P w K mg base k Γ c) {tg e : Expr} {wi : WI} (h : compI1 c sc tg e = some wi) : plainE e = true := by
  unfold compI1 at h
  split at h
  · rfl
  · rw [Option.map_eq_some_iff] at h
    obtain ⟨we, h1, rfl⟩ := h
    exact C.pe _ _ _ h1
theorem compI_ok (GL : Glo P w K mg base k Γ) (C : CS P w K mg base k Γ c) (G : Good P w K mg base k Γ.N sc X) {tg e : Expr} {wi : WI} (h : compI c Γ sc tg e = some wi) : SI X tg e wi := by
  unfold compI at h
  split at h
  · rename_i q
    cases h
    exact compIX_ok GL C G q
  · exact compI1_ok GL C G h
theorem compI_plain (C : CS P w K mg base k Γ c) {tg e : Expr} {wi : WI} (h : compI c Γ sc tg e = some wi) : plainE e = true := by
  unfold compI at h
  split at h
  · rename_i q
    exact compIX_plain q
  · exact compI1_plain C h
end
end MP

namespace MP
open PySem PySem.Spec PyProof.Rows L2

/-! ### statements -/
def wgPat (p : Pat) : WG := fun d fr h P => match bindP p d fr with
  | some fr' => P fr' h
  | none => False
mutual
theorem hPat_run0 {K ρ n H} : ∀ (p : Pat) (d : D) (v : V) (fr fr' : Fr) (σ : L2.St) (Q : L2.St → Hp → Prop), FrR K ρ n H fr σ → Rp K H ρ n d v → bindP p d fr = some fr' →
    (∀ σ', FrR K ρ n H fr' σ' → Q σ' H) → hPat K p v σ H Q
  | .nm i, d, v, fr, fr', σ, Q, F, r, e, q => by
    simp only [bindP, Option.some.injEq] at e
    subst e
    unfold hPat
    exact q _ (F.set r)
  | .tp ps, d, v, fr, fr', σ, Q, F, r, e, q => by
    cases d with
    | tup ds =>
      simp only [bindP] at e
      obtain ⟨a, xs, rfl, sq, l⟩ := rp_tup r
      unfold hPat
      have hl : ds.length = ps.len := bindPs_len ps ds fr fr' e
      exact ⟨a, xs, rfl, sq, by rw [← l.length]; exact hl, hPats_run0 ps ds xs fr fr' σ Q F l e q⟩
    | _ => simp [bindP] at e
theorem hPats_run0 {K ρ n H} : ∀ (ps : Pats) (ds : List D) (xs : List V) (fr fr' : Fr) (σ : L2.St) (Q : L2.St → Hp → Prop), FrR K ρ n H fr σ → RpL K H ρ n ds xs → bindPs ps ds fr = some fr' →
    (∀ σ', FrR K ρ n H fr' σ' → Q σ' H) → hPats K ps xs σ H Q
  | .nil, ds, xs, fr, fr', σ, Q, F, r, e, q => by
    cases ds with
    | nil =>
      simp only [bindPs, Option.some.injEq] at e
      subst e
      unfold RpL at r
      unfold hPats
      exact ⟨r, q σ F⟩
    | cons d ds => simp [bindPs] at e
  | .cons p ps, ds, xs, fr, fr', σ, Q, F, r, e, q => by
    cases ds with
    | nil => simp [bindPs] at e
    | cons d ds =>
      simp only [bindPs] at e
      cases e1 : bindP p d fr with
      | none => simp [e1] at e
      | some fr1 =>
        simp only [e1, Option.bind_some] at e
        unfold RpL at r
        obtain ⟨x, r', rfl, r1, r2⟩ := r
        unfold hPats
        refine ⟨x, r', rfl, hPat_run0 p d x fr fr1 σ _ F r1 e1 fun σ1 F1 => ?_⟩
        exact hPats_run0 ps ds r' fr1 fr' σ1 Q F1 r2 e fun σ2 F2 => q σ2 F2
end
theorem sg_pat {X : Cx} {tg : Expr} {p : Pat} (h : PG X tg (hPat X.kw p)) : SG X tg (wgPat p) := by
  refine PG.imp h fun v σ H Q ⟨ρ, fr, h, d, P, S, F, r, w, c⟩ => ?_
  unfold wgPat at w
  split at w
  · rename_i fr' e
    exact hPat_run0 p d v fr fr' σ Q F r e fun σ' F' => c ρ h H fr' σ' .refl S F' w
  · exact w.elim
def wsPar3 (i j l : Nat) (a : WA) : WS := fun M fr h => a fr h fun ds h1 => match ds with
  | [x, y, z] => M.nx (((fr.set i (some x)).set j (some y)).set l (some z)) h1
  | _ => False
/-- which names are stored from the right, without a tuple -/
def swQ (sc : Scope) (ts vs : List Expr) : Option (Option (List Str)) :=
  if (!(ts.length == 2 || ts.length == 3) || vs.length != ts.length) = true then some none
  else if (vs.any fun | .Starred .. => true | _ => false) = true then some none
  else
    let line := (ts.head?.map (·.pos.line)).getD 0
    let names := ts.filterMap fun
      | .Name id pos => if (sc.names.lookup id == some .local && pos.line == line) = true then some id else none
      | _ => none
    if (names.length != ts.length || names.eraseDups.length != names.length) = true then some none
    else if vs.all (foldedForSure 8) = true then some none
    else if vs.all (constantsAlone 8) = true then none
    else some (some names)
theorem swQ_ok {sc : Scope} {env : Env} (hs : env.scope = sc) (hk : sc.kind = .function) {ts vs : List Expr} {r : Option (List Str)} {k1 k2 : Nat} {p1 p2 : Pos} (h : swQ sc ts vs = some r) : swappedStores [.Tuple ts k1 p1] (.Tuple vs k2 p2) env = pure r := by
  subst hs
  have hb : (env.blockKind != .function) = false := by
    unfold Env.blockKind
    rw [hk]; rfl
  unfold swQ at h
  unfold swappedStores
  simp only [hb, Bool.or_false]
  split at h
  · rename_i c1
    cases h
    rw [if_pos c1]
  · rename_i c1
    rw [if_neg c1]
    split at h
    · rename_i c2
      cases h
      exact if_pos c2
    · rename_i c2
      refine (if_neg c2).trans ?_
      dsimp only at h
      split at h
      · rename_i c3
        cases h
        exact if_pos c3
      · rename_i c3
        refine (if_neg c3).trans ?_
        split at h
        · rename_i c4
          cases h
          exact if_pos c4
        · rename_i c4
          refine (if_neg c4).trans ?_
          split at h
          · cases h
          · rename_i c5
            cases h
            exact if_neg c5

theorem swO_ok {tg e : Expr} {env : Env} (h : ∀ ts k p vs k2 p2, ¬ ((tg = .Tuple ts k p ∨ tg = .List ts p) ∧ e = .Tuple vs k2 p2)) : swappedStores [tg] e env = pure none := by
  unfold swappedStores
  split
  · rename_i heq
    split at heq
    · rename_i e1
      have e1' := List.cons.inj e1
      exact (h _ _ _ _ _ _ ⟨.inl e1'.1, rfl⟩).elim
    · rename_i e1
      have e1' := List.cons.inj e1
      exact (h _ 0 _ _ _ _ ⟨.inr e1'.1, rfl⟩).elim
    · cases heq
  · rfl
def cSs (c : Comp) (sc : Scope) : List Stmt → Option WS
  | [] => some wsNil
  | s :: r => (c.s sc s).bind fun w => (cSs c sc r).map fun u => wsSeq w u
def locB (sc : Scope) (x : Str) : Bool := match sc.names.lookup x with
  | some .local => true
  | _ => false
theorem locB_ok {sc : Scope} {x : Str} (h : locB sc x = true) : sc.names.lookup x = some .local := by
  unfold locB at h
  split at h
  · assumption
  · cases h
/-- lists and dicts of comprehensions, to be written to -/
def compC (c : Comp) (Γ : CEnv) (sc : Scope) : Expr → Option WE
  | .ListComp elt [⟨tg, iter, ifs, a⟩] scope _ => if a = 0 then (cLc1 c Γ sc elt tg iter ifs scope).map fun q => wLcM q.1 q.2.1 q.2.2.1 q.2.2.2 ((ownOf Γ.N scope).map (·.2)) else none
  | .ListComp elt [⟨tg, iter, ifs, a⟩, ⟨tg1, iter1, ifs1, b⟩] scope _ => if a = 0 ∧ b = 0 then (cLc2 c Γ sc elt tg iter ifs tg1 iter1 ifs1 scope).map fun q =>
      wLc2M q.1 q.2.1 q.2.2.1 q.2.2.2.1 q.2.2.2.2.1 q.2.2.2.2.2.1 q.2.2.2.2.2.2 ((ownOf Γ.N scope).map (·.2)) q.2.2.2.2.1.ixs else none
  | .DictComp kx vx [⟨tg, iter, ifs, a⟩] scope _ => if a = 0 then (cDc1 c Γ sc kx vx tg iter ifs scope).map fun q => wDcM q.1 q.2.1 q.2.2.1 q.2.2.2.1 q.2.2.2.2 ((ownOf Γ.N scope).map (·.2)) else none
  | _ => none
/-- lists and dicts to be written to -/
def compM (c : Comp) (Γ : CEnv) (sc : Scope) : Expr → Option WE
  | .List es _ => (cItems c sc es).map fun a => wLstM a
  | .Dict [] [] _ => some wDnewM
  | .Dict [some a] [b] _ => (c.e sc a).bind fun wa => (c.e sc b).map fun wb => wDisp (nestE a) wa wb
  | .Call (.Name x p) (e :: es) [] pos => if (x == ("list" : Str) && (sc.names.lookup x == some .globalImplicit) && (Γ.fT.lookup x).isNone) = true then (cArgs c sc (e :: es)).map fun a => wCB bLstUM a else c.e sc (.Call (.Name x p) (e :: es) [] pos)
  | e => if isComp e = true then compC c Γ sc e else c.e sc e
/-- what a target is given -/
def cFor (c : Comp) (Γ : CEnv) (sc : Scope) (tg e : Expr) : Option WE := match tg with
  | .Name y _ => if y ∈ Γ.M then compM c Γ sc e else c.e sc e
  | _ => c.e sc e
def cItemsM (c : Comp) (Γ : CEnv) (sc : Scope) : List Expr → List Expr → Option WA
  | t :: ts, e :: es => (cFor c Γ sc t e).bind fun w => (cItemsM c Γ sc ts es).map fun a => waCons w a
  | [], [] => some waNil
  | _, _ => none
/-- stores at one target -/
def cAsg (c : Comp) (Γ : CEnv) (sc : Scope) (tg e : Expr) : Option WS :=
  if isComp e = true then none else (cPat Γ sc 8 tg).bind fun p => (cFor c Γ sc tg e).map fun w => wsAsg (wgPat p) w
def cTup (c : Comp) (Γ : CEnv) (sc : Scope) (ts : List Expr) (tg : Expr) (vs : List Expr) : Option WS :=
  (cPat Γ sc 8 tg).bind fun p => (cItemsM c Γ sc ts vs).map fun a => wsAsg (wgPat p) (wTup a)
def cPar (c : Comp) (Γ : CEnv) (sc : Scope) (ts vs : List Expr) (names : List Str) : Option WS := match ts, vs, names with
  | [.Name x px, .Name y py], [a, b], [x', y'] => if (x = x' ∧ y = y') ∧ locB sc x = true ∧ locB sc y = true then
      (ixOf Γ.N x).bind fun i => (ixOf Γ.N y).bind fun j => if i ≠ j then (cItemsM c Γ sc [.Name x px, .Name y py] [a, b]).map fun w => wsPar i j w else none else none
  | [.Name x px, .Name y py, .Name z pz], [a, b, d], [x', y', z'] => if (x = x' ∧ y = y' ∧ z = z') ∧ locB sc x = true ∧ locB sc y = true ∧ locB sc z = true then
      (ixOf Γ.N x).bind fun i => (ixOf Γ.N y).bind fun j => (ixOf Γ.N z).bind fun l => if i ≠ j ∧ i ≠ l ∧ j ≠ l then (cItemsM c Γ sc [.Name x px, .Name y py, .Name z pz] [a, b, d]).map fun w => wsPar3 i j l w else none else none
  | _, _, _ => none
def ownN (scope : Scope) (y : Str) : Bool := scope.names.any fun (n, k) => n == y && (k == .local || k == .cell)
def swB (sc : Scope) (y : Str) (scope : Scope) (py lpos : Pos) : Bool := locB sc y && (py.line == lpos.line) && !(ownN scope y)
def celB (sc : Scope) (x : Str) : Bool := match sc.names.lookup x with
  | some .cell => true
  | _ => false
/-- is a comprehension's list stored from within? -/
def swX (sc : Scope) (y : Str) (py : Pos) : Expr → Bool
  | .ListComp _ _ scope lpos => swB sc y scope py lpos || celB sc y
  | .DictComp _ _ _ scope lpos => swB sc y scope py lpos || celB sc y
  | _ => false
def mOr (Γ : CEnv) (y : Str) (w : WE) : WE := if y ∈ Γ.M then w else wGc w
def compS (c : Comp) (Γ : CEnv) (sc : Scope) : Stmt → Option WS
  | .Return (some e) _ => (c.e sc e).map fun w => wsRet w
  | .Return none _ => some wsRetN
  | .Expr e _ => if isComp e = true then none else (c.e sc e).map fun w => wsExpr w
  | .If t a b _ => (c.t sc t).bind fun wt => (cSs c sc a).bind fun wa => (cSs c sc b).map fun wb => wsIf wt wa wb
  | .While t b [] _ => (c.t sc t).bind fun wt => (cSs c sc b).map fun wb => wsWhile wt wb
  | .For tg it b [] _ => (c.i sc tg it).bind fun wi => (cPat Γ sc 8 tg).bind fun p => (cSs c sc b).map fun wb => wsFor wi (wgPat p) wb
  | .Pass _ => some wsPass
  | .Break _ => some wsBreak
  | .Continue _ => some wsCont
  | .AugAssign (.Name x _) .Add e _ => if sc.names.lookup x = some .local ∨ sc.names.lookup x = some .cell then (ixOf Γ.N x).bind fun i => (c.e sc e).map fun w => wsAug i gIadd w else none
  | .Raise _ _ _ => some wsNever
  | .Assign [.Tuple ts k pt] (.Tuple vs k2 pt2) pos => (match swQ sc ts vs with
      | some none => cTup c Γ sc ts (.Tuple ts k pt) vs
      | some (some names) => cPar c Γ sc ts vs names
      | none => none)
  | .Assign [.Tuple ts k pt] e _ => (match e with
      | .Tuple _ _ _ => none
      | e => cAsg c Γ sc (.Tuple ts k pt) e)
  | .Assign [.Name y py] e _ => if isComp e = true then (if swX sc y py e = true then (ixOf Γ.N y).bind fun i => (compC c Γ sc e).map fun w => wsAsg (wgPat (.nm i)) (mOr Γ y w) else none) else cAsg c Γ sc (.Name y py) e
  | .Assign [.Attribute o f _] e _ => if (!Γ.aN.isEmpty && !isComp e) = true then (ixOf Γ.aN f).bind fun i => (c.e sc o).bind fun wo => (c.e sc e).map fun w => wsFld Γ.cN Γ.aN i w wo else none
  | .Assign [.Subscript o i _] e _ => if isComp e = true then none else (c.e sc o).bind fun wo => (c.e sc i).bind fun wi => (c.e sc e).map fun w => wsAsg (wgSub wo wi) w
  | _ => none
def compSt (c : Comp) (Γ : CEnv) (sc : Scope) (s : Stmt) : Option WS := match compS c Γ sc s with
  | some w => some w
  | none => some wsNever
def comp (Γ : CEnv) : Nat → Comp
  | 0 => ⟨fun _ _ => none, fun _ _ => none, fun _ _ _ => none, fun _ _ => none⟩
  | n + 1 => ⟨fun sc e => compE (comp Γ n) Γ sc e, fun sc e => compT (comp Γ n) sc e, fun sc tg e => compI (comp Γ n) Γ sc tg e, fun sc s => compSt (comp Γ n) Γ sc s⟩
section
variable {P : Program} {w : World} {K : PySem.W.Frag} {mg : Str → Option Value} {base : Heap} {k : Nat} {Γ : CEnv} {c : Comp} {sc scope : Scope} {X : Cx}
theorem cSs_ok (C : CS P w K mg base k Γ c) (G : Good P w K mg base k Γ.N sc X) (hs : X.env.scope = sc) (hk : sc.kind = .function) : ∀ {ss : List Stmt} {ws : WS}, cSs c sc ss = some ws → SSs X ss ws
  | [], _, h => by cases h; exact ss_nil
  | s :: r, ws, h => by
    unfold cSs at h
    rw [Option.bind_eq_some_iff] at h
    obtain ⟨w1, h1, h⟩ := h
    rw [Option.map_eq_some_iff] at h
    obtain ⟨w2, h2, rfl⟩ := h
    exact ss_cons (C.s _ _ _ X h1 G hs hk) (cSs_ok C G hs hk h2)
theorem cPat_asg {tg : Expr} {n : Nat} {p : Pat} (h : cPat Γ sc n tg = some p) {env : Env} : (assignEach [tg] env).map (·.2) = [assign tg env] := by
  cases n with
  | zero => simp [cPat] at h
  | succ n =>
    cases tg <;> first
      | rfl
      | (simp [cPat] at h)
theorem compC_ok (GL : Glo P w K mg base k Γ) (C : CS P w K mg base k Γ c) (G : Good P w K mg base k Γ.N sc X) {e : Expr} {we : WE} (h : compC c Γ sc e = some we) : SE X e we := by
  unfold compC at h
  split at h
  · split at h
    · rename_i ha
      subst ha
      rw [Option.map_eq_some_iff] at h
      obtain ⟨⟨wi, p, tt, te⟩, h2, rfl⟩ := h
      obtain ⟨b1, b2, b3, b4, b5, b6, b7⟩ := cLc1_ok GL C G h2
      exact se_lc G.calm (by rw [G.N]; exact GL.nd) b1 b2 b3 b4 b5 b6 (plain_fold b7)
    · cases h
  · split at h
    · rename_i hab
      obtain ⟨rfl, rfl⟩ := hab
      rw [Option.map_eq_some_iff] at h
      obtain ⟨⟨wi, p, tt, wi1, p1, tt1, te⟩, h2, rfl⟩ := h
      obtain ⟨b1, b2, ⟨b3, b3', b3''⟩, b4, b5, b6, b7, b8, b9, b10, b11⟩ := cLc2_ok GL C G h2
      exact se_lc2 G.calm (by rw [G.N]; exact GL.nd) b1 b2 b3'' b3 b3' b4 b5 b6 b7 b8 b9 (plain_fold b10) (fun env => plain_fold b11)
    · cases h
  · split at h
    · rename_i ha
      subst ha
      rw [Option.map_eq_some_iff] at h
      obtain ⟨⟨wi, p, tt, tk, tv⟩, h2, rfl⟩ := h
      obtain ⟨b1, b2, b3, b4, b5, b6, b7, b8⟩ := cDc1_ok GL C G h2
      exact se_dc G.calm (by rw [G.N]; exact GL.nd) b1 b2 b3 b4 b5 b6 b7 (plain_fold b8)
    · cases h
  · cases h
theorem compC_comp {e : Expr} {we : WE} (h : compC c Γ sc e = some we) : plainE e = true := by
  cases e <;> first
    | rfl
    | (simp [compC] at h)
theorem compM_ok (GL : Glo P w K mg base k Γ) (C : CS P w K mg base k Γ c) (G : Good P w K mg base k Γ.N sc X) {e : Expr} {we : WE} (h : compM c Γ sc e = some we) : SE X e we ∧ plainE e = true := by
  have m : ∀ y ∈ bNames, X.mg y = none := fun y hy => by rw [G.mg]; exact GL.bl y hy
  unfold compM at h
  split at h
  · rw [Option.map_eq_some_iff] at h
    obtain ⟨a, h1, rfl⟩ := h
    exact ⟨se_lstM (cItems_ok C G h1), rfl⟩
  · cases h; exact ⟨se_dnewM, rfl⟩
  · rw [Option.bind_eq_some_iff] at h
    obtain ⟨wa, h2, h⟩ := h
    rw [Option.map_eq_some_iff] at h
    obtain ⟨wb, h3, rfl⟩ := h
    exact ⟨se_disp G.u65 (C.e _ _ _ X h2 G) (C.e _ _ _ X h3 G), rfl⟩
  · split at h
    · rename_i hx
      simp only [Bool.and_eq_true] at hx
      obtain ⟨⟨hx1, hx2⟩, hx3⟩ := hx
      have hx1 := eq_of_beq hx1
      subst hx1
      have hg := eq_of_beq hx2
      rw [Option.map_eq_some_iff] at h
      obtain ⟨a, h1, rfl⟩ := h
      obtain ⟨a1, a2⟩ := cArgs_ok C G h1
      simp only [List.all_cons, Bool.and_eq_true] at a2
      exact ⟨se_callTy (cg_lstUM G.calm) (G.gl _ hg) (m _ (by decide)) (by decide +kernel) a1 (by decide) (by decide) (plain_star a2.1) (plain_any a2.2), rfl⟩
    · exact ⟨C.e _ _ _ X h G, C.pe _ _ _ h⟩
  · split at h
    · exact ⟨compC_ok GL C G h, compC_comp h⟩
    · exact ⟨C.e _ _ _ X h G, C.pe _ _ _ h⟩
theorem cFor_ok (GL : Glo P w K mg base k Γ) (C : CS P w K mg base k Γ c) (G : Good P w K mg base k Γ.N sc X) {tg e : Expr} {we : WE} (h : cFor c Γ sc tg e = some we) : SE X e we ∧ plainE e = true := by
  unfold cFor at h
  split at h
  · split at h
    · exact compM_ok GL C G h
    · exact ⟨C.e _ _ _ X h G, C.pe _ _ _ h⟩
  · exact ⟨C.e _ _ _ X h G, C.pe _ _ _ h⟩
theorem cItemsM_ok (GL : Glo P w K mg base k Γ) (C : CS P w K mg base k Γ c) (G : Good P w K mg base k Γ.N sc X) : ∀ {ts es : List Expr} {a : WA}, cItemsM c Γ sc ts es = some a → SA X es a
  | [], [], a, h => by cases h; exact sa_nil
  | [], _ :: _, _, h => by cases h
  | _ :: _, [], _, h => by cases h
  | t :: ts, e :: es, a, h => by
    unfold cItemsM at h
    rw [Option.bind_eq_some_iff] at h
    obtain ⟨we, h1, h2⟩ := h
    rw [Option.map_eq_some_iff] at h2
    obtain ⟨a', h3, rfl⟩ := h2
    obtain ⟨q1, q2⟩ := cFor_ok GL C G h1
    exact sa_cons q1 (cItemsM_ok GL C G h3) (plain_star q2)
theorem cAsg_ok (GL : Glo P w K mg base k Γ) (C : CS P w K mg base k Γ c) (G : Good P w K mg base k Γ.N sc X) {tg e : Expr} {ws : WS} {pos : Pos} (h : cAsg c Γ sc tg e = some ws) (hw : swappedStores [tg] e X.env = pure none) : SS X (.Assign [tg] e pos) ws := by
  unfold cAsg at h
  split at h
  · cases h
  · rename_i hc
    rw [Option.bind_eq_some_iff] at h
    obtain ⟨p, h1, h⟩ := h
    rw [Option.map_eq_some_iff] at h
    obtain ⟨we, h2, rfl⟩ := h
    have hc' : isComp e = false := by
      cases q : isComp e with
      | true => exact (hc q).elim
      | false => rfl
    exact ss_asg (cFor_ok GL C G h2).1 (sg_pat (cPat_ok GL G 8 h1).1) (notComp_swaps hc') hw (cPat_asg h1)
theorem cTup_ok (GL : Glo P w K mg base k Γ) (C : CS P w K mg base k Γ c) (G : Good P w K mg base k Γ.N sc X) {ts vs : List Expr} {kt k2 : Nat} {pt pt2 : Pos} {ws : WS} {pos : Pos} (h : cTup c Γ sc ts (.Tuple ts kt pt) vs = some ws) (hw : swappedStores [.Tuple ts kt pt] (.Tuple vs k2 pt2) X.env = pure none) : SS X (.Assign [.Tuple ts kt pt] (.Tuple vs k2 pt2) pos) ws := by
  unfold cTup at h
  rw [Option.bind_eq_some_iff] at h
  obtain ⟨p, h1, h⟩ := h
  rw [Option.map_eq_some_iff] at h
  obtain ⟨a, h2, rfl⟩ := h
  exact ss_asg (se_tup (cItemsM_ok GL C G h2)) (sg_pat (cPat_ok GL G 8 h1).1) rfl hw (cPat_asg h1)
theorem ss_par3 {i j l : Nat} {x y z : Str} {a b d : Expr} {ta : WA} {px py pz pt pos : Pos} {kt k2 pt2} (hc : X.calm = true) (hN : X.N.Nodup) (hi : X.N[i]? = some x) (hj : X.N[j]? = some y) (hl : X.N[l]? = some z) (hij : i ≠ j) (hil : i ≠ l) (hjl : j ≠ l)
    (hx : X.env.scope.names.lookup x = some .local) (hy : X.env.scope.names.lookup y = some .local) (hz : X.env.scope.names.lookup z = some .local) (ha : SA X [a, b, d] ta)
    (hw : swappedStores [.Tuple [.Name x px, .Name y py, .Name z pz] kt pt] (.Tuple [a, b, d] k2 pt2) X.env = pure (some [x, y, z]))
    (hs : swapsWithSole [.Tuple [.Name x px, .Name y py, .Name z pz] kt pt] (.Tuple [a, b, d] k2 pt2) pos.line X.env = pure false) :
    SS X (.Assign [.Tuple [.Name x px, .Name y py, .Name z pz] kt pt] (.Tuple [a, b, d] k2 pt2) pos) (wsPar3 i j l ta) := by
  refine PS.imp (ps_par3 hc hN hi hj hl hij hil hjl hx hy hz ha hw hs) fun D σ H ⟨ρ, fr, h, M, S, F, w, c1, c2, c3, c4⟩ => ⟨ρ, fr, h, _, S, F, w, fun ρ1 h1 H1 ds xs e1 S1 r1 w1 => ?_⟩
  split at w1
  · unfold RpL at r1
    obtain ⟨u, r', rfl, r2, r3⟩ := r1
    obtain ⟨v, t, rfl, r4, r5⟩ := rpl2 r3
    exact ⟨u, v, t, rfl, c1 ρ1 h1 H1 _ _ e1 S1 ((((F.ext e1).set r2).set r4).set r5) w1⟩
  · exact w1.elim
theorem cPar_ok (GL : Glo P w K mg base k Γ) (C : CS P w K mg base k Γ c) (G : Good P w K mg base k Γ.N sc X) {ts vs : List Expr} {names : List Str} {ws : WS} {kt k2 : Nat} {pt pt2 pos : Pos} (h : cPar c Γ sc ts vs names = some ws)
    (hw : swappedStores [.Tuple ts kt pt] (.Tuple vs k2 pt2) X.env = pure (some names)) : SS X (.Assign [.Tuple ts kt pt] (.Tuple vs k2 pt2) pos) ws := by
  have nd : X.N.Nodup := by rw [G.N]; exact GL.nd
  unfold cPar at h
  split at h
  · split at h
    · rename_i q
      obtain ⟨⟨rfl, rfl⟩, q1, q2⟩ := q
      rw [Option.bind_eq_some_iff] at h
      obtain ⟨i, h1, h⟩ := h
      rw [Option.bind_eq_some_iff] at h
      obtain ⟨j, h2, h⟩ := h
      split at h
      · rename_i hij
        rw [Option.map_eq_some_iff] at h
        obtain ⟨wa, h3, rfl⟩ := h
        exact ss_par G.calm nd (by rw [G.N]; exact ixOf_get h1) (by rw [G.N]; exact ixOf_get h2) hij (G.loc _ (locB_ok q1)) (G.loc _ (locB_ok q2)) (cItemsM_ok GL C G h3) hw rfl
      · cases h
    · cases h
  · split at h
    · rename_i q
      obtain ⟨⟨rfl, rfl, rfl⟩, q1, q2, q3⟩ := q
      rw [Option.bind_eq_some_iff] at h
      obtain ⟨i, h1, h⟩ := h
      rw [Option.bind_eq_some_iff] at h
      obtain ⟨j, h2, h⟩ := h
      rw [Option.bind_eq_some_iff] at h
      obtain ⟨l, h3, h⟩ := h
      split at h
      · rename_i hij
        rw [Option.map_eq_some_iff] at h
        obtain ⟨wa, h4, rfl⟩ := h
        exact ss_par3 G.calm nd (by rw [G.N]; exact ixOf_get h1) (by rw [G.N]; exact ixOf_get h2) (by rw [G.N]; exact ixOf_get h3) hij.1 hij.2.1 hij.2.2 (G.loc _ (locB_ok q1)) (G.loc _ (locB_ok q2)) (G.loc _ (locB_ok q3)) (cItemsM_ok GL C G h4) hw rfl
      · cases h
    · cases h
  · cases h
theorem sw_ok {e : Expr} {y : Str} {py : Pos} {l : Nat} (hk : X.env.scope.kind = .function) {scope : Scope} {lpos : Pos} (he : (∃ elt gs, e = .ListComp elt gs scope lpos) ∨ ∃ kx vx gs, e = .DictComp kx vx gs scope lpos) :
    (swB X.env.scope y scope py lpos = true → swapsWith e (some (.Name y py)) l X.env = pure true) ∧ (celB X.env.scope y = true → swapsWith e (some (.Name y py)) l X.env = pure false) := by
  have hb : X.env.blockKind = .function := by unfold Env.blockKind; rw [hk]; rfl
  refine ⟨fun h => ?_, fun h => ?_⟩
  · unfold swB at h
    simp only [Bool.and_eq_true, Bool.not_eq_true'] at h
    have ky : X.env.kindOf y = some .local := locB_ok h.1.1
    have ho := h.2
    unfold ownN at ho
    rcases he with ⟨elt, gs, rfl⟩ | ⟨kx, vx, gs, rfl⟩
    · unfold swapsWith
      simp only [hb, ky, ho, Expr.pos, h.1.2]
      rfl
    · unfold swapsWith
      simp only [hb, ky, ho, Expr.pos, h.1.2]
      rfl
  · have ky : X.env.kindOf y = some .cell := by
      unfold celB at h
      split at h
      · assumption
      · cases h
    rcases he with ⟨elt, gs, rfl⟩ | ⟨kx, vx, gs, rfl⟩
    · unfold swapsWith
      simp only [hb, ky]
      rfl
    · unfold swapsWith
      simp only [hb, ky]
      rfl
theorem celB_ok {x : Str} (h : celB sc x = true) : sc.names.lookup x = some .cell := by
  unfold celB at h
  split at h
  · assumption
  · cases h
theorem ss_mOr {e : Expr} {y : Str} {py spos : Pos} {i : Nat} {we : WE} {t : TE} (h : PS X (.Assign [.Name y py] e spos) (tAsg t (L2.gName i))) (l : ∀ σ H Q, liftE X.kw we σ H Q → t σ H Q) : SS X (.Assign [.Name y py] e spos) (wsAsg (wgPat (.nm i)) (mOr Γ y we)) := by
  show SS X _ (wsAsg (gName i) _)
  unfold mOr
  split
  · exact PS.imp h fun D σ H ⟨ρ, fr, h, M, S, F, w, c1, c2, c3, c4⟩ => l _ _ _ ⟨ρ, fr, h, _, S, F, w, fun ρ1 h1 H1 d v e1 S1 r1 w1 => c1 ρ1 h1 H1 _ _ e1 S1 ((F.ext e1).set r1) w1⟩
  · exact ss_gcName h l
theorem asgC_ok (GL : Glo P w K mg base k Γ) (C : CS P w K mg base k Γ c) (G : Good P w K mg base k Γ.N sc X) (hs : X.env.scope = sc) (hk : sc.kind = .function) {y : Str} {py spos : Pos} {e : Expr} {i : Nat} {we : WE}
    (hx : swX sc y py e = true) (hi : ixOf Γ.N y = some i) (h : compC c Γ sc e = some we) : SS X (.Assign [.Name y py] e spos) (wsAsg (wgPat (.nm i)) (mOr Γ y we)) := by
  have nd : X.N.Nodup := by rw [G.N]; exact GL.nd
  have hi' : X.N[i]? = some y := by rw [G.N]; exact ixOf_get hi
  have hk' : X.env.scope.kind = .function := by rw [hs]; exact hk
  have cel : celB sc y = true → swapsWith e (some (.Name y py)) spos.line X.env = pure false → SS X (.Assign [.Name y py] e spos) (wsAsg (wgPat (.nm i)) (mOr Γ y we)) := fun hc hsw => by
    have he := compC_ok GL C G h
    have hl : Loc X.env.scope y := .inr (G.cell _ (celB_ok hc))
    have hf := G.fn y (.inr (celB_ok hc))
    refine ss_asg (w := mOr Γ y we) ?_ (sg_name nd hi' hl hf) hsw (swO_ok fun ts k p vs k2 p2 ⟨ht, _⟩ => (by rcases ht with ht | ht <;> cases ht)) rfl
    unfold mOr
    split
    · exact he
    · exact se_gc he
  unfold compC at h
  split at h
  · rename_i elt tg iter ifs a scope lpos
    replace hx : (swB sc y scope py lpos || celB sc y) = true := hx
    obtain ⟨s1, s2⟩ := sw_ok (X := X) (y := y) (py := py) (l := spos.line) hk' (.inl ⟨elt, [⟨tg, iter, ifs, a⟩], rfl⟩ : (∃ e1 gs, Expr.ListComp elt [⟨tg, iter, ifs, a⟩] scope lpos = .ListComp e1 gs scope lpos) ∨ _)
    rw [hs] at s1 s2
    rw [Bool.or_eq_true] at hx
    rcases hx with hy | hy
    · split at h
      · rename_i ha
        subst ha
        rw [Option.map_eq_some_iff] at h
        obtain ⟨⟨wi, p, tt, te⟩, h2, rfl⟩ := h
        obtain ⟨b1, b2, b3, b4, b5, b6, b7⟩ := cLc1_ok GL C G h2
        have hz := hy
        unfold swB at hz
        simp only [Bool.and_eq_true] at hz
        exact ss_mOr (ps_setLc (tt := liftT X.kw tt) (te := liftE X.kw te) G.calm nd hi' (G.loc _ (locB_ok hz.1.1)) (s1 hy) b1 b2 b4 b5 b6 (plain_fold b7)) fun _ _ _ q => lc_lift b3 q
      · cases h
    · exact cel hy (s2 hy)
  · rename_i elt tg iter ifs a tg1 iter1 ifs1 b scope lpos
    replace hx : (swB sc y scope py lpos || celB sc y) = true := hx
    obtain ⟨s1, s2⟩ := sw_ok (X := X) (y := y) (py := py) (l := spos.line) hk' (.inl ⟨elt, [⟨tg, iter, ifs, a⟩, ⟨tg1, iter1, ifs1, b⟩], rfl⟩ : (∃ e1 gs, Expr.ListComp elt [⟨tg, iter, ifs, a⟩, ⟨tg1, iter1, ifs1, b⟩] scope lpos = .ListComp e1 gs scope lpos) ∨ _)
    rw [hs] at s1 s2
    rw [Bool.or_eq_true] at hx
    rcases hx with hy | hy
    · split at h
      · rename_i hab
        obtain ⟨rfl, rfl⟩ := hab
        rw [Option.map_eq_some_iff] at h
        obtain ⟨⟨wi, p, tt, wi1, p1, tt1, te⟩, h2, rfl⟩ := h
        obtain ⟨b1, b2, ⟨b3, b3', b3''⟩, b4, b5, b6, b7, b8, b9, b10, b11⟩ := cLc2_ok GL C G h2
        have hz := hy
        unfold swB at hz
        simp only [Bool.and_eq_true] at hz
        exact ss_mOr (ps_setLc2 (tt := liftT X.kw tt) (tt1 := liftT X.kw tt1) (te := liftE X.kw te) (wi1 := liftI X.kw wi1) G.calm nd hi' (G.loc _ (locB_ok hz.1.1)) (s1 hy) b1 b2 b3'' b4 b5 b6 b7 b8 b9 (plain_fold b10) (fun env => plain_fold b11)) fun _ _ _ q => lc2_lift b3 b3' q
      · cases h
    · exact cel hy (s2 hy)
  · rename_i kx vx tg iter ifs a scope lpos
    replace hx : (swB sc y scope py lpos || celB sc y) = true := hx
    obtain ⟨s1, s2⟩ := sw_ok (X := X) (y := y) (py := py) (l := spos.line) hk' (.inr ⟨kx, vx, [⟨tg, iter, ifs, a⟩], rfl⟩ : _ ∨ (∃ k1 v1 gs, Expr.DictComp kx vx [⟨tg, iter, ifs, a⟩] scope lpos = .DictComp k1 v1 gs scope lpos))
    rw [hs] at s1 s2
    rw [Bool.or_eq_true] at hx
    rcases hx with hy | hy
    · split at h
      · rename_i ha
        subst ha
        rw [Option.map_eq_some_iff] at h
        obtain ⟨⟨wi, p, tt, tk, tv⟩, h2, rfl⟩ := h
        obtain ⟨b1, b2, b3, b4, b5, b6, b7, b8⟩ := cDc1_ok GL C G h2
        have hz := hy
        unfold swB at hz
        simp only [Bool.and_eq_true] at hz
        exact ss_mOr (ps_setDc (tt := liftT X.kw tt) (tk := liftE X.kw tk) (tv := liftE X.kw tv) G.calm nd hi' (G.loc _ (locB_ok hz.1.1)) (s1 hy) b1 b2 b4 b5 b6 b7 (plain_fold b8)) fun _ _ _ q => dc_lift b3 q
      · cases h
    · exact cel hy (s2 hy)
  · cases h
theorem compS_ok (GL : Glo P w K mg base k Γ) (C : CS P w K mg base k Γ c) (G : Good P w K mg base k Γ.N sc X) (hs : X.env.scope = sc) (hk : sc.kind = .function) {st : Stmt} {ws : WS} (h : compS c Γ sc st = some ws) : SS X st ws := by
  have nd : X.N.Nodup := by rw [G.N]; exact GL.nd
  unfold compS at h
  split at h
  · rw [Option.map_eq_some_iff] at h
    obtain ⟨we, h1, rfl⟩ := h
    exact ss_ret (C.e _ _ _ X h1 G)
  · cases h; exact ss_retN
  · split at h
    · cases h
    · rename_i hc
      rw [Option.map_eq_some_iff] at h
      obtain ⟨we, h1, rfl⟩ := h
      exact ss_expr (C.e _ _ _ X h1 G) (notComp_swaps (by simpa using hc))
  · rw [Option.bind_eq_some_iff] at h
    obtain ⟨wt, h1, h⟩ := h
    rw [Option.bind_eq_some_iff] at h
    obtain ⟨wa, h2, h⟩ := h
    rw [Option.map_eq_some_iff] at h
    obtain ⟨wb, h3, rfl⟩ := h
    exact ss_if (C.t _ _ _ X h1 G) (cSs_ok C G hs hk h2) (cSs_ok C G hs hk h3)
  · rw [Option.bind_eq_some_iff] at h
    obtain ⟨wt, h1, h⟩ := h
    rw [Option.map_eq_some_iff] at h
    obtain ⟨wb, h3, rfl⟩ := h
    exact ss_while G.own (C.t _ _ _ X h1 G) (cSs_ok C G hs hk h3)
  · rw [Option.bind_eq_some_iff] at h
    obtain ⟨wi, h1, h⟩ := h
    rw [Option.bind_eq_some_iff] at h
    obtain ⟨p, h2, h⟩ := h
    rw [Option.map_eq_some_iff] at h
    obtain ⟨wb, h3, rfl⟩ := h
    exact ss_for G.own G.calm (C.i _ _ _ _ X h1 G) (sg_pat (cPat_ok GL G 8 h2).1) (cSs_ok C G hs hk h3) (plain_fold (C.pi _ _ _ _ h1))
  · cases h; exact ss_pass
  · cases h; exact ss_break
  · cases h; exact ss_cont
  · split at h
    · rename_i q
      rw [Option.bind_eq_some_iff] at h
      obtain ⟨i, h1, h⟩ := h
      rw [Option.map_eq_some_iff] at h
      obtain ⟨we, h2, rfl⟩ := h
      exact ss_aug nd (by rw [G.N]; exact ixOf_get h1) (G.locs q) (C.e _ _ _ X h2 G) og_iadd (G.fn _ q)
    · cases h
  · cases h; exact ss_never
  · split at h
    · rename_i hq
      exact cTup_ok GL C G h (swQ_ok hs hk hq)
    · rename_i names hq
      exact cPar_ok GL C G h (swQ_ok hs hk hq)
    · cases h
  · split at h
    · cases h
    · rename_i hne
      exact cAsg_ok GL C G h (swO_ok fun ts k p vs k2 p2 ⟨_, he⟩ => hne _ _ _ he)
  · split at h
    · split at h
      · rename_i hx
        rw [Option.bind_eq_some_iff] at h
        obtain ⟨i, h1, h⟩ := h
        rw [Option.map_eq_some_iff] at h
        obtain ⟨we, h2, rfl⟩ := h
        exact asgC_ok GL C G hs hk hx h1 h2
      · cases h
    · refine cAsg_ok GL C G h (swO_ok fun ts k p vs k2 p2 ⟨ht, _⟩ => ?_)
      rcases ht with ht | ht <;> cases ht
  · split at h
    · rename_i hc
      rw [Bool.and_eq_true, Bool.not_eq_true' (b := isComp _)] at hc
      rw [Option.bind_eq_some_iff] at h
      obtain ⟨i, h1, h⟩ := h
      rw [Option.bind_eq_some_iff] at h
      obtain ⟨wo, h2, h⟩ := h
      rw [Option.map_eq_some_iff] at h
      obtain ⟨we, h3, rfl⟩ := h
      have T : ClsT X.K Γ.cN Γ.aN := by
        rcases GL.cl with e | T
        · rw [e] at hc; cases hc.1
        · exact G.cl T
      exact ss_fld T (ixOf_get h1) (C.e _ _ _ X h2 G) (C.e _ _ _ X h3 G) (notComp_swaps hc.2)
    · cases h
  · rename_i o i _ e _
    split at h
    · cases h
    · rename_i hc
      rw [Option.bind_eq_some_iff] at h
      obtain ⟨wo, h1, h⟩ := h
      rw [Option.bind_eq_some_iff] at h
      obtain ⟨wi, h2, h⟩ := h
      rw [Option.map_eq_some_iff] at h
      obtain ⟨we, h3, rfl⟩ := h
      have hc' : isComp e = false := by
        cases q : isComp e with
        | true => exact (hc q).elim
        | false => rfl
      have pi := C.pe _ _ _ h2
      exact ss_asg (C.e _ _ _ X h3 G) (sg_sub G.u65 (C.e _ _ _ X h1 G) (C.e _ _ _ X h2 G) (fun v => (by cases i <;> first | rfl | (cases pi)))) (by unfold swapsWithSole; exact notComp_swaps hc') (swO_ok fun ts k p vs k2 p2 ⟨ht, _⟩ => (by rcases ht with ht | ht <;> cases ht)) rfl
  · cases h
theorem compSt_ok (GL : Glo P w K mg base k Γ) (C : CS P w K mg base k Γ c) (G : Good P w K mg base k Γ.N sc X) (hs : X.env.scope = sc) (hk : sc.kind = .function) {st : Stmt} {ws : WS} (h : compSt c Γ sc st = some ws) : SS X st ws := by
  unfold compSt at h
  split at h
  · rename_i e
    cases h
    exact compS_ok GL C G hs hk e
  · cases h
    exact ss_never
theorem comp_ok (GL : Glo P w K mg base k Γ) : ∀ n, CS P w K mg base k Γ (comp Γ n)
  | 0 => ⟨fun _ _ _ h => (by cases h), fun _ _ _ _ h => (by cases h), fun _ _ _ _ h => (by cases h), fun _ _ _ _ h => (by cases h), fun _ _ _ _ _ h => (by cases h), fun _ _ _ _ h => (by cases h)⟩
  | n + 1 =>
    have C := comp_ok GL n
    ⟨fun _ _ _ h => compE_plain h, fun _ _ _ _ h G => compE_ok GL C G h, fun _ _ _ _ h G => compT_ok GL C G h, fun _ _ _ _ h => compI_plain C h, fun _ _ _ _ _ h G => compI_ok GL C G h, fun _ _ _ _ h G hs hk => compSt_ok GL C G hs hk h⟩
end
end MP

namespace MP
open PySem PySem.Spec PyProof.Rows L2
section
variable {P : Program} {w : World} {K : PySem.W.Frag} {mg : Str → Option Value} {base : Heap} {k : Nat} {Γ : CEnv}
theorem def_fn (GL : Glo P w K mg base k Γ) {x qual : Str} {st : Stmt} {f : Addr} {fd : FuncData} {ps : List Str} {n : Nat} {ws : WS} {g : WL} (F : Fun K x qual st f fd) (S : FnScope Γ.N ps (defScope st))
    (hc : cSs (comp Γ n) (defScope st) (defBody st) = some ws) (hg : ∀ ds h P, g ds h P → wF ws Γ.N.length ps.length ds h P) : FnOk P w K mg base CX0 (k + 1) f fd ps (liftF (K, w) g) := by
  refine F.ok S (fun vs H Q E ⟨ρ, h, ds, P', S', r, w', c⟩ => ?_) fun cdv A outer s H vs Q E hr ⟨ρ, h, ds, P', S', r, w', c⟩ => ?_
  · rw [← r.length]; exact (hg ds h P' w').1
  · obtain ⟨_, hw⟩ := hg ds h P' w'
    have G : Good P w K mg base k Γ.N (defScope st) (cxOf CX0 P w K mg base Γ.N qual (defScope st) f cdv A outer s H E).nox :=
      ⟨rfl, rfl, rfl, rfl, rfl, rfl, rfl, hr, fun _ h => h, fun _ h => h, fun _ h => .inl h, fun _ h => h, fun _ _ => .inl rfl, PassesOwn.never⟩
    refine ⟨_, cSs_ok (comp_ok GL n) G rfl S.kind hc, ?_⟩
    refine ⟨ρ, startF Γ.N.length ds, h, _, S', start_fr r, hw, fun ρ1 h1 H1 fr1 σ1 e1 S1 F1 w1 => ?_, fun ρ1 h1 H1 d v e1 S1 r1 w1 => ?_, fun _ _ _ _ _ _ _ _ z => z.elim, fun _ _ _ _ _ _ _ _ z => z.elim⟩
    · exact gc_ok S' e1 S1 of_non w1 c
    · exact gc_ok S' e1 S1 r1 w1 c
/-- THE RULE: a def of the text keeps g if its meaning does -/
theorem def_ok (GL : Glo P w K mg base k Γ) {x qual : Str} {st : Stmt} {f : Addr} {fd : FuncData} {ps : List Str} {n : Nat} {ws : WS} {g : WL} (F : Fun K x qual st f fd) (S : FnScope Γ.N ps (defScope st))
    (hc : cSs (comp Γ n) (defScope st) (defBody st) = some ws) (hm : mg x = some (.ref f)) (hb : Binds K fd ps []) (hg : ∀ ds h P, g ds h P → wF ws Γ.N.length ps.length ds h P) : FE P w K mg base (k + 1) x g :=
  ⟨f, fd, ps, hm, F.kp, hb, def_fn GL F S hc hg⟩
/-- where a def of the text stands -/
structure DefIn (K : PySem.W.Frag) (x : Str) (st : Stmt) : Prop where
  ex : ∃ (f : Addr) (oc : Value) (od : Option Addr) (kV dc pm : Value) (an : Option Addr) (cd ct : Value) (sl : Array (Option Value)), PySem.W.nsIn K mainGlobals x = some (some (.ref f)) ∧
    K.lookup f = some ⟨oc, od, .func (PySem.W.fnOf x x (defArgs st) (defBody st) (defScope st) .none kV dc pm an cd ct), sl⟩ ∧ PySem.W.codeIn K cd x = true ∧ PySem.W.keepIn K (.ref f) = true
theorem DefIn.of {x : Str} {st : Stmt} {f : Addr} {oc : Value} {od : Option Addr} {kV dc pm : Value} {an : Option Addr} {cd ct : Value} {sl : Array (Option Value)} (a : PySem.W.nsIn K mainGlobals x = some (some (.ref f)))
    (l : K.lookup f = some ⟨oc, od, .func (PySem.W.fnOf x x (defArgs st) (defBody st) (defScope st) .none kV dc pm an cd ct), sl⟩) (c : PySem.W.codeIn K cd x = true) (kp : PySem.W.keepIn K (.ref f) = true) : DefIn K x st :=
  ⟨f, oc, od, kV, dc, pm, an, cd, ct, sl, a, l, c, kp⟩
structure Tp (K : PySem.W.Frag) (mg : Str → Option Value) (x : Str) (st : Stmt) (ps : List Str) : Prop where
  ex : ∃ (f : Addr) (fd : FuncData), Fun K x x st f fd ∧ mg x = some (.ref f) ∧ Binds K fd ps []
theorem DefIn.tp {x : Str} {st : Stmt} {h : Heap} (D : DefIn K x st) (X : K.In h) (G : h.Ns mainGlobals mg) {ps : List Str}
    (hb : ∀ (kV doc pm : Value) (an : Option Addr) (cdv ct : Value) (us : List Value), us.length = ps.length → bindArgs (PySem.W.fnOf x x (defArgs st) (defBody st) (defScope st) .none kV doc pm an cdv ct) ⟨us, []⟩ = pure (ps.zip us)) : Tp K mg x st ps := by
  obtain ⟨f, oc, od, kV, dc, pm, an, cd, ct, sl, a, l, c, kp⟩ := D.ex
  have F := fun_mk (st := st) l c kp
  exact ⟨f, _, F, PySem.W.mg_of X G a, F.binds hb⟩
theorem fe_of {x : Str} {st : Stmt} {ps : List Str} {n : Nat} {ws : WS} {g : WL} (T : Tp K mg x st ps) (GL : Glo P w K mg base k Γ) (S : FnScope Γ.N ps (defScope st))
    (hc : cSs (comp Γ n) (defScope st) (defBody st) = some ws) (hg : ∀ ds h P, g ds h P → wF ws Γ.N.length ps.length ds h P) : FE P w K mg base (k + 1) x g := by
  obtain ⟨f, fd, F, hm, hb⟩ := T.ex
  exact def_ok GL F S hc hm hb hg
theorem fe_none {x : Str} {st : Stmt} {ps : List Str} (T : Tp K mg x st ps) : FE P w K mg base k x (fun _ _ _ => False) := by
  obtain ⟨f, fd, F, hm, hb⟩ := T.ex
  have no : ∀ vs H Q E, ¬ liftF (K, w) (fun _ _ _ => False) vs H Q E := fun vs H Q E ⟨_, _, _, _, _, _, z, _⟩ => z
  exact ⟨f, fd, ps, hm, F.kp, hb, fun vs H Q E h => absurd h (no vs H Q E), fun A outer s H args us vs Q E _ _ _ _ h => absurd h (no vs H Q E)⟩
/-- where the class stands, and what of the text it needs -/
structure ClsIn (K : PySem.W.Frag) (c : Str) (ns : List Str) (C : Addr) : Prop where
  at_ : PySem.W.nsIn K mainGlobals c = some (some (.ref C))
  cl : Cls K C
  no : ∀ f ∈ ns, NoAttr K C f
  makes : PySem.W.makesIn K C = true
  kp : PySem.W.keepIn K (.ref C) = true
theorem ClsIn.t {c : Str} {ns : List Str} {C : Addr} (T : ClsIn K c ns C) (nd : ns.Nodup) (few : ns.length < 1000) : ClsT K c ns := ⟨⟨C, T.at_, T.cl, T.no⟩, nd, few⟩
/-- where a method of the text stands -/
structure MethIn (K : PySem.W.Frag) (C : Addr) (m qual : Str) (st : Stmt) : Prop where
  ex : ∃ (f : Addr) (oc : Value) (od : Option Addr) (kV dc pm : Value) (an : Option Addr) (cd ct : Value) (sl : Array (Option Value)), PySem.W.findIn K (.ref C) m = some (some (.ref f)) ∧ PySem.W.isFn K (.ref f) = true ∧
    K.lookup f = some ⟨oc, od, .func (PySem.W.fnOf m qual (defArgs st) (defBody st) (defScope st) .none kV dc pm an cd ct), sl⟩ ∧ PySem.W.codeIn K cd qual = true ∧ PySem.W.keepIn K (.ref f) = true
theorem MethIn.of {C : Addr} {m qual : Str} {st : Stmt} {f : Addr} {oc : Value} {od : Option Addr} {kV dc pm : Value} {an : Option Addr} {cd ct : Value} {sl : Array (Option Value)} (a : PySem.W.findIn K (.ref C) m = some (some (.ref f))) (i : PySem.W.isFn K (.ref f) = true)
    (l : K.lookup f = some ⟨oc, od, .func (PySem.W.fnOf m qual (defArgs st) (defBody st) (defScope st) .none kV dc pm an cd ct), sl⟩) (c : PySem.W.codeIn K cd qual = true) (kp : PySem.W.keepIn K (.ref f) = true) : MethIn K C m qual st :=
  ⟨f, oc, od, kV, dc, pm, an, cd, ct, sl, a, i, l, c, kp⟩
structure TpM (K : PySem.W.Frag) (C : Addr) (m qual : Str) (st : Stmt) (ps : List Str) : Prop where
  ex : ∃ (f : Addr) (fd : FuncData), Fun K m qual st f fd ∧ Meth K C m f ∧ Binds K fd ps []
theorem MethIn.tp {C : Addr} {m qual : Str} {st : Stmt} (D : MethIn K C m qual st) {ps : List Str}
    (hb : ∀ (kV doc pm : Value) (an : Option Addr) (cdv ct : Value) (us : List Value), us.length = ps.length → bindArgs (PySem.W.fnOf m qual (defArgs st) (defBody st) (defScope st) .none kV doc pm an cdv ct) ⟨us, []⟩ = pure (ps.zip us)) : TpM K C m qual st ps := by
  obtain ⟨f, oc, od, kV, dc, pm, an, cd, ct, sl, a, i, l, c, kp⟩ := D.ex
  have F := fun_mk (st := st) l c kp
  exact ⟨f, _, F, ⟨a, i, kp⟩, F.binds hb⟩
theorem me_of {c : Str} {ns : List Str} {C : Addr} {m qual : Str} {st : Stmt} {ps : List Str} {n : Nat} {ws : WS} {g : WL} (T : ClsIn K c ns C) (M : TpM K C m qual st ps) (GL : Glo P w K mg base k Γ) (S : FnScope Γ.N ps (defScope st))
    (hc : cSs (comp Γ n) (defScope st) (defBody st) = some ws) (hg : ∀ ds h P, g ds h P → wF ws Γ.N.length ps.length ds h P) : ME P w K mg base (k + 1) c m g := by
  obtain ⟨f, fd, F, hm, hb⟩ := M.ex
  exact ⟨C, f, fd, ps, T.at_, T.cl, hm, hb, def_fn GL F S hc hg⟩
theorem ke_of {c : Str} {ns : List Str} {C : Addr} {qual : Str} {st : Stmt} {ps : List Str} {n : Nat} {ws : WS} {g : WL} (T : ClsIn K c ns C) (hmg : mg c = some (.ref C)) (M : TpM K C "__init__" qual st ps) (GL : Glo P w K mg base k Γ) (S : FnScope Γ.N ps (defScope st))
    (hc : cSs (comp Γ n) (defScope st) (defBody st) = some ws) (hg : ∀ ds h P, g ds h P → wF ws Γ.N.length ps.length ds h P) : KE P w K mg base (k + 2) c g := by
  obtain ⟨f, fd, F, hm, hb⟩ := M.ex
  exact ⟨C, f, fd, ps, k + 1, rfl, hmg, T.at_, ⟨T.makes, hm.at_, hm.fn, T.kp⟩, hb, def_fn GL F S hc hg⟩
theorem me_nil {c : Str} : ∀ m g, ([] : List (Str × WL)).lookup m = some g → ME P w K mg base k c m g := fun _ _ h => by cases h
theorem me_cons {c y : Str} {g0 : WL} {r : List (Str × WL)} (h : ME P w K mg base k c y g0) (t : ∀ m g, r.lookup m = some g → ME P w K mg base k c m g) : ∀ m g, ((y, g0) :: r).lookup m = some g → ME P w K mg base k c m g := by
  intro x g e
  rw [List.lookup_cons] at e
  split at e
  · rename_i q
    have := eq_of_beq q
    subst this
    cases e
    exact h
  · exact t x g e
theorem ke_nil : ∀ x g, ([] : List (Str × WL)).lookup x = some g → KE P w K mg base k x g := fun _ _ h => by cases h
theorem ke_cons {y : Str} {g0 : WL} {r : List (Str × WL)} (h : KE P w K mg base k y g0) (t : ∀ x g, r.lookup x = some g → KE P w K mg base k x g) : ∀ x g, ((y, g0) :: r).lookup x = some g → KE P w K mg base k x g := by
  intro x g e
  rw [List.lookup_cons] at e
  split at e
  · rename_i q
    have := eq_of_beq q
    subst this
    cases e
    exact h
  · exact t x g e
theorem fe_nil : ∀ x g, ([] : List (Str × WL)).lookup x = some g → FE P w K mg base k x g := fun _ _ h => by cases h
theorem fe_cons {y : Str} {g0 : WL} {r : List (Str × WL)} (h : FE P w K mg base k y g0) (t : ∀ x g, r.lookup x = some g → FE P w K mg base k x g) : ∀ x g, ((y, g0) :: r).lookup x = some g → FE P w K mg base k x g := by
  intro x g e
  rw [List.lookup_cons] at e
  split at e
  · rename_i q
    have := eq_of_beq q
    subst this
    cases e
    exact h
  · exact t x g e
def CtIn (K : PySem.W.Frag) (w : World) (mg : Str → Option Value) (x : Str) (d : D) : Prop := ∃ u v, mg x = some u ∧ RelV v u ∧ ∀ H ρ n, Rp (K, w) H ρ n d v
theorem ct_nil : ∀ x d, ([] : List (Str × D)).lookup x = some d → CtIn K w mg x d := fun _ _ h => by cases h
theorem ct_cons {y : Str} {d0 : D} {r : List (Str × D)} (h : CtIn K w mg y d0) (t : ∀ x d, r.lookup x = some d → CtIn K w mg x d) : ∀ x d, ((y, d0) :: r).lookup x = some d → CtIn K w mg x d := by
  intro x g e
  rw [List.lookup_cons] at e
  split at e
  · rename_i q
    have := eq_of_beq q
    subst this
    cases e
    exact h
  · exact t x g e
theorem ct_int {h : Heap} (X : K.In h) (G : h.Ns mainGlobals mg) {x : Str} {i : Int} {t : Tok} (e : PySem.W.nsIn K mainGlobals x = some (some (.int i t))) : CtIn K w mg x (.int i) :=
  ⟨_, .int i, PySem.W.mg_of X G e, ⟨t, rfl⟩, fun _ _ _ => of_int⟩
theorem ct_str {h : Heap} (X : K.In h) (G : h.Ns mainGlobals mg) {x : Str} {s : Str} {t : Tok} {l : List Nat} (e : PySem.W.nsIn K mainGlobals x = some (some (.str s t))) (hs : s = mkS l) (ok : StrOk l) : CtIn K w mg x (.str l) :=
  ⟨_, .str s, PySem.W.mg_of X G e, ⟨t, rfl⟩, fun _ _ _ => by subst hs; exact of_str ok⟩
/-- what law(script) promises -/
def gLaw : WL := fun ds h P => ∃ ns : List Int, ds = [.scr ns] ∧ h = [] ∧ P (.bl true) h
theorem law_sp {g : WL} (hg : ∀ ds h P, gLaw ds h P → g ds h P) {H : Hp} {a : Addr} {ns : List Int} (hS : SqL K H a (ns.map V.int)) (hO : Only H) : liftF (K, w) g [.ref a] H (fun v _ => v = .bl true) (fun _ _ _ => False) := by
  refine ⟨fun _ => a, [], [.scr ns], fun d _ => d = .bl true, ⟨fun i o e => by simp at e, fun i j o => absurd o (Nat.not_lt_zero i)⟩, RpL.cons (by
    unfold Rp
    refine ⟨a, rfl, ?_⟩
    rcases hS with hS | hS
    · rcases hS with hS | hS
      · rcases hO a with z | ⟨o, xs, z⟩
        · rw [z] at hS; cases hS
        · rw [z] at hS; cases hS
      · exact .inl ⟨fun i hi => absurd hi (Nat.not_lt_zero i), .inr hS⟩
    · exact .inr hS) RpL.nil, hg _ _ _ ⟨ns, rfl, rfl, rfl⟩, fun ρ' h' H' d v _ _ r e => ?_⟩
  subst e
  exact rp_bl r
end
end MP

namespace MP
open PySem PySem.Spec PyProof.Rows L2
/-! ### what is walked, where nothing of it changes -/
def Src.its : Src → Option (List D)
  | .fix ds => some ds
  | .lst _ => none
  | .zip a b => a.its.bind fun x => b.its.map fun y => List.zipWith (fun p q => D.tup [p, q]) x y
  | .enum a => a.its.map fun x => x.mapIdx fun i p => D.tup [.int i, p]
theorem Src.its_tick : ∀ {s : Src} {ds : List D}, s.its = some ds → ∀ (h : Hq) (i : Nat), s.tick h i = some ds[i]?
  | .fix _, _, e, _, _ => by cases e; rfl
  | .lst _, _, e, _, _ => by cases e
  | .zip a b, ds, e, h, i => by
    unfold Src.its at e
    rw [Option.bind_eq_some_iff] at e
    obtain ⟨x, h1, e⟩ := e
    rw [Option.map_eq_some_iff] at e
    obtain ⟨y, h2, rfl⟩ := e
    unfold Src.tick
    rw [Src.its_tick h1, Src.its_tick h2, List.getElem?_zipWith]
    cases x[i]? <;> cases y[i]? <;> rfl
  | .enum a, ds, e, h, i => by
    unfold Src.its at e
    rw [Option.map_eq_some_iff] at e
    obtain ⟨x, h1, rfl⟩ := e
    unfold Src.tick
    rw [Src.its_tick h1, List.getElem?_mapIdx]
    cases x[i]? <;> rfl
/-! ### loops by invariants -/
theorem gcF_in {hs : Hq} {P : Fr → Hq → Prop} {fr : Fr} {h : Hq} (p : P fr h) : gcF hs P fr h := .inl p
theorem fo_inv {hs0 : Hq} {s : Src} {g : WG} {b : WS} {M : MEnds} {ds : List D} (Inv : Nat → Fr → Hq → Prop) {fr : Fr} {h : Hq} (ht : ∀ i fr h, Inv i fr h → s.tick h i = some ds[i]?) (h0 : Inv 0 fr h)
    (hs : ∀ i d fr h, Inv i fr h → ds[i]? = some d → ∀ k : Fr → Hq → Prop, (∀ fr' h', Inv (i + 1) fr' h' → k fr' h') → g d fr h fun fr1 h1 => b { M with nx := gcF hs0 k, ct := gcF hs0 k, bk := M.nx } fr1 h1)
    (he : ∀ fr h, Inv ds.length fr h → M.nx fr h) : ∃ n, foN hs0 s g b M n 0 fr h := by
  have key : ∀ (n i : Nat) (fr : Fr) (h : Hq), n + i = ds.length → Inv i fr h → foN hs0 s g b M (n + 1) i fr h := by
    intro n
    induction n with
    | zero =>
      intro i fr h e hi
      have e' : i = ds.length := by omega
      subst e'
      unfold foN
      rw [ht _ _ _ hi, List.getElem?_eq_none (Nat.le_refl _)]
      exact he _ _ hi
    | succ n ih =>
      intro i fr h e hi
      unfold foN
      have hlt : i < ds.length := by omega
      rw [ht _ _ _ hi, List.getElem?_eq_getElem hlt]
      exact hs i _ fr h hi (List.getElem?_eq_getElem hlt) _ fun fr' h' hi' => ih (i + 1) fr' h' (by omega) hi'
  exact ⟨ds.length + 1, key ds.length 0 fr h (by omega) h0⟩
theorem wh_inv {t : WT} {b : WS} {M : MEnds} (Inv : Nat → Fr → Hq → Prop) {fr : Fr} {h : Hq} {n : Nat} (h0 : Inv n fr h)
    (hs : ∀ n fr h1, Inv n fr h1 → ∀ k : Fr → Hq → Prop, (∀ m fr' h', m < n → Inv m fr' h' → k fr' h') → t fr h1 fun c h2 => if c = true then b { M with nx := gcF h k, ct := gcF h k, bk := M.nx } fr h2 else M.nx fr h2) : wsWhile t b M fr h := by
  have key : ∀ (j : Nat) (n : Nat) (fr : Fr) (h1 : Hq), n ≤ j → Inv n fr h1 → whN h t b M (j + 1) fr h1 := by
    intro j
    induction j with
    | zero =>
      intro n fr h e hi
      unfold whN
      exact hs n fr h hi _ fun m fr' h' hm _ => absurd hm (by omega)
    | succ j ih =>
      intro n fr h e hi
      unfold whN
      exact hs n fr h hi _ fun m fr' h' hm hi' => ih m fr' h' (by omega) hi'
  exact ⟨n + 1, key n n fr h (Nat.le_refl _) h0⟩
/-- the same, by what ∃ n stands for after whnf -/
theorem wh_invN {t : WT} {b : WS} {M : MEnds} (Inv : Nat → Fr → Hq → Prop) {fr : Fr} {h : Hq} {n : Nat} (h0 : Inv n fr h)
    (hs : ∀ n fr h1, Inv n fr h1 → ∀ k : Fr → Hq → Prop, (∀ m fr' h', m < n → Inv m fr' h' → k fr' h') → t fr h1 fun c h2 => if c = true then b { M with nx := gcF h k, ct := gcF h k, bk := M.nx } fr h2 else M.nx fr h2) : ∃ n, whN h t b M n fr h := wh_inv Inv h0 hs
/-- a loop over a list, by what is done and what is left -/
theorem fo_list {α : Type} {hs0 : Hq} {s : Src} {g : WG} {b : WS} {M : MEnds} (xs : List α) (toD : α → D) (Inv : List α → Fr → Hq → Prop) {fr : Fr} {h : Hq} (ht : ∀ rest fr h i, Inv rest fr h → s.tick h i = some (xs.map toD)[i]?) (h0 : Inv xs fr h)
    (hs : ∀ a rest fr h, a ∈ xs → Inv (a :: rest) fr h → ∀ k : Fr → Hq → Prop, (∀ fr' h', Inv rest fr' h' → k fr' h') → g (toD a) fr h fun fr1 h1 => b { M with nx := gcF hs0 k, ct := gcF hs0 k, bk := M.nx } fr1 h1)
    (he : ∀ fr h, Inv [] fr h → M.nx fr h) : ∃ n, foN hs0 s g b M n 0 fr h := by
  refine fo_inv (ds := xs.map toD) (fun i fr h => i ≤ xs.length ∧ Inv (xs.drop i) fr h) (fun i fr h hi => ht _ fr h i hi.2) ⟨Nat.zero_le _, by rw [List.drop_zero]; exact h0⟩ (fun i d fr h ⟨h1, hi⟩ hd k hk => ?_) fun fr h hi => he fr h (by have := hi.2; rwa [List.length_map, List.drop_length] at this)
  rw [List.getElem?_map, Option.map_eq_some_iff] at hd
  obtain ⟨a, ha, rfl⟩ := hd
  obtain ⟨hlt, rfl⟩ := List.getElem?_eq_some_iff.mp ha
  refine hs _ (xs.drop (i + 1)) fr h (List.getElem_mem hlt) (by rw [← List.drop_eq_getElem_cons hlt]; exact hi) k fun fr' h' q => hk fr' h' ⟨hlt, q⟩
/-- the same for lists that change no more -/
theorem fo_fix {α : Type} {hs0 : Hq} {s : Src} {g : WG} {b : WS} {M : MEnds} (xs : List α) (toD : α → D) (Inv : List α → Fr → Hq → Prop) {fr : Fr} {h : Hq} (ed : s.its = some (xs.map toD)) (h0 : Inv xs fr h)
    (hs : ∀ a rest fr h, a ∈ xs → Inv (a :: rest) fr h → ∀ k : Fr → Hq → Prop, (∀ fr' h', Inv rest fr' h' → k fr' h') → g (toD a) fr h fun fr1 h1 => b { M with nx := gcF hs0 k, ct := gcF hs0 k, bk := M.nx } fr1 h1)
    (he : ∀ fr h, Inv [] fr h → M.nx fr h) : ∃ n, foN hs0 s g b M n 0 fr h := fo_list xs toD Inv (fun _ _ _ _ _ => Src.its_tick ed _ _) h0 hs he
/-- a comprehension by an invariant over heap and list so far -/
theorem lc_inv {s : Src} {n : Nat} {step : D → Hq → (D → Hq → Prop) → (Hq → Prop) → Prop} {P : WK} {ds : List D} (Inv : Nat → List D → Hq → Prop) {h : Hq} (B : Nat) (acc0 : List D) (ht : ∀ i acc h, Inv i acc h → s.tick h i = some ds[i]?)
    (hacc : ∀ i acc h, Inv i acc h → lstAt h n = some acc ∧ acc.length ≤ B + i) (hz : B + ds.length ≤ sizeLine) (h0 : Inv 0 acc0 h)
    (hs : ∀ i d acc h, Inv i acc h → ds[i]? = some d → ∀ (kp : D → Hq → Prop) (sk : Hq → Prop), (∀ y h4, lstAt h4 n = some acc → Inv (i + 1) (acc ++ [y]) (h4.set n (.lst (acc ++ [y]))) → kp y h4) → (∀ h3, Inv (i + 1) acc h3 → sk h3) → step d h kp sk)
    (he : ∀ acc h, Inv ds.length acc h → P (.ref n) h) : ∃ k, lcN s n step P k 0 h := by
  have key : ∀ (m i : Nat) (acc : List D) (h : Hq), m + i = ds.length → Inv i acc h → lcN s n step P (m + 1) i h := by
    intro m
    induction m with
    | zero =>
      intro i acc h e hi
      have e' : i = ds.length := by omega
      subst e'
      unfold lcN
      rw [ht _ _ _ hi, List.getElem?_eq_none (Nat.le_refl _)]
      exact he _ _ hi
    | succ m ih =>
      intro i acc h e hi
      unfold lcN
      have hlt : i < ds.length := by omega
      rw [ht _ _ _ hi, List.getElem?_eq_getElem hlt]
      refine hs i _ acc h hi (List.getElem?_eq_getElem hlt) _ _ (fun y h4 e4 hi' => ?_) fun h3 hi' => ih (i + 1) acc h3 (by omega) hi'
      rw [e4]
      exact ⟨by have := (hacc _ _ _ hi).2; omega, ih (i + 1) _ _ (by omega) hi'⟩
  exact ⟨ds.length + 1, key ds.length 0 acc0 h (by omega) h0⟩
theorem lstAt_app {h : Hq} {ds : List D} : lstAt (h ++ [.lst ds]) h.length = some ds := by
  unfold lstAt; simp
theorem set_app {h : Hq} {a b : Ob} : (h ++ [a]).set h.length b = h ++ [b] := by simp
/-- a comprehension whose parts leave the heap alone; its list changes no more -/
theorem lcvH {α : Type} {hs0 : Hq} {s : Src} {step : D → Hq → (D → Hq → Prop) → (Hq → Prop) → Prop} {P : WK} {h : Hq} (xs : List α) (toD : α → D) (f : α → Option D) (ed : s.its = some (xs.map toD)) (e0 : hs0 = h) (hz : xs.length ≤ sizeLine)
    (hs : ∀ a ∈ xs, ∀ (h' : Hq), h <+: h' → ∀ (kp : D → Hq → Prop) (sk : Hq → Prop), (∀ y, f a = some y → kp y h') → (f a = none → sk h') → step (toD a) h' kp sk)
    (nr : ∀ a ∈ xs, ∀ y, f a = some y → y.nr = true) (he : P (.lst (xs.filterMap f)) h) : ∃ k, lcN s h.length step (gcK hs0 P) k 0 (h ++ [.lst []]) := by
  subst e0
  have nrL : D.nrL (xs.filterMap f) = true := by
    have : ∀ l : List α, (∀ a ∈ l, a ∈ xs) → D.nrL (l.filterMap f) = true := by
      intro l
      induction l with
      | nil => intro _; unfold D.nrL; rfl
      | cons a l ih =>
        intro hl
        rw [List.filterMap_cons]
        split
        · exact ih fun b hb => hl b (List.mem_cons_of_mem _ hb)
        · rename_i y hy
          unfold D.nrL
          rw [nr a (hl a (List.mem_cons_self ..)) y hy, ih fun b hb => hl b (List.mem_cons_of_mem _ hb)]; rfl
    exact this xs fun _ h => h
  obtain ⟨ds, ed, hds⟩ : ∃ ds : List D, ds = xs.map toD ∧ s.its = some ds := ⟨_, rfl, ed⟩
  refine lc_inv (ds := ds) (fun i acc h' => acc = (xs.take i).filterMap f ∧ h' = hs0 ++ [.lst acc]) 0 [] (fun i acc h' ⟨_, e⟩ => Src.its_tick hds _ _)
    (fun i acc h' ⟨e1, e⟩ => ⟨by rw [e]; exact lstAt_app, by rw [e1]; exact Nat.le_trans (List.length_filterMap_le _ _) (by rw [List.length_take]; omega)⟩) (by rw [ed, List.length_map]; omega) ⟨by simp, rfl⟩ (fun i d acc h' ⟨e1, e⟩ hd kp sk h1 h2 => ?_) fun acc h' ⟨e1, e⟩ => ?_
  · subst e
    rw [ed, List.getElem?_map, Option.map_eq_some_iff] at hd
    obtain ⟨a, ha, rfl⟩ := hd
    have et : xs.take (i + 1) = xs.take i ++ [a] := by
      rw [List.take_add_one, ha]; rfl
    refine hs a (List.mem_of_getElem? ha) _ (List.prefix_append _ _) kp sk (fun y hy => h1 y _ lstAt_app ⟨?_, set_app⟩) fun hn => h2 _ ⟨?_, rfl⟩
    · rw [et, List.filterMap_append, e1]; simp [hy]
    · rw [et, List.filterMap_append, e1]; simp [hn]
  · subst e
    have hl : ds.length = xs.length := by rw [ed, List.length_map]
    rw [hl, List.take_length] at e1
    rw [e1]
    exact gc_lst (List.prefix_append _ _) (Nat.le_refl _) lstAt_app nrL he
theorem lcv {α : Type} {hs0 : Hq} {s : Src} {step : D → Hq → (D → Hq → Prop) → (Hq → Prop) → Prop} {P : WK} {h : Hq} (xs : List α) (toD : α → D) (f : α → Option D) (ed : s.its = some (xs.map toD)) (e0 : hs0 = h) (hz : xs.length ≤ sizeLine)
    (hs : ∀ a ∈ xs, ∀ (h' : Hq) (kp : D → Hq → Prop) (sk : Hq → Prop), (∀ y, f a = some y → kp y h') → (f a = none → sk h') → step (toD a) h' kp sk)
    (nr : ∀ a ∈ xs, ∀ y, f a = some y → y.nr = true) (he : P (.lst (xs.filterMap f)) h) : ∃ k, lcN s h.length step (gcK hs0 P) k 0 (h ++ [.lst []]) :=
  lcvH xs toD f ed e0 hz (fun a ha h' _ => hs a ha h') nr he
/-- every turn gives something -/
theorem lcm {α : Type} {hs0 : Hq} {s : Src} {step : D → Hq → (D → Hq → Prop) → (Hq → Prop) → Prop} {P : WK} {h : Hq} (xs : List α) (toD : α → D) (f : α → D) (ed : s.its = some (xs.map toD)) (e0 : hs0 = h) (hz : xs.length ≤ sizeLine)
    (hs : ∀ a ∈ xs, ∀ (h' : Hq) (kp : D → Hq → Prop) (sk : Hq → Prop), kp (f a) h' → step (toD a) h' kp sk)
    (nr : ∀ a ∈ xs, (f a).nr = true) (he : P (.lst (xs.map f)) h) : ∃ k, lcN s h.length step (gcK hs0 P) k 0 (h ++ [.lst []]) :=
  lcv xs toD (fun a => some (f a)) ed e0 hz (fun a ha h' kp sk k1 _ => hs a ha h' kp sk (k1 _ rfl)) (fun a ha y e => by cases e; exact nr a ha) (by rw [List.filterMap_eq_map']; exact he)
theorem lcmH {α : Type} {hs0 : Hq} {s : Src} {step : D → Hq → (D → Hq → Prop) → (Hq → Prop) → Prop} {P : WK} {h : Hq} (xs : List α) (toD : α → D) (f : α → D) (ed : s.its = some (xs.map toD)) (e0 : hs0 = h) (hz : xs.length ≤ sizeLine)
    (hs : ∀ a ∈ xs, ∀ (h' : Hq), h <+: h' → ∀ (kp : D → Hq → Prop) (sk : Hq → Prop), kp (f a) h' → step (toD a) h' kp sk)
    (nr : ∀ a ∈ xs, (f a).nr = true) (he : P (.lst (xs.map f)) h) : ∃ k, lcN s h.length step (gcK hs0 P) k 0 (h ++ [.lst []]) :=
  lcvH xs toD (fun a => some (f a)) ed e0 hz (fun a ha h' hp kp sk k1 _ => hs a ha h' hp kp sk (k1 _ rfl)) (fun a ha y e => by cases e; exact nr a ha) (by rw [List.filterMap_eq_map']; exact he)
/-- two clauses, both over lists that change no more -/
theorem lc2v {α β : Type} {hs0 : Hq} {s : Src} {p p1 : Pat} {tt tt1 : WT} {wi1 : WI} {te : WE} {vs1 : List Nat} {fr : Fr} {P : WK} {h : Hq} (xs : List α) (toD : α → D) (c : α → Bool) (ys : α → List β) (toE : β → D) (f : α → β → Option D) (ed : s.its = some (xs.map toD)) (e0 : hs0 = h)
    (B : Nat) (hB : ∀ a ∈ xs, (ys a).length ≤ B) (hz : xs.length * B ≤ sizeLine)
    (hs : ∀ a ∈ xs, ∃ fr2, bindP p (toD a) fr = some fr2 ∧ (∀ (h' : Hq) (Q : Bool → Hq → Prop), Q (c a) h' → tt fr2 h' Q) ∧ (c a = true → (∀ (h' : Hq) (Q : Src → Hq → Prop), Q (.fix ((ys a).map toE)) h' → wi1 fr2 h' Q) ∧
      ∀ b ∈ ys a, ∀ (h' : Hq) (kp : D → Hq → Prop) (sk : Hq → Prop), (∀ y, f a b = some y → kp y h') → (f a b = none → sk h') → lcStep p1 tt1 te (wipeF fr2 vs1) (toE b) h' kp sk))
    (nr : ∀ a ∈ xs, ∀ b ∈ ys a, ∀ y, f a b = some y → y.nr = true) (he : P (.lst (xs.flatMap fun a => if c a = true then (ys a).filterMap (f a) else [])) h) :
    ∃ k, lc2N s h.length p tt wi1 p1 tt1 te vs1 fr (gcK hs0 P) k 0 (h ++ [.lst []]) := by
  subst e0
  let F : α → List D := fun a => if c a = true then (ys a).filterMap (f a) else []
  have nrF : ∀ l : List α, (∀ a ∈ l, a ∈ xs) → D.nrL (l.flatMap F) = true := by
    have app : ∀ a b : List D, D.nrL a = true → D.nrL b = true → D.nrL (a ++ b) = true := by
      intro a
      induction a with
      | nil => intro b _ h; exact h
      | cons x a ih =>
        intro b h1 h2
        rw [List.cons_append]
        unfold D.nrL at h1 ⊢
        rw [Bool.and_eq_true] at h1 ⊢
        exact ⟨h1.1, ih b h1.2 h2⟩
    intro l
    induction l with
    | nil => intro _; unfold D.nrL; rfl
    | cons a l ih =>
      intro hl
      rw [List.flatMap_cons]
      refine app _ _ ?_ (ih fun b hb => hl b (List.mem_cons_of_mem _ hb))
      have ha := hl a (List.mem_cons_self ..)
      show D.nrL (if c a = true then (ys a).filterMap (f a) else []) = true
      split
      · have : ∀ m : List β, (∀ b ∈ m, b ∈ ys a) → D.nrL (m.filterMap (f a)) = true := by
          intro m
          induction m with
          | nil => intro _; unfold D.nrL; rfl
          | cons b m ihm =>
            intro hm
            rw [List.filterMap_cons]
            split
            · exact ihm fun z hz => hm z (List.mem_cons_of_mem _ hz)
            · rename_i y hy
              unfold D.nrL
              rw [nr a ha b (hm b (List.mem_cons_self ..)) y hy, ihm fun z hz => hm z (List.mem_cons_of_mem _ hz)]; rfl
        exact this _ fun _ h => h
      · unfold D.nrL; rfl
  have lenF : ∀ l : List α, (∀ a ∈ l, a ∈ xs) → (l.flatMap F).length ≤ l.length * B := by
    intro l
    induction l with
    | nil => intro _; simp
    | cons a l ih =>
      intro hl
      rw [List.flatMap_cons, List.length_append, List.length_cons, Nat.succ_mul]
      have h1 := ih fun b hb => hl b (List.mem_cons_of_mem _ hb)
      have h2 : (F a).length ≤ B := by
        show (if c a = true then (ys a).filterMap (f a) else []).length ≤ B
        split
        · exact Nat.le_trans (List.length_filterMap_le _ _) (hB a (hl a (List.mem_cons_self ..)))
        · exact Nat.zero_le _
      omega
  obtain ⟨ds, ed, hds⟩ : ∃ ds : List D, ds = xs.map toD ∧ s.its = some ds := ⟨_, rfl, ed⟩
  have hl : ds.length = xs.length := by rw [ed, List.length_map]
  have key : ∀ (n i : Nat), n + i = xs.length → lc2N s hs0.length p tt wi1 p1 tt1 te vs1 fr (gcK hs0 P) (n + 1) i (hs0 ++ [.lst ((xs.take i).flatMap F)]) := by
    intro n
    induction n with
    | zero =>
      intro i e
      have e' : i = xs.length := by omega
      subst e'
      unfold lc2N
      rw [Src.its_tick hds, List.getElem?_eq_none (by omega), List.take_length]
      exact gc_lst (List.prefix_append _ _) (Nat.le_refl _) lstAt_app (nrF xs fun _ h => h) he
    | succ n ih =>
      intro i e
      have hlt : i < xs.length := by omega
      have hltd : i < ds.length := by omega
      obtain ⟨fr2, e1, e2, e3⟩ := hs xs[i] (List.getElem_mem hlt)
      have ei : ds[i]? = some (toD xs[i]) := by rw [ed, List.getElem?_map, List.getElem?_eq_getElem hlt]; rfl
      have et : xs.take (i + 1) = xs.take i ++ [xs[i]] := by
        rw [List.take_add_one, List.getElem?_eq_getElem hlt]; rfl
      have ih' := ih (i + 1) (by omega)
      rw [et, List.flatMap_append] at ih'
      unfold lc2N
      rw [Src.its_tick hds, ei]
      dsimp only
      rw [e1]
      dsimp only
      refine e2 _ _ ?_
      cases hc : c xs[i] with
      | false =>
        rw [if_neg Bool.false_ne_true]
        have : [xs[i]].flatMap F = [] := by
          show F xs[i] ++ [] = []
          rw [List.append_nil]
          show (if c xs[i] = true then _ else []) = []
          rw [hc]; rfl
        rw [this, List.append_nil] at ih'
        exact ih'
      | true =>
        rw [if_pos rfl]
        obtain ⟨e4, e5⟩ := e3 hc
        refine e4 _ _ ?_
        have hF : [xs[i]].flatMap F = (ys xs[i]).filterMap (f xs[i]) := by
          show F xs[i] ++ [] = _
          rw [List.append_nil]
          show (if c xs[i] = true then _ else []) = _
          rw [hc]; rfl
        rw [hF] at ih'
        have hb := hB xs[i] (List.getElem_mem hlt)
        have hpre := lenF (xs.take i) fun a ha => List.mem_of_mem_take ha
        rw [List.length_take, Nat.min_eq_left (by omega)] at hpre
        have hm : i * B + B ≤ xs.length * B := by
          have := Nat.mul_le_mul_right B (show i + 1 ≤ xs.length by omega)
          rw [Nat.succ_mul] at this
          exact this
        refine lc_inv (ds := (ys xs[i]).map toE) (fun j acc h' => acc = (xs.take i).flatMap F ++ ((ys xs[i]).take j).filterMap (f xs[i]) ∧ h' = hs0 ++ [.lst acc]) (i * B) ((xs.take i).flatMap F) (fun j acc h' _ => rfl)
          (fun j acc h' ⟨x, y⟩ => ⟨by rw [y]; exact lstAt_app, by
            rw [x, List.length_append]
            have := List.length_filterMap_le (f xs[i]) ((ys xs[i]).take j)
            rw [List.length_take] at this
            omega⟩) (by rw [List.length_map]; omega) ⟨by simp, rfl⟩ (fun j d acc h' ⟨x, y⟩ hd kp sk k1 k2 => ?_) fun acc h' ⟨x, y⟩ => ?_
        · subst y
          rw [List.getElem?_map, Option.map_eq_some_iff] at hd
          obtain ⟨b, hb', rfl⟩ := hd
          have etj : (ys xs[i]).take (j + 1) = (ys xs[i]).take j ++ [b] := by
            rw [List.take_add_one, hb']; rfl
          refine e5 b (List.mem_of_getElem? hb') _ kp sk (fun y hy => k1 y _ lstAt_app ⟨?_, set_app⟩) fun hn => k2 _ ⟨?_, rfl⟩
          · rw [x, etj, List.filterMap_append, List.append_assoc]; simp [hy]
          · rw [x, etj, List.filterMap_append]; simp [hn]
        · subst y
          rw [x, List.length_map, List.take_length]
          exact ih'
  exact ⟨xs.length + 1, key xs.length 0 (by omega)⟩
end MP

namespace MP
open PySem PySem.Spec PyProof.Rows L2
/-! ### heaps that grow -/
theorem pre_lst {h h' : Hq} {n : Nat} {ds : List D} (p : h <+: h') (e : lstAt h n = some ds) : lstAt h' n = some ds := by
  obtain ⟨g, rfl⟩ := p
  have := lstAt_get e
  have hlt := get_lt this
  unfold lstAt
  rw [List.getElem?_append_left hlt, this]
theorem ty_lst {h : Hq} {n : Nat} {ds : List D} (e : lstAt h n = some ds) : tyB "list" h (.ref n) = true := by
  show (("list" : String) == "list" && (lstAt h n).isSome) = true
  rw [e]; rfl
theorem lst_lt {h : Hq} {n : Nat} {ds : List D} (e : lstAt h n = some ds) : n < h.length := get_lt (lstAt_get e)
theorem lst_of {h : Hq} {n : Nat} {ds : List D} (e : h[n]? = some (.lst ds)) : lstAt h n = some ds := by unfold lstAt; rw [e]
theorem lst_set {h : Hq} {n : Nat} {ds es : List D} (e : lstAt h n = some ds) : lstAt (h.set n (.lst es)) n = some es := lst_of (by rw [List.getElem?_set_self (lst_lt e)])
theorem lst_setNe {h : Hq} {n m : Nat} {ds : List D} {o : Ob} (e : lstAt h n = some ds) (hne : m ≠ n) : lstAt (h.set m o) n = some ds := lst_of (by rw [List.getElem?_set_ne hne, lstAt_get e])
theorem pre_set {h h' : Hq} {n : Nat} {o : Ob} (p : h <+: h') (hn : h.length ≤ n) : h <+: h'.set n o := by
  obtain ⟨g, rfl⟩ := p
  rw [List.set_append_right _ _ hn]
  exact ⟨_, rfl⟩
theorem pre_app {h h' g : Hq} (p : h <+: h') : h <+: h' ++ g := p.trans (List.prefix_append _ _)
theorem pre_refl {h : Hq} : h <+: h := List.prefix_refl h
theorem pre_len {h h' : Hq} (p : h <+: h') : h.length ≤ h'.length := p.length_le
theorem take_pre {h h' : Hq} (p : h <+: h') : h'.take h.length = h := by
  obtain ⟨g, rfl⟩ := p; simp
theorem src_lst {h : Hq} {n : Nat} {ds : List D} (e : lstAt h n = some ds) : srcOf h (.ref n) = some (.lst n) := by
  show (if (lstAt h n).isSome then _ else _) = _
  rw [e]; rfl
theorem lst_app1 {h : Hq} {n : Nat} {ds : List D} {g : Hq} (e : lstAt h n = some ds) : lstAt (h ++ g) n = some ds := pre_lst (List.prefix_append _ _) e
theorem mem_zw {α β γ : Type} {f : α → β → γ} {xs : List α} {ys : List β} {z : γ} (h : z ∈ List.zipWith f xs ys) : ∃ x ∈ xs, ∃ y ∈ ys, z = f x y := by
  rw [← List.map_uncurry_zip_eq_zipWith] at h
  obtain ⟨⟨x, y⟩, hp, rfl⟩ := List.mem_map.mp h
  exact ⟨x, (List.of_mem_zip hp).1, y, (List.of_mem_zip hp).2, rfl⟩
theorem cut_neg {α : Type} {xs : List α} {k : Nat} (h : 1 ≤ k) : cutL xs (some (-(k : Int))) none = xs.drop (xs.length - k) := by
  unfold cutL
  have e : HT.sIx xs.length 0 (some (-(k : Int))) = xs.length - k := by
    show (if -(k : Int) < 0 then (-(k : Int) + (xs.length : Int)).toNat else _) = _
    rw [if_pos (by omega)]; omega
  rw [e]
  show (xs.drop (xs.length - k)).take (xs.length - (xs.length - k)) = _
  exact List.take_of_length_le (by rw [List.length_drop]; omega)
theorem cut_pos {α : Type} {xs : List α} {i : Int} (h : 0 ≤ i) : cutL xs (some i) none = xs.drop i.toNat := by
  unfold cutL
  have e : HT.sIx xs.length 0 (some i) = min i.toNat xs.length := by
    show (if i < 0 then _ else min i.toNat xs.length) = _
    rw [if_neg (by omega)]
  rw [e]
  show (xs.drop (min i.toNat xs.length)).take (xs.length - min i.toNat xs.length) = _
  rw [List.take_of_length_le (by rw [List.length_drop]; omega)]
  by_cases hc : i.toNat ≤ xs.length
  · rw [Nat.min_eq_left hc]
  · rw [Nat.min_eq_right (by omega), List.drop_of_length_le (Nat.le_refl _), List.drop_of_length_le (by omega)]
/-! ### all of a comprehension -/
theorem bls_repT : ∀ m : Nat, blsOf (List.replicate m (.bl true)) = some (List.replicate m true)
  | 0 => rfl
  | m + 1 => by
    show (blsOf (List.replicate m (.bl true))).map (true :: ·) = _
    rw [bls_repT m]; rfl
theorem all_rep {n : Nat} : (List.replicate n true).all id = true := by simp
theorem take_app {h g : Hq} : (h ++ g).take h.length = h := by simp
theorem tick_fix {ds : List D} {i : Nat} {h : Hq} : (Src.fix ds).tick h i = some ds[i]? := rfl
theorem tick_lst {h : Hq} {n i : Nat} {ds : List D} (e : lstAt h n = some ds) : (Src.lst n).tick h i = some ds[i]? := by
  show (lstAt h n).map _ = _
  rw [e]; rfl
theorem tick_zip {a b : Src} {h : Hq} {i : Nat} {ds es : List D} (ha : a.tick h i = some ds[i]?) (hb : b.tick h i = some es[i]?) : (Src.zip a b).tick h i = some (List.zipWith (fun x y => D.tup [x, y]) ds es)[i]? := by
  unfold Src.tick
  rw [ha, hb, List.getElem?_zipWith]
  cases ds[i]? <;> cases es[i]? <;> rfl
theorem drecT {p : Prop} {f : ¬p → Prop} {g : p → Prop} (i : Decidable p) (hp : p) (q : g hp) : Decidable.rec (motive := fun _ => Prop) f g i := by
  cases i with
  | isTrue h => exact q
  | isFalse h => exact (h hp).elim
theorem drecF {p : Prop} {f : ¬p → Prop} {g : p → Prop} (i : Decidable p) (hp : ¬p) (q : f hp) : Decidable.rec (motive := fun _ => Prop) f g i := by
  cases i with
  | isTrue h => exact (hp h).elim
  | isFalse h => exact q
end MP

namespace MP
open PySem PySem.Spec PyProof.Rows L2
/-! ### services -/
structure Svc where
  asks : List Nat
  rows : List (List (Nat × Nat))
def stD (x : Nat × Nat) : D := .tup [.int x.1, .str [x.2]]
def rowD (l : List (Nat × Nat)) : D := .tup (l.map stD)
def Svc.d (s : Svc) : D := .tup [.str s.asks, .tup (s.rows.map rowD)]
def Lett (c : Nat) : Prop := 97 ≤ c ∧ c ≤ 122
/-- a text of asks -/
def AskOk (a : List Nat) : Prop := 1 ≤ a.length ∧ a.length ≤ 4 ∧ (∀ c ∈ a, Lett c) ∧ ∀ x ∈ List.zip a a.tail, x.1 < x.2
structure Svc.Ok (s : Svc) : Prop where
  a1 : 1 ≤ s.asks.length
  a2 : s.asks.length ≤ 4
  az : ∀ c ∈ s.asks, Lett c
  asc : ∀ x ∈ List.zip s.asks s.asks.tail, x.1 < x.2
  r1 : 1 ≤ s.rows.length
  r2 : s.rows.length ≤ 40
  rl : ∀ l ∈ s.rows, l.length = s.asks.length
  st : ∀ l ∈ s.rows, ∀ x ∈ l, x.1 < s.rows.length ∧ Lett x.2
def Svc.step (s : Svc) (i c : Nat) : Nat × Nat := ((s.rows[i]?.getD [])[s.asks.idxOf c]?).getD (0, 97)
abbrev small : List Nat := [97, 98, 99, 100, 101, 102, 103, 104, 105, 106, 107, 108, 109, 110, 111, 112, 113, 114, 115, 116, 117, 118, 119, 120, 121, 122]
theorem small_mem {c : Nat} (h : Lett c) : decide (c ∈ small) = true := by
  obtain ⟨h1, h2⟩ := h
  refine decide_eq_true ?_
  simp only [small, List.mem_cons, List.not_mem_nil, or_false]
  omega
theorem sl63 {n : Nat} (h : n ≤ 1000000) : n ≤ sizeLine := by rw [sizeLine_eq]; omega
theorem all_mapT {α : Type} {xs : List α} : (xs.map fun _ => true).all id = true := by simp
theorem beqT {a b : Int} (h : a = b) : (a == b) = true := by simpa using h
theorem beqF {a b : Int} (h : a ≠ b) : (a == b) = false := by simpa using h
theorem deq_int {a b : Int} (h : a = b) : deq (.int a) (.int b) = true := by subst h; show (a == a) = true; simp
theorem deq_intF {a b : Int} (h : a ≠ b) : deq (.int a) (.int b) = false := by show (a == b) = false; simpa using h
abbrev N_is_integer : List Str := ["value"]
def ws_is_integer : WS := (wsSeq (wsRet (wAnd (wCB bIsi (waCons (wVar 0) (waCons (wC (.con (.ty "int"))) waNil))) (wNot (wCB bIsi (waCons (wVar 0) (waCons (wC (.con (.ty "bool"))) waNil)))))) wsNil)
/-- is it a number, and no bool? -/
def intB : D → Option Bool
  | .int _ => some true
  | .non => some false
  | .bl _ => some false
  | .str _ => some false
  | .tup _ => some false
  | .lst _ => some false
  | _ => none
def g_is_integer : WL := fun ds h P => ∃ d b, ds = [d] ∧ intB d = some b ∧ P (.bl b) h
theorem is_integer_ok : ∀ ds h P, g_is_integer ds h P → wF ws_is_integer 1 1 ds h P := by
  rintro ds h P ⟨d, b, rfl, e, p⟩
  refine ⟨rfl, ?_⟩
  cases d with
  | int i =>
    cases e
    (conv => whnf); (try dsimp only)
    (repeat (refine ⟨(by first | rfl | decide | exact ⟨rfl, rfl⟩ | (refine sl63 ?_; simp; done) | (refine lt63 ?_; simp; done)), ?_⟩; (conv => whnf); (try dsimp only)))
    exact gc_same rfl p
  | bl b =>
    cases e
    (conv => whnf); (try dsimp only)
    (repeat (refine ⟨(by first | rfl | decide | exact ⟨rfl, rfl⟩ | (refine sl63 ?_; simp; done) | (refine lt63 ?_; simp; done)), ?_⟩; (conv => whnf); (try dsimp only)))
    exact gc_same rfl p
  | non =>
    cases e
    (conv => whnf); (try dsimp only)
    (repeat (refine ⟨(by first | rfl | decide | exact ⟨rfl, rfl⟩ | (refine sl63 ?_; simp; done) | (refine lt63 ?_; simp; done)), ?_⟩; (conv => whnf); (try dsimp only)))
    exact gc_same rfl p
  | str s =>
    cases e
    (conv => whnf); (try dsimp only)
    (repeat (refine ⟨(by first | rfl | decide | exact ⟨rfl, rfl⟩ | (refine sl63 ?_; simp; done) | (refine lt63 ?_; simp; done)), ?_⟩; (conv => whnf); (try dsimp only)))
    exact gc_same rfl p
  | tup s =>
    cases e
    (conv => whnf); (try dsimp only)
    (repeat (refine ⟨(by first | rfl | decide | exact ⟨rfl, rfl⟩ | (refine sl63 ?_; simp; done) | (refine lt63 ?_; simp; done)), ?_⟩; (conv => whnf); (try dsimp only)))
    exact gc_same rfl p
  | lst s =>
    cases e
    (conv => whnf); (try dsimp only)
    (repeat (refine ⟨(by first | rfl | decide | exact ⟨rfl, rfl⟩ | (refine sl63 ?_; simp; done) | (refine lt63 ?_; simp; done)), ?_⟩; (conv => whnf); (try dsimp only)))
    exact gc_same rfl p
  | _ => cases e
abbrev N_is_from : List Str := ["value", "low", "high"]
def ws_is_from : WS := (wsSeq (wsRet (wAnd (wCB g_is_integer (waCons (wVar 0) waNil)) (wChain gLe gLe (wVar 1) (wVar 0) (wVar 2)))) wsNil)
def g_is_from : WL := fun ds h P => ∃ i lo hi, ds = [.int i, .int lo, .int hi] ∧ (lo ≤ i ∧ i ≤ hi) ∧ P (.bl true) h
theorem is_from_ok : ∀ ds h P, g_is_from ds h P → wF ws_is_from 3 3 ds h P := by
  rintro ds h P ⟨i, lo, hi, rfl, ⟨h1, h2⟩, p⟩
  refine ⟨rfl, ?_⟩
  (conv => whnf); (try dsimp only)
  refine ⟨_, _, rfl, rfl, ?_⟩
  (conv => whnf); (try dsimp only)
  (generalize hdec : decide (lo ≤ i) = bdec; obtain rfl : bdec = true := hdec.symm.trans (decide_eq_true (h1)); clear hdec; (conv => whnf); (try dsimp only))
  (generalize hdec : decide (i ≤ hi) = bdec; obtain rfl : bdec = true := hdec.symm.trans (decide_eq_true (h2)); clear hdec; (conv => whnf); (try dsimp only))
  exact gc_same rfl p
abbrev N_is_letter : List Str := ["value"]
def ws_is_letter : WS := (wsSeq (wsRet (wAnd (wCB bIsi (waCons (wVar 0) (waCons (wC (.con (.ty "str"))) waNil))) (wAnd (wOp (gEqU false) (wCB bLenU (waCons (wVar 0) waNil)) (wC (.int 1))) (wOp (gInU false) (wVar 0) (wC (.str [97, 98, 99, 100, 101, 102, 103, 104, 105, 106, 107, 108, 109, 110, 111, 112, 113, 114, 115, 116, 117, 118, 119, 120, 121, 122])))))) wsNil)
def g_is_letter : WL := fun ds h P => ∃ c, ds = [.str [c]] ∧ Lett c ∧ P (.bl true) h
theorem is_letter_ok : ∀ ds h P, g_is_letter ds h P → wF ws_is_letter 1 1 ds h P := by
  rintro ds h P ⟨c, rfl, hc, p⟩
  refine ⟨rfl, ?_⟩
  (conv => whnf); (try dsimp only)
  refine ⟨(by first | rfl | decide), ?_⟩; (conv => whnf); (try dsimp only)
  rw [small_mem hc]
  exact gc_same rfl p
abbrev N_is_asks : List Str := ["value", "one", "other", "sign"]
def ws_is_asks : WS := (wsSeq (wsIf (wtOr (wtNot (wtTru (wCB bIsi (waCons (wVar 0) (waCons (wC (.con (.ty "str"))) waNil))))) (wtOr (wtNot (wtB (wChain gLe gLe (wC (.int 1)) (wCB bLenU (waCons (wVar 0) waNil)) (wC (.int 4))))) (wtNot (wtTru (wCB bAll (waCons (wLc (wiAny (wVar 0)) (.nm 3) wtYes (wOp (gInU false) (wVar 3) (wC (.str [97, 98, 99, 100, 101, 102, 103, 104, 105, 106, 107, 108, 109, 110, 111, 112, 113, 114, 115, 116, 117, 118, 119, 120, 121, 122]))) [3]) waNil)))))) (wsSeq (wsRet (wC (.bl false))) wsNil) wsNil) (wsSeq (wsRet (wCB bAll (waCons (wLc (wiZip (waCons (wVar 0) (waCons (wSl (wVar 0) (woSome (wC (.int 1))) woNone) waNil))) (.tp (.cons (.nm 1) (.cons (.nm 2) .nil))) wtYes (wOp gLt (wVar 1) (wVar 2)) [1, 2]) waNil))) wsNil))
def g_is_asks : WL := fun ds h P => ∃ a : List Nat, AskOk a ∧ ds = [.str a] ∧ P (.bl true) h
theorem is_asks_ok : ∀ ds h P, g_is_asks ds h P → wF ws_is_asks 4 1 ds h P := by
  rintro ds h P ⟨a, ⟨a1, a2, az, asc⟩, rfl, p⟩
  refine ⟨rfl, ?_⟩
  (conv => whnf); (try dsimp only)
  refine ⟨(by first | rfl | decide), ?_⟩; (conv => whnf); (try dsimp only)
  (generalize hdec : decide ((1 : Int) ≤ (a.length : Int)) = bdec; obtain rfl : bdec = true := hdec.symm.trans (decide_eq_true (by omega)); clear hdec; (conv => whnf); (try dsimp only))
  (generalize hdec : decide ((a.length : Int) ≤ 4) = bdec; obtain rfl : bdec = true := hdec.symm.trans (decide_eq_true (by omega)); clear hdec; (conv => whnf); (try dsimp only))
  refine lcm a (fun c => .str [c]) (fun _ => .bl true) rfl rfl (sl63 (by omega)) (fun c hc h' kp sk q => ?_) (fun _ _ => rfl) ?_
  · (conv => whnf); (try dsimp only)
    rw [small_mem (az c hc)]
    exact q
  (conv => whnf); (try dsimp only); refine ⟨_, blsOf_map (fun _ => true) _, ?_⟩; simp only [all_mapT]; (conv => whnf); (try dsimp only)
  refine lcm (a.zip a.tail) (fun x => .tup [.str [x.1], .str [x.2]]) (fun _ => .bl true) ?_ rfl ?_ (fun x hx h' kp sk q => ?_) (fun _ _ => rfl) ?_
  · have ec : cutL a (some 1) none = a.tail := by
      rw [cut_pos (by decide)]; simp
    show some (List.zipWith (fun x y => D.tup [x, y]) (a.map fun c => .str [c]) ((cutL a (some 1) none).map fun c => .str [c])) = _
    rw [ec, List.zipWith_map, List.zip, List.map_zipWith]
  · refine sl63 ?_
    rw [List.length_zip]; omega
  · (conv => whnf); (try dsimp only)
    rw [decide_eq_true (show [x.1] < [x.2] from List.cons_lt_cons_iff.mpr (.inl (asc x hx)))]
    exact q
  · (conv => whnf); (try dsimp only); refine ⟨_, blsOf_map (fun _ => true) _, ?_⟩; simp only [all_mapT]; (conv => whnf); (try dsimp only)
    exact gc_same rfl p
abbrev N_is_step : List Str := ["size", "value"]
def ws_is_step : WS := (wsSeq (wsIf (wtOr (wtNot (wtTru (wCB bIsi (waCons (wVar 1) (waCons (wC (.con (.ty "tuple"))) waNil))))) (wtB (wOp (gEqU true) (wCB bLenU (waCons (wVar 1) waNil)) (wC (.int 2))))) (wsSeq (wsRet (wC (.bl false))) wsNil) wsNil) (wsSeq (wsRet (wAnd (wCB g_is_from (waCons (wOp gIxU (wVar 1) (wC (.int 0))) (waCons (wC (.int 0)) (waCons (wOp gSub (wVar 0) (wC (.int 1))) waNil)))) (wCB g_is_letter (waCons (wOp gIxU (wVar 1) (wC (.int 1))) waNil)))) wsNil))
def g_is_step : WL := fun ds h P => ∃ (n : Nat) (x : Nat × Nat), ds = [.int n, stD x] ∧ x.1 < n ∧ Lett x.2 ∧ P (.bl true) h
theorem is_step_ok : ∀ ds h P, g_is_step ds h P → wF ws_is_step 2 2 ds h P := by
  rintro ds h P ⟨n, x, rfl, h1, h2, p⟩
  refine ⟨rfl, ?_⟩
  (conv => whnf); (try dsimp only)
  refine ⟨(by first | rfl | decide), ?_⟩; (conv => whnf); (try dsimp only)
  refine ⟨_, _, _, rfl, ⟨by omega, by omega⟩, ?_⟩
  (conv => whnf); (try dsimp only)
  refine ⟨_, rfl, h2, ?_⟩
  exact gc_same rfl p
theorem nrL_map {α : Type} {f : α → D} (hf : ∀ a, (f a).nr = true) : ∀ l : List α, D.nrL (l.map f) = true
  | [] => by unfold D.nrL; rfl
  | a :: l => by
    rw [List.map_cons]; unfold D.nrL
    rw [hf a, nrL_map hf l]; rfl
theorem row_nr (l : List (Nat × Nat)) : (rowD l).nr = true := by
  unfold rowD D.nr
  exact nrL_map (fun _ => rfl) l
theorem svc_nr (s : Svc) : s.d.nr = true := by
  unfold Svc.d
  simp only [D.nr, D.nrL, Bool.true_and, Bool.and_true]
  exact nrL_map row_nr _
abbrev N_is_service : List Str := ["value", "asks", "rows", "line", "step"]
def ws_is_service : WS := (wsSeq (wsIf (wtOr (wtNot (wtTru (wCB bIsi (waCons (wVar 0) (waCons (wC (.con (.ty "tuple"))) waNil))))) (wtOr (wtB (wOp (gEqU true) (wCB bLenU (waCons (wVar 0) waNil)) (wC (.int 2)))) (wtNot (wtTru (wCB g_is_asks (waCons (wOp gIxU (wVar 0) (wC (.int 0))) waNil)))))) (wsSeq (wsRet (wC (.bl false))) wsNil) wsNil) (wsSeq (wsAsg (wgPat (.tp (.cons (.nm 1) (.cons (.nm 2) .nil)))) (wVar 0)) (wsSeq (wsIf (wtOr (wtNot (wtTru (wCB bIsi (waCons (wVar 2) (waCons (wC (.con (.ty "tuple"))) waNil))))) (wtNot (wtB (wChain gLe gLe (wC (.int 1)) (wCB bLenU (waCons (wVar 2) waNil)) (wC (.int 40)))))) (wsSeq (wsRet (wC (.bl false))) wsNil) wsNil) (wsSeq (wsIf (wtNot (wtTru (wCB bAll (waCons (wLc (wiAny (wVar 2)) (.nm 3) wtYes (wAnd (wCB bIsi (waCons (wVar 3) (waCons (wC (.con (.ty "tuple"))) waNil))) (wOp (gEqU false) (wCB bLenU (waCons (wVar 3) waNil)) (wCB bLenU (waCons (wVar 1) waNil)))) [3]) waNil)))) (wsSeq (wsRet (wC (.bl false))) wsNil) wsNil) (wsSeq (wsRet (wCB bAll (waCons (wLc2 (wiAny (wVar 2)) (.nm 3) wtYes (wiAny (wVar 3)) (.nm 4) wtYes (wCB g_is_step (waCons (wCB bLenU (waCons (wVar 2) waNil)) (waCons (wVar 4) waNil))) [3, 4] [4]) waNil))) wsNil)))))
def g_is_service : WL := fun ds h P => ∃ s : Svc, s.Ok ∧ ds = [s.d] ∧ P (.bl true) h
theorem is_service_ok : ∀ ds h P, g_is_service ds h P → wF ws_is_service 5 1 ds h P := by
  rintro ds h P ⟨s, ok, rfl, p⟩
  refine ⟨rfl, ?_⟩
  (conv => whnf); (try dsimp only)
  refine ⟨(by first | rfl | decide), ?_⟩; (conv => whnf); (try dsimp only)
  refine ⟨s.asks, ⟨ok.a1, ok.a2, ok.az, ok.asc⟩, rfl, ?_⟩
  (conv => whnf); (try dsimp only)
  refine ⟨(by first | rfl | decide), ?_⟩; (conv => whnf); (try dsimp only)
  have hlr : (s.rows.map rowD).length = s.rows.length := List.length_map _
  have hr1 := ok.r1
  have hr2 := ok.r2
  (generalize hdec : decide ((1 : Int) ≤ ((s.rows.map rowD).length : Int)) = bdec; obtain rfl : bdec = true := hdec.symm.trans (decide_eq_true (by rw [hlr]; omega)); clear hdec; (conv => whnf); (try dsimp only))
  (generalize hdec : decide (((s.rows.map rowD).length : Int) ≤ 40) = bdec; obtain rfl : bdec = true := hdec.symm.trans (decide_eq_true (by rw [hlr]; omega)); clear hdec; (conv => whnf); (try dsimp only))
  refine lcm s.rows rowD (fun _ => .bl true) rfl rfl (sl63 (by omega)) (fun l hl h' kp sk q => ?_) (fun _ _ => rfl) ?_
  · (conv => whnf); (try dsimp only)
    refine ⟨(by first | rfl | decide), ?_⟩; (conv => whnf); (try dsimp only)
    rw [beqT (by rw [List.length_map, ok.rl l hl])]
    exact q
  · (conv => whnf); (try dsimp only); refine ⟨_, blsOf_map (fun _ => true) _, ?_⟩; simp only [all_mapT]; (conv => whnf); (try dsimp only)
    refine lc2v s.rows rowD (fun _ => true) (fun l => l) stD (fun _ _ => some (.bl true)) rfl rfl 4 (fun l hl => ?_) (sl63 (by omega)) (fun l hl => ?_) (fun _ _ _ _ y e => by cases e; rfl) ?_
    · have := ok.rl l hl
      have := ok.a2
      omega
    · refine ⟨_, rfl, fun h' Q q => q, fun _ => ⟨fun h' Q q => q, fun x hx h' kp sk k1 _ => ?_⟩⟩
      (conv => whnf); (try dsimp only)
      obtain ⟨j1, j2⟩ := ok.st l hl x hx
      exact ⟨_, x, rfl, by rw [hlr]; exact j1, j2, k1 _ rfl⟩
    · (conv => whnf); (try dsimp only)
      have e : (s.rows.flatMap fun a => if true = true then a.filterMap (fun _ => some (D.bl true)) else []) = (s.rows.flatten).map fun _ => D.bl true := by
        rw [List.flatMap_def, List.map_flatten]
        congr 1
        apply List.map_congr_left
        intro a _
        rw [if_pos rfl, List.filterMap_eq_map']
      rw [e]
      (conv => whnf); (try dsimp only); refine ⟨_, blsOf_map (fun _ => true) _, ?_⟩; simp only [all_mapT]; (conv => whnf); (try dsimp only)
      exact gc_same rfl p
abbrev N_step_of : List Str := ["service", "stand", "ask"]
def ws_step_of : WS := (wsSeq (wsRet (wOp gIxU (wOp gIxU (wOp gIxU (wVar 0) (wC (.int 1))) (wVar 1)) (wBM "str" mIndex (wOp gIxU (wVar 0) (wC (.int 0))) (waCons (wVar 2) waNil)))) wsNil)
def g_step_of : WL := fun ds h P => ∃ (s : Svc) (i c : Nat), s.Ok ∧ i < s.rows.length ∧ c ∈ s.asks ∧ ds = [s.d, .int i, .str [c]] ∧ P (stD (s.step i c)) h
theorem Svc.Ok.at_ {s : Svc} (ok : s.Ok) {i c : Nat} (hi : i < s.rows.length) (hc : c ∈ s.asks) : atI (s.rows.map rowD) (i : Int) = some (rowD (s.rows[i]?.getD [])) ∧ atI ((s.rows[i]?.getD []).map stD) (s.asks.idxOf c : Nat) = some (stD (s.step i c)) ∧
    s.step i c ∈ s.rows[i]?.getD [] ∧ s.rows[i]?.getD [] ∈ s.rows := by
  have e : s.rows[i]? = some s.rows[i] := List.getElem?_eq_getElem hi
  have hl := ok.rl s.rows[i] (List.getElem_mem hi)
  have hx : s.asks.idxOf c < s.rows[i].length := by rw [hl]; exact List.idxOf_lt_length_of_mem hc
  have e2 : s.rows[i][s.asks.idxOf c]? = some s.rows[i][s.asks.idxOf c] := List.getElem?_eq_getElem hx
  have e3 : s.step i c = s.rows[i][s.asks.idxOf c] := by unfold Svc.step; rw [e]; simp [e2]
  refine ⟨atI_nat (by rw [List.getElem?_map, e]; rfl), atI_nat (by rw [List.getElem?_map, e, e3]; simp [e2]), ?_, ?_⟩
  · rw [e3, e]; simp
  · rw [e]; simp
theorem step_of_ok : ∀ ds h P, g_step_of ds h P → wF ws_step_of 3 3 ds h P := by
  rintro ds h P ⟨s, i, c, ok, hi, hc, rfl, p⟩
  refine ⟨rfl, ?_⟩
  obtain ⟨e1, e2, e3, e4⟩ := ok.at_ hi hc
  (conv => whnf); (try dsimp only)
  rw [e1]
  (conv => whnf); (try dsimp only)
  refine ⟨rfl, hc, ?_⟩
  (conv => whnf); (try dsimp only)
  rw [e2]
  exact gc_same rfl p
end MP

namespace MP
open PySem PySem.Spec PyProof.Rows L2
/-! ### histories -/
inductive It where
  | ch (c : Nat) | bk (n : Nat)
def It.d : It → D
  | .ch c => .str [c]
  | .bk n => .int n
def chD (c : Nat) : D := .str [c]
def histD (l : List It) : D := .tup (l.map It.d)
def HOk (A : Nat → Prop) : Nat → List It → Prop
  | _, [] => True
  | m, .ch c :: r => A c ∧ HOk A (m + 1) r
  | m, .bk n :: r => 1 ≤ n ∧ n ≤ m ∧ HOk A m r
theorem HOk.imp {A B : Nat → Prop} (i : ∀ c, A c → B c) : ∀ {m : Nat} {l : List It}, HOk A m l → HOk B m l
  | _, [], _ => trivial
  | m, .ch c :: r, h => ⟨i c h.1, HOk.imp i h.2⟩
  | m, .bk n :: r, h => ⟨h.1, h.2.1, HOk.imp i h.2.2⟩
def tell (s : Svc) : Nat → List Nat → List Nat
  | _, [] => []
  | i, c :: r => (s.step i c).2 :: tell s (s.step i c).1 r
def firsts : List It → List Nat
  | [] => []
  | .ch c :: r => c :: firsts r
  | .bk _ :: r => firsts r
def mean : List Nat → List It → List Nat
  | _, [] => []
  | row, .ch c :: r => c :: mean (row ++ [c]) r
  | row, .bk n :: r => row[row.length - n]?.getD 0 :: mean row r
theorem mean_len : ∀ (row : List Nat) (l : List It), (mean row l).length = l.length
  | _, [] => rfl
  | row, .ch c :: r => by simp [mean, mean_len]
  | row, .bk n :: r => by simp [mean, mean_len]
theorem mean_in {A : Nat → Prop} : ∀ {row : List Nat} {l : List It}, (∀ c ∈ row, A c) → HOk A row.length l → ∀ c ∈ mean row l, A c
  | _, [], _, _, _, h => by simp [mean] at h
  | row, .ch c :: r, hr, h, x, hx => by
    rcases List.mem_cons.mp hx with rfl | hx
    · exact h.1
    · refine mean_in (row := row ++ [c]) (fun z hz => ?_) (by rw [List.length_append]; exact h.2) x hx
      rcases List.mem_append.mp hz with hz | hz
      · exact hr z hz
      · rw [List.mem_singleton.mp hz]; exact h.1
  | row, .bk n :: r, hr, h, x, hx => by
    rcases List.mem_cons.mp hx with rfl | hx
    · have hlt : row.length - n < row.length := by have := h.1; have := h.2.1; omega
      rw [List.getElem?_eq_getElem hlt]
      exact hr _ (List.getElem_mem hlt)
    · exact mean_in hr h.2.2 x hx
theorem Svc.Ok.lt {s : Svc} (ok : s.Ok) {i c : Nat} (hi : i < s.rows.length) (hc : c ∈ s.asks) : (s.step i c).1 < s.rows.length ∧ Lett (s.step i c).2 := by
  obtain ⟨_, _, e3, e4⟩ := ok.at_ hi hc
  exact ok.st _ e4 _ e3
theorem atI_neg {α : Type} {xs : List α} {n : Nat} {v : α} (h1 : 1 ≤ n) (h2 : n ≤ xs.length) (h : xs[xs.length - n]? = some v) : atI xs (-(n : Int)) = some v := by
  unfold atI ixN
  rw [if_neg (by omega), if_pos (by omega)]
  show xs[(-(n : Int) + xs.length).toNat]? = _
  rw [show (-(n : Int) + (xs.length : Int)).toNat = xs.length - n by omega]; exact h
abbrev N_answered : List Str := ["service", "row", "ask", "stand", "found", "answer"]
def ws_answered : WS := (wsSeq (wsAsg (wgPat (.tp (.cons (.nm 3) (.cons (.nm 4) .nil)))) (wTup (waCons (wC (.int 0)) (waCons (wC (.str [])) waNil)))) (wsSeq (wsFor (wiAny (wVar 1)) (wgPat (.nm 2)) (wsSeq (wsAsg (wgPat (.tp (.cons (.nm 3) (.cons (.nm 5) .nil)))) (wCB g_step_of (waCons (wVar 0) (waCons (wVar 3) (waCons (wVar 2) waNil))))) (wsSeq (wsAug 4 gIadd (wVar 5)) wsNil))) (wsSeq (wsRet (wVar 4)) wsNil)))
def g_answered : WL := fun ds h P => ∃ (s : Svc) (row : List Nat), s.Ok ∧ (∀ c ∈ row, c ∈ s.asks) ∧ row.length ≤ 1000000 ∧ ds = [s.d, .str row] ∧ P (.str (tell s 0 row)) h
theorem answered_ok : ∀ ds h P, g_answered ds h P → wF ws_answered 6 2 ds h P := by
  rintro ds h P ⟨s, row, ok, hr, hz, rfl, p⟩
  refine ⟨rfl, ?_⟩
  (conv => whnf); (try dsimp only)
  refine ⟨(by first | rfl | decide), ?_⟩; (conv => whnf); (try dsimp only)
  refine fo_fix row chD (fun rest fr h' => h' = h ∧ ∃ i f x y, fr = [some s.d, some (.str row), x, some (.int (i : Nat)), some (.str f), y] ∧ i < s.rows.length ∧ (∀ c ∈ rest, c ∈ s.asks) ∧ f ++ tell s i rest = tell s 0 row ∧ f.length + rest.length = row.length) rfl ?_ ?_ ?_
  · exact ⟨rfl, 0, [], none, none, rfl, by have := ok.r1; omega, hr, rfl, by simp⟩
  · rintro c rest fr h' hc ⟨rfl, i, f, x, y, rfl, hi, hin, he, hl⟩ k hk
    (conv => whnf); (try dsimp only)
    refine ⟨s, i, c, ok, hi, hin c (by simp), rfl, ?_⟩
    (conv => whnf); (try dsimp only)
    rw [List.length_cons] at hl
    refine ⟨sl63 (by simp; omega), ?_⟩
    refine .inl (hk _ _ ⟨rfl, _, _, _, _, rfl, (ok.lt hi (hin c (by simp))).1, fun z hz => hin z (by simp [hz]), ?_, ?_⟩)
    · rw [← he, List.append_assoc]; rfl
    · rw [List.length_append, List.length_singleton]; omega
  · rintro fr h' ⟨rfl, i, f, x, y, rfl, hi, hin, he, hl⟩
    (conv => whnf); (try dsimp only)
    have : f = tell s 0 row := by rw [← he]; simp [tell]
    rw [this]
    exact gc_same rfl p
def isCh : It → Option D
  | .ch c => some (chD c)
  | .bk _ => none
theorem firsts_map : ∀ hs : List It, hs.filterMap isCh = (firsts hs).map chD
  | [] => rfl
  | .ch c :: r => by
    have := firsts_map r
    simp [isCh, firsts, this, chD]
  | .bk n :: r => by
    have := firsts_map r
    rw [List.filterMap_cons_none rfl, this]; rfl
theorem strs_ch : ∀ l : List Nat, strsOf (l.map chD) = some (l.map fun c => [c])
  | [] => rfl
  | c :: l => by
    show (strsOf (l.map chD)).map ([c] :: ·) = _
    rw [strs_ch l]; rfl
theorem join_ch : ∀ l : List Nat, joinL [] (l.map fun c => [c]) = l
  | [] => rfl
  | [c] => rfl
  | c :: d :: l => by
    show [c] ++ ([] ++ joinL [] ((d :: l).map fun c => [c])) = _
    rw [join_ch (d :: l)]; rfl
theorem firsts_len : ∀ hs : List It, (firsts hs).length ≤ hs.length
  | [] => Nat.le_refl _
  | .ch c :: r => by simpa [firsts] using firsts_len r
  | .bk n :: r => by have := firsts_len r; simp [firsts]; omega
theorem sum_ones : ∀ l : List Nat, ((l.map fun c => [c]).map List.length).sum = l.length
  | [] => rfl
  | c :: l => by
    have := sum_ones l
    simp only [List.map_cons, List.sum_cons, List.length_cons, List.length_nil] at *
    omega
def lead (s : Svc) : Nat → List Nat → Nat
  | i, [] => i
  | i, c :: r => lead s (s.step i c).1 r
abbrev N_led : List Str := ["service", "stand", "row", "ask"]
def ws_led : WS := (wsSeq (wsFor (wiAny (wVar 2)) (wgPat (.nm 3)) (wsSeq (wsAsg (wgPat (.nm 1)) (wOp gIxU (wCB g_step_of (waCons (wVar 0) (waCons (wVar 1) (waCons (wVar 3) waNil)))) (wC (.int 0)))) wsNil)) (wsSeq (wsRet (wVar 1)) wsNil))
def g_led : WL := fun ds h P => ∃ (s : Svc) (i : Nat) (row : List Nat) (d : D), s.Ok ∧ i < s.rows.length ∧ (∀ c ∈ row, c ∈ s.asks) ∧ row.length ≤ 1000000 ∧ (d = .str row ∨ d = .lst (row.map chD)) ∧ ds = [s.d, .int (i : Nat), d] ∧ P (.int (lead s i row : Nat)) h
theorem led_ok : ∀ ds h P, g_led ds h P → wF ws_led 4 3 ds h P := by
  rintro ds h P ⟨s, i0, row, d, ok, hi0, hr, hz, hd, rfl, p⟩
  refine ⟨rfl, ?_⟩
  have key : ∀ src : Src, src.its = some (row.map chD) → ∃ n, foN h src (wgPat (.nm 3)) (wsSeq (wsAsg (wgPat (.nm 1)) (wOp gIxU (wCB g_step_of (waCons (wVar 0) (waCons (wVar 1) (waCons (wVar 3) waNil)))) (wC (.int 0)))) wsNil) { nx := fun fr h2 => wsSeq (wsRet (wVar 1)) wsNil { nx := fun _ h' => gcK h P .non h', rt := gcK h P } fr h2, rt := gcK h P } n 0 [some s.d, some (.int (i0 : Nat)), some d, none] h := fun src hsrc => by
    refine fo_fix row chD (fun rest fr h' => h' = h ∧ ∃ (i : Nat) (x : Option D), fr = [some s.d, some (.int (i : Nat)), some d, x] ∧ i < s.rows.length ∧ (∀ c ∈ rest, c ∈ s.asks) ∧ lead s i rest = lead s i0 row) hsrc ?_ ?_ ?_
    · exact ⟨rfl, i0, none, rfl, hi0, hr, rfl⟩
    · rintro c rest fr h' hc ⟨rfl, i, x, rfl, hi, hin, he⟩ k hk
      (conv => whnf); (try dsimp only)
      refine ⟨s, i, c, ok, hi, hin c (by simp), rfl, ?_⟩
      (conv => whnf); (try dsimp only)
      exact .inl (hk _ _ ⟨rfl, _, _, rfl, (ok.lt hi (hin c (by simp))).1, fun z hz => hin z (by simp [hz]), he⟩)
    · rintro fr h' ⟨rfl, i, x, rfl, hi, hin, he⟩
      (conv => whnf); (try dsimp only)
      have : i = lead s i0 row := he
      rw [this]
      exact gc_same rfl p
  rcases hd with rfl | rfl
  · (conv => whnf); (try dsimp only)
    exact key _ rfl
  · (conv => whnf); (try dsimp only)
    exact key _ rfl
end MP

namespace MP
open PySem PySem.Spec PyProof.Rows L2
/-! ### drawing -/
def RowD (r : List D) : Prop := ∃ (ns : List Int) (a seed rest : Int), r = [.scr ns, .int a, .int seed, .int rest] ∧ 0 ≤ a ∧ 0 ≤ seed ∧ seed < 2147483647 ∧ 0 ≤ rest
theorem RowD.nr {r : List D} (R : RowD r) : D.nrL r = true := by
  obtain ⟨ns, a, seed, rest, rfl, _⟩ := R
  rfl
structure RowAt (h : Hq) (n : Nat) (r : List D) : Prop where
  at_ : lstAt h n = some r
  ok : RowD r
theorem RowAt.set {h n r r'} (R : RowAt h n r) (ok : RowD r') : RowAt (h.set n (.lst r')) n r' := ⟨lst_set R.at_, ok⟩
theorem RowAt.pre {h h' n r} (R : RowAt h n r) (p : h <+: h') : RowAt h' n r := ⟨pre_lst p R.at_, R.ok⟩
theorem set_same {h : Hq} {n : Nat} {r : List D} (e : lstAt h n = some r) : h.set n (.lst r) = h := by
  have := lstAt_get e
  obtain ⟨hlt, he⟩ := List.getElem?_eq_some_iff.mp this
  rw [← he, List.set_getElem_self]
abbrev N_law_taken : List Str := ["_law_row_here", "_law_many", "_law_cell", "_law_found"]
def ws_law_taken : WS := (wsSeq (wsIf (wtB (wOp gGt (wOp gIxU (wVar 0) (wC (.int 3))) (wC (.int 0)))) (wsSeq (wsAsg (wgPat (.nm 3)) (wOp gMod (wCB bInt (waCons (wOp gIxU (wVar 0) (wC (.int 3))) waNil)) (wVar 1))) (wsSeq (wsAsg (wgSub (wVar 0) (wC (.int 3))) (wOp gFdiv (wOp gIxU (wVar 0) (wC (.int 3))) (wVar 1))) (wsSeq (wsRet (wVar 3)) wsNil))) wsNil) (wsSeq (wsAsg (wgSub (wVar 0) (wC (.int 1))) (wOp gAdd (wOp gIxU (wVar 0) (wC (.int 1))) (wC (.int 1)))) (wsSeq (wsIf (wtB (wOp gGt (wOp gIxU (wVar 0) (wC (.int 1))) (wCB bLenU (waCons (wOp gIxU (wVar 0) (wC (.int 0))) waNil)))) (wsSeq (wsAsg (wgSub (wVar 0) (wC (.int 2))) (wOp gMod (wCB bInt (waCons (wOp gAdd (wOp gMul (wOp gIxU (wVar 0) (wC (.int 2))) (wC (.int 48271))) (wC (.int 11))) waNil)) (wC (.int 2147483647)))) (wsSeq (wsRet (wOp gMod (wCB bInt (waCons (wOp gFdiv (wOp gIxU (wVar 0) (wC (.int 2))) (wC (.int 7))) waNil)) (wVar 1))) wsNil)) wsNil) (wsSeq (wsAsg (wgPat (.nm 2)) (wOp gIxU (wOp gIxU (wVar 0) (wC (.int 0))) (wOp gSub (wOp gIxU (wVar 0) (wC (.int 1))) (wC (.int 1))))) (wsSeq (wsAsg (wgSub (wVar 0) (wC (.int 2))) (wOp gMod (wCB bInt (waCons (wOp gAdd (wOp gAdd (wOp gMul (wOp gIxU (wVar 0) (wC (.int 2))) (wC (.int 48271))) (wVar 2)) (wC (.int 11))) waNil)) (wC (.int 2147483647)))) (wsSeq (wsIf (wtB (wOp gGe (wVar 2) (wOp gPow (wC (.int 10)) (wC (.int 18))))) (wsSeq (wsAsg (wgSub (wVar 0) (wC (.int 3))) (wOp gFdiv (wVar 2) (wVar 1))) wsNil) wsNil) (wsSeq (wsRet (wOp gMod (wCB bInt (waCons (wVar 2) waNil)) (wVar 1))) wsNil)))))))
def g_law_taken : WL := fun ds h P => ∃ (n : Nat) (r : List D) (q : Nat), ds = [.ref n, .int q] ∧ RowAt h n r ∧ 1 ≤ q ∧ q < 1073741824 ∧ ∀ (z : Nat) (r' : List D), z < q → RowD r' → P (.int z) (h.set n (.lst r'))
theorem law_taken_ok : ∀ ds h P, g_law_taken ds h P → wF ws_law_taken 4 2 ds h P := by
  rintro ds h P ⟨n, r, q, rfl, R, q1, q2, hP⟩
  obtain ⟨hn, ns, a, seed, rest, rfl, a0, s0, s1, r0⟩ := R
  have R : RowAt h n [.scr ns, .int a, .int seed, .int rest] := ⟨hn, ns, a, seed, rest, rfl, a0, s0, s1, r0⟩
  have fin : ∀ (z : Int) (r' : List D), 0 ≤ z → z < q → RowD r' → gcK h P (.int z) (h.set n (.lst r')) := by
    intro z r' z0 z1 ok
    have := hP z.toNat r' (by omega) ok
    rw [Int.toNat_of_nonneg z0] at this
    exact gc_mut pre_refl ok.nr rfl this
  refine ⟨rfl, ?_⟩
  (conv => whnf); (try dsimp only)
  simp only [lstAt_get hn]
  (conv => whnf); (try dsimp only)
  by_cases hr : 0 < rest
  · (generalize hdec : decide ((0 : Int) < rest) = bdec; obtain rfl : bdec = true := hdec.symm.trans (decide_eq_true (hr)); clear hdec; (conv => whnf); (try dsimp only))
    simp only [lstAt_get hn]
    (conv => whnf); (try dsimp only)
    refine ⟨by omega, ?_⟩
    (conv => whnf); (try dsimp only)
    simp only [lstAt_get hn]
    (conv => whnf); (try dsimp only)
    refine ⟨⟨by omega, by omega⟩, ?_⟩
    (conv => whnf); (try dsimp only)
    simp only [lstAt_get hn]
    exact fin _ _ (Int.emod_nonneg _ (by omega)) (Int.emod_lt_of_pos _ (by omega)) ⟨ns, a, seed, rest / q, rfl, a0, s0, s1, Int.ediv_nonneg r0 (by omega)⟩
  · (generalize hdec : decide ((0 : Int) < rest) = bdec; obtain rfl : bdec = false := hdec.symm.trans (decide_eq_false (hr)); clear hdec; (conv => whnf); (try dsimp only))
    simp only [lstAt_get hn]
    (conv => whnf); (try dsimp only)
    simp only [lstAt_get hn]
    show wsSeq _ _ _ _ (h.set n (.lst [.scr ns, .int (a + 1), .int seed, .int rest]))
    have R1 : RowAt (h.set n (.lst [.scr ns, .int (a + 1), .int seed, .int rest])) n [.scr ns, .int (a + 1), .int seed, .int rest] := R.set ⟨ns, a + 1, seed, rest, rfl, by omega, s0, s1, r0⟩
    have fin1 : ∀ (z : Int) (r' : List D), 0 ≤ z → z < q → RowD r' → gcK h P (.int z) ((h.set n (.lst [.scr ns, .int (a + 1), .int seed, .int rest])).set n (.lst r')) := fun z r' z0 z1 ok => by rw [List.set_set]; exact fin z r' z0 z1 ok
    generalize h.set n (.lst [.scr ns, .int (a + 1), .int seed, .int rest]) = h1 at *
    have hn1 := R1.at_
    (conv => whnf); (try dsimp only)
    simp only [lstAt_get hn1]
    (conv => whnf); (try dsimp only)
    simp only [lstAt_get hn1]
    (conv => whnf); (try dsimp only)
    have seedok : ∀ x : Int, 0 ≤ x % 2147483647 ∧ x % 2147483647 < 2147483647 := fun x => ⟨Int.emod_nonneg _ (by omega), Int.emod_lt_of_pos _ (by omega)⟩
    by_cases hc : (ns.length : Int) < a + 1
    · (generalize hdec : decide (((ns.map D.int).length : Int) < a + 1) = bdec; obtain rfl : bdec = true := hdec.symm.trans (decide_eq_true (by rw [List.length_map]; exact hc)); clear hdec; (conv => whnf); (try dsimp only))
      simp only [lstAt_get hn1]
      (conv => whnf); (try dsimp only)
      refine ⟨.inr (by omega), ?_⟩
      (conv => whnf); (try dsimp only)
      refine ⟨by omega, ?_⟩
      (conv => whnf); (try dsimp only)
      simp only [lstAt_get hn1]
      show wsSeq _ _ _ _ (h1.set n (.lst [.scr ns, .int (a + 1), .int ((seed * 48271 + 11) % 2147483647), .int rest]))
      (conv => whnf); (try dsimp only)
      simp only [lstAt_get (lst_set hn1)]
      (conv => whnf); (try dsimp only)
      refine ⟨⟨by omega, by omega⟩, ?_⟩
      (conv => whnf); (try dsimp only)
      refine ⟨by omega, ?_⟩
      exact fin1 _ _ (Int.emod_nonneg _ (by omega)) (Int.emod_lt_of_pos _ (by omega)) ⟨ns, a + 1, _, rest, rfl, by omega, (seedok _).1, (seedok _).2, r0⟩
    · (generalize hdec : decide (((ns.map D.int).length : Int) < a + 1) = bdec; obtain rfl : bdec = false := hdec.symm.trans (decide_eq_false (by rw [List.length_map]; exact hc)); clear hdec; (conv => whnf); (try dsimp only))
      simp only [lstAt_get hn1]
      (conv => whnf); (try dsimp only)
      simp only [lstAt_get hn1]
      (conv => whnf); (try dsimp only)
      have hat : atI (ns.map D.int) (a + 1 - 1) = some (.int (ns[a.toNat]'(by omega))) := by
        have e : a + 1 - 1 = ((a.toNat : Nat) : Int) := by omega
        rw [e]
        exact atI_nat (by rw [List.getElem?_map, List.getElem?_eq_getElem (by omega)]; rfl)
      generalize ns[a.toNat]'(by omega) = cell at hat
      simp only [hat]
      (conv => whnf); (try dsimp only)
      simp only [lstAt_get hn1]
      (conv => whnf); (try dsimp only)
      refine ⟨.inr (by omega), ?_⟩
      (conv => whnf); (try dsimp only)
      refine ⟨by omega, ?_⟩
      (conv => whnf); (try dsimp only)
      simp only [lstAt_get hn1]
      show wsSeq _ _ _ _ (h1.set n (.lst [.scr ns, .int (a + 1), .int ((seed * 48271 + cell + 11) % 2147483647), .int rest]))
      (conv => whnf); (try dsimp only)
      refine ⟨⟨by omega, by omega, by decide⟩, ?_⟩
      (conv => whnf); (try dsimp only)
      have e10 : (10 : Int) ^ (18 : Int).toNat = 1000000000000000000 := by decide
      by_cases hcl : (1000000000000000000 : Int) ≤ cell
      · (generalize hdec : decide ((10 : Int) ^ (18 : Int).toNat ≤ cell) = bdec; obtain rfl : bdec = true := hdec.symm.trans (decide_eq_true (by rw [e10]; exact hcl)); clear hdec; (conv => whnf); (try dsimp only))
        refine ⟨⟨by omega, by omega⟩, ?_⟩
        (conv => whnf); (try dsimp only)
        simp only [lstAt_get (lst_set hn1)]
        show wsSeq _ _ _ _ ((h1.set n (.lst [.scr ns, .int (a + 1), .int ((seed * 48271 + cell + 11) % 2147483647), .int rest])).set n (.lst [.scr ns, .int (a + 1), .int ((seed * 48271 + cell + 11) % 2147483647), .int (cell / q)]))
        rw [List.set_set]
        (conv => whnf); (try dsimp only)
        refine ⟨by omega, ?_⟩
        exact fin1 _ _ (Int.emod_nonneg _ (by omega)) (Int.emod_lt_of_pos _ (by omega)) ⟨ns, a + 1, _, cell / q, rfl, by omega, (seedok _).1, (seedok _).2, Int.ediv_nonneg (by omega) (by omega)⟩
      · (generalize hdec : decide ((10 : Int) ^ (18 : Int).toNat ≤ cell) = bdec; obtain rfl : bdec = false := hdec.symm.trans (decide_eq_false (by rw [e10]; exact hcl)); clear hdec; (conv => whnf); (try dsimp only))
        refine ⟨by omega, ?_⟩
        exact fin1 _ _ (Int.emod_nonneg _ (by omega)) (Int.emod_lt_of_pos _ (by omega)) ⟨ns, a + 1, _, rest, rfl, by omega, (seedok _).1, (seedok _).2, r0⟩
abbrev N_law_pick : List Str := ["_law_row_here", "_law_things"]
def ws_law_pick : WS := (wsSeq (wsRet (wOp gIxU (wVar 1) (wCB g_law_taken (waCons (wVar 0) (waCons (wCB bLenU (waCons (wVar 1) waNil)) waNil))))) wsNil)
def g_law_pick : WL := fun ds h P => ∃ (n : Nat) (r : List D) (d : D) (es : List D), ds = [.ref n, d] ∧ (d = .lst es ∨ d = .tup es) ∧ RowAt h n r ∧ 1 ≤ es.length ∧ es.length ≤ 1000000 ∧ D.nrL es = true ∧
  ∀ (z : Nat) (hz : z < es.length) (r' : List D), RowD r' → P es[z] (h.set n (.lst r'))
theorem nrL_get : ∀ {es : List D} {z : Nat} (hz : z < es.length), D.nrL es = true → es[z].nr = true
  | e :: es, 0, _, h => by unfold D.nrL at h; simp only [Bool.and_eq_true] at h; exact h.1
  | e :: es, z + 1, hz, h => by
    unfold D.nrL at h
    simp only [Bool.and_eq_true] at h
    exact nrL_get (es := es) (by simpa using hz) h.2
theorem law_pick_ok : ∀ ds h P, g_law_pick ds h P → wF ws_law_pick 2 2 ds h P := by
  rintro ds h P ⟨n, r, d, es, rfl, hd, R, e1, e2, e3, hP⟩
  refine ⟨rfl, ?_⟩
  rcases hd with rfl | rfl
  · (conv => whnf); (try dsimp only)
    refine ⟨n, r, es.length, rfl, R, e1, by omega, fun z r' hz ok => ?_⟩
    (conv => whnf); (try dsimp only)
    simp only [atI_nat (List.getElem?_eq_getElem hz)]
    exact gc_mut pre_refl ok.nr (nrL_get hz e3) (hP z hz r' ok)
  · (conv => whnf); (try dsimp only)
    refine ⟨n, r, es.length, rfl, R, e1, by omega, fun z r' hz ok => ?_⟩
    (conv => whnf); (try dsimp only)
    simp only [atI_nat (List.getElem?_eq_getElem hz)]
    exact gc_mut pre_refl ok.nr (nrL_get hz e3) (hP z hz r' ok)
end MP

namespace MP
open PySem PySem.Spec PyProof.Rows L2
/-! ### the heap of a drawing def: the row drawn on, what it made behind -/
def HQ (h : Hq) (n : Nat) (r : List D) (G : Hq) : Hq := h.set n (.lst r) ++ G
theorem hq_len {h n r G} : (HQ h n r G).length = h.length + G.length := by unfold HQ; rw [List.length_append, List.length_set]
theorem hq_app {h n r G g} : HQ h n r G ++ g = HQ h n r (G ++ g) := by unfold HQ; rw [List.append_assoc]
theorem hq_row {h : Hq} {n : Nat} {r : List D} {G : Hq} (hn : n < h.length) (ok : RowD r) : RowAt (HQ h n r G) n r :=
  ⟨lst_of (by unfold HQ; rw [List.getElem?_append_left (by rw [List.length_set]; exact hn), List.getElem?_set_self hn]), ok⟩
theorem hq_draw {h : Hq} {n : Nat} {r r' : List D} {G : Hq} (hn : n < h.length) : (HQ h n r G).set n (.lst r') = HQ h n r' G := by
  unfold HQ
  rw [List.set_append_left _ _ (by rw [List.length_set]; exact hn), List.set_set]
theorem hq_get {h : Hq} {n : Nat} {r : List D} {G1 G2 : Hq} {o : Ob} : (HQ h n r (G1 ++ o :: G2))[h.length + G1.length]? = some o := by
  unfold HQ
  rw [← List.append_assoc, List.getElem?_append_right (by rw [List.length_append, List.length_set]; exact Nat.le_refl _)]
  rw [List.length_append, List.length_set, Nat.sub_self]; rfl
theorem hq_at {h : Hq} {n : Nat} {r : List D} {G1 G2 : Hq} {ds : List D} : lstAt (HQ h n r (G1 ++ .lst ds :: G2)) (h.length + G1.length) = some ds := lst_of hq_get
theorem hq_set {h : Hq} {n : Nat} {r : List D} {G1 G2 : Hq} {o o2 : Ob} : (HQ h n r (G1 ++ o :: G2)).set (h.length + G1.length) o2 = HQ h n r (G1 ++ o2 :: G2) := by
  unfold HQ
  rw [List.set_append_right _ _ (by rw [List.length_set]; omega), List.length_set, Nat.add_sub_cancel_left, List.set_append_right _ _ (Nat.le_refl _), Nat.sub_self]; rfl
theorem hq_gc {h : Hq} {n : Nat} {r : List D} {G : Hq} {P : WK} {d : D} (ok : RowD r) (nr : d.nr = true) (p : P d (h.set n (.lst r))) : gcK h P d (HQ h n r G) := gc_mut (List.prefix_append _ _) ok.nr nr p
theorem hq_self {h : Hq} {n : Nat} {r : List D} (e : lstAt h n = some r) : h = HQ h n r [] := by unfold HQ; rw [List.append_nil, set_same e]
theorem gc_setl {h : Hq} {n : Nat} {r ds : List D} {P : WK} (ok : RowD r) (nr : D.nrL ds = true) (p : P (.lst ds) (h.set n (.lst r))) : gcK h P (.ref h.length) (h.set n (.lst r) ++ [.lst ds]) := by
  refine ⟨h.set n (.lst r), .lst ds, 1, gcR_set ok.nr, ?_, p⟩
  unfold D.fz
  exact gz_lst (Nat.le_refl _) (lst_of (by rw [List.getElem?_append_right (by rw [List.length_set]; exact Nat.le_refl _), List.length_set, Nat.sub_self]; rfl)) nr
theorem seq_ref {h : Hq} {n : Nat} {ds : List D} (e : lstAt h n = some ds) : seqOf h (.ref n) = some ds := e
def intD (n : Nat) : D := .int n
/-- a list of numbers drawn, one for each thing walked -/
theorem lc_draw {α : Type} {h : Hq} {n : Nat} {r : List D} {s : Src} {p : Pat} {te : WE} {fr : Fr} {P : WK} (xs : List α) (toD : α → D) (q : Nat) (q1 : 1 ≤ q) (q2 : q < 1073741824) (R : RowAt h n r) (ed : s.its = some (xs.map toD)) (hz : xs.length ≤ 1000000)
    (hs : ∀ a ∈ xs, ∃ fr2, bindP p (toD a) fr = some fr2 ∧ ∀ h' Q, g_law_taken [.ref n, .int (q : Int)] h' Q → te fr2 h' Q)
    (he : ∀ (ws : List Nat) (r' : List D), ws.length = xs.length → (∀ w ∈ ws, w < q) → RowD r' → P (.lst (ws.map intD)) (h.set n (.lst r'))) :
    ∃ k, lcN s h.length (lcStep p wtYes te fr) (gcK h P) k 0 (h ++ [.lst []]) := by
  have hn := lst_lt R.at_
  have l1 : ∀ {r' ds}, lstAt (h.set n (.lst r') ++ [.lst ds]) h.length = some ds := fun {r' ds} => hq_at (h := h) (n := n) (r := r') (G1 := []) (G2 := [])
  refine lc_inv (ds := xs.map toD) (fun i acc h' => ∃ (ws : List Nat) (r' : List D), acc = ws.map intD ∧ ws.length = i ∧ (∀ w ∈ ws, w < q) ∧ RowD r' ∧ h' = h.set n (.lst r') ++ [.lst acc]) 0 [] (fun _ _ _ _ => Src.its_tick ed _ _)
    (fun i acc h' ⟨ws, r', e1, e2, e3, e4, e5⟩ => ⟨by rw [e5]; exact l1, by rw [e1, List.length_map]; omega⟩) (by rw [List.length_map]; have := sl63 hz; omega)
    ⟨[], r, rfl, rfl, by simp, R.ok, by rw [set_same R.at_]⟩ (fun i d acc h' ⟨ws, r', e1, e2, e3, e4, e5⟩ hd kp sk k1 k2 => ?_) fun acc h' ⟨ws, r', e1, e2, e3, e4, e5⟩ => ?_
  · rw [List.getElem?_map, Option.map_eq_some_iff] at hd
    obtain ⟨a, ha, rfl⟩ := hd
    obtain ⟨fr2, b1, b2⟩ := hs a (List.mem_of_getElem? ha)
    unfold lcStep
    rw [b1]
    subst e5
    refine b2 _ _ ⟨n, r', q, rfl, hq_row (G := [.lst acc]) hn e4, q1, q2, fun z r2 hz ok => ?_⟩
    have e6 : (h.set n (.lst r') ++ [Ob.lst acc]).set n (.lst r2) = h.set n (.lst r2) ++ [.lst acc] := hq_draw (G := [.lst acc]) hn
    rw [e6]
    refine k1 _ _ l1 ⟨ws ++ [z], r2, by rw [e1, List.map_append]; rfl, by rw [List.length_append, e2]; rfl, fun w hw => ?_, ok, hq_set (h := h) (n := n) (r := r2) (G1 := []) (G2 := [])⟩
    rcases List.mem_append.mp hw with hw | hw
    · exact e3 w hw
    · rw [List.mem_singleton.mp hw]; exact hz
  · subst e5
    subst e1
    rw [List.length_map] at e2
    exact gc_setl e4 (nrL_map (fun _ => rfl) _) (he ws r' e2 e3 e4)
/-- the asks that the laws draw -/
def Drawn (a : List Nat) : Prop := a ∈ [[97], [97, 98], [98, 122], [97, 98, 99], [99, 100, 120]]
theorem askOk : ∀ d ∈ [D.str [97], .str [97, 98], .str [97, 98], .str [97, 98], .str [98, 122], .str [97, 98, 99], .str [99, 100, 120]], ∃ a, d = .str a ∧ AskOk a ∧ Drawn a := by
  have lets : ∀ a : List Nat, (a.all fun c => decide (97 ≤ c) && decide (c ≤ 122)) = true → ∀ c ∈ a, Lett c := fun a e c hc => by
    have := List.all_eq_true.mp e c hc
    simp only [Bool.and_eq_true, decide_eq_true_eq] at this
    exact this
  have ascs : ∀ a : List Nat, ((a.zip a.tail).all fun x => decide (x.1 < x.2)) = true → ∀ x ∈ List.zip a a.tail, x.1 < x.2 := fun a e x hx => of_decide_eq_true (List.all_eq_true.mp e x hx)
  intro d hd
  simp only [List.mem_cons, List.not_mem_nil, or_false] at hd
  rcases hd with rfl | rfl | rfl | rfl | rfl | rfl | rfl <;> exact ⟨_, rfl, ⟨by simp, by simp, lets _ rfl, ascs _ rfl⟩, by simp [Drawn]⟩
theorem zipInt (xs ys : List Nat) : List.zipWith (fun x y => D.tup [x, y]) (xs.map intD) (ys.map intD) = (List.zip xs ys).map fun y => D.tup [intD y.1, intD y.2] := by
  rw [List.zipWith_map, List.zip_eq_zipWith, List.map_zipWith]
abbrev N_law_service : List Str := ["_law_row_here", "_law_most", "_law_asks", "_law_ways", "_law_ends", "_law_few", "_law_one", "_law_size", "_law_rows", "_law_line", "_law_ask", "_law_way", "_law_end", "_law_later"]
def ws_law_service : WS := (wsSeq (wsAsg (wgPat (.nm 2)) (wCB g_law_pick (waCons (wVar 0) (waCons (wLst (waCons (wC (.str [97])) (waCons (wC (.str [97, 98])) (waCons (wC (.str [97, 98])) (waCons (wC (.str [97, 98])) (waCons (wC (.str [98, 122])) (waCons (wC (.str [97, 98, 99])) (waCons (wC (.str [99, 100, 120])) waNil)))))))) waNil)))) (wsSeq (wsAsg (wgPat (.tp (.cons (.nm 7) (.cons (.nm 8) .nil)))) (wTup (waCons (wOp gAdd (wC (.int 1)) (wCB g_law_taken (waCons (wVar 0) (waCons (wVar 1) waNil)))) (waCons (wLstM waNil) waNil)))) (wsSeq (wsAsg (wgPat (.nm 3)) (wLc (wiAny (wVar 2)) (.nm 10) wtYes (wCB g_law_taken (waCons (wVar 0) (waCons (wC (.int 3)) waNil))) [10])) (wsSeq (wsAsg (wgPat (.nm 4)) (wLc (wiAny (wVar 2)) (.nm 10) wtYes (wCB g_law_taken (waCons (wVar 0) (waCons (wVar 7) waNil))) [10])) (wsSeq (wsAsg (wgPat (.nm 5)) (wOp gAdd (wC (.int 1)) (wCB g_law_taken (waCons (wVar 0) (waCons (wC (.int 2)) waNil))))) (wsSeq (wsFor (wiRng1 (waCons (wVar 7) waNil)) (wgPat (.nm 6)) (wsSeq (wsAsg (wgPat (.nm 9)) (wLstM waNil)) (wsSeq (wsFor (wiZip (waCons (wVar 3) (waCons (wVar 4) waNil))) (wgPat (.tp (.cons (.nm 11) (.cons (.nm 12) .nil)))) (wsSeq (wsAsg (wgPat (.nm 13)) (wIf (wtB (wOp (gEqU false) (wVar 11) (wC (.int 0)))) (wVar 12) (wIf (wtAnd (wtB (wOp (gEqU false) (wVar 11) (wC (.int 1)))) (wtB (wOp (gEqU false) (wCB g_law_taken (waCons (wVar 0) (waCons (wC (.int 2)) waNil))) (wC (.int 0))))) (wVar 6) (wCB g_law_taken (waCons (wVar 0) (waCons (wVar 7) waNil)))))) (wsSeq (wsExpr (wBM "list" mAppend (wVar 9) (waCons (wTup (waCons (wVar 13) (waCons (wOp gIxU (wC (.str [120, 121, 122])) (wCB g_law_taken (waCons (wVar 0) (waCons (wOp gAdd (wVar 5) (wC (.int 1))) waNil)))) waNil))) waNil))) wsNil))) (wsSeq (wsExpr (wBM "list" mAppend (wVar 8) (waCons (wCB bTup (waCons (wVar 9) waNil)) waNil))) wsNil)))) (wsSeq (wsRet (wTup (waCons (wVar 2) (waCons (wCB bTup (waCons (wVar 8) waNil)) waNil)))) wsNil)))))))
def g_law_service : WL := fun ds h P => ∃ (n : Nat) (r : List D) (most : Nat), ds = [.ref n, .int most] ∧ RowAt h n r ∧ 1 ≤ most ∧ most ≤ 40 ∧ ∀ (s : Svc) (r' : List D), s.Ok → Drawn s.asks → s.rows.length ≤ most → RowD r' → P s.d (h.set n (.lst r'))
theorem law_service_ok : ∀ ds h P, g_law_service ds h P → wF ws_law_service 14 2 ds h P := by
  rintro ds h P ⟨n, r, most, rfl, R, m1, m2, hP⟩
  have hn := lst_lt R.at_
  refine ⟨rfl, ?_⟩
  (conv => whnf); (try dsimp only)
  refine ⟨sl63 (by simp), ?_⟩
  refine ⟨n, r, _, _, rfl, .inl rfl, R, by simp, by simp, rfl, fun z0 hz0 r0 ok0 => ?_⟩
  obtain ⟨asks, ha, hask, hdr⟩ := askOk _ (List.getElem_mem hz0)
  rw [ha]
  (conv => whnf); (try dsimp only)
  refine ⟨n, r0, most, rfl, R.set ok0, m1, by omega, fun z r3 hz ok3 => ?_⟩
  rw [List.set_set]
  (conv => whnf); (try dsimp only)
  refine ⟨sl63 (by simp), ?_⟩
  rw [List.length_set]
  (conv => whnf); (try dsimp only)
  refine ⟨sl63 (by simp), ?_⟩
  (conv => whnf); (try dsimp only)
  have hsz : (1 : Int) + (z : Int) = ((1 + z : Nat) : Int) := by omega
  rw [hsz]
  have hs1 : 1 ≤ 1 + z ∧ 1 + z ≤ 40 ∧ 1 + z ≤ most := by omega
  generalize 1 + z = size at hs1
  have hask2 := hask.2.1
  refine lc_draw (h := HQ h n r3 [.lst []]) asks chD 3 (by omega) (by omega) (hq_row hn ok3) rfl (by omega) (fun d hd => ⟨_, rfl, fun h' Q g => g⟩) fun ways r4 w1 w2 ok4 => ?_
  rw [hq_draw hn]
  (conv => whnf); (try dsimp only)
  refine lc_draw (h := HQ h n r4 [.lst []]) asks chD size (by omega) (by omega) (hq_row hn ok4) rfl (by omega) (fun d hd => ⟨_, rfl, fun h' Q g => g⟩) fun ends r5 u1 u2 ok5 => ?_
  rw [hq_draw hn]
  (conv => whnf); (try dsimp only)
  refine ⟨n, r5, 2, rfl, hq_row hn ok5, by omega, by omega, fun t r6 ht ok6 => ?_⟩
  rw [hq_draw hn]
  have hfew : (1 : Int) + (t : Int) = ((1 + t : Nat) : Int) := by omega
  rw [show ∀ h6 Q, gAdd (D.int 1) (D.int (t : Int)) h6 Q = Q (.int ((1 + t : Nat) : Int)) h6 from fun h6 Q => by rw [← hfew]; rfl]
  have ht2 : 1 + t ≤ 2 := by omega
  generalize 1 + t = few at ht2
  (conv => whnf); (try dsimp only)
  refine ⟨⟨by omega, by omega⟩, ?_⟩
  -- the rows
  refine fo_fix (List.range size) (fun i : Nat => D.int (i : Int)) (fun rest fr h' => (∀ i ∈ rest, i < size) ∧ ∃ (x6 x9 x10 x11 x12 x13 : Option D) (rws : List (List (Nat × Nat))) (r' : List D) (G : Hq), fr = [some (.ref n), some (.int most), some (.str asks), some (.lst (ways.map intD)), some (.lst (ends.map intD)), some (.int few), x6, some (.int size), some (.ref h.length), x9, x10, x11, x12, x13] ∧
    h' = HQ h n r' (.lst (rws.map rowD) :: G) ∧ RowD r' ∧ rws.length + rest.length = size ∧ (∀ l ∈ rws, l.length = asks.length) ∧ (∀ l ∈ rws, ∀ x ∈ l, x.1 < size ∧ Lett x.2)) ?_ ?_ ?_ ?_
  · show some ((List.range ((size : Int)).toNat).map fun i : Nat => D.int (i : Int)) = _
    rw [Int.toNat_natCast]
  · exact ⟨fun i hi => List.mem_range.mp hi, none, none, none, none, none, none, [], r6, [], rfl, rfl, ok6, by simp, by simp, by simp⟩
  · rintro one rest fr h' _ ⟨hin, x6, x9, x10, x11, x12, x13, rws, r', G, rfl, rfl, okr, g1, g2, g3⟩ K hK
    have hone := hin one (by simp)
    rw [List.length_cons] at g1
    (conv => whnf); (try dsimp only)
    refine ⟨sl63 (by simp), ?_⟩
    rw [hq_app, hq_len]
    (conv => whnf); (try dsimp only)
    refine fo_fix (List.zip ways ends) (fun y => D.tup [intD y.1, intD y.2]) (fun rest2 fr h' => (∀ y ∈ rest2, y.2 < size) ∧ ∃ (x10 x11 x12 x13 : Option D) (l : List (Nat × Nat)) (r' : List D), fr = [some (.ref n), some (.int most), some (.str asks), some (.lst (ways.map intD)), some (.lst (ends.map intD)), some (.int few), some (.int one), some (.int size), some (.ref h.length), some (.ref (h.length + (G.length + 1))), x10, x11, x12, x13] ∧
      h' = HQ h n r' (.lst (rws.map rowD) :: G ++ [.lst (l.map stD)]) ∧ RowD r' ∧ l.length + rest2.length = asks.length ∧ (∀ x ∈ l, x.1 < size ∧ Lett x.2)) ?_ ?_ ?_ ?_
    · show some (List.zipWith (fun x y => D.tup [x, y]) (ways.map intD) (ends.map intD)) = _
      rw [zipInt]
    · exact ⟨fun y hy => u2 _ (List.of_mem_zip hy).2, _, _, _, _, [], r', rfl, rfl, okr, by rw [List.length_zip, w1, u1]; simp, by simp⟩
    · rintro ⟨wy, en⟩ rest2 fr h' _ ⟨hin2, x10, x11, x12, x13, l, r', rfl, rfl, okr, k1, k2⟩ K2 hK2
      have hen := hin2 (wy, en) (by simp)
      rw [List.length_cons] at k1
      have main : ∀ (x : Nat) (r' : List D) (hs0 : Hq) (y11 y12 : D) (B : Fr → Hq → Prop), x < size → RowD r' →
          wsSeq (wsExpr (wBM "list" mAppend (wVar 9) (waCons (wTup (waCons (wVar 13) (waCons (wOp gIxU (wC (.str [120, 121, 122])) (wCB g_law_taken (waCons (wVar 0) (waCons (wOp gAdd (wVar 5) (wC (.int 1))) waNil)))) waNil))) waNil))) wsNil { nx := gcF hs0 K2, rt := gcK h P, bk := B, ct := gcF hs0 K2 }
            [some (.ref n), some (.int most), some (.str asks), some (.lst (ways.map intD)), some (.lst (ends.map intD)), some (.int few), some (.int one), some (.int size), some (.ref h.length), some (.ref (h.length + (G.length + 1))), x10, some y11, some y12, some (.int x)] (HQ h n r' (.lst (rws.map rowD) :: G ++ [.lst (l.map stD)])) := by
        intro x r' hs0 y11 y12 B hx okr
        have ll : ∀ {r' ds}, lstAt (HQ h n r' (.lst (rws.map rowD) :: G ++ [.lst ds])) (h.length + (G.length + 1)) = some ds := fun {r' ds} => hq_at (G1 := .lst (rws.map rowD) :: G) (G2 := [])
        (conv => whnf); (try dsimp only)
        refine ⟨ty_lst ll, ?_⟩
        (conv => whnf); (try dsimp only)
        refine ⟨n, r', few + 1, rfl, hq_row hn okr, by omega, by omega, fun v r'' hv ok' => ?_⟩
        rw [hq_draw hn]
        have hv3 : v < [120, 121, 122].length := by simp; omega
        have hlet : Lett ([120, 121, 122][v]) := by
          have : v = 0 ∨ v = 1 ∨ v = 2 := by omega
          rcases this with rfl | rfl | rfl <;> exact ⟨by simp, by simp⟩
        (conv => whnf); (try dsimp only)
        simp only [atI_nat (List.getElem?_eq_getElem hv3)]
        generalize [120, 121, 122][v] = ans at hlet
        (conv => whnf); (try dsimp only)
        refine ⟨sl63 (by simp), ?_⟩
        (conv => whnf); (try dsimp only)
        simp only [ll]
        refine ⟨Nat.lt_of_lt_of_le (show (l.map stD).length < 1000001 by rw [List.length_map]; omega) (by rw [sizeLine_eq]; omega), ?_⟩
        refine .inl (hK2 _ _ ⟨fun y hy => hin2 y (by simp [hy]), _, _, _, _, l ++ [(x, ans)], r'', rfl, ?_, ok', by rw [List.length_append, List.length_singleton]; omega, fun y hy => ?_⟩)
        · rw [List.map_append]
          exact hq_set (G1 := .lst (rws.map rowD) :: G) (G2 := [])
        · rcases List.mem_append.mp hy with hy | hy
          · exact k2 y hy
          · rw [List.mem_singleton.mp hy]; exact ⟨hx, hlet⟩
      (conv => whnf); (try dsimp only)
      by_cases hw0 : wy = 0
      · (generalize hdec : ((wy : Int) == (0 : Int)) = bdec; obtain rfl : bdec = true := hdec.symm.trans (beqT (by omega)); clear hdec; (conv => whnf); (try dsimp only))
        exact main en r' _ _ _ _ hen okr
      · (generalize hdec : ((wy : Int) == (0 : Int)) = bdec; obtain rfl : bdec = false := hdec.symm.trans (beqF (by omega)); clear hdec; (conv => whnf); (try dsimp only))
        by_cases hw1 : wy = 1
        · (generalize hdec : ((wy : Int) == (1 : Int)) = bdec; obtain rfl : bdec = true := hdec.symm.trans (beqT (by omega)); clear hdec; (conv => whnf); (try dsimp only))
          refine ⟨n, r', 2, rfl, hq_row hn okr, by omega, by omega, fun v r'' hv ok' => ?_⟩
          rw [hq_draw hn]
          (conv => whnf); (try dsimp only)
          by_cases hv0 : v = 0
          · (generalize hdec : ((v : Int) == (0 : Int)) = bdec; obtain rfl : bdec = true := hdec.symm.trans (beqT (by omega)); clear hdec; (conv => whnf); (try dsimp only))
            exact main one _ _ _ _ _ hone ok'
          · (generalize hdec : ((v : Int) == (0 : Int)) = bdec; obtain rfl : bdec = false := hdec.symm.trans (beqF (by omega)); clear hdec; (conv => whnf); (try dsimp only))
            refine ⟨n, r'', size, rfl, hq_row hn ok', by omega, by omega, fun v r3' hv ok'' => ?_⟩
            rw [hq_draw hn]
            exact main v _ _ _ _ _ hv ok''
        · (generalize hdec : ((wy : Int) == (1 : Int)) = bdec; obtain rfl : bdec = false := hdec.symm.trans (beqF (by omega)); clear hdec; (conv => whnf); (try dsimp only))
          refine ⟨n, r', size, rfl, hq_row hn okr, by omega, by omega, fun v r'' hv ok' => ?_⟩
          rw [hq_draw hn]
          exact main v _ _ _ _ _ hv ok'
    · rintro fr h' ⟨_, x10, x11, x12, x13, l, r', rfl, rfl, okr, k1, k2⟩
      have ll : lstAt (HQ h n r' (.lst (rws.map rowD) :: G ++ [.lst (l.map stD)])) (h.length + (G.length + 1)) = some (l.map stD) := hq_at (G1 := .lst (rws.map rowD) :: G) (G2 := [])
      have lr : lstAt (HQ h n r' (.lst (rws.map rowD) :: G ++ [.lst (l.map stD)])) h.length = some (rws.map rowD) := hq_at (G1 := []) (G2 := G ++ [.lst (l.map stD)])
      (conv => whnf); (try dsimp only)
      refine ⟨ty_lst lr, ?_⟩
      (conv => whnf); (try dsimp only)
      simp only [seq_ref ll]
      (conv => whnf); (try dsimp only)
      simp only [lr]
      refine ⟨Nat.lt_of_lt_of_le (show (rws.map rowD).length < 1000001 by rw [List.length_map]; omega) (by rw [sizeLine_eq]; omega), ?_⟩
      refine .inl (hK _ _ ⟨fun i hi => hin i (by simp [hi]), _, _, _, _, _, _, rws ++ [l], r', G ++ [.lst (l.map stD)], rfl, ?_, okr, by rw [List.length_append, List.length_singleton]; omega, fun m hm => ?_, fun m hm => ?_⟩)
      · rw [List.map_append]
        exact hq_set (G1 := []) (G2 := G ++ [.lst (l.map stD)])
      · rcases List.mem_append.mp hm with hm | hm
        · exact g2 m hm
        · rw [List.mem_singleton.mp hm]; simpa using k1
      · rcases List.mem_append.mp hm with hm | hm
        · exact g3 m hm
        · rw [List.mem_singleton.mp hm]; exact k2
  · rintro fr h' ⟨_, x6, x9, x10, x11, x12, x13, rws, r', G, rfl, rfl, okr, g1, g2, g3⟩
    have lr : lstAt (HQ h n r' (.lst (rws.map rowD) :: G)) h.length = some (rws.map rowD) := hq_at (G1 := []) (G2 := G)
    (conv => whnf); (try dsimp only)
    simp only [seq_ref lr]
    refine ⟨sl63 (by simp), ?_⟩
    have hlr : rws.length = size := by simpa using g1
    exact hq_gc okr (svc_nr ⟨asks, rws⟩) (hP ⟨asks, rws⟩ r' ⟨hask.1, hask.2.1, hask.2.2.1, hask.2.2.2, by show 1 ≤ rws.length; omega, by show rws.length ≤ 40; omega, g2, fun l hl x hx => by show x.1 < rws.length ∧ _; rw [hlr]; exact g3 l hl x hx⟩ hdr (by show rws.length ≤ most; omega) okr)
end MP

namespace MP
open PySem PySem.Spec PyProof.Rows L2
/-! ### the law's own copies -/
abbrev N_law_step : List Str := ["_law_service_here", "_law_one", "_law_ask"]
def ws_law_step : WS := (wsSeq (wsRet (wOp gIxU (wOp gIxU (wOp gIxU (wVar 0) (wC (.int 1))) (wVar 1)) (wBM "str" mIndex (wOp gIxU (wVar 0) (wC (.int 0))) (waCons (wVar 2) waNil)))) wsNil)
def g_law_step : WL := g_step_of
theorem law_step_ok : ∀ ds h P, g_law_step ds h P → wF ws_law_step 3 3 ds h P := step_of_ok
abbrev N_law_told : List Str := ["_law_service_here", "_law_one", "_law_text", "_law_found", "_law_ask", "_law_answer"]
def ws_law_told : WS := (wsSeq (wsAsg (wgPat (.nm 3)) (wC (.str []))) (wsSeq (wsFor (wiAny (wVar 2)) (wgPat (.nm 4)) (wsSeq (wsAsg (wgPat (.tp (.cons (.nm 1) (.cons (.nm 5) .nil)))) (wCB g_law_step (waCons (wVar 0) (waCons (wVar 1) (waCons (wVar 4) waNil))))) (wsSeq (wsAsg (wgPat (.nm 3)) (wOp gAdd (wVar 3) (wVar 5))) wsNil))) (wsSeq (wsRet (wVar 3)) wsNil)))
def g_law_told : WL := fun ds h P => ∃ (s : Svc) (row : List Nat), s.Ok ∧ (∀ c ∈ row, c ∈ s.asks) ∧ row.length ≤ 1000000 ∧ ds = [s.d, .int 0, .str row] ∧ P (.str (tell s 0 row)) h
theorem law_told_ok : ∀ ds h P, g_law_told ds h P → wF ws_law_told 6 3 ds h P := by
  rintro ds h P ⟨s, row, ok, hr, hz, rfl, p⟩
  refine ⟨rfl, ?_⟩
  (conv => whnf); (try dsimp only)
  refine fo_fix row chD (fun rest fr h' => h' = h ∧ ∃ (i : Nat) (f : List Nat) (x y : Option D), fr = [some s.d, some (.int (i : Nat)), some (.str row), some (.str f), x, y] ∧ i < s.rows.length ∧ (∀ c ∈ rest, c ∈ s.asks) ∧ f ++ tell s i rest = tell s 0 row ∧ f.length + rest.length = row.length) rfl ?_ ?_ ?_
  · exact ⟨rfl, 0, [], none, none, rfl, by have := ok.r1; omega, hr, rfl, by simp⟩
  · rintro c rest fr h' hc ⟨rfl, i, f, x, y, rfl, hi, hin, he, hl⟩ k hk
    (conv => whnf); (try dsimp only)
    refine ⟨s, i, c, ok, hi, hin c (by simp), rfl, ?_⟩
    (conv => whnf); (try dsimp only)
    rw [List.length_cons] at hl
    refine ⟨sl63 (by simp; omega), ?_⟩
    refine .inl (hk _ _ ⟨rfl, _, _, _, _, rfl, (ok.lt hi (hin c (by simp))).1, fun z hz => hin z (by simp [hz]), ?_, ?_⟩)
    · rw [← he, List.append_assoc]; rfl
    · rw [List.length_append, List.length_singleton]; omega
  · rintro fr h' ⟨rfl, i, f, x, y, rfl, hi, hin, he, hl⟩
    (conv => whnf); (try dsimp only)
    have : f = tell s 0 row := by rw [← he]; simp [tell]
    rw [this]
    exact gc_same rfl p
/-! ### alike: what is the same is alike -/
def AlkD : Nat → D → Prop
  | _, .bl _ => True
  | _, .int _ => True
  | _, .str _ => True
  | _, .non => True
  | n + 1, .tup ds => ds.length ≤ 1000000 ∧ ∀ x ∈ ds, AlkD n x
  | n + 1, .lst ds => ds.length ≤ 1000000 ∧ ∀ x ∈ ds, AlkD n x
  | _, _ => False
abbrev N_law_alike : List Str := ["_law_found", "_law_due", "_law_k", "_law_key"]
def ws_law_alike (g_law_alike : WL) : WS := (wsSeq (wsIf (wtTru (wCB bIsi (waCons (wVar 1) (waCons (wTup (waCons (wC (.con (.ty "tuple"))) (waCons (wC (.con (.ty "list"))) waNil))) waNil)))) (wsSeq (wsIf (wtOr (wtNot (wtTru (wCB bIsi (waCons (wVar 0) (waCons (wTup (waCons (wC (.con (.ty "tuple"))) (waCons (wC (.con (.ty "list"))) waNil))) waNil))))) (wtB (wOp (gEqU true) (wCB bIsi (waCons (wVar 0) (waCons (wC (.con (.ty "list"))) waNil))) (wCB bIsi (waCons (wVar 1) (waCons (wC (.con (.ty "list"))) waNil)))))) (wsSeq (wsRet (wC (.bl false))) wsNil) wsNil) (wsSeq (wsIf (wtB (wOp (gEqU true) (wCB bLenU (waCons (wVar 0) waNil)) (wCB bLenU (waCons (wVar 1) waNil)))) (wsSeq (wsRet (wC (.bl false))) wsNil) wsNil) (wsSeq (wsRet (wOp (gEqU false) (wLc (wiRng1 (waCons (wCB bLenU (waCons (wVar 1) waNil)) waNil)) (.nm 2) (wtNot (wtTru (wCB g_law_alike (waCons (wOp gIxU (wVar 0) (wVar 2)) (waCons (wOp gIxU (wVar 1) (wVar 2)) waNil))))) (wVar 2) [2]) (wLst waNil))) wsNil))) wsNil) (wsSeq (wsIf (wtTru (wCB bIsi (waCons (wVar 1) (waCons (wC (.con (.ty "dict"))) waNil)))) (wsSeq (wsIf (wtOr (wtNot (wtTru (wCB bIsi (waCons (wVar 0) (waCons (wC (.con (.ty "dict"))) waNil))))) (wtB (wOp (gEqU true) (wCB bSrt4 (waCons (wVar 0) waNil)) (wCB bSrt4 (waCons (wVar 1) waNil))))) (wsSeq (wsRet (wC (.bl false))) wsNil) wsNil) (wsSeq (wsRet (wOp (gEqU false) (wLc (wiAny (wVar 1)) (.nm 3) (wtNot (wtTru (wCB g_law_alike (waCons (wOp gIxU (wVar 0) (wVar 3)) (waCons (wOp gIxU (wVar 1) (wVar 3)) waNil))))) (wVar 3) [3]) (wLst waNil))) wsNil)) wsNil) (wsSeq (wsIf (wtOr (wtB (wOp (isD false) (wVar 1) (wC .non))) (wtTru (wCB bIsi (waCons (wVar 1) (waCons (wC (.con (.ty "str"))) waNil))))) (wsSeq (wsRet (wAnd (wOp (gEqU false) (wVar 0) (wVar 1)) (wOp (gEqU false) (wCB bIsi (waCons (wVar 0) (waCons (wC (.con (.ty "str"))) waNil))) (wCB bIsi (waCons (wVar 1) (waCons (wC (.con (.ty "str"))) waNil)))))) wsNil) wsNil) (wsSeq (wsRet (wAnd (wCB bIsi (waCons (wVar 0) (waCons (wC (.con (.ty "int"))) waNil))) (wAnd (wOp (gEqU false) (wCB bIsi (waCons (wVar 0) (waCons (wC (.con (.ty "bool"))) waNil))) (wCB bIsi (waCons (wVar 1) (waCons (wC (.con (.ty "bool"))) waNil)))) (wOp (gEqU false) (wVar 0) (wVar 1))))) wsNil))))
def g_alk (n : Nat) : WL := fun ds h P => ∃ d, AlkD n d ∧ ds = [d, d] ∧ P (.bl true) h
theorem fm_none {α : Type} (l : List α) : l.filterMap (fun _ => (none : Option D)) = [] := List.filterMap_eq_nil_iff.mpr fun _ _ => rfl
theorem beqS (s : List Nat) : (s == s) = true := by simp
theorem alk_scal {g : WL} {d : D} {h : Hq} {P : WK} (k : AlkD 0 d) (p : P (.bl true) h) : wF (ws_law_alike g) 4 2 [d, d] h P := by
  refine ⟨rfl, ?_⟩
  cases d with
  | bl b =>
    (conv => whnf); (try dsimp only)
    cases b <;> ((repeat (refine ⟨(by first | rfl | decide | exact ⟨rfl, rfl⟩ | (refine sl63 ?_; simp; done) | (refine lt63 ?_; simp; done)), ?_⟩; (conv => whnf); (try dsimp only))); exact gc_same rfl p)
  | int i =>
    (conv => whnf); (try dsimp only)
    (repeat (refine ⟨(by first | rfl | decide | exact ⟨rfl, rfl⟩ | (refine sl63 ?_; simp; done) | (refine lt63 ?_; simp; done)), ?_⟩; (conv => whnf); (try dsimp only)))
    (generalize hdec : (i == i) = bdec; obtain rfl : bdec = true := hdec.symm.trans (by simp); clear hdec; (conv => whnf); (try dsimp only))
    exact gc_same rfl p
  | str s =>
    (conv => whnf); (try dsimp only)
    (repeat (refine ⟨(by first | rfl | decide | exact ⟨rfl, rfl⟩ | (refine sl63 ?_; simp; done) | (refine lt63 ?_; simp; done)), ?_⟩; (conv => whnf); (try dsimp only)))
    rw [beqS s]
    (conv => whnf); (try dsimp only)
    (repeat (refine ⟨(by first | rfl | decide | exact ⟨rfl, rfl⟩ | (refine sl63 ?_; simp; done) | (refine lt63 ?_; simp; done)), ?_⟩; (conv => whnf); (try dsimp only)))
    exact gc_same rfl p
  | non =>
    (conv => whnf); (try dsimp only)
    (repeat (refine ⟨(by first | rfl | decide | exact ⟨rfl, rfl⟩ | (refine sl63 ?_; simp; done) | (refine lt63 ?_; simp; done)), ?_⟩; (conv => whnf); (try dsimp only)))
    exact gc_same rfl p
  | _ => exact False.elim k
theorem alk_ok0 {g : WL} : ∀ ds h P, g_alk 0 ds h P → wF (ws_law_alike g) 4 2 ds h P := by
  rintro ds h P ⟨d, k, rfl, p⟩
  exact alk_scal k p
theorem alk_okS {n : Nat} : ∀ ds h P, g_alk (n + 1) ds h P → wF (ws_law_alike (g_alk n)) 4 2 ds h P := by
  rintro ds h P ⟨d, k, rfl, p⟩
  have main : ∀ (xs : List D) (d : D) (fr : Fr), (d = .tup xs ∨ d = .lst xs) → fr = [some d, some d, none, none] → xs.length ≤ 1000000 → (∀ x ∈ xs, AlkD n x) → ∀ P1 : WK, P1 (.lst []) h →
      wLc (wiRng1 (waCons (wCB bLenU (waCons (wVar 1) waNil)) waNil)) (.nm 2) (wtNot (wtTru (wCB (g_alk n) (waCons (wOp gIxU (wVar 0) (wVar 2)) (waCons (wOp gIxU (wVar 1) (wVar 2)) waNil))))) (wVar 2) [2] fr h P1 := by
    intro xs d fr hd hfr hz hx P1 p1
    have hz' : xs.length ≤ sizeLine := by rw [sizeLine_eq]; omega
    rcases hd with rfl | rfl <;> subst hfr
    all_goals
      (conv => whnf); (try dsimp only)
      refine ⟨⟨by omega, by omega⟩, ?_⟩
      refine lcv (List.range xs.length) (fun i : Nat => D.int (i : Int)) (fun _ => none) ?_ rfl (by rw [List.length_range]; exact hz') (fun i hi h' kp sk k1 k2 => ?_) (fun _ _ _ e => by cases e) ?_
      · show some ((List.range ((xs.length : Int)).toNat).map fun i : Nat => D.int (i : Int)) = _
        rw [Int.toNat_natCast]
      · have hi1 : i < xs.length := List.mem_range.mp hi
        (conv => whnf); (try dsimp only)
        simp only [atI_nat (List.getElem?_eq_getElem hi1)]
        (conv => whnf); (try dsimp only)
        simp only [atI_nat (List.getElem?_eq_getElem hi1)]
        refine ⟨_, hx _ (List.getElem_mem hi1), rfl, ?_⟩
        exact k2 rfl
      · rw [fm_none]
        exact p1
  cases d with
  | tup xs =>
    obtain ⟨hz, hx⟩ := k
    refine ⟨rfl, ?_⟩
    (conv => whnf); (try dsimp only)
    (repeat (refine ⟨(by first | rfl | decide | exact ⟨rfl, rfl⟩ | (refine sl63 ?_; simp; done) | (refine lt63 ?_; simp; done)), ?_⟩; (conv => whnf); (try dsimp only)))
    rw [beqT rfl]
    (conv => whnf); (try dsimp only)
    refine main xs (.tup xs) _ (.inl rfl) rfl hz hx _ ?_
    (conv => whnf); (try dsimp only)
    (repeat (refine ⟨(by first | rfl | decide | exact ⟨rfl, rfl⟩ | (refine sl63 ?_; simp; done) | (refine lt63 ?_; simp; done)), ?_⟩; (conv => whnf); (try dsimp only)))
    exact gc_same rfl p
  | lst xs =>
    obtain ⟨hz, hx⟩ := k
    refine ⟨rfl, ?_⟩
    (conv => whnf); (try dsimp only)
    (repeat (refine ⟨(by first | rfl | decide | exact ⟨rfl, rfl⟩ | (refine sl63 ?_; simp; done) | (refine lt63 ?_; simp; done)), ?_⟩; (conv => whnf); (try dsimp only)))
    rw [beqT rfl]
    (conv => whnf); (try dsimp only)
    refine main xs (.lst xs) _ (.inr rfl) rfl hz hx _ ?_
    (conv => whnf); (try dsimp only)
    (repeat (refine ⟨(by first | rfl | decide | exact ⟨rfl, rfl⟩ | (refine sl63 ?_; simp; done) | (refine lt63 ?_; simp; done)), ?_⟩; (conv => whnf); (try dsimp only)))
    exact gc_same rfl p
  | bl b => exact alk_scal trivial p
  | int b => exact alk_scal trivial p
  | str b => exact alk_scal trivial p
  | non => exact alk_scal trivial p
  | _ => exact False.elim k
theorem AlkD.up : ∀ {n m : Nat} {d : D}, n ≤ m → AlkD n d → AlkD m d
  | _, _, .bl _, _, _ => by unfold AlkD; trivial
  | _, _, .int _, _, _ => by unfold AlkD; trivial
  | _, _, .str _, _, _ => by unfold AlkD; trivial
  | _, _, .non, _, _ => by unfold AlkD; trivial
  | 0, _, .tup _, _, k => by unfold AlkD at k; exact k.elim
  | 0, _, .lst _, _, k => by unfold AlkD at k; exact k.elim
  | n + 1, 0, .tup _, h, _ => by omega
  | n + 1, 0, .lst _, h, _ => by omega
  | n + 1, m + 1, .tup xs, h, k => by
    unfold AlkD at k ⊢
    exact ⟨k.1, fun x hx => AlkD.up (by omega) (k.2 x hx)⟩
  | n + 1, m + 1, .lst xs, h, k => by
    unfold AlkD at k ⊢
    exact ⟨k.1, fun x hx => AlkD.up (by omega) (k.2 x hx)⟩
  | _, _, .scr _, _, k => by unfold AlkD at k; exact k.elim
  | _, _, .ref _, _, k => by unfold AlkD at k; exact k.elim
  | _, _, .con _, _, k => by unfold AlkD at k; exact k.elim
  | _, _, .dct _ _, _, k => by unfold AlkD at k; exact k.elim
end MP

namespace MP
open PySem PySem.Spec PyProof.Rows L2
/-! ### dicts whose keys are numbers -/
theorem deq_intD (a b : Nat) : deq (intD a) (intD b) = decide (a = b) := by
  show ((a : Int) == (b : Int)) = _
  by_cases h : a = b
  · subst h; simp
  · have : (a : Int) ≠ (b : Int) := by omega
    rw [beq_eq_false_iff_ne.mpr this, decide_eq_false h]
theorem dix_map {α : Type} {f : α → D} {g : α → Nat} (hf : ∀ a, f a = intD (g a)) (l : List α) (i : Nat) : dix (l.map f) (intD i) = l.findIdx? fun a => decide (g a = i) := by
  unfold dix
  rw [List.findIdx?_map]
  congr 1
  funext a
  show deq (f a) (intD i) = _
  rw [hf, deq_intD]
theorem dix_int (l : List Nat) (i : Nat) : dix (l.map intD) (intD i) = l.findIdx? fun a => decide (a = i) := dix_map (g := fun a => a) (fun _ => rfl) l i
theorem dix_isSome (l : List Nat) (i : Nat) : (dix (l.map intD) (intD i)).isSome = decide (i ∈ l) := by
  rw [dix_int, List.findIdx?_isSome]
  by_cases h : i ∈ l
  · rw [decide_eq_true h, List.any_eq_true]; exact ⟨i, h, by simp⟩
  · rw [decide_eq_false h, List.any_eq_false]
    intro x hx
    simp only [decide_eq_true_eq]
    intro e; subst e; exact h hx
theorem dix_none {l : List Nat} {i : Nat} (h : i ∉ l) : dix (l.map intD) (intD i) = none := by
  have := dix_isSome l i
  rw [decide_eq_false h] at this
  cases q : dix (l.map intD) (intD i) with
  | none => rfl
  | some j => rw [q] at this; cases this
theorem kb_int (i : Nat) : kB (intD i) = true := rfl
theorem kb_ints (l : List Nat) : (l.map intD).all kB = true := by
  rw [List.all_map]; exact List.all_eq_true.mpr fun _ _ => rfl
theorem kok_int (l : List Nat) (i : Nat) : KOk (l.map intD) (intD i) := .inl ⟨rfl, kb_ints l⟩
theorem dget_int {l : List Nat} {i : Nat} (f : Nat → D) (h : i ∈ l) : dget (l.map intD) (l.map f) (intD i) = some (f i) := by
  unfold dget
  rw [dix_int]
  have hs : (l.findIdx? fun a => decide (a = i)).isSome = true := by
    rw [List.findIdx?_isSome, List.any_eq_true]; exact ⟨i, h, by simp⟩
  obtain ⟨j, hj⟩ := Option.isSome_iff_exists.mp hs
  obtain ⟨x, hx, hp⟩ := ix_get hj
  have e := of_decide_eq_true hp
  subst e
  rw [hj, Option.bind_some, List.getElem?_map, hx]; rfl
theorem ixD_int {l : List Nat} {i : Nat} (f : Nat → D) {P : D → Prop} (hi : i ∈ l) (p : P (f i)) : KOk (l.map intD) (intD i) ∧ ∃ d, dget (l.map intD) (l.map f) (intD i) = some d ∧ P d :=
  ⟨kok_int l i, f i, dget_int f hi, p⟩
theorem dput_new {l : List Nat} {i : Nat} {vs : List D} {v : D} (h : i ∉ l) : dput (l.map intD) vs (intD i) v = ((l ++ [i]).map intD, vs ++ [v]) := by
  unfold dput
  rw [dix_none h, List.map_append]; rfl
def tt : Nat → D := fun _ => .bl true
def ins (l : List Nat) (i : Nat) : List Nat := if i ∈ l then l else l ++ [i]
theorem ins_mem {l : List Nat} {i j : Nat} : j ∈ ins l i ↔ j ∈ l ∨ j = i := by
  unfold ins
  split
  · rename_i h
    exact ⟨.inl, fun h' => h'.elim id fun e => e ▸ h⟩
  · simp
theorem ins_nodup {l : List Nat} {i : Nat} (h : l.Nodup) : (ins l i).Nodup := by
  unfold ins
  split
  · exact h
  · rename_i hn
    rw [List.nodup_append]
    exact ⟨h, by simp, fun a ha b hb => by
      rw [List.mem_singleton] at hb
      subst hb
      intro e
      subst e
      exact hn ha⟩
theorem set_tt {l : List Nat} (j : Nat) : (l.map tt).set j (.bl true) = l.map tt := by
  apply List.ext_getElem?
  intro k
  rw [List.getElem?_set]
  split
  · rename_i e
    subst e
    rw [List.length_map]
    split
    · rename_i hlt
      rw [List.getElem?_map, List.getElem?_eq_getElem hlt]; rfl
    · rename_i hlt
      rw [List.getElem?_map, List.getElem?_eq_none (by omega)]; rfl
  · rfl
theorem dput_tt (l : List Nat) (i : Nat) : dput (l.map intD) (l.map tt) (intD i) (.bl true) = ((ins l i).map intD, (ins l i).map tt) := by
  unfold ins
  split
  · rename_i h
    have hs := dix_isSome l i
    rw [decide_eq_true h] at hs
    obtain ⟨j, hj⟩ := Option.isSome_iff_exists.mp hs
    unfold dput
    rw [hj]
    show (l.map intD, (l.map tt).set j (.bl true)) = _
    rw [set_tt]
  · rename_i h
    rw [dput_new h, List.map_append, List.map_append]; rfl
theorem dmerge_tt : ∀ (l2 l : List Nat), dmerge (l.map intD) (l.map tt) (l2.map intD) (l2.map tt) = ((l2.foldl ins l).map intD, (l2.foldl ins l).map tt)
  | [], l => rfl
  | i :: l2, l => by
    show dmerge (dput (l.map intD) (l.map tt) (intD i) (.bl true)).1 (dput (l.map intD) (l.map tt) (intD i) (.bl true)).2 (l2.map intD) (l2.map tt) = _
    rw [dput_tt]
    exact dmerge_tt l2 (ins l i)
theorem foldl_ins_mem : ∀ {l2 l : List Nat} {j : Nat}, j ∈ l2.foldl ins l ↔ j ∈ l ∨ j ∈ l2
  | [], l, j => by simp
  | i :: l2, l, j => by
    rw [List.foldl_cons, foldl_ins_mem, ins_mem, List.mem_cons, or_assoc]
theorem foldl_ins_nodup : ∀ {l2 l : List Nat}, l.Nodup → (l2.foldl ins l).Nodup
  | [], _, h => h
  | i :: l2, l, h => foldl_ins_nodup (l2 := l2) (ins_nodup h)
/-- a dict comprehension over different numbers; it changes no more -/
theorem dcv {hs0 : Hq} {s : Src} {step : D → Hq → (D → D → Hq → Prop) → (Hq → Prop) → Prop} {P : WK} {h : Hq} (xs : List Nat) (f : Nat → D) (ed : s.its = some (xs.map intD)) (e0 : hs0 = h) (nd : xs.Nodup) (hz : xs.length ≤ 1000000)
    (hs : ∀ a ∈ xs, ∀ (h' : Hq), h <+: h' → ∀ (kp : D → D → Hq → Prop) (sk : Hq → Prop), kp (intD a) (f a) h' → step (intD a) h' kp sk)
    (nr : ∀ a, (f a).nr = true) (he : P (.dct (xs.map intD) (xs.map f)) h) : ∃ k, dcN s h.length step (gcK hs0 P) k 0 (h ++ [.dct [] []]) := by
  subst e0
  have key : ∀ (n i : Nat), n + i = xs.length → dcN s hs0.length step (gcK hs0 P) (n + 1) i (hs0 ++ [.dct ((xs.take i).map intD) ((xs.take i).map f)]) := by
    intro n
    induction n with
    | zero =>
      intro i e
      have e' : i = xs.length := by omega
      subst e'
      unfold dcN
      rw [Src.its_tick ed, List.getElem?_eq_none (by simp), List.take_length]
      exact gc_dct (List.prefix_append _ _) (Nat.le_refl _) (.inl (by simp)) (nrL_map (fun _ => rfl) _) (nrL_map nr _) he
    | succ n ih =>
      intro i e
      have hlt : i < xs.length := by omega
      unfold dcN
      rw [Src.its_tick ed, List.getElem?_map, List.getElem?_eq_getElem hlt]
      refine hs xs[i] (List.getElem_mem hlt) _ (List.prefix_append _ _) _ _ ?_
      have et : xs.take (i + 1) = xs.take i ++ [xs[i]] := by rw [List.take_add_one, List.getElem?_eq_getElem hlt]; rfl
      have hnew : xs[i] ∉ xs.take i := by
        intro hm
        obtain ⟨j, hj, ej⟩ := List.mem_take_iff_getElem.mp hm
        have := (List.getElem_inj (h₀ := by omega) (h₁ := hlt) nd).mp ej
        omega
      have hget : (hs0 ++ [Ob.dct ((xs.take i).map intD) ((xs.take i).map f)])[hs0.length]? = some (.dct ((xs.take i).map intD) ((xs.take i).map f)) := by simp
      rw [hget]
      refine ⟨⟨rfl, kb_ints _, by rw [List.length_map, List.length_take, sizeLine_eq]; omega⟩, ?_⟩
      rw [dput_new hnew, set_app, show (xs.take i).map f ++ [f xs[i]] = (xs.take (i + 1)).map f by rw [et, List.map_append]; rfl, ← et]
      exact ih (i + 1) (by omega)
  exact ⟨xs.length + 1, key xs.length 0 (by omega)⟩
end MP

namespace MP
open PySem PySem.Spec PyProof.Rows L2
/-! ### heaps with a tail -/
theorem tg {h G : Hq} (i : Nat) : (h ++ G)[h.length + i]? = G[i]? := by
  rw [List.getElem?_append_right (by omega), Nat.add_sub_cancel_left]
theorem tg0 {h G : Hq} : (h ++ G)[h.length]? = G[0]? := tg 0
theorem ts {h G : Hq} {o : Ob} (i : Nat) : (h ++ G).set (h.length + i) o = h ++ G.set i o := by
  rw [List.set_append_right _ _ (by omega), Nat.add_sub_cancel_left]
theorem ts0 {h G : Hq} {o : Ob} : (h ++ G).set h.length o = h ++ G.set 0 o := ts 0
theorem tl1 {h : Hq} {a : Ob} : (h ++ [a]).length = h.length + 1 := by simp
/-! ### asks and steps -/
theorem asc_pw : ∀ l : List Nat, (∀ x ∈ List.zip l l.tail, x.1 < x.2) → l.Pairwise (· < ·)
  | [], _ => List.Pairwise.nil
  | [a], _ => List.pairwise_singleton _ _
  | a :: b :: l, h => by
    have ih := asc_pw (b :: l) fun x hx => h x (by simp only [List.tail_cons, List.zip_cons_cons, List.mem_cons] at hx ⊢; exact .inr hx)
    have hab : a < b := h (a, b) (by simp)
    refine List.pairwise_cons.mpr ⟨fun y hy => ?_, ih⟩
    rcases List.mem_cons.mp hy with rfl | hy
    · exact hab
    · have := (List.pairwise_cons.mp ih).1 y hy
      omega
theorem Svc.Ok.pw {s : Svc} (ok : s.Ok) : s.asks.Pairwise (· < ·) := asc_pw _ ok.asc
theorem Svc.Ok.nd {s : Svc} (ok : s.Ok) : s.asks.Nodup := ok.pw.imp fun h => by omega
def Svc.row (s : Svc) (i : Nat) : List (Nat × Nat) := s.rows[i]?.getD []
theorem Svc.Ok.row_eq {s : Svc} (ok : s.Ok) {i : Nat} (hi : i < s.rows.length) : s.row i = s.asks.map (s.step i) := by
  have e : s.rows[i]? = some s.rows[i] := List.getElem?_eq_getElem hi
  have hl := ok.rl s.rows[i] (List.getElem_mem hi)
  unfold Svc.row
  rw [e]
  show s.rows[i] = _
  apply List.ext_getElem
  · rw [List.length_map, hl]
  · intro k h1 h2
    rw [List.getElem_map]
    rw [List.length_map] at h2
    have hs : s.step i s.asks[k] = s.rows[i][k] := by
      unfold Svc.step
      simp only [ok.nd.idxOf_getElem k h2, e, Option.getD_some, List.getElem?_eq_getElem h1]
    exact hs.symm
theorem Svc.Ok.at_row {s : Svc} (ok : s.Ok) {i : Nat} (hi : i < s.rows.length) : atI (s.rows.map rowD) (i : Int) = some (rowD (s.row i)) := by
  refine atI_nat ?_
  unfold Svc.row
  rw [List.getElem?_map, List.getElem?_eq_getElem hi]; rfl
inductive Reach (s : Svc) : Nat → Prop
  | zero : Reach s 0
  | step {i c : Nat} : Reach s i → c ∈ s.asks → Reach s (s.step i c).1
theorem Reach.lt {s : Svc} (ok : s.Ok) {i : Nat} (r : Reach s i) : i < s.rows.length := by
  induction r with
  | zero => have := ok.r1; omega
  | step _ hc ih => exact (ok.lt ih hc).1
theorem Reach.lead {s : Svc} {row : List Nat} : ∀ {i : Nat}, Reach s i → (∀ c ∈ row, c ∈ s.asks) → Reach s (lead s i row) := by
  induction row with
  | nil => intro i r _; exact r
  | cons c row ih => intro i r h; exact ih (r.step (h c (by simp))) fun z hz => h z (by simp [hz])
theorem nodup_le {l : List Nat} {n : Nat} (nd : l.Nodup) (h : ∀ i ∈ l, i < n) : l.length ≤ n := by
  induction n generalizing l with
  | zero =>
    cases l with
    | nil => exact Nat.le_refl _
    | cons a _ => exact absurd (h a (by simp)) (by omega)
  | succ n ih =>
    have h1 := ih (l := l.erase n) (nd.erase n) fun i hi => by
      have h2 := h i (List.mem_of_mem_erase hi)
      have h3 : i ≠ n := fun e => by
        subst e
        exact (List.Nodup.not_mem_erase nd) hi
      omega
    have h2 : l.length ≤ (l.erase n).length + 1 := by
      rw [List.length_erase]
      split <;> omega
    omega
/-- the k-th of a list of numbers -/
def gd (l : List Nat) (k : Nat) : Nat := l[k]?.getD 0
theorem gd_get {l : List Nat} {k : Nat} (h : k < l.length) : gd l k = l[k] := by unfold gd; rw [List.getElem?_eq_getElem h]; rfl
theorem gd_app {l g : List Nat} {k : Nat} (h : k < l.length) : gd (l ++ g) k = gd l k := by unfold gd; rw [List.getElem?_append_left h]
theorem gd_last {l : List Nat} {j : Nat} : gd (l ++ [j]) l.length = j := by unfold gd; simp
theorem gd_mem {l : List Nat} {k : Nat} (h : k < l.length) : gd l k ∈ l := by rw [gd_get h]; exact List.getElem_mem h
theorem gd_of {l : List Nat} {x : Nat} (h : x ∈ l) : ∃ k, k < l.length ∧ gd l k = x := by
  obtain ⟨k, hk, e⟩ := List.mem_iff_getElem.mp h
  exact ⟨k, hk, by rw [gd_get hk, e]⟩
theorem gd_inj {l : List Nat} (nd : l.Nodup) {k t : Nat} (hk : k < l.length) (ht : t < l.length) (e : gd l k = gd l t) : k = t := by
  rw [gd_get hk, gd_get ht] at e
  exact (List.getElem_inj (h₀ := hk) (h₁ := ht) nd).mp e
/-- the pair of a place and an ask comes ahead of another -/
def Ahead (s : Svc) (k' c' k c : Nat) : Prop := k' < k ∨ k' = k ∧ s.asks.idxOf c' < s.asks.idxOf c
structure RList (s : Svc) (l : List Nat) : Prop where
  nd : l.Nodup
  mem : ∀ i, i ∈ l ↔ Reach s i
  hd : l.head? = some 0
  /-- each but the first is led to from one ahead of it -/
  fst : ∀ t, t < l.length → 0 < t → ∃ k c, k < t ∧ c ∈ s.asks ∧ (s.step (gd l k) c).1 = gd l t
  /-- who is led to was led to after all ahead of it -/
  rg : ∀ k c t u, k < l.length → c ∈ s.asks → t < l.length → (s.step (gd l k) c).1 = gd l t → u < t → 0 < u → ∃ k' c', Ahead s k' c' k c ∧ k' < l.length ∧ c' ∈ s.asks ∧ (s.step (gd l k') c').1 = gd l u
theorem RList.le {s : Svc} {l : List Nat} (ok : s.Ok) (R : RList s l) : l.length ≤ 40 := by
  have := nodup_le R.nd fun i hi => ((R.mem i).mp hi).lt ok
  have := ok.r2
  omega
/-- what is known on the way: those at places ahead of at_, and of at_ itself the asks D, have been walked -/
structure RInv (s : Svc) (l : List Nat) (at_ : Nat) (D : List Nat) : Prop where
  nd : l.Nodup
  hd : l.head? = some 0
  re : ∀ i ∈ l, Reach s i
  cl : ∀ k c, k < at_ → k < l.length → c ∈ s.asks → (s.step (gd l k) c).1 ∈ l
  cd : ∀ c ∈ D, (s.step (gd l at_) c).1 ∈ l
  fst : ∀ t, t < l.length → 0 < t → ∃ k c, k < t ∧ c ∈ s.asks ∧ (k < at_ ∨ k = at_ ∧ c ∈ D) ∧ (s.step (gd l k) c).1 = gd l t
  rg : ∀ k c t u, k < l.length → c ∈ s.asks → (k < at_ ∨ k = at_ ∧ c ∈ D) → t < l.length → (s.step (gd l k) c).1 = gd l t → u < t → 0 < u → ∃ k' c', Ahead s k' c' k c ∧ k' < l.length ∧ c' ∈ s.asks ∧ (s.step (gd l k') c').1 = gd l u
theorem RInv.first {s : Svc} : RInv s [0] 0 [] where
  nd := by simp
  hd := rfl
  re := fun i hi => by rw [List.mem_singleton.mp hi]; exact .zero
  cl := fun k c h => by omega
  cd := fun c h => by cases h
  fst := fun t h1 h2 => by simp at h1; omega
  rg := fun k c t u _ _ h => by
    rcases h with h | ⟨_, h⟩
    · omega
    · cases h
/-- one more ask of at_ -/
theorem RInv.one {s : Svc} {l : List Nat} {at_ c : Nat} {D R : List Nat} (I : RInv s l at_ D) (ha : s.asks = D ++ c :: R) (nda : s.asks.Nodup) (hat : at_ < l.length) : RInv s (ins l (s.step (gd l at_) c).1) at_ (D ++ [c]) := by
  have hc : c ∈ s.asks := by rw [ha]; simp
  have hD : ∀ z ∈ D, z ∈ s.asks := fun z hz => by rw [ha]; simp [hz]
  have hcD : c ∉ D := by
    rw [ha] at nda
    exact fun h => (List.nodup_append.mp nda).2.2 c h c (by simp) rfl
  have hidx : ∀ z ∈ D, s.asks.idxOf z < s.asks.idxOf c := fun z hz => by
    have e1 : s.asks.idxOf c = D.length := by
      rw [ha, List.idxOf_append, if_neg hcD]; simp
    have e2 : s.asks.idxOf z < D.length := by
      rw [ha, List.idxOf_append, if_pos hz]; exact List.idxOf_lt_length_of_mem hz
    omega
  have hj : Reach s (s.step (gd l at_) c).1 := (I.re _ (gd_mem hat)).step hc
  by_cases hm : (s.step (gd l at_) c).1 ∈ l
  · have e : ins l (s.step (gd l at_) c).1 = l := by unfold ins; rw [if_pos hm]
    rw [e]
    refine ⟨I.nd, I.hd, I.re, I.cl, fun z hz => ?_, fun t h1 h2 => ?_, fun k z t u hk hz hp ht he hut hu => ?_⟩
    · rcases List.mem_append.mp hz with hz | hz
      · exact I.cd z hz
      · rw [List.mem_singleton.mp hz]; exact hm
    · obtain ⟨k, z, q1, q2, q3, q4⟩ := I.fst t h1 h2
      exact ⟨k, z, q1, q2, q3.imp id fun ⟨a, b⟩ => ⟨a, by simp [b]⟩, q4⟩
    · by_cases hz2 : k < at_ ∨ k = at_ ∧ z ∈ D
      · exact I.rg k z t u hk hz hz2 ht he hut hu
      · have hk2 : k = at_ ∧ z = c := by
          rcases hp with hp | ⟨hp, hq⟩
          · exact absurd (.inl hp) hz2
          · rcases List.mem_append.mp hq with hq | hq
            · exact absurd (.inr ⟨hp, hq⟩) hz2
            · exact ⟨hp, List.mem_singleton.mp hq⟩
        obtain ⟨k', c', q1, q2, q3, q4⟩ := I.fst u (by omega) hu
        refine ⟨k', c', ?_, by omega, q2, q4⟩
        rw [hk2.1, hk2.2]
        rcases q3 with q3 | ⟨q3, q5⟩
        · exact .inl q3
        · exact .inr ⟨q3, hidx c' q5⟩
  · have e : ins l (s.step (gd l at_) c).1 = l ++ [(s.step (gd l at_) c).1] := by unfold ins; rw [if_neg hm]
    rw [e]
    have el : (l ++ [(s.step (gd l at_) c).1]).length = l.length + 1 := by simp
    have old : ∀ k, k < l.length → gd (l ++ [(s.step (gd l at_) c).1]) k = gd l k := fun k hk => gd_app hk
    refine ⟨by rw [← e]; exact ins_nodup I.nd, ?_, fun i hi => ?_, fun k z h1 h2 h3 => ?_, fun z hz => ?_, fun t h1 h2 => ?_, fun k z t u hk hz hp ht he hut hu => ?_⟩
    · cases l with
      | nil => simp at hat
      | cons a l => exact I.hd
    · rcases List.mem_append.mp hi with hi | hi
      · exact I.re i hi
      · rw [List.mem_singleton.mp hi]; exact hj
    · rw [old k (by omega)]
      exact List.mem_append_left _ (I.cl k z h1 (by omega) h3)
    · rw [old at_ hat]
      rcases List.mem_append.mp hz with hz | hz
      · exact List.mem_append_left _ (I.cd z hz)
      · rw [List.mem_singleton.mp hz]; simp
    · rw [el] at h1
      by_cases ht : t < l.length
      · obtain ⟨k, z, q1, q2, q3, q4⟩ := I.fst t ht h2
        exact ⟨k, z, q1, q2, q3.imp id fun ⟨a, b⟩ => ⟨a, by simp [b]⟩, by rw [old k (by omega), old t ht]; exact q4⟩
      · have : t = l.length := by omega
        subst this
        exact ⟨at_, c, hat, hc, .inr ⟨rfl, by simp⟩, by rw [old at_ hat, gd_last]⟩
    · rw [el] at hk ht
      have hkl : k < l.length := by
        rcases hp with hp | ⟨hp, _⟩
        · omega
        · omega
      rw [old k hkl] at he
      by_cases hz2 : k < at_ ∨ k = at_ ∧ z ∈ D
      · have hin : (s.step (gd l k) z).1 ∈ l := by
          rcases hz2 with h | ⟨h, h'⟩
          · exact I.cl k z h hkl hz
          · rw [h]; exact I.cd z h'
        have htl : t < l.length := by
          rcases Nat.lt_or_ge t l.length with h | h
          · exact h
          · have : t = l.length := by omega
            subst this
            rw [gd_last] at he
            rw [he] at hin
            exact absurd hin hm
        rw [old t htl] at he
        obtain ⟨k', c', q1, q2, q3, q4⟩ := I.rg k z t u hkl hz hz2 htl he hut hu
        exact ⟨k', c', q1, by omega, q3, by rw [old k' q2, old u (by omega)]; exact q4⟩
      · have hk2 : k = at_ ∧ z = c := by
          rcases hp with hp | ⟨hp, hq⟩
          · exact absurd (.inl hp) hz2
          · rcases List.mem_append.mp hq with hq | hq
            · exact absurd (.inr ⟨hp, hq⟩) hz2
            · exact ⟨hp, List.mem_singleton.mp hq⟩
        obtain ⟨k', c', q1, q2, q3, q4⟩ := I.fst u (by omega) hu
        refine ⟨k', c', ?_, by omega, q2, by rw [old k' (by omega), old u (by omega)]; exact q4⟩
        rw [hk2.1, hk2.2]
        rcases q3 with q3 | ⟨q3, q5⟩
        · exact .inl q3
        · exact .inr ⟨q3, hidx c' q5⟩
/-- all asks of at_ -/
theorem RInv.row {s : Svc} {l : List Nat} {at_ : Nat} (I : RInv s l at_ s.asks) : RInv s l (at_ + 1) [] where
  nd := I.nd
  hd := I.hd
  re := I.re
  cl := fun k c h1 h2 h3 => by
    by_cases h : k < at_
    · exact I.cl k c h h2 h3
    · have : k = at_ := by omega
      subst this
      exact I.cd c h3
  cd := fun c h => by cases h
  fst := fun t h1 h2 => by
    obtain ⟨k, c, q1, q2, q3, q4⟩ := I.fst t h1 h2
    exact ⟨k, c, q1, q2, .inl (by omega), q4⟩
  rg := fun k c t u hk hc hp ht he hut hu => by
    refine I.rg k c t u hk hc ?_ ht he hut hu
    rcases hp with hp | ⟨_, hp⟩
    · by_cases h : k < at_
      · exact .inl h
      · exact .inr ⟨by omega, hc⟩
    · cases hp
theorem RInv.done {s : Svc} {l : List Nat} {at_ : Nat} (I : RInv s l at_ []) (h : l.length ≤ at_) : RList s l := by
  refine ⟨I.nd, fun i => ⟨I.re i, fun r => ?_⟩, I.hd, fun t h1 h2 => ?_, fun k c t u hk hc ht he hut hu => I.rg k c t u hk hc (.inl (by omega)) ht he hut hu⟩
  · induction r with
    | zero => exact List.mem_of_mem_head? (by rw [I.hd]; rfl)
    | step _ hc ih =>
      obtain ⟨k, hk, e⟩ := gd_of ih
      have := I.cl k _ (by omega) hk hc
      rwa [e] at this
  · obtain ⟨k, c, q1, q2, _, q4⟩ := I.fst t h1 h2
    exact ⟨k, c, q1, q2, q4⟩
def Svc.rowsD (s : Svc) : D := .tup (s.rows.map rowD)
abbrev N_reached : List Str := ["rows", "found", "seen", "at", "later", "answer"]
def ws_reached : WS := (wsSeq (wsPar3 1 2 3 (waCons (wLstM (waCons (wC (.int 0)) waNil)) (waCons (wDisp false (wC (.int 0)) (wC (.bl true))) (waCons (wC (.int 0)) waNil)))) (wsSeq (wsWhile (wtB (wOp gLt (wVar 3) (wCB bLenU (waCons (wVar 1) waNil)))) (wsSeq (wsFor (wiAny (wOp gIxU (wVar 0) (wOp gIxU (wVar 1) (wVar 3)))) (wgPat (.tp (.cons (.nm 4) (.cons (.nm 5) .nil)))) (wsSeq (wsIf (wtB (wOp (gInU true) (wVar 4) (wVar 2))) (wsSeq (wsAsg (wgSub (wVar 2) (wVar 4)) (wC (.bl true))) (wsSeq (wsExpr (wBM "list" mAppend (wVar 1) (waCons (wVar 4) waNil))) wsNil)) wsNil) wsNil)) (wsSeq (wsAug 3 gIadd (wC (.int 1))) wsNil))) (wsSeq (wsRet (wVar 1)) wsNil)))
def g_reached : WL := fun ds h P => ∃ s : Svc, s.Ok ∧ ds = [s.rowsD] ∧ ∀ l, RList s l → P (.lst (l.map intD)) h
theorem reached_ok : ∀ ds h P, g_reached ds h P → wF ws_reached 6 1 ds h P := by
  rintro ds h P ⟨s, ok, rfl, hP⟩
  refine ⟨rfl, ?_⟩
  (conv => whnf); (try dsimp only)
  refine ⟨sl63 (by simp), ?_⟩
  (conv => whnf); (try dsimp only)
  simp only [tl1, List.append_assoc, tg0, tg]
  (conv => whnf); (try dsimp only)
  refine ⟨rfl, ?_⟩
  have e0 : ((h ++ ([Ob.lst [D.int 0]] ++ [Ob.dct [] []])).set (h.length + 1) (Ob.dct [D.int 0] [D.bl true])) = h ++ [.lst ([0].map intD), .dct ([0].map intD) ([0].map tt)] := ts 1
  rw [e0]
  (conv => whnf); (try dsimp only)
  refine wh_inv (fun n fr h' => ∃ (l : List Nat) (at_ : Nat) (x y : Option D), h' = h ++ [.lst (l.map intD), .dct (l.map intD) (l.map tt)] ∧ fr = [some s.rowsD, some (.ref h.length), some (.ref (h.length + 1)), some (.int (at_ : Nat)), x, y] ∧
    RInv s l at_ [] ∧ at_ ≤ l.length ∧ n = s.rows.length - at_) (n := s.rows.length) ?_ ?_
  · exact ⟨[0], 0, none, none, rfl, rfl, .first, by simp, by omega⟩
  · rintro n fr h' ⟨l, at_, x, y, rfl, rfl, I, hat, rfl⟩ K hK
    have hll : l.length ≤ s.rows.length := nodup_le I.nd fun i hi => (I.re i hi).lt ok
    have hr2 := ok.r2
    (conv => whnf); (try dsimp only)
    simp only [tg0]
    (conv => whnf); (try dsimp only)
    by_cases hlt : at_ < l.length
    · (generalize hdec : decide ((at_ : Int) < ((l.map intD).length : Int)) = bdec; obtain rfl : bdec = true := hdec.symm.trans (decide_eq_true (by rw [List.length_map]; omega)); clear hdec; (conv => whnf); (try dsimp only))
      simp only [tg0]
      (conv => whnf); (try dsimp only)
      have hat' : atI (l.map intD) (at_ : Int) = some (intD (gd l at_)) := atI_nat (by rw [List.getElem?_map, List.getElem?_eq_getElem hlt, gd_get hlt]; rfl)
      simp only [hat']
      (conv => whnf); (try dsimp only)
      have hi := (I.re _ (gd_mem hlt)).lt ok
      simp only [ok.at_row hi]
      (conv => whnf); (try dsimp only)
      refine fo_fix s.asks (fun c => stD (s.step (gd l at_) c)) (fun rest fr h' => ∃ (l' : List Nat) (x y : Option D) (dn : List Nat), h' = h ++ [.lst (l'.map intD), .dct (l'.map intD) (l'.map tt)] ∧ fr = [some s.rowsD, some (.ref h.length), some (.ref (h.length + 1)), some (.int (at_ : Nat)), x, y] ∧
        RInv s l' at_ dn ∧ l <+: l' ∧ s.asks = dn ++ rest) ?_ ?_ ?_ ?_
      · show some ((s.row (gd l at_)).map stD) = _
        rw [ok.row_eq hi, List.map_map]; rfl
      · exact ⟨l, _, _, [], rfl, rfl, I, List.prefix_refl _, rfl⟩
      · rintro c rest fr h' hc ⟨l', x, y, dn, rfl, rfl, I', pre, hdn⟩ K2 hK2
        have hl' : l'.length ≤ s.rows.length := nodup_le I'.nd fun i hi => (I'.re i hi).lt ok
        have hat2 : at_ < l'.length := Nat.lt_of_lt_of_le hlt pre.length_le
        have eg : gd l' at_ = gd l at_ := by
          obtain ⟨g, rfl⟩ := pre
          exact gd_app hlt
        have I2 := I'.one hdn ok.nd hat2
        rw [eg] at I2
        have hd1 : (h ++ [Ob.lst (l'.map intD), Ob.dct (l'.map intD) (l'.map tt)])[h.length + 1]? = some (.dct (l'.map intD) (l'.map tt)) := tg 1
        (conv => whnf); (try dsimp only)
        simp only [dct_ref hd1]
        generalize (s.step (gd l at_) c).1 = j at I2 ⊢
        refine ⟨kok_int l' j, ?_⟩
        rw [show dix (l'.map intD) (D.int (j : Int)) = dix (l'.map intD) (intD j) from rfl, dix_isSome]
        by_cases hj : j ∈ l'
        · rw [decide_eq_true hj]
          have e : ins l' j = l' := by unfold ins; rw [if_pos hj]
          rw [e] at I2
          (conv => whnf); (try dsimp only)
          exact .inl (hK2 _ _ ⟨l', _, _, dn ++ [c], rfl, rfl, I2, pre, by rw [hdn, List.append_assoc]; rfl⟩)
        · rw [decide_eq_false hj]
          (conv => whnf); (try dsimp only)
          simp only [tg]
          (conv => whnf); (try dsimp only)
          refine ⟨⟨kok_int l' j, by rw [List.length_map, sizeLine_eq]; omega⟩, ?_⟩
          rw [show D.int (j : Int) = intD j from rfl, dput_tt, ts]
          (conv => whnf); (try dsimp only)
          refine ⟨ty_lst (by unfold lstAt; rw [tg0]; rfl), ?_⟩
          (conv => whnf); (try dsimp only)
          have el' : lstAt (h ++ [Ob.lst (l'.map intD), Ob.dct (l'.map intD) (l'.map tt)].set 1 (Ob.dct ((ins l' j).map intD) ((ins l' j).map tt))) h.length = some (l'.map intD) := by unfold lstAt; rw [tg0]; rfl
          simp only [el']
          refine ⟨by rw [List.length_map, sizeLine_eq]; omega, ?_⟩
          have ei : ins l' j = l' ++ [j] := by unfold ins; rw [if_neg hj]
          rw [ei] at I2
          rw [ts0]
          refine .inl (hK2 _ _ ⟨l' ++ [j], _, _, dn ++ [c], ?_, rfl, I2, pre.trans (List.prefix_append _ _), by rw [hdn, List.append_assoc]; rfl⟩)
          show h ++ [Ob.lst (l'.map intD ++ [intD j]), Ob.dct ((ins l' j).map intD) ((ins l' j).map tt)] = _
          rw [ei, List.map_append]; rfl
      · rintro fr h' ⟨l', x, y, dn, rfl, rfl, I', pre, hdn⟩
        rw [List.append_nil] at hdn
        subst hdn
        have := pre.length_le
        (conv => whnf); (try dsimp only)
        exact .inl (hK (s.rows.length - (at_ + 1)) _ _ (by omega) ⟨l', at_ + 1, _, _, rfl, rfl, I'.row, by omega, rfl⟩)
    · (generalize hdec : decide ((at_ : Int) < ((l.map intD).length : Int)) = bdec; obtain rfl : bdec = false := hdec.symm.trans (decide_eq_false (by rw [List.length_map]; omega)); clear hdec; (conv => whnf); (try dsimp only))
      exact gc_lst (List.prefix_append _ _) (Nat.le_refl _) (by unfold lstAt; rw [tg0]; rfl) (nrL_map (fun _ => rfl) _) (hP l (I.done (by omega)))
end MP

namespace MP
open PySem PySem.Spec PyProof.Rows L2
/-! ### counting -/
theorem sub_le : ∀ {A B : List Nat}, A.Nodup → (∀ a ∈ A, a ∈ B) → A.length ≤ B.length
  | [], _, _, _ => Nat.zero_le _
  | a :: A, B, nd, h => by
    obtain ⟨n1, n2⟩ := List.nodup_cons.mp nd
    have h1 := sub_le (A := A) (B := B.erase a) n2 fun b hb => by
      have := h b (by simp [hb])
      have hne : b ≠ a := by intro e; subst e; exact n1 hb
      exact (List.mem_erase_of_ne hne).mpr this
    have ha := h a (by simp)
    have h2 : (B.erase a).length = B.length - 1 := List.length_erase_of_mem ha
    have h3 : 0 < B.length := List.length_pos_of_mem ha
    rw [List.length_cons]
    omega
theorem full_inj {α : Type} {f : α → Nat} {L : List α} {n : Nat} (nd : L.Nodup) (hl : L.length = n) (hf : ∀ v, v < n → ∃ a ∈ L, f a = v) {a b : α} (ha : a ∈ L) (hb : b ∈ L) (e : f a = f b) : a = b := by
  obtain ⟨i, hi, ei⟩ := List.mem_iff_getElem.mp ha
  obtain ⟨j, hj, ej⟩ := List.mem_iff_getElem.mp hb
  by_cases hij : i = j
  · subst hij; rw [← ei, ← ej]
  · exfalso
    have key : ∀ (i j : Nat) (hi : i < L.length) (hj : j < L.length), i ≠ j → f L[i] = f L[j] → False := by
      intro i j hi hj hij e
      have h1 := sub_le (A := List.range n) (B := (L.eraseIdx j).map f) List.nodup_range fun v hv => by
        obtain ⟨c, hc, ec⟩ := hf v (List.mem_range.mp hv)
        obtain ⟨k, hk, ek⟩ := List.mem_iff_getElem.mp hc
        have : ∃ k', k' < L.length ∧ k' ≠ j ∧ ∃ (hk' : k' < L.length), f L[k'] = v := by
          by_cases hkj : k = j
          · subst hkj
            exact ⟨i, hi, hij, hi, by rw [e, ek, ec]⟩
          · exact ⟨k, hk, hkj, hk, by rw [ek, ec]⟩
        obtain ⟨k', _, hne, hk', ev⟩ := this
        refine List.mem_map.mpr ⟨L[k'], ?_, ev⟩
        exact List.mem_eraseIdx_iff_getElem.mpr ⟨k', hk', hne, rfl⟩
      rw [List.length_range, List.length_map, List.length_eraseIdx_of_lt hj] at h1
      omega
    exact key i j hi hj hij (by rw [ei, ej, e])
/-! ### behaviour -/
def EqK (s : Svc) (k i j : Nat) : Prop := ∀ row : List Nat, row.length ≤ k → (∀ c ∈ row, c ∈ s.asks) → tell s i row = tell s j row
def Beh (s : Svc) (i j : Nat) : Prop := ∀ row : List Nat, (∀ c ∈ row, c ∈ s.asks) → tell s i row = tell s j row
theorem EqK.zero {s : Svc} {i j : Nat} : EqK s 0 i j := fun row h _ => by
  have : row = [] := List.length_eq_zero_iff.mp (by omega)
  subst this; rfl
theorem EqK.mono {s : Svc} {k k' i j : Nat} (h : k' ≤ k) (e : EqK s k i j) : EqK s k' i j := fun row hr hc => e row (by omega) hc
theorem EqK.succ {s : Svc} {k i j : Nat} : EqK s (k + 1) i j ↔ ∀ c ∈ s.asks, (s.step i c).2 = (s.step j c).2 ∧ EqK s k (s.step i c).1 (s.step j c).1 := by
  refine ⟨fun e c hc => ⟨?_, fun row hr hin => ?_⟩, fun h row hr hin => ?_⟩
  · have := e [c] (by simp) (by simpa using hc)
    simpa [tell] using this
  · have := e (c :: row) (by simp; omega) (fun z hz => by rcases List.mem_cons.mp hz with rfl | hz; exact hc; exact hin z hz)
    simp only [tell, List.cons.injEq] at this
    exact this.2
  · cases row with
    | nil => rfl
    | cons c row =>
      obtain ⟨h1, h2⟩ := h c (hin c (by simp))
      show (s.step i c).2 :: tell s (s.step i c).1 row = (s.step j c).2 :: tell s (s.step j c).1 row
      rw [h1, h2 row (by simp at hr; omega) fun z hz => hin z (by simp [hz])]
theorem Beh.eqK {s : Svc} {i j : Nat} (b : Beh s i j) (k : Nat) : EqK s k i j := fun row _ h => b row h
theorem Beh.refl {s : Svc} {i : Nat} : Beh s i i := fun _ _ => rfl
theorem Beh.symm {s : Svc} {i j : Nat} (b : Beh s i j) : Beh s j i := fun row h => (b row h).symm
theorem Beh.trans {s : Svc} {i j k : Nat} (b : Beh s i j) (c : Beh s j k) : Beh s i k := fun row h => (b row h).trans (c row h)
theorem Beh.step {s : Svc} {i j c : Nat} (b : Beh s i j) (hc : c ∈ s.asks) : (s.step i c).2 = (s.step j c).2 ∧ Beh s (s.step i c).1 (s.step j c).1 := by
  refine ⟨?_, fun row hin => ?_⟩
  · have := b [c] (by simpa using hc)
    simpa [tell] using this
  · have := b (c :: row) (fun z hz => by rcases List.mem_cons.mp hz with rfl | hz; exact hc; exact hin z hz)
    simp only [tell, List.cons.injEq] at this
    exact this.2
/-- a refinement that splits nothing is the last -/
theorem beh_of_stable {s : Svc} {k : Nat} (st : ∀ i j, Reach s i → Reach s j → EqK s k i j → EqK s (k + 1) i j) {i j : Nat} (ri : Reach s i) (rj : Reach s j) (e : EqK s k i j) : Beh s i j := by
  have key : ∀ n i j, Reach s i → Reach s j → EqK s k i j → EqK s n i j := by
    intro n
    induction n with
    | zero => intro i j _ _ _; exact .zero
    | succ n ih =>
      intro i j ri rj e
      have e1 := EqK.succ.mp (st i j ri rj e)
      exact EqK.succ.mpr fun c hc => ⟨(e1 c hc).1, ih _ _ (ri.step hc) (rj.step hc) (e1 c hc).2⟩
  intro row hin
  exact key row.length i j ri rj e row (Nat.le_refl _) hin
structure MarksOk (s : Svc) (l : List Nat) (m : Nat → Nat) : Prop where
  eq : ∀ i ∈ l, ∀ j ∈ l, (m i = m j ↔ Beh s i j)
/-! ### what is told of a stand -/
abbrev Tk := Nat × List (Nat × Nat)
def kD (t : Tk) : D := .tup [intD t.1, .tup (t.2.map stD)]
theorem deq_stD (a b : Nat × Nat) : deq (stD a) (stD b) = decide (a = b) := by
  have e : deq (stD a) (stD b) = (deq (intD a.1) (intD b.1) && (([a.2] == [b.2]) && true)) := rfl
  rw [e, deq_intD]
  obtain ⟨a1, a2⟩ := a
  obtain ⟨b1, b2⟩ := b
  by_cases h1 : a1 = b1 <;> by_cases h2 : a2 = b2 <;> simp [h1, h2]
theorem deqL_st : ∀ a b : List (Nat × Nat), deqL (a.map stD) (b.map stD) = decide (a = b)
  | [], [] => by simp [deqL]
  | [], _ :: _ => by simp [deqL]
  | _ :: _, [] => by simp [deqL]
  | x :: a, y :: b => by
    show (deq (stD x) (stD y) && deqL (a.map stD) (b.map stD)) = _
    rw [deq_stD, deqL_st a b]
    by_cases h1 : x = y <;> by_cases h2 : a = b <;> simp [h1, h2]
theorem deq_kD (a b : Tk) : deq (kD a) (kD b) = decide (a = b) := by
  have e : deq (kD a) (kD b) = (deq (intD a.1) (intD b.1) && (deqL (a.2.map stD) (b.2.map stD) && true)) := rfl
  rw [e, deq_intD, deqL_st]
  obtain ⟨a1, a2⟩ := a
  obtain ⟨b1, b2⟩ := b
  by_cases h1 : a1 = b1 <;> by_cases h2 : a2 = b2 <;> simp [h1, h2]
theorem nk_st : ∀ l : List (Nat × Nat), ∃ ks, nkOfL (l.map stD) = some ks ∧ NestedKey.depthAll ks ≤ 1
  | [] => ⟨[], rfl, by simp [NestedKey.depthAll]⟩
  | x :: l => by
    obtain ⟨ks, e, hd⟩ := nk_st l
    refine ⟨.tup [.num (x.1 : Int), .text (mkS [x.2])] :: ks, ?_, ?_⟩
    · show (nkOf (stD x)).bind (fun k => (nkOfL (l.map stD)).map fun r => k :: r) = _
      rw [e]; rfl
    · simp only [NestedKey.depthAll, NestedKey.depth]; omega
theorem nk_kD (t : Tk) : nkB (kD t) = true := by
  obtain ⟨ks, e, hd⟩ := nk_st t.2
  have e1 : nkOf (kD t) = some (.tup [.num (t.1 : Int), .tup ks]) := by
    show (nkOfL [intD t.1, .tup (t.2.map stD)]).map NestedKey.tup = _
    show ((nkOf (intD t.1)).bind fun k => (nkOfL [D.tup (t.2.map stD)]).map fun r => k :: r).map NestedKey.tup = _
    have e2 : nkOf (.tup (t.2.map stD)) = some (.tup ks) := by
      show (nkOfL (t.2.map stD)).map NestedKey.tup = _
      rw [e]; rfl
    have e3 : nkOfL [D.tup (t.2.map stD)] = some [.tup ks] := by
      show ((nkOf (.tup (t.2.map stD))).bind fun k => (nkOfL []).map fun r => k :: r) = _
      rw [e2]; rfl
    rw [e3]; rfl
  show (match nkOf (kD t) with | some k => decide (k.depth ≤ 8) | none => false) = true
  rw [e1]
  refine decide_eq_true ?_
  simp only [NestedKey.depth, NestedKey.depthAll]
  omega
theorem nk_kDs (O : List Tk) : (O.map kD).all nkB = true := by
  rw [List.all_map]; exact List.all_eq_true.mpr fun t _ => nk_kD t
theorem dix_kD (O : List Tk) (t : Tk) : dix (O.map kD) (kD t) = O.findIdx? fun a => decide (a = t) := by
  unfold dix
  rw [List.findIdx?_map]
  congr 1
  funext a
  exact deq_kD a t
theorem dix_kD_in {O : List Tk} {t : Tk} (h : t ∈ O) : dix (O.map kD) (kD t) = some (O.idxOf t) := by
  rw [dix_kD, List.findIdx?_eq_some_iff_findIdx_eq]
  refine ⟨List.idxOf_lt_length_of_mem h, ?_⟩
  show O.findIdx (fun a => decide (a = t)) = O.findIdx (fun a => a == t)
  congr 1
  funext a
  by_cases e : a = t
  · rw [decide_eq_true e]; exact (beq_iff_eq.mpr e).symm
  · rw [decide_eq_false e]; exact (beq_eq_false_iff_ne.mpr e).symm
theorem dix_kD_no {O : List Tk} {t : Tk} (h : t ∉ O) : dix (O.map kD) (kD t) = none := by
  rw [dix_kD, List.findIdx?_eq_none_iff]
  intro x hx
  refine decide_eq_false fun e => h (e ▸ hx)
def ordV (O : List Tk) : List D := (List.range O.length).map intD
theorem dget_ord {O : List Tk} {t : Tk} (h : t ∈ O) : dget (O.map kD) (ordV O) (kD t) = some (intD (O.idxOf t)) := by
  unfold dget
  rw [dix_kD_in h, Option.bind_some]
  unfold ordV
  rw [List.getElem?_map, List.getElem?_range (List.idxOf_lt_length_of_mem h)]; rfl
def insT (O : List Tk) (t : Tk) : List Tk := if t ∈ O then O else O ++ [t]
theorem insT_mem {O : List Tk} {t u : Tk} : u ∈ insT O t ↔ u ∈ O ∨ u = t := by
  unfold insT
  split
  · rename_i h
    exact ⟨.inl, fun h' => h'.elim id fun e => e ▸ h⟩
  · simp
theorem insT_nodup {O : List Tk} {t : Tk} (h : O.Nodup) : (insT O t).Nodup := by
  unfold insT
  split
  · exact h
  · rename_i hn
    rw [List.nodup_append]
    exact ⟨h, by simp, fun a ha b hb => by
      rw [List.mem_singleton] at hb
      subst hb
      intro e
      subst e
      exact hn ha⟩
end MP

namespace MP
open PySem PySem.Spec PyProof.Rows L2
def tkOf (s : Svc) (m : Nat → Nat) (i : Nat) : Tk := (m i, (s.row i).map fun x => (m x.1, x.2))
theorem tk_iff {s : Svc} (ok : s.Ok) {l : List Nat} (R : RList s l) {m : Nat → Nat} {k : Nat} (hm : ∀ i ∈ l, ∀ j ∈ l, (m i = m j ↔ EqK s k i j)) {i j : Nat} (hi : i ∈ l) (hj : j ∈ l) : tkOf s m i = tkOf s m j ↔ EqK s (k + 1) i j := by
  have ri := (R.mem i).mp hi
  have rj := (R.mem j).mp hj
  unfold tkOf
  rw [ok.row_eq (ri.lt ok), ok.row_eq (rj.lt ok), List.map_map, List.map_map, Prod.mk.injEq, List.map_inj_left]
  refine ⟨fun ⟨_, h⟩ => EqK.succ.mpr fun c hc => ?_, fun h => ⟨(hm i hi j hj).mpr (h.mono (by omega)), fun c hc => ?_⟩⟩
  · have := h c hc
    simp only [Function.comp, Prod.mk.injEq] at this
    exact ⟨this.2, (hm _ ((R.mem _).mpr (ri.step hc)) _ ((R.mem _).mpr (rj.step hc))).mp this.1⟩
  · have := EqK.succ.mp h c hc
    simp only [Function.comp, Prod.mk.injEq]
    exact ⟨(hm _ ((R.mem _).mpr (ri.step hc)) _ ((R.mem _).mpr (rj.step hc))).mpr this.2, this.1⟩
theorem idx_inj {O : List Tk} {a b : Tk} (ha : a ∈ O) (hb : b ∈ O) (e : O.idxOf a = O.idxOf b) : a = b := by
  have h1 := List.getElem_idxOf (List.idxOf_lt_length_of_mem ha)
  have h2 := List.getElem_idxOf (List.idxOf_lt_length_of_mem hb)
  rw [← h1, ← h2]
  simp only [e]
theorem row_nr2 (l : List (Nat × Nat)) : (D.tup (l.map stD)).nr = true := row_nr l
theorem kD_nr (t : Tk) : (kD t).nr = true := by
  unfold kD
  simp only [D.nr, D.nrL, Bool.and_true]
  have := row_nr t.2
  unfold rowD at this
  simp only [D.nr] at this
  rw [this]; rfl
abbrev N_marks_of : List Str := ["rows", "stands", "marks", "many", "told", "order", "one", "later", "answer"]
def ws_marks_of : WS := (wsSeq (wsAsg (wgPat (.tp (.cons (.nm 2) (.cons (.nm 3) .nil)))) (wTup (waCons (wDc (wiAny (wVar 1)) (.nm 6) wtYes (wVar 6) (wC (.int 0)) [6]) (waCons (wC (.int 1)) waNil)))) (wsSeq (wsWhile (wtTru (wC (.bl true))) (wsSeq (wsAsg (wgPat (.nm 4)) (wDc (wiAny (wVar 1)) (.nm 6) wtYes (wVar 6) (wTup (waCons (wOp gIxU (wVar 2) (wVar 6)) (waCons (wCB bTup (waCons (wLc (wiAny (wOp gIxU (wVar 0) (wVar 6))) (.tp (.cons (.nm 7) (.cons (.nm 8) .nil))) wtYes (wTup (waCons (wOp gIxU (wVar 2) (wVar 7)) (waCons (wVar 8) waNil))) [7, 8]) waNil)) waNil))) [6])) (wsSeq (wsAsg (wgPat (.nm 5)) wDnewM) (wsSeq (wsFor (wiAny (wVar 1)) (wgPat (.nm 6)) (wsSeq (wsExpr (wBD mSetd (wVar 5) (waCons (wOp gIxU (wVar 4) (wVar 6)) (waCons (wCB bLenU (waCons (wVar 5) waNil)) waNil)))) wsNil)) (wsSeq (wsAsg (wgPat (.nm 2)) (wDc (wiAny (wVar 1)) (.nm 6) wtYes (wVar 6) (wOp gIxU (wVar 5) (wOp gIxU (wVar 4) (wVar 6))) [6])) (wsSeq (wsIf (wtB (wOp (gEqU false) (wCB bLenU (waCons (wVar 5) waNil)) (wVar 3))) (wsSeq (wsRet (wVar 2)) wsNil) wsNil) (wsSeq (wsAsg (wgPat (.nm 3)) (wCB bLenU (waCons (wVar 5) waNil))) wsNil))))))) wsNil))
def g_marks_of : WL := fun ds h P => ∃ (s : Svc) (l : List Nat), s.Ok ∧ RList s l ∧ ds = [s.rowsD, .lst (l.map intD)] ∧ ∀ m : Nat → Nat, MarksOk s l m → P (.dct (l.map intD) (l.map fun i => intD (m i))) h
theorem marks_of_ok : ∀ ds h P, g_marks_of ds h P → wF ws_marks_of 9 2 ds h P := by
  rintro ds h P ⟨s, l, ok, R, rfl, hP⟩
  have hl40 := R.le ok
  have h0l : 0 ∈ l := List.mem_of_mem_head? (by rw [R.hd]; rfl)
  refine ⟨rfl, ?_⟩
  (conv => whnf); (try dsimp only)
  refine dcv l (fun _ => intD 0) rfl rfl R.nd (by omega) (fun a ha h' _ kp sk q => q) (fun _ => rfl) ?_
  (conv => whnf); (try dsimp only)
  refine ⟨sl63 (by simp), ?_⟩
  (conv => whnf); (try dsimp only)
  refine wh_inv (fun n fr h' => ∃ (k : Nat) (m : Nat → Nat) (many : Nat) (G : Hq) (x4 x5 x6 x7 x8 : Option D), h' = h ++ G ∧ fr = [some s.rowsD, some (.lst (l.map intD)), some (.dct (l.map intD) (l.map fun i => intD (m i))), some (.int (many : Nat)), x4, x5, x6, x7, x8] ∧
    (∀ i ∈ l, ∀ j ∈ l, (m i = m j ↔ EqK s k i j)) ∧ (∀ i ∈ l, m i < many) ∧ (∀ v, v < many → ∃ i ∈ l, m i = v) ∧ n = l.length - many) (n := l.length - 1) ?_ ?_
  · exact ⟨0, fun _ => 0, 1, [], none, none, none, none, none, (List.append_nil h).symm, rfl, fun i _ j _ => ⟨fun _ => .zero, fun _ => rfl⟩, fun _ _ => Nat.one_pos, fun v hv => ⟨0, h0l, by show 0 = v; omega⟩, rfl⟩
  · rintro n fr h' ⟨k, m, many, G, x4, x5, x6, x7, x8, rfl, rfl, hm, hlt, hon, rfl⟩ K hK
    have hmany : many ≤ l.length := by
      have := sub_le (A := List.range many) (B := l.map m) List.nodup_range fun v hv => by
        obtain ⟨i, hi, e⟩ := hon v (List.mem_range.mp hv)
        exact List.mem_map.mpr ⟨i, hi, e⟩
      rwa [List.length_range, List.length_map] at this
    (conv => whnf); (try dsimp only)
    refine dcv l (fun i => kD (tkOf s m i)) rfl rfl R.nd (by omega) (fun i hi h' hpre kp sk q => ?_) (fun i => kD_nr _) ?_
    · have ri := (R.mem i).mp hi
      have hrl : (s.row i).length ≤ 4 := by rw [ok.row_eq (ri.lt ok), List.length_map]; exact ok.a2
      (conv => whnf); (try dsimp only)
      refine ixD_int (fun i => intD (m i)) hi ?_
      (conv => whnf); (try dsimp only)
      simp only [ok.at_row (ri.lt ok)]
      (conv => whnf); (try dsimp only)
      refine lcm (s.row i) stD (fun x => stD (m x.1, x.2)) rfl rfl (sl63 (by omega)) (fun x hx h2 kp2 sk2 q2 => ?_) (fun _ _ => rfl) ?_
      · have hx1 : x.1 ∈ l := by
          rw [ok.row_eq (ri.lt ok)] at hx
          obtain ⟨c, hc, e⟩ := List.mem_map.mp hx
          rw [← e]
          exact (R.mem _).mpr (ri.step hc)
        (conv => whnf); (try dsimp only)
        refine ixD_int (fun i => intD (m i)) hx1 ?_
        (conv => whnf); (try dsimp only)
        exact ⟨sl63 (by simp), q2⟩
      · (conv => whnf); (try dsimp only)
        refine ⟨sl63 (by simp), ?_⟩
        have e : kD (tkOf s m i) = .tup [intD (m i), .tup ((s.row i).map fun x => stD (m x.1, x.2))] := by
          unfold kD tkOf
          rw [List.map_map]; rfl
        rw [e] at q
        exact q
    · (conv => whnf); (try dsimp only)
      rw [List.append_assoc]
      have hap : (h ++ G).length = h.length + G.length := List.length_append
      rw [hap]
      have tgO : ∀ {O : List Tk} {V : List D}, (h ++ (G ++ [Ob.dct (O.map kD) V]))[h.length + G.length]? = some (.dct (O.map kD) V) := by
        intro O V
        rw [tg, List.getElem?_append_right (Nat.le_refl _), Nat.sub_self]; rfl
      have tsO : ∀ {O : Ob} {o2 : Ob}, (h ++ (G ++ [O])).set (h.length + G.length) o2 = h ++ (G ++ [o2]) := by
        intro O o2
        rw [ts, List.set_append_right _ _ (Nat.le_refl _), Nat.sub_self]; rfl
      refine fo_fix l intD (fun rest fr h' => (∀ i ∈ rest, i ∈ l) ∧ ∃ (O : List Tk) (x6 x7 x8 : Option D) (done : List Nat), h' = h ++ (G ++ [.dct (O.map kD) (ordV O)]) ∧ fr = [some s.rowsD, some (.lst (l.map intD)), some (.dct (l.map intD) (l.map fun i => intD (m i))), some (.int (many : Nat)), some (.dct (l.map intD) (l.map fun i => kD (tkOf s m i))), some (.ref (h.length + G.length)), x6, x7, x8] ∧
        O.Nodup ∧ (∀ t, t ∈ O ↔ ∃ i ∈ done, tkOf s m i = t) ∧ l = done ++ rest) rfl ?_ ?_ ?_
      · exact ⟨fun _ h => h, [], x6, x7, x8, [], rfl, rfl, List.nodup_nil, fun t => by simp, rfl⟩
      · rintro i rest fr h' _ ⟨hin, O, x6, x7, x8, done, rfl, rfl, nd, hO, hdn⟩ K2 hK2
        have hi := hin i (by simp)
        have hOl : O.length ≤ 40 := by
          have h1 : O.length ≤ done.length := by
            have h2 := sub_le (A := List.range O.length) (B := done.map fun i => O.idxOf (tkOf s m i)) List.nodup_range fun v hv => by
              have hv' := List.mem_range.mp hv
              obtain ⟨i, hi, e⟩ := (hO O[v]).mp (List.getElem_mem hv')
              exact List.mem_map.mpr ⟨i, hi, by rw [e]; exact nd.idxOf_getElem v hv'⟩
            rwa [List.length_range, List.length_map] at h2
          have h3 := congrArg List.length hdn
          rw [List.length_append] at h3
          omega
        have gO := tgO (O := O) (V := ordV O)
        (conv => whnf); (try dsimp only)
        refine ⟨by unfold isDct; simp only [gO], ?_⟩
        (conv => whnf); (try dsimp only)
        refine ixD_int (fun i => kD (tkOf s m i)) hi ?_
        (conv => whnf); (try dsimp only)
        simp only [gO]
        (conv => whnf); (try dsimp only)
        simp only [gO]
        (conv => whnf); (try dsimp only)
        refine ⟨⟨.inr ⟨nk_kD _, nk_kDs O⟩, by rw [List.length_map, sizeLine_eq]; omega⟩, ?_⟩
        by_cases ht : tkOf s m i ∈ O
        · rw [dix_kD_in ht]
          have hix := List.idxOf_lt_length_of_mem ht
          refine ⟨intD (O.idxOf (tkOf s m i)), by unfold ordV; rw [List.getElem?_map, List.getElem?_range hix]; rfl, ?_⟩
          refine .inl (hK2 _ _ ⟨fun j hj => hin j (by simp [hj]), O, _, _, _, done ++ [i], rfl, rfl, nd, fun t => ⟨fun h => ?_, fun ⟨j, hj, e⟩ => ?_⟩, by rw [hdn, List.append_assoc]; rfl⟩)
          · obtain ⟨j, hj, e⟩ := (hO t).mp h
            exact ⟨j, by simp [hj], e⟩
          · rcases List.mem_append.mp hj with hj | hj
            · exact (hO t).mpr ⟨j, hj, e⟩
            · rw [List.mem_singleton.mp hj] at e; rw [← e]; exact ht
        · rw [dix_kD_no ht]
          rw [tsO]
          refine .inl (hK2 _ _ ⟨fun j hj => hin j (by simp [hj]), O ++ [tkOf s m i], _, _, _, done ++ [i], ?_, rfl, ?_, fun t => ⟨fun h => ?_, fun ⟨j, hj, e⟩ => ?_⟩, by rw [hdn, List.append_assoc]; rfl⟩)
          · have ev : ordV (O ++ [tkOf s m i]) = ordV O ++ [.int (((O.map kD).length : Nat) : Int)] := by
              unfold ordV
              rw [List.length_append, List.length_singleton, List.range_succ, List.map_append, List.length_map]; rfl
            rw [ev, List.map_append]; rfl
          · have := insT_nodup (t := tkOf s m i) nd
            unfold insT at this
            rwa [if_neg ht] at this
          · rcases List.mem_append.mp h with h | h
            · obtain ⟨j, hj, e⟩ := (hO t).mp h
              exact ⟨j, by simp [hj], e⟩
            · exact ⟨i, by simp, (List.mem_singleton.mp h).symm⟩
          · rcases List.mem_append.mp hj with hj | hj
            · exact List.mem_append_left _ ((hO t).mpr ⟨j, hj, e⟩)
            · rw [List.mem_singleton.mp hj] at e; rw [← e]; simp
      · rintro fr h' ⟨_, O, x6, x7, x8, done, rfl, rfl, nd, hO, hdn⟩
        rw [List.append_nil] at hdn
        subst hdn
        have gO := tgO (O := O) (V := ordV O)
        have hOi : ∀ i ∈ l, tkOf s m i ∈ O := fun i hi => (hO _).mpr ⟨i, hi, rfl⟩
        have hm' : ∀ i ∈ l, ∀ j ∈ l, (O.idxOf (tkOf s m i) = O.idxOf (tkOf s m j) ↔ EqK s (k + 1) i j) := fun i hi j hj => by
          rw [← tk_iff ok R hm hi hj]
          exact ⟨idx_inj (hOi i hi) (hOi j hj), fun e => by rw [e]⟩
        have hfst : ∀ v, v < many → ∃ a ∈ O, a.1 = v := fun v hv => by
          obtain ⟨i, hi, e⟩ := hon v hv
          exact ⟨_, hOi i hi, e⟩
        have hge : many ≤ O.length := by
          have := sub_le (A := List.range many) (B := O.map (·.1)) List.nodup_range fun v hv => by
            obtain ⟨a, ha, e⟩ := hfst v (List.mem_range.mp hv)
            exact List.mem_map.mpr ⟨a, ha, e⟩
          rwa [List.length_range, List.length_map] at this
        (conv => whnf); (try dsimp only)
        refine dcv l (fun i => intD (O.idxOf (tkOf s m i))) rfl rfl R.nd (by omega) (fun i hi h' hpre kp sk q => ?_) (fun _ => rfl) ?_
        · (conv => whnf); (try dsimp only)
          refine ixD_int (fun i => kD (tkOf s m i)) hi ?_
          (conv => whnf); (try dsimp only)
          have gO' : h'[h.length + G.length]? = some (.dct (O.map kD) (ordV O)) := by
            obtain ⟨g, rfl⟩ := hpre
            rw [List.getElem?_append_left (get_lt gO)]; exact gO
          simp only [gO']
          exact ⟨.inr ⟨nk_kD _, nk_kDs O⟩, _, dget_ord (hOi i hi), q⟩
        · (conv => whnf); (try dsimp only)
          simp only [gO]
          (conv => whnf); (try dsimp only)
          have hol : (O.map kD).length = O.length := List.length_map _
          by_cases hst : O.length = many
          · (generalize hdec : ((((O.map kD).length : Nat) : Int) == (many : Int)) = bdec; obtain rfl : bdec = true := hdec.symm.trans (beqT (by rw [hol, hst])); clear hdec; (conv => whnf); (try dsimp only))
            have hstb : ∀ i j, Reach s i → Reach s j → EqK s k i j → EqK s (k + 1) i j := fun i j ri rj e => by
              have hi := (R.mem i).mpr ri
              have hj := (R.mem j).mpr rj
              exact (tk_iff ok R hm hi hj).mp (full_inj (f := fun a : Tk => a.1) nd hst hfst (hOi i hi) (hOi j hj) ((hm i hi j hj).mpr e))
            refine gc_v (g := G ++ [.dct (O.map kD) (ordV O)]) ?_ (hP (fun i => O.idxOf (tkOf s m i)) ⟨fun i hi j hj => ?_⟩)
            · simp only [D.nr, nrL_map (f := intD) (fun _ => rfl), nrL_map (f := fun i => intD (O.idxOf (tkOf s m i))) (fun _ => rfl)]; rfl
            · rw [hm' i hi j hj]
              exact ⟨fun e => beh_of_stable hstb ((R.mem i).mp hi) ((R.mem j).mp hj) (e.mono (by omega)), fun b => b.eqK _⟩
          · have hOl : O.length ≤ l.length := by
              have h2 := sub_le (A := List.range O.length) (B := l.map fun i => O.idxOf (tkOf s m i)) List.nodup_range fun v hv => by
                have hv' := List.mem_range.mp hv
                obtain ⟨i, hi, e⟩ := (hO O[v]).mp (List.getElem_mem hv')
                exact List.mem_map.mpr ⟨i, hi, by rw [e]; exact nd.idxOf_getElem v hv'⟩
              rwa [List.length_range, List.length_map] at h2
            (generalize hdec : ((((O.map kD).length : Nat) : Int) == (many : Int)) = bdec; obtain rfl : bdec = false := hdec.symm.trans (beqF (by rw [hol]; omega)); clear hdec; (conv => whnf); (try dsimp only))
            simp only [gO]
            rw [hol]
            refine .inl (hK (l.length - O.length) _ _ (by omega) ⟨k + 1, fun i => O.idxOf (tkOf s m i), O.length, G ++ [.dct (O.map kD) (ordV O)], _, _, _, _, _, rfl, rfl, hm', fun i hi => List.idxOf_lt_length_of_mem (hOi i hi), fun v hv => ?_, rfl⟩)
            obtain ⟨i, hi, e⟩ := (hO O[v]).mp (List.getElem_mem hv)
            exact ⟨i, hi, by show O.idxOf (tkOf s m i) = v; rw [e]; exact nd.idxOf_getElem v hv⟩
end MP

namespace MP
open PySem PySem.Spec PyProof.Rows L2
/-! ### stands open for an ask that comes again -/
def Open (s : Svc) (a : Nat) (w : Option Nat) (j : Nat) : Prop := ∃ (i : Nat) (row : List Nat), Reach s i ∧ (∀ c ∈ row, c ∈ s.asks) ∧ (∀ n, w = some n → row.length < n) ∧ lead s (s.step i a).1 row = j
theorem lead_app {s : Svc} : ∀ {row : List Nat} {i c : Nat}, lead s i (row ++ [c]) = (s.step (lead s i row) c).1
  | [], _, _ => rfl
  | x :: row, i, c => lead_app (row := row)
theorem Open.reach {s : Svc} {a : Nat} {w : Option Nat} {j : Nat} (ha : a ∈ s.asks) (o : Open s a w j) : Reach s j := by
  obtain ⟨i, row, ri, hr, _, e⟩ := o
  rw [← e]
  exact (ri.step ha).lead hr
def winD : Option Nat → D
  | none => .non
  | some n => .int (n : Nat)
/-- a dict comprehension of numbers that may come more than once, each with True -/
theorem dctt {α : Type} {hs0 : Hq} {s : Src} {step : D → Hq → (D → D → Hq → Prop) → (Hq → Prop) → Prop} {P : WK} {h : Hq} (xs : List α) (toD : α → D) (g : α → Nat) (ed : s.its = some (xs.map toD)) (e0 : hs0 = h) (hz : xs.length ≤ 1000000)
    (hs : ∀ a ∈ xs, ∀ (h' : Hq), h <+: h' → ∀ (kp : D → D → Hq → Prop) (sk : Hq → Prop), kp (intD (g a)) (.bl true) h' → step (toD a) h' kp sk)
    (he : P (.dct (((xs.map g).foldl ins []).map intD) (((xs.map g).foldl ins []).map tt)) h) : ∃ k, dcN s h.length step (gcK hs0 P) k 0 (h ++ [.dct [] []]) := by
  subst e0
  have insLe : ∀ (l2 l : List Nat), (l2.foldl ins l).length ≤ l.length + l2.length := by
    intro l2
    induction l2 with
    | nil => intro l; exact Nat.le_refl _
    | cons a l2 ih =>
      intro l
      have h1 := ih (ins l a)
      have h2 : (ins l a).length ≤ l.length + 1 := by unfold ins; split <;> simp
      rw [List.foldl_cons, List.length_cons]
      omega
  have key : ∀ (n i : Nat), n + i = xs.length → dcN s hs0.length step (gcK hs0 P) (n + 1) i (hs0 ++ [.dct ((((xs.take i).map g).foldl ins []).map intD) ((((xs.take i).map g).foldl ins []).map tt)]) := by
    intro n
    induction n with
    | zero =>
      intro i e
      have e' : i = xs.length := by omega
      subst e'
      unfold dcN
      rw [Src.its_tick ed, List.getElem?_eq_none (by simp), List.take_length]
      exact gc_dct (List.prefix_append _ _) (Nat.le_refl _) (.inl (by simp)) (nrL_map (fun _ => rfl) _) (nrL_map (fun _ => rfl) _) he
    | succ n ih =>
      intro i e
      have hlt : i < xs.length := by omega
      unfold dcN
      rw [Src.its_tick ed, List.getElem?_map, List.getElem?_eq_getElem hlt]
      refine hs xs[i] (List.getElem_mem hlt) _ (List.prefix_append _ _) _ _ ?_
      have et : xs.take (i + 1) = xs.take i ++ [xs[i]] := by rw [List.take_add_one, List.getElem?_eq_getElem hlt]; rfl
      have hle := insLe ((xs.take i).map g) []
      rw [List.length_map, List.length_take, List.length_nil] at hle
      have ef : (((xs.take (i + 1)).map g).foldl ins []) = ins (((xs.take i).map g).foldl ins []) (g xs[i]) := by
        rw [et, List.map_append, List.foldl_append]; rfl
      have ih' := ih (i + 1) (by omega)
      rw [ef] at ih'
      generalize ((xs.take i).map g).foldl ins [] = K at *
      have hget : (hs0 ++ [Ob.dct (K.map intD) (K.map tt)])[hs0.length]? = some (.dct (K.map intD) (K.map tt)) := by simp
      rw [hget]
      refine ⟨⟨rfl, kb_ints _, by rw [List.length_map, sizeLine_eq]; omega⟩, ?_⟩
      rw [dput_tt, set_app]
      exact ih'
  exact ⟨xs.length + 1, key xs.length 0 (by omega)⟩
theorem dct_set {h : Hq} {n : Nat} {o : Ob} {d : D} (hd : ∀ m, d = .ref m → m ≠ n) : dctOf (h.set n o) d = dctOf h d := by
  cases d with
  | ref m =>
    have := hd m rfl
    unfold dctOf
    simp only [List.getElem?_set_ne this.symm]
  | _ => rfl
theorem dct_app {h g : Hq} {d : D} {x : List D × List D} (e : dctOf h d = some x) : dctOf (h ++ g) d = some x := by
  cases d with
  | ref m =>
    unfold dctOf at e ⊢
    simp only at e ⊢
    cases hm : h[m]? with
    | none => rw [hm] at e; cases e
    | some o => rw [List.getElem?_append_left (get_lt hm), hm]; rw [hm] at e; exact e
  | _ => exact e
/-- what stands in here: a dict that changes no more, or one of the heap -/
def HereD (h' : Hq) (lo : Nat) (d : D) (B : List Nat) : Prop := d = .dct (B.map intD) (B.map tt) ∨ ∃ m, lo < m ∧ d = .ref m ∧ h'[m]? = some (.dct (B.map intD) (B.map tt))
theorem HereD.dct {h' lo d B} (H : HereD h' lo d B) : dctOf h' d = some (B.map intD, B.map tt) := by
  rcases H with rfl | ⟨m, _, rfl, e⟩
  · rfl
  · exact dct_ref e
theorem HereD.ne {h' lo d B} (H : HereD h' lo d B) : ∀ m, d = .ref m → m ≠ lo := by
  rcases H with rfl | ⟨m, h1, rfl, e⟩
  · intro m e; cases e
  · intro m' e; cases e; omega
structure OpInv (s : Svc) (a : Nat) (w : Option Nat) (F B : List Nat) (t : Nat) : Prop where
  fnd : F.Nodup
  bnd : B.Nodup
  dis : ∀ j ∈ B, j ∉ F
  op : ∀ j ∈ F, Open s a (some t) j
  fr : ∀ j ∈ B, ∃ (i : Nat) (row : List Nat), Reach s i ∧ (∀ c ∈ row, c ∈ s.asks) ∧ row.length ≤ t ∧ lead s (s.step i a).1 row = j
  st : ∀ i, Reach s i → (s.step i a).1 ∈ F ∨ (s.step i a).1 ∈ B
  cl : ∀ j ∈ F, ∀ c ∈ s.asks, (s.step j c).1 ∈ F ∨ (s.step j c).1 ∈ B
  all : ∀ i row, Reach s i → (∀ c ∈ row, c ∈ s.asks) → row.length < t → lead s (s.step i a).1 row ∈ F
  tw : ∀ n, w = some n → t ≤ n
theorem OpInv.reach {s a w F B t} (ha : a ∈ s.asks) (I : OpInv s a w F B t) : (∀ j ∈ F, Reach s j) ∧ ∀ j ∈ B, Reach s j :=
  ⟨fun j hj => (I.op j hj).reach ha, fun j hj => by obtain ⟨i, row, ri, hr, _, e⟩ := I.fr j hj; rw [← e]; exact (ri.step ha).lead hr⟩
theorem OpInv.all' {s a w F B t} (I : OpInv s a w F B t) : ∀ i row, Reach s i → (∀ c ∈ row, c ∈ s.asks) → row.length ≤ t → lead s (s.step i a).1 row ∈ F ∨ lead s (s.step i a).1 row ∈ B := by
  intro i row ri hr hl
  rcases List.eq_nil_or_concat row with rfl | ⟨r, c, rfl⟩
  · exact I.st i ri
  · rw [List.concat_eq_append] at hr hl ⊢
    rw [List.length_append, List.length_singleton] at hl
    rw [lead_app]
    exact I.cl _ (I.all i r ri (fun z hz => hr z (by simp [hz])) (by omega)) c (hr c (by simp))
theorem OpInv.done0 {s a w F t} (I : OpInv s a w F [] t) : ∀ j, j ∈ F ↔ Open s a w j := by
  have cl : ∀ row i, Reach s i → (∀ c ∈ row, c ∈ s.asks) → ∀ j, j ∈ F → lead s j row ∈ F := by
    intro row
    induction row with
    | nil => intro i _ _ j hj; exact hj
    | cons c row ih =>
      intro i ri hr j hj
      exact ih i ri (fun z hz => hr z (by simp [hz])) _ ((I.cl j hj c (hr c (by simp))).resolve_right (by simp))
  refine fun j => ⟨fun hj => ?_, fun ⟨i, row, ri, hr, _, e⟩ => ?_⟩
  · obtain ⟨i, row, ri, hr, hl, e⟩ := I.op j hj
    exact ⟨i, row, ri, hr, fun n hn => by have := hl t rfl; have := I.tw n hn; omega, e⟩
  · rw [← e]
    exact cl row i ri hr _ ((I.st i ri).resolve_right (by simp))
theorem OpInv.done1 {s a F B t} (I : OpInv s a (some t) F B t) : ∀ j, j ∈ F ↔ Open s a (some t) j :=
  fun j => ⟨I.op j, fun ⟨i, row, ri, hr, hl, e⟩ => by rw [← e]; exact I.all i row ri hr (hl t rfl)⟩
theorem OpInv.next {s : Svc} {a : Nat} {w : Option Nat} {F B B2 : List Nat} {t : Nat} (I : OpInv s a w F B t) (nd2 : B2.Nodup) (h2 : ∀ j, j ∈ B2 ↔ (∃ i ∈ B, ∃ c ∈ s.asks, (s.step i c).1 = j) ∧ j ∉ B.foldl ins F) (htw : ∀ n, w = some n → t < n) : OpInv s a w (B.foldl ins F) B2 (t + 1) := by
  have mem : ∀ {j}, j ∈ B.foldl ins F ↔ j ∈ F ∨ j ∈ B := foldl_ins_mem
  have step2 : ∀ j ∈ B.foldl ins F, ∀ c ∈ s.asks, (s.step j c).1 ∈ B.foldl ins F ∨ (s.step j c).1 ∈ B2 := by
    intro j hj c hc
    by_cases hin : (s.step j c).1 ∈ B.foldl ins F
    · exact .inl hin
    · rcases mem.mp hj with hj | hj
      · exact (hin (mem.mpr (I.cl j hj c hc))).elim
      · exact .inr ((h2 _).mpr ⟨⟨j, hj, c, hc, rfl⟩, hin⟩)
  refine ⟨foldl_ins_nodup I.fnd, nd2, fun j hj => ((h2 j).mp hj).2, fun j hj => ?_, fun j hj => ?_, fun i ri => .inl (mem.mpr (I.st i ri)), step2, fun i row ri hr hl => mem.mpr (I.all' i row ri hr (by omega)), fun n hn => htw n hn⟩
  · rcases mem.mp hj with hj | hj
    · obtain ⟨i, row, ri, hr, hl, e⟩ := I.op j hj
      exact ⟨i, row, ri, hr, fun n hn => by have := hl t rfl; cases hn; omega, e⟩
    · obtain ⟨i, row, ri, hr, hl, e⟩ := I.fr j hj
      exact ⟨i, row, ri, hr, fun n hn => by cases hn; omega, e⟩
  · obtain ⟨⟨i, hi, c, hc, e⟩, _⟩ := (h2 j).mp hj
    obtain ⟨i0, row, ri, hr, hl, e0⟩ := I.fr i hi
    exact ⟨i0, row ++ [c], ri, fun z hz => by rcases List.mem_append.mp hz with hz | hz; exact hr z hz; rw [List.mem_singleton.mp hz]; exact hc, by rw [List.length_append, List.length_singleton]; omega, by rw [lead_app, e0, e]⟩
abbrev N_open_stands : List Str := ["service", "ask", "window", "found", "here", "turn", "behind", "one", "later", "answer"]
def ws_open_stands : WS := (wsSeq (wsAsg (wgPat (.nm 3)) wDnewM) (wsSeq (wsAsg (wgPat (.nm 4)) (wDc (wiAny (wCB g_reached (waCons (wOp gIxU (wVar 0) (wC (.int 1))) waNil))) (.nm 7) wtYes (wOp gIxU (wCB g_step_of (waCons (wVar 0) (waCons (wVar 7) (waCons (wVar 1) waNil)))) (wC (.int 0))) (wC (.bl true)) [7])) (wsSeq (wsAsg (wgPat (.nm 5)) (wC (.int 0))) (wsSeq (wsWhile (wtAnd (wtB (wOp (gEqU true) (wVar 4) wDnew)) (wtOr (wtB (wOp (isD false) (wVar 2) (wC .non))) (wtB (wOp gLt (wVar 5) (wVar 2))))) (wsSeq (wsExpr (wBD mUpd (wVar 3) (waCons (wVar 4) waNil))) (wsSeq (wsAsg (wgPat (.nm 6)) wDnewM) (wsSeq (wsFor (wiAny (wVar 4)) (wgPat (.nm 7)) (wsSeq (wsFor (wiAny (wOp gIxU (wOp gIxU (wVar 0) (wC (.int 1))) (wVar 7))) (wgPat (.tp (.cons (.nm 8) (.cons (.nm 9) .nil)))) (wsSeq (wsIf (wtB (wOp (gInU true) (wVar 8) (wVar 3))) (wsSeq (wsAsg (wgSub (wVar 6) (wVar 8)) (wC (.bl true))) wsNil) wsNil) wsNil)) wsNil)) (wsSeq (wsAsg (wgPat (.nm 4)) (wVar 6)) (wsSeq (wsAug 5 gIadd (wC (.int 1))) wsNil)))))) (wsSeq (wsRet (wVar 3)) wsNil)))))
def g_open_stands : WL := fun ds h P => ∃ (s : Svc) (a : Nat) (w : Option Nat), s.Ok ∧ a ∈ s.asks ∧ ds = [s.d, .str [a], winD w] ∧ ∀ l : List Nat, l.Nodup → (∀ j, j ∈ l ↔ Open s a w j) → P (.dct (l.map intD) (l.map tt)) h
theorem open_stands_ok : ∀ ds h P, g_open_stands ds h P → wF ws_open_stands 10 3 ds h P := by
  rintro ds h P ⟨s, a, w, ok, ha, rfl, hP⟩
  have hr2 := ok.r2
  refine ⟨rfl, ?_⟩
  (conv => whnf); (try dsimp only)
  refine ⟨s, ok, rfl, fun l R => ?_⟩
  have hl40 := R.le ok
  (conv => whnf); (try dsimp only)
  refine dctt (h := h ++ [Ob.dct [] []]) l intD (fun i => (s.step i a).1) (by rfl) (by rfl) (by omega) (fun i hi h' hpre kp sk q => ?_) ?_
  · (conv => whnf); (try dsimp only)
    refine ⟨s, i, a, ok, ((R.mem i).mp hi).lt ok, ha, rfl, ?_⟩
    (conv => whnf); (try dsimp only)
    exact q
  (conv => whnf); (try dsimp only)
  refine wh_inv (fun n fr h' => ∃ (F B : List Nat) (t : Nat) (hd : D) (G : Hq) (x6 x7 x8 x9 : Option D), h' = h ++ (.dct (F.map intD) (F.map tt) :: G) ∧ fr = [some s.d, some (.str [a]), some (winD w), some (.ref h.length), some hd, some (.int (t : Nat)), x6, x7, x8, x9] ∧
    HereD h' h.length hd B ∧ OpInv s a w F B t ∧ n = s.rows.length - F.length) (n := s.rows.length) ?_ ?_
  · refine ⟨[], (l.map fun i => (s.step i a).1).foldl ins [], 0, _, [], none, none, none, none, rfl, rfl, .inl rfl, ⟨List.nodup_nil, foldl_ins_nodup List.nodup_nil, fun _ _ => by simp, fun j hj => by simp at hj, fun j hj => ?_, fun i ri => .inr ?_, fun j hj => by simp at hj, fun i row _ _ h => by omega, fun n _ => Nat.zero_le _⟩, rfl⟩
    · have := (foldl_ins_mem.mp hj).resolve_left (by simp)
      obtain ⟨i, hi, e⟩ := List.mem_map.mp this
      exact ⟨i, [], (R.mem i).mp hi, by simp, by simp, e⟩
    · exact foldl_ins_mem.mpr (.inr (List.mem_map.mpr ⟨i, (R.mem i).mpr ri, rfl⟩))
  · rintro n fr h' ⟨F, B, t, hd, G, x6, x7, x8, x9, rfl, rfl, H, I, rfl⟩ K hK
    obtain ⟨rF, rB⟩ := I.reach ha
    have hFl : F.length ≤ s.rows.length := nodup_le I.fnd fun i hi => (rF i hi).lt ok
    have hBl : B.length ≤ s.rows.length := nodup_le I.bnd fun i hi => (rB i hi).lt ok
    have out : ∀ l' : List Nat, l'.Nodup → (∀ j, j ∈ l' ↔ Open s a w j) → ∀ G : Hq, gcK h P (.ref h.length) (h ++ (.dct (l'.map intD) (l'.map tt) :: G)) := fun l' n1 n2 G =>
      gc_dct (List.prefix_append _ _) (Nat.le_refl _) (.inl tg0) (nrL_map (fun _ => rfl) _) (nrL_map (fun _ => rfl) _) (hP l' n1 n2)
    (conv => whnf); (try dsimp only)
    simp only [H.dct]
    cases B with
    | nil =>
      (conv => whnf); (try dsimp only)
      exact out F I.fnd I.done0 G
    | cons b B =>
      have hc : ∀ (x3 x4 x6 x7 x8 x9 : Option D) (h1 : Hq) (Q : Bool → Hq → Prop), (∀ n, w = some n → t < n) → Q true h1 → wtOr (wtB (wOp (isD false) (wVar 2) (wC .non))) (wtB (wOp gLt (wVar 5) (wVar 2))) [some s.d, some (.str [a]), some (winD w), x3, x4, some (.int (t : Nat)), x6, x7, x8, x9] h1 Q := by
        intro x3 x4 x6 x7 x8 x9 h1 Q hw q
        cases w with
        | none => (conv => whnf); (try dsimp only); exact q
        | some n =>
          have := hw n rfl
          (conv => whnf); (try dsimp only)
          (generalize hdec : decide ((t : Int) < (n : Int)) = bdec; obtain rfl : bdec = true := hdec.symm.trans (decide_eq_true (by omega)); clear hdec; (conv => whnf); (try dsimp only))
          exact q
      have hcF : ∀ (x3 x4 x6 x7 x8 x9 : Option D) (h1 : Hq) (Q : Bool → Hq → Prop) (n : Nat), w = some n → ¬ t < n → Q false h1 → wtOr (wtB (wOp (isD false) (wVar 2) (wC .non))) (wtB (wOp gLt (wVar 5) (wVar 2))) [some s.d, some (.str [a]), some (winD w), x3, x4, some (.int (t : Nat)), x6, x7, x8, x9] h1 Q := by
        intro x3 x4 x6 x7 x8 x9 h1 Q n hw hn q
        subst hw
        (conv => whnf); (try dsimp only)
        (generalize hdec : decide ((t : Int) < (n : Int)) = bdec; obtain rfl : bdec = false := hdec.symm.trans (decide_eq_false (by omega)); clear hdec; (conv => whnf); (try dsimp only))
        exact q
      by_cases hw : ∀ n, w = some n → t < n
      case neg =>
        have hex : ∃ n, w = some n ∧ ¬ t < n := by
          cases w with
          | none => exact (hw fun n e => by cases e).elim
          | some n => exact ⟨n, rfl, fun h => hw fun m e => by cases e; exact h⟩
        obtain ⟨n, hwn, htn⟩ := hex
        (conv => whnf); (try dsimp only)
        refine hcF _ _ _ _ _ _ _ _ n hwn htn ?_
        (conv => whnf); (try dsimp only)
        have htw := I.tw n hwn
        obtain rfl : t = n := by omega
        subst hwn
        exact out F I.fnd I.done1 G
      case pos =>
        obtain ⟨F2, hF2⟩ : ∃ F2, F2 = (b :: B).foldl ins F := ⟨_, rfl⟩
        have loop : ∀ (hs0 : Hq) (M : MEnds) (G2 : Hq) (hd : D), (∀ (x7 x8 x9 : Option D) (B2 : List Nat), B2.Nodup → (∀ j, j ∈ B2 ↔ (∃ i ∈ b :: B, ∃ c ∈ s.asks, (s.step i c).1 = j) ∧ j ∉ F2) →
              M.nx [some s.d, some (.str [a]), some (winD w), some (.ref h.length), some hd, some (.int (t : Nat)), some (.ref (h.length + (G2.length + 1))), x7, x8, x9] (h ++ (.dct (F2.map intD) (F2.map tt) :: (G2 ++ [.dct (B2.map intD) (B2.map tt)])))) →
            ∀ x7 x8 x9 : Option D, ∃ n, foN hs0 (.fix ((b :: B).map intD)) (wgPat (.nm 7)) (wsSeq (wsFor (wiAny (wOp gIxU (wOp gIxU (wVar 0) (wC (.int 1))) (wVar 7))) (wgPat (.tp (.cons (.nm 8) (.cons (.nm 9) .nil)))) (wsSeq (wsIf (wtB (wOp (gInU true) (wVar 8) (wVar 3))) (wsSeq (wsAsg (wgSub (wVar 6) (wVar 8)) (wC (.bl true))) wsNil) wsNil) wsNil)) wsNil) M n 0
              [some s.d, some (.str [a]), some (winD w), some (.ref h.length), some hd, some (.int (t : Nat)), some (.ref (h.length + (G2.length + 1))), x7, x8, x9] (h ++ (.dct (F2.map intD) (F2.map tt) :: (G2 ++ [.dct [] []]))) := by
          intro hs0 M G2 hd hM x7 x8 x9
          have gF : ∀ {B2 : List Nat}, (h ++ (Ob.dct (F2.map intD) (F2.map tt) :: (G2 ++ [Ob.dct (B2.map intD) (B2.map tt)])))[h.length]? = some (.dct (F2.map intD) (F2.map tt)) := tg0
          have gB : ∀ {B2 : List Nat}, (h ++ (Ob.dct (F2.map intD) (F2.map tt) :: (G2 ++ [Ob.dct (B2.map intD) (B2.map tt)])))[h.length + (G2.length + 1)]? = some (.dct (B2.map intD) (B2.map tt)) := by
            intro B2
            rw [tg, List.getElem?_cons_succ, List.getElem?_append_right (Nat.le_refl _), Nat.sub_self]; rfl
          have sB : ∀ {B2 : List Nat} {o : Ob}, (h ++ (Ob.dct (F2.map intD) (F2.map tt) :: (G2 ++ [Ob.dct (B2.map intD) (B2.map tt)]))).set (h.length + (G2.length + 1)) o = h ++ (Ob.dct (F2.map intD) (F2.map tt) :: (G2 ++ [o])) := by
            intro B2 o
            rw [ts, List.set_cons_succ, List.set_append_right _ _ (Nat.le_refl _), Nat.sub_self]; rfl
          refine fo_fix (b :: B) intD (fun rest fr h' => (∀ i ∈ rest, i ∈ b :: B) ∧ ∃ (B2 : List Nat) (x7 x8 x9 : Option D) (done : List Nat), h' = h ++ (.dct (F2.map intD) (F2.map tt) :: (G2 ++ [.dct (B2.map intD) (B2.map tt)])) ∧ fr = [some s.d, some (.str [a]), some (winD w), some (.ref h.length), some hd, some (.int (t : Nat)), some (.ref (h.length + (G2.length + 1))), x7, x8, x9] ∧
            B2.Nodup ∧ (∀ j, j ∈ B2 ↔ (∃ i ∈ done, ∃ c ∈ s.asks, (s.step i c).1 = j) ∧ j ∉ F2) ∧ b :: B = done ++ rest) rfl ?_ ?_ ?_
          · exact ⟨fun _ h => h, [], _, _, _, [], rfl, rfl, List.nodup_nil, fun j => by simp, rfl⟩
          · rintro i rest fr h' _ ⟨hin, B2, x7, x8, x9, done, rfl, rfl, nd2, hB2, hdn⟩ K2 hK2
            have hi := hin i (by simp)
            have ri := rB i hi
            have hil := ri.lt ok
            (conv => whnf); (try dsimp only)
            simp only [ok.at_row hil]
            (conv => whnf); (try dsimp only)
            have hrow := ok.row_eq hil
            refine fo_fix (s.row i) stD (fun rest2 fr h' => ∃ (B3 : List Nat) (x8 x9 : Option D) (done2 : List (Nat × Nat)), h' = h ++ (.dct (F2.map intD) (F2.map tt) :: (G2 ++ [.dct (B3.map intD) (B3.map tt)])) ∧ fr = [some s.d, some (.str [a]), some (winD w), some (.ref h.length), some hd, some (.int (t : Nat)), some (.ref (h.length + (G2.length + 1))), some (intD i), x8, x9] ∧
              B3.Nodup ∧ (∀ j, j ∈ B3 ↔ (j ∈ B2 ∨ ∃ z ∈ done2, z.1 = j) ∧ j ∉ F2) ∧ s.row i = done2 ++ rest2) rfl ?_ ?_ ?_
            · exact ⟨B2, _, _, [], rfl, rfl, nd2, fun j => ⟨fun hj => ⟨.inl hj, ((hB2 j).mp hj).2⟩, fun ⟨hj, _⟩ => hj.resolve_right (by simp)⟩, rfl⟩
            · rintro ⟨j, an⟩ rest2 fr h' hz ⟨B3, x8, x9, done2, rfl, rfl, nd3, hB3, hdn2⟩ K3 hK3
              have hB3l : B3.length ≤ s.rows.length := nodup_le nd3 fun k hk => by
                rcases ((hB3 k).mp hk).1 with hk | ⟨z, hz, e⟩
                · obtain ⟨⟨i', hi', c, hc, e⟩, _⟩ := (hB2 k).mp hk
                  rw [← e]
                  exact ((rB i' (by rw [hdn]; exact List.mem_append_left _ hi')).step hc).lt ok
                · have hz' : z ∈ s.row i := by rw [hdn2]; exact List.mem_append_left _ hz
                  rw [hrow] at hz'
                  obtain ⟨c, hc, e2⟩ := List.mem_map.mp hz'
                  rw [← e, ← e2]
                  exact (ri.step hc).lt ok
              (conv => whnf); (try dsimp only)
              simp only [dct_ref gF]
              refine ⟨kok_int F2 j, ?_⟩
              rw [show dix (F2.map intD) (D.int (j : Int)) = dix (F2.map intD) (intD j) from rfl, dix_isSome]
              by_cases hj : j ∈ F2
              · rw [decide_eq_true hj]
                (conv => whnf); (try dsimp only)
                exact .inl (hK3 _ _ ⟨B3, _, _, done2 ++ [(j, an)], rfl, rfl, nd3, fun k => ⟨fun hk => ⟨((hB3 k).mp hk).1.imp id fun ⟨z, hz, e⟩ => ⟨z, by simp [hz], e⟩, ((hB3 k).mp hk).2⟩, fun ⟨hk, hk2⟩ => (hB3 k).mpr ⟨hk.imp id fun ⟨z, hz, e⟩ => (by
                  rcases List.mem_append.mp hz with hz | hz
                  · exact ⟨z, hz, e⟩
                  · rw [List.mem_singleton.mp hz] at e
                    exact (hk2 (e ▸ hj)).elim), hk2⟩⟩, by rw [hdn2, List.append_assoc]; rfl⟩)
              · rw [decide_eq_false hj]
                (conv => whnf); (try dsimp only)
                simp only [gB]
                refine ⟨⟨kok_int B3 j, by rw [List.length_map, sizeLine_eq]; omega⟩, ?_⟩
                rw [show D.int (j : Int) = intD j from rfl, dput_tt, sB]
                refine .inl (hK3 _ _ ⟨ins B3 j, _, _, done2 ++ [(j, an)], rfl, rfl, ins_nodup nd3, fun k => ⟨fun hk => ?_, fun ⟨hk, hk2⟩ => ?_⟩, by rw [hdn2, List.append_assoc]; rfl⟩)
                · rcases ins_mem.mp hk with hk | rfl
                  · exact ⟨((hB3 k).mp hk).1.imp id fun ⟨z, hz, e⟩ => ⟨z, by simp [hz], e⟩, ((hB3 k).mp hk).2⟩
                  · exact ⟨.inr ⟨(k, an), by simp, rfl⟩, hj⟩
                · refine ins_mem.mpr ?_
                  rcases hk with hk | ⟨z, hz, e⟩
                  · exact .inl ((hB3 k).mpr ⟨.inl hk, hk2⟩)
                  · rcases List.mem_append.mp hz with hz | hz
                    · exact .inl ((hB3 k).mpr ⟨.inr ⟨z, hz, e⟩, hk2⟩)
                    · rw [List.mem_singleton.mp hz] at e; exact .inr e.symm
            · rintro fr h' ⟨B3, x8, x9, done2, rfl, rfl, nd3, hB3, hdn2⟩
              rw [List.append_nil] at hdn2
              (conv => whnf); (try dsimp only)
              refine .inl (hK2 _ _ ⟨fun j hj => hin j (by simp [hj]), B3, _, _, _, done ++ [i], rfl, rfl, nd3, fun j => ?_, by rw [hdn, List.append_assoc]; rfl⟩)
              rw [hB3 j]
              refine and_congr_left fun hjF => ⟨fun hk => ?_, fun ⟨i', hi', c, hc, e⟩ => ?_⟩
              · rcases hk with hk | ⟨z, hz, e⟩
                · obtain ⟨⟨i', hi', c, hc, e⟩, _⟩ := (hB2 j).mp hk
                  exact ⟨i', by simp [hi'], c, hc, e⟩
                · rw [← hdn2, hrow] at hz
                  obtain ⟨c, hc, e2⟩ := List.mem_map.mp hz
                  exact ⟨i, by simp, c, hc, by rw [e2, e]⟩
              · rcases List.mem_append.mp hi' with hi' | hi'
                · exact .inl ((hB2 j).mpr ⟨⟨i', hi', c, hc, e⟩, hjF⟩)
                · rw [List.mem_singleton.mp hi'] at e
                  exact .inr ⟨s.step i c, by rw [← hdn2, hrow]; exact List.mem_map.mpr ⟨c, hc, rfl⟩, e⟩
          · rintro fr h' ⟨_, B2, x7, x8, x9, done, rfl, rfl, nd2, hB2, hdn⟩
            rw [List.append_nil] at hdn
            subst hdn
            exact hM _ _ _ B2 nd2 hB2
        have fin : ∀ (G2 : Hq) (hd : D) (hs0 : Hq) (B0 C0 : Fr → Hq → Prop) (x7 x8 x9 : Option D) (B2 : List Nat), B2.Nodup → (∀ j, j ∈ B2 ↔ (∃ i ∈ b :: B, ∃ c ∈ s.asks, (s.step i c).1 = j) ∧ j ∉ F2) →
            wsSeq (wsAsg (wgPat (.nm 4)) (wVar 6)) (wsSeq (wsAug 5 gIadd (wC (.int 1))) wsNil) { nx := gcF hs0 K, rt := gcK h P, bk := B0, ct := C0 } [some s.d, some (.str [a]), some (winD w), some (.ref h.length), some hd, some (.int (t : Nat)), some (.ref (h.length + (G2.length + 1))), x7, x8, x9] (h ++ (.dct (F2.map intD) (F2.map tt) :: (G2 ++ [.dct (B2.map intD) (B2.map tt)]))) := by
          intro G2 hd hs0 B0 C0 x7 x8 x9 B2 nd2 hB2
          rw [hF2] at hB2
          have I2 := I.next nd2 hB2 hw
          rw [← hF2] at I2
          have hlen : F.length < F2.length := by
            have h1 := sub_le (A := b :: F) (B := F2) (List.nodup_cons.mpr ⟨I.dis b (by simp), I.fnd⟩) fun j hj => by
              rw [hF2]
              refine foldl_ins_mem.mpr ?_
              rcases List.mem_cons.mp hj with rfl | hj
              · exact .inr (by simp)
              · exact .inl hj
            simp only [List.length_cons] at h1; omega
          have hF2l : F2.length ≤ s.rows.length := nodup_le I2.fnd fun i hi => ((I2.reach ha).1 i hi).lt ok
          (conv => whnf); (try dsimp only)
          refine .inl (hK (s.rows.length - F2.length) _ _ (by omega) ⟨F2, B2, t + 1, _, G2 ++ [.dct (B2.map intD) (B2.map tt)], _, _, _, _, rfl, rfl, .inr ⟨_, by omega, rfl, ?_⟩, I2, rfl⟩)
          rw [tg, List.getElem?_cons_succ, List.getElem?_append_right (Nat.le_refl _), Nat.sub_self]; rfl
        (conv => whnf); (try dsimp only)
        refine hc _ _ _ _ _ _ _ _ hw ?_
        (conv => whnf); (try dsimp only)
        have g0 : (h ++ Ob.dct (F.map intD) (F.map tt) :: G)[h.length]? = some (.dct (F.map intD) (F.map tt)) := tg0
        refine ⟨by unfold isDct; simp only [g0], ?_⟩
        (conv => whnf); (try dsimp only)
        simp only [g0]
        simp only [H.dct]
        refine ⟨⟨H.ne, by rw [List.length_map, List.length_map, sizeLine_eq]; omega, .inl ⟨kb_ints _, kb_ints _⟩⟩, ?_⟩
        rw [dmerge_tt, ts0, ← hF2]
        have e1 : (Ob.dct (F.map intD) (F.map tt) :: G).set 0 (Ob.dct (F2.map intD) (F2.map tt)) = Ob.dct (F2.map intD) (F2.map tt) :: G := rfl
        rw [e1]
        have el : (h ++ (Ob.dct (F2.map intD) (F2.map tt) :: G)).length = h.length + (G.length + 1) := by rw [List.length_append, List.length_cons]
        have ea : (h ++ (Ob.dct (F2.map intD) (F2.map tt) :: G)) ++ [Ob.dct [] []] = h ++ (Ob.dct (F2.map intD) (F2.map tt) :: (G ++ [Ob.dct [] []])) := by rw [List.append_assoc]; rfl
        rcases H with rfl | ⟨m, hm, rfl, em⟩
        · (conv => whnf); (try dsimp only)
          rw [ea, el]
          refine loop _ _ G _ ?_ _ _ _
          exact fun x7 x8 x9 B2 n2 h2 => fin G _ _ _ _ x7 x8 x9 B2 n2 h2
        · (conv => whnf); (try dsimp only)
          rw [ea, el]
          obtain ⟨k, rfl⟩ : ∃ k, m = h.length + (k + 1) := ⟨m - h.length - 1, by omega⟩
          rw [tg, List.getElem?_cons_succ] at em
          have hk := get_lt em
          have em2 : (h ++ (Ob.dct (F2.map intD) (F2.map tt) :: (G ++ [Ob.dct [] []])))[h.length + (k + 1)]? = some (.dct ((b :: B).map intD) ((b :: B).map tt)) := by
            rw [tg, List.getElem?_cons_succ, List.getElem?_append_left hk]; exact em
          simp only [em2]
          rw [ts, List.set_cons_succ, List.set_append_left _ _ hk]
          have el2 : (G.set k (.lck ((b :: B).map intD) ((b :: B).map tt))).length = G.length := List.length_set
          rw [← el2]
          refine loop _ _ (G.set k (.lck ((b :: B).map intD) ((b :: B).map tt))) _ ?_ _ _ _
          exact fun x7 x8 x9 B2 n2 h2 => fin _ _ _ _ _ x7 x8 x9 B2 n2 h2
end MP

namespace MP
open PySem PySem.Spec PyProof.Rows L2
/-! ### what bears -/
def Bear (s : Svc) (a : Nat) (w : Option Nat) : Prop := ∀ j, Open s a w j → Beh s (s.step j a).1 j
noncomputable def bearB (s : Svc) (w : Option Nat) (a : Nat) : Bool := @decide (Bear s a w) (Classical.propDecidable _)
theorem bearB_iff {s : Svc} {a : Nat} {w : Option Nat} : bearB s w a = true ↔ Bear s a w := by
  unfold bearB
  exact @decide_eq_true_iff _ (Classical.propDecidable _)
abbrev N_does_bear : List Str := ["service", "ask", "window", "marks", "one"]
def ws_does_bear : WS := (wsSeq (wsAsg (wgPat (.nm 3)) (wCB g_marks_of (waCons (wOp gIxU (wVar 0) (wC (.int 1))) (waCons (wCB g_reached (waCons (wOp gIxU (wVar 0) (wC (.int 1))) waNil)) waNil)))) (wsSeq (wsRet (wCB bAll (waCons (wLc (wiAny (wCB g_open_stands (waCons (wVar 0) (waCons (wVar 1) (waCons (wVar 2) waNil))))) (.nm 4) wtYes (wOp (gEqU false) (wOp gIxU (wVar 3) (wCB g_led (waCons (wVar 0) (waCons (wVar 4) (waCons (wVar 1) waNil))))) (wOp gIxU (wVar 3) (wVar 4))) [4]) waNil))) wsNil))
def g_does_bear : WL := fun ds h P => ∃ (s : Svc) (a : Nat) (w : Option Nat), s.Ok ∧ a ∈ s.asks ∧ ds = [s.d, .str [a], winD w] ∧ P (.bl (bearB s w a)) h
theorem does_bear_ok : ∀ ds h P, g_does_bear ds h P → wF ws_does_bear 5 3 ds h P := by
  rintro ds h P ⟨s, a, w, ok, ha, rfl, p⟩
  have hr2 := ok.r2
  refine ⟨rfl, ?_⟩
  (conv => whnf); (try dsimp only)
  refine ⟨s, ok, rfl, fun l R => ?_⟩
  (conv => whnf); (try dsimp only)
  refine ⟨s, l, ok, R, rfl, fun m M => ?_⟩
  (conv => whnf); (try dsimp only)
  refine ⟨s, a, w, ok, ha, rfl, fun o nd ho => ?_⟩
  have hol : o.length ≤ s.rows.length := nodup_le nd fun i hi => (((ho i).mp hi).reach ha).lt ok
  (conv => whnf); (try dsimp only)
  refine lcm o intD (fun j => .bl ((m (s.step j a).1 : Int) == (m j : Int))) rfl rfl (sl63 (by omega)) (fun j hj h' kp sk q => ?_) (fun _ _ => rfl) ?_
  · have rj := ((ho j).mp hj).reach ha
    (conv => whnf); (try dsimp only)
    refine ⟨s, j, [a], _, ok, rj.lt ok, by simpa using ha, by simp, .inl rfl, rfl, ?_⟩
    (conv => whnf); (try dsimp only)
    refine ixD_int (l := l) (i := (s.step j a).1) (fun i => intD (m i)) ((R.mem _).mpr (rj.step ha)) ?_
    (conv => whnf); (try dsimp only)
    refine ixD_int (fun i => intD (m i)) ((R.mem _).mpr rj) ?_
    (conv => whnf); (try dsimp only)
    rw [Bool.false_xor]
    exact q
  · (conv => whnf); (try dsimp only)
    refine ⟨_, blsOf_map (fun j => ((m (s.step j a).1 : Int) == (m j : Int))) o, ?_⟩
    have e : ((o.map fun j => ((m (s.step j a).1 : Int) == (m j : Int))).all id) = bearB s w a := by
      rw [Bool.eq_iff_iff, bearB_iff, List.all_map, List.all_eq_true]
      refine ⟨fun hh j oj => ?_, fun hb j hj => ?_⟩
      · have hj := (ho j).mpr oj
        have rj := oj.reach ha
        have := hh j hj
        simp only [Function.comp, id, beq_iff_eq] at this
        exact (M.eq _ ((R.mem _).mpr (rj.step ha)) _ ((R.mem _).mpr rj)).mp (by omega)
      · have oj := (ho j).mp hj
        have rj := oj.reach ha
        have := (M.eq _ ((R.mem _).mpr (rj.step ha)) _ ((R.mem _).mpr rj)).mpr (hb j oj)
        simp only [Function.comp, id, beq_iff_eq, this]
    rw [e]
    exact gc_same rfl p
noncomputable def bearAll (s : Svc) (lot : List Nat) (w : Option Nat) : Bool := lot.all (bearB s w)
theorem bearAll_iff {s : Svc} {lot : List Nat} {w : Option Nat} : bearAll s lot w = true ↔ ∀ a ∈ lot, Bear s a w := by
  unfold bearAll
  rw [List.all_eq_true]
  exact ⟨fun h a ha => bearB_iff.mp (h a ha), fun h a ha => bearB_iff.mpr (h a ha)⟩
abbrev N_does_bear_all : List Str := ["service", "lot", "window", "ask"]
def ws_does_bear_all : WS := (wsSeq (wsRet (wCB bAll (waCons (wLc (wiAny (wVar 1)) (.nm 3) wtYes (wCB g_does_bear (waCons (wVar 0) (waCons (wVar 3) (waCons (wVar 2) waNil)))) [3]) waNil))) wsNil)
def g_does_bear_all : WL := fun ds h P => ∃ (s : Svc) (lot : List Nat) (w : Option Nat), s.Ok ∧ (∀ a ∈ lot, a ∈ s.asks) ∧ lot.length ≤ 1000000 ∧ ds = [s.d, .str lot, winD w] ∧ P (.bl (bearAll s lot w)) h
theorem does_bear_all_ok : ∀ ds h P, g_does_bear_all ds h P → wF ws_does_bear_all 4 3 ds h P := by
  rintro ds h P ⟨s, lot, w, ok, hl, hz, rfl, p⟩
  refine ⟨rfl, ?_⟩
  (conv => whnf); (try dsimp only)
  refine lcm lot chD (fun a => .bl (bearB s w a)) rfl rfl (sl63 hz) (fun a ha h' kp sk q => ?_) (fun _ _ => rfl) ?_
  · (conv => whnf); (try dsimp only)
    exact ⟨s, a, w, ok, hl a ha, rfl, q⟩
  · (conv => whnf); (try dsimp only)
    refine ⟨_, blsOf_map (bearB s w) lot, ?_⟩
    rw [List.all_map]
    exact gc_same rfl p
/-- a lot of a service -/
def LotOk (s : Svc) (lot : List Nat) : Prop := (∀ a ∈ lot, a ∈ s.asks) ∧ (lot = [] ∨ AskOk lot)
theorem LotOk.le {s : Svc} {lot : List Nat} (L : LotOk s lot) : lot.length ≤ 4 := by
  rcases L.2 with rfl | h
  · simp
  · exact h.2.1
abbrev N_is_lot : List Str := ["service", "value", "ask"]
def ws_is_lot : WS := (wsSeq (wsRet (wOr (wOp (gEqU false) (wVar 1) (wC (.str []))) (wAnd (wCB g_is_asks (waCons (wVar 1) waNil)) (wCB bAll (waCons (wLc (wiAny (wVar 1)) (.nm 2) wtYes (wOp (gInU false) (wVar 2) (wOp gIxU (wVar 0) (wC (.int 0)))) [2]) waNil))))) wsNil)
def g_is_lot : WL := fun ds h P => ∃ (s : Svc) (lot : List Nat), s.Ok ∧ LotOk s lot ∧ ds = [s.d, .str lot] ∧ P (.bl true) h
theorem is_lot_ok : ∀ ds h P, g_is_lot ds h P → wF ws_is_lot 3 2 ds h P := by
  rintro ds h P ⟨s, lot, ok, ⟨hin, hL⟩, rfl, p⟩
  refine ⟨rfl, ?_⟩
  rcases hL with rfl | hL
  · (conv => whnf); (try dsimp only)
    exact gc_same rfl p
  · have hne : (lot == []) = false := by
      cases lot with
      | nil => have := hL.1; simp at this
      | cons _ _ => rfl
    (conv => whnf); (try dsimp only)
    rw [hne]
    (conv => whnf); (try dsimp only)
    refine ⟨lot, hL, rfl, ?_⟩
    (conv => whnf); (try dsimp only)
    refine lcm lot chD (fun _ => .bl true) rfl rfl (sl63 (by have := hL.2.1; omega)) (fun c hc h' kp sk q => ?_) (fun _ _ => rfl) ?_
    · (conv => whnf); (try dsimp only)
      rw [decide_eq_true (hin c hc)]
      exact q
    · (conv => whnf); (try dsimp only); refine ⟨_, blsOf_map (fun _ => true) _, ?_⟩; simp only [all_mapT]; (conv => whnf); (try dsimp only)
      exact gc_same rfl p
abbrev N_need_lot : List Str := ["service", "value"]
def ws_need_lot : WS := (wsSeq (wsIf (wtOr (wtNot (wtTru (wCB bIsi (waCons (wVar 1) (waCons (wC (.con (.ty "str"))) waNil))))) (wtNot (wtTru (wCB g_is_lot (waCons (wVar 0) (waCons (wVar 1) waNil)))))) (wsSeq wsNever wsNil) wsNil) wsNil)
def g_need_lot : WL := fun ds h P => ∃ (s : Svc) (lot : List Nat), s.Ok ∧ LotOk s lot ∧ ds = [s.d, .str lot] ∧ P .non h
theorem need_lot_ok : ∀ ds h P, g_need_lot ds h P → wF ws_need_lot 2 2 ds h P := by
  rintro ds h P ⟨s, lot, ok, hL, rfl, p⟩
  refine ⟨rfl, ?_⟩
  (conv => whnf); (try dsimp only)
  refine ⟨(by first | rfl | decide), ?_⟩; (conv => whnf); (try dsimp only)
  refine ⟨s, lot, ok, hL, rfl, ?_⟩
  (conv => whnf); (try dsimp only)
  exact gc_same rfl p
def WinOk (w : Option Nat) : Prop := ∀ n, w = some n → n ≤ 40
abbrev N_need_window : List Str := ["value"]
def ws_need_window : WS := (wsSeq (wsIf (wtAnd (wtB (wOp (isD true) (wVar 0) (wC .non))) (wtNot (wtTru (wCB g_is_from (waCons (wVar 0) (waCons (wC (.int 0)) (waCons (wC (.int 40)) waNil))))))) (wsSeq wsNever wsNil) wsNil) wsNil)
def g_need_window : WL := fun ds h P => ∃ w : Option Nat, WinOk w ∧ ds = [winD w] ∧ P .non h
theorem need_window_ok : ∀ ds h P, g_need_window ds h P → wF ws_need_window 1 1 ds h P := by
  rintro ds h P ⟨w, hw, rfl, p⟩
  refine ⟨rfl, ?_⟩
  cases w with
  | none =>
    (conv => whnf); (try dsimp only)
    exact gc_same rfl p
  | some n =>
    have := hw n rfl
    (conv => whnf); (try dsimp only)
    refine ⟨_, _, _, rfl, ⟨by omega, by omega⟩, ?_⟩
    (conv => whnf); (try dsimp only)
    exact gc_same rfl p
abbrev N_need_service : List Str := ["value"]
def ws_need_service : WS := (wsSeq (wsIf (wtNot (wtTru (wCB g_is_service (waCons (wVar 0) waNil)))) (wsSeq wsNever wsNil) wsNil) wsNil)
def g_need_service : WL := fun ds h P => ∃ s : Svc, s.Ok ∧ ds = [s.d] ∧ P .non h
theorem need_service_ok : ∀ ds h P, g_need_service ds h P → wF ws_need_service 1 1 ds h P := by
  rintro ds h P ⟨s, ok, rfl, p⟩
  refine ⟨rfl, s, ok, rfl, ?_⟩
  (conv => whnf); (try dsimp only)
  exact gc_same rfl p
abbrev N_need_all : List Str := ["service", "lot", "window"]
def ws_need_all : WS := (wsSeq (wsExpr (wCB g_need_service (waCons (wVar 0) waNil))) (wsSeq (wsExpr (wCB g_need_lot (waCons (wVar 0) (waCons (wVar 1) waNil)))) (wsSeq (wsExpr (wCB g_need_window (waCons (wVar 2) waNil))) wsNil)))
def g_need_all : WL := fun ds h P => ∃ (s : Svc) (lot : List Nat) (w : Option Nat), s.Ok ∧ LotOk s lot ∧ WinOk w ∧ ds = [s.d, .str lot, winD w] ∧ P .non h
theorem need_all_ok : ∀ ds h P, g_need_all ds h P → wF ws_need_all 3 3 ds h P := by
  rintro ds h P ⟨s, lot, w, ok, hL, hw, rfl, p⟩
  refine ⟨rfl, s, ok, rfl, ?_⟩
  (conv => whnf); (try dsimp only)
  refine ⟨s, lot, ok, hL, rfl, ?_⟩
  (conv => whnf); (try dsimp only)
  refine ⟨w, hw, rfl, ?_⟩
  (conv => whnf); (try dsimp only)
  exact gc_same rfl p
abbrev N_bears : List Str := ["service", "lot", "window"]
def ws_bears : WS := (wsSeq (wsExpr (wCB g_need_all (waCons (wVar 0) (waCons (wVar 1) (waCons (wVar 2) waNil))))) (wsSeq (wsRet (wCB g_does_bear_all (waCons (wVar 0) (waCons (wVar 1) (waCons (wVar 2) waNil))))) wsNil))
def g_bears : WL := fun ds h P => ∃ (s : Svc) (lot : List Nat) (w : Option Nat), s.Ok ∧ LotOk s lot ∧ WinOk w ∧ ds = [s.d, .str lot, winD w] ∧ P (.bl (bearAll s lot w)) h
theorem bears_ok : ∀ ds h P, g_bears ds h P → wF ws_bears 3 3 ds h P := by
  rintro ds h P ⟨s, lot, w, ok, hL, hw, rfl, p⟩
  refine ⟨rfl, s, lot, w, ok, hL, hw, rfl, ?_⟩
  (conv => whnf); (try dsimp only)
  refine ⟨s, lot, w, ok, hL.1, by have := hL.le; omega, rfl, ?_⟩
  exact gc_same rfl p
end MP

namespace MP
open PySem PySem.Spec PyProof.Rows L2
/-! ### what bears is heard as alone -/
/-- a history that fits the lot and the window -/
def Fits (s : Svc) (lot : List Nat) (w : Option Nat) : List Nat → List It → Prop
  | _, [] => True
  | row, .ch c :: r => c ∈ s.asks ∧ Fits s lot w (row ++ [c]) r
  | row, .bk n :: r => 1 ≤ n ∧ n ≤ row.length ∧ row[row.length - n]?.getD 0 ∈ lot ∧ (∀ m, w = some m → n ≤ m) ∧ Fits s lot w row r
theorem Fits.hok {s : Svc} {lot : List Nat} {w : Option Nat} : ∀ {row : List Nat} {l : List It}, Fits s lot w row l → HOk (· ∈ s.asks) row.length l
  | _, [], _ => trivial
  | row, .ch c :: r, h => ⟨h.1, by have := Fits.hok h.2; rw [List.length_append] at this; exact this⟩
  | row, .bk n :: r, h => ⟨h.1, h.2.1, Fits.hok h.2.2.2.2⟩
/-- the answers to the firsts alone -/
def pick : List It → List Nat → List Nat
  | .ch _ :: r, t :: ts => t :: pick r ts
  | .bk _ :: r, _ :: ts => pick r ts
  | _, _ => []
def askB (row : List Nat) (bk : Nat) : Nat := row[row.length - bk]?.getD 0
theorem nrHist (hs : List It) : (histD hs).nr = true := by
  unfold histD
  simp only [D.nr]
  refine nrL_map (fun a => ?_) _
  cases a <;> rfl
theorem firsts_ch : ∀ (l : List Nat) (r : List It), firsts (l.map It.ch ++ r) = l ++ firsts r
  | [], _ => rfl
  | c :: l, r => by
    show c :: firsts (l.map It.ch ++ r) = c :: (l ++ firsts r)
    rw [firsts_ch l r]
theorem mean_ch : ∀ (l row : List Nat) (r : List It), mean row (l.map It.ch ++ r) = l ++ mean (row ++ l) r
  | [], row, r => by rw [List.append_nil]; rfl
  | c :: l, row, r => by
    show c :: mean (row ++ [c]) (l.map It.ch ++ r) = c :: (l ++ mean (row ++ c :: l) r)
    rw [mean_ch l (row ++ [c]) r, List.append_assoc]; rfl
theorem lead_append {s : Svc} : ∀ (a : List Nat) (i : Nat) (b : List Nat), lead s i (a ++ b) = lead s (lead s i a) b
  | [], _, _ => rfl
  | c :: a, i, b => lead_append a (s.step i c).1 b
/-- a row that is led to a stand from a place in it -/
theorem row_split {row : List Nat} {n : Nat} (h1 : 1 ≤ n) (h2 : n ≤ row.length) : ∃ pre mid, row = pre ++ (row[row.length - n]?.getD 0) :: mid ∧ mid.length + 1 = n ∧ pre.length = row.length - n := by
  have hlt : row.length - n < row.length := by omega
  refine ⟨row.take (row.length - n), row.drop (row.length - n + 1), ?_, by rw [List.length_drop]; omega, by rw [List.length_take]; omega⟩
  rw [List.getElem?_eq_getElem hlt, Option.getD_some]
  conv => lhs; rw [← List.take_append_drop (row.length - n) row]
  rw [List.drop_eq_getElem_cons hlt]
theorem open_row {s : Svc} {row : List Nat} {n : Nat} {w : Option Nat} (hr : ∀ c ∈ row, c ∈ s.asks) (h1 : 1 ≤ n) (h2 : n ≤ row.length) (hw : ∀ m, w = some m → n ≤ m) : Open s (row[row.length - n]?.getD 0) w (lead s 0 row) := by
  obtain ⟨pre, mid, e, l, _⟩ := row_split h1 h2
  generalize row[row.length - n]?.getD 0 = a at e ⊢
  subst e
  refine ⟨lead s 0 pre, mid, ?_, fun c hc => hr c (by simp [hc]), fun m hm => by have := hw m hm; omega, ?_⟩
  · exact Reach.lead .zero fun c hc => hr c (by simp [hc])
  · rw [lead_append]; rfl
theorem heard_alone {s : Svc} {lot : List Nat} {w : Option Nat} (hl : ∀ a ∈ lot, a ∈ s.asks) (B : ∀ a ∈ lot, Bear s a w) : ∀ (l : List It) (row : List Nat) (x : Nat), (∀ c ∈ row, c ∈ s.asks) → Fits s lot w row l → Beh s x (lead s 0 row) → pick l (tell s x (mean row l)) = tell s (lead s 0 row) (firsts l)
  | [], _, _, _, _, _ => rfl
  | .ch c :: r, row, x, hr, h, b => by
    obtain ⟨e, b2⟩ := b.step h.1
    have ih := heard_alone hl B r (row ++ [c]) (s.step x c).1 (fun z hz => by rcases List.mem_append.mp hz with hz | hz; exact hr z hz; rw [List.mem_singleton.mp hz]; exact h.1) h.2 (by rw [lead_app]; exact b2)
    rw [lead_app] at ih
    show (s.step x c).2 :: pick r (tell s (s.step x c).1 (mean (row ++ [c]) r)) = (s.step (lead s 0 row) c).2 :: tell s (s.step (lead s 0 row) c).1 (firsts r)
    rw [e, ih]
  | .bk n :: r, row, x, hr, h, b => by
    obtain ⟨h1, h2, h3, h4, h5⟩ := h
    have hb := B _ h3 _ (open_row hr h1 h2 h4)
    obtain ⟨e, b2⟩ := b.step (hl _ h3)
    exact heard_alone hl B r row _ hr h5 (b2.trans hb)
/-! ### what is asked again is answered as at first -/
def Again (s : Svc) (lot : List Nat) (w : Option Nat) : Prop := ∀ a ∈ lot, ∀ (i : Nat) (row : List Nat), Reach s i → (∀ c ∈ row, c ∈ s.asks) → (∀ n, w = some n → row.length < n) → (s.step (lead s (s.step i a).1 row) a).2 = (s.step i a).2
/-- what the law looks at -/
def AgainL (alone : List Nat) : Nat → List It → List Nat → Prop
  | m, .ch _ :: r, t :: ts => alone[m]? = some t ∧ AgainL alone (m + 1) r ts
  | m, .bk n :: r, t :: ts => alone[m - n]? = some t ∧ AgainL alone m r ts
  | _, _, _ => True
theorem tell_len {s : Svc} : ∀ (row : List Nat) (i : Nat), (tell s i row).length = row.length
  | [], _ => rfl
  | c :: r, i => by simp [tell, tell_len r]
theorem tell_append {s : Svc} : ∀ (a : List Nat) (i : Nat) (b : List Nat), tell s i (a ++ b) = tell s i a ++ tell s (lead s i a) b
  | [], _, _ => rfl
  | c :: a, i, b => by
    show _ :: tell s _ (a ++ b) = _ :: tell s _ a ++ _
    rw [tell_append a]; rfl
theorem tell_at {s : Svc} {pre mid : List Nat} {a i : Nat} : (tell s i (pre ++ a :: mid))[pre.length]? = some (s.step (lead s i pre) a).2 := by
  rw [tell_append, List.getElem?_append_right (by rw [tell_len]; exact Nat.le_refl _), tell_len, Nat.sub_self]; rfl
theorem again_told {s : Svc} {lot : List Nat} {w : Option Nat} (hl : ∀ a ∈ lot, a ∈ s.asks) (B : ∀ a ∈ lot, Bear s a w) (G : Again s lot w) : ∀ (l : List It) (row : List Nat) (x : Nat), (∀ c ∈ row, c ∈ s.asks) → Fits s lot w row l → Beh s x (lead s 0 row) → AgainL (tell s 0 (row ++ firsts l)) row.length l (tell s x (mean row l))
  | [], _, _, _, _, _ => trivial
  | .ch c :: r, row, x, hr, h, b => by
    obtain ⟨e, b2⟩ := b.step h.1
    have ih := again_told hl B G r (row ++ [c]) (s.step x c).1 (fun z hz => by rcases List.mem_append.mp hz with hz | hz; exact hr z hz; rw [List.mem_singleton.mp hz]; exact h.1) h.2 (by rw [lead_app]; exact b2)
    rw [List.length_append, List.append_assoc] at ih
    refine ⟨?_, ih⟩
    show (tell s 0 (row ++ c :: firsts r))[row.length]? = some (s.step x c).2
    rw [tell_at, e]
  | .bk n :: r, row, x, hr, h, b => by
    obtain ⟨h1, h2, h3, h4, h5⟩ := h
    have hb := B _ h3 _ (open_row hr h1 h2 h4)
    obtain ⟨e, b2⟩ := b.step (hl _ h3)
    refine ⟨?_, again_told hl B G r row _ hr h5 (b2.trans hb)⟩
    rw [e]
    obtain ⟨pre, mid, e2, l2, l3⟩ := row_split h1 h2
    have hg := G _ h3
    generalize row[row.length - n]?.getD 0 = a at *
    subst e2
    rw [← l3]
    show (tell s 0 (pre ++ a :: mid ++ firsts r))[pre.length]? = _
    rw [List.append_assoc, List.cons_append, tell_at, lead_append]
    exact congrArg some (hg (lead s 0 pre) mid (Reach.lead .zero fun c hc => hr c (by simp [hc])) (fun c hc => hr c (by simp [hc])) (fun m hm => by have := h4 m hm; omega)).symm
end MP

namespace MP
open PySem PySem.Spec PyProof.Rows L2
/-! ### histories, of any value -/
def itOk : Nat → List D → Option Bool
  | _, [] => some true
  | m, .str [c] :: r => if c ∈ small then itOk (m + 1) r else some false
  | _, .str [] :: _ => some false
  | _, .str (_ :: _ :: _) :: _ => some false
  | m, .int i :: r => if 1 ≤ i ∧ i ≤ m then itOk m r else some false
  | _, .bl _ :: _ => some false
  | _, .tup _ :: _ => some false
  | _, _ => none
def itemsA : D → Option Bool
  | .tup xs => if 60 < xs.length then some false else itOk 0 xs
  | .non => some false
  | .int _ => some false
  | .lst _ => some false
  | .str _ => some false
  | .bl _ => some false
  | _ => none
theorem small_lett {c : Nat} (h : c ∈ small) : Lett c := by
  simp only [small, List.mem_cons, List.not_mem_nil, or_false] at h
  unfold Lett
  omega
theorem itOk_hist : ∀ {m : Nat} {hs : List It}, HOk Lett m hs → itOk m (hs.map It.d) = some true
  | _, [], _ => rfl
  | m, .ch c :: r, h => by
    show (if c ∈ small then itOk (m + 1) (r.map It.d) else some false) = _
    rw [if_pos (of_decide_eq_true (small_mem h.1)), itOk_hist h.2]
  | m, .bk n :: r, h => by
    show (if 1 ≤ (n : Int) ∧ (n : Int) ≤ m then itOk m (r.map It.d) else some false) = _
    rw [if_pos ⟨by have := h.1; omega, by have := h.2.1; omega⟩, itOk_hist h.2.2]
theorem itemsA_hist {hs : List It} (h : HOk Lett 0 hs) (hz : hs.length ≤ 60) : itemsA (histD hs) = some true := by
  show (if 60 < (hs.map It.d).length then some false else itOk 0 (hs.map It.d)) = _
  rw [if_neg (by rw [List.length_map]; omega), itOk_hist h]
/-! ### what fits -/
def winB (w : Option Nat) (n : Nat) : Bool := match w with
  | none => true
  | some m => decide (n ≤ m)
/-- what is asked again: how far back, and the ask -/
def agn : List It → List Nat → List (Nat × Nat)
  | .bk n :: r, c :: cs => (n, c) :: agn r cs
  | .ch _ :: r, _ :: cs => agn r cs
  | _, _ => []
def fitB (lot : List Nat) (w : Option Nat) (hs : List It) : Bool := (agn hs (mean [] hs)).all fun x => decide (x.2 ∈ lot) && winB w x.1
def fitsB (s : Svc) (lot : List Nat) (w : Option Nat) (hs : List It) : Bool := ((mean [] hs).all fun c => decide (c ∈ s.asks)) && fitB lot w hs
theorem agn_len : ∀ (hs : List It) (cs : List Nat), (agn hs cs).length ≤ hs.length
  | [], _ => by simp [agn]
  | .bk n :: r, c :: cs => by have := agn_len r cs; simp only [agn, List.length_cons]; omega
  | .ch _ :: r, c :: cs => by have := agn_len r cs; simp only [agn, List.length_cons]; omega
  | .bk n :: r, [] => by simp [agn]
  | .ch _ :: r, [] => by simp [agn]
def itC (x : It × Nat) : D := .tup [x.1.d, .str [x.2]]
theorem zipIt (hs : List It) (cs : List Nat) : List.zipWith (fun x y => D.tup [x, y]) (hs.map It.d) (cs.map fun c => .str [c]) = (List.zip hs cs).map itC := by
  rw [List.zipWith_map, List.zip_eq_zipWith, List.map_zipWith]; rfl
def agD (x : Nat × Nat) : D := .tup [.int x.1, .str [x.2]]
def agF (x : It × Nat) : Option D := match x.1 with
  | .bk n => some (agD (n, x.2))
  | .ch _ => none
theorem agn_zip : ∀ (hs : List It) (cs : List Nat), (List.zip hs cs).filterMap agF = (agn hs cs).map agD
  | [], _ => by simp [agn]
  | .bk n :: r, c :: cs => by
    rw [List.zip_cons_cons, List.filterMap_cons_some (f := agF) (b := agD (n, c)) rfl, agn_zip r cs]; rfl
  | .ch _ :: r, c :: cs => by
    rw [List.zip_cons_cons, List.filterMap_cons_none rfl, agn_zip r cs]; rfl
  | .bk n :: r, [] => by simp [agn]
  | .ch _ :: r, [] => by simp [agn]
/-- a history of a service fits -/
theorem Fits.agn {s : Svc} {lot : List Nat} {w : Option Nat} : ∀ {row : List Nat} {l : List It}, Fits s lot w row l → ∀ x ∈ MP.agn l (mean row l), x.2 ∈ lot ∧ winB w x.1 = true
  | _, [], _, x, hx => by simp [MP.agn] at hx
  | row, .ch c :: r, h, x, hx => Fits.agn (row := row ++ [c]) h.2 x hx
  | row, .bk n :: r, h, x, hx => by
    obtain ⟨h1, h2, h3, h4, h5⟩ := h
    rcases List.mem_cons.mp hx with rfl | hx
    · refine ⟨h3, ?_⟩
      cases w with
      | none => rfl
      | some m => exact decide_eq_true (h4 m rfl)
    · exact Fits.agn h5 x hx
theorem Fits.fitB {s : Svc} {lot : List Nat} {w : Option Nat} {l : List It} (h : Fits s lot w [] l) : MP.fitB lot w l = true :=
  List.all_eq_true.mpr fun x hx => by
    obtain ⟨h1, h2⟩ := h.agn x hx
    rw [decide_eq_true h1, h2]; rfl
theorem asksB {s : Svc} {l : List It} (h : HOk (· ∈ s.asks) 0 l) : ((mean [] l).all fun c => decide (c ∈ s.asks)) = true :=
  List.all_eq_true.mpr fun c hc => decide_eq_true (mean_in (A := (· ∈ s.asks)) (row := []) (by simp) h c hc)
theorem Fits.fitsB {s : Svc} {lot : List Nat} {w : Option Nat} {l : List It} (h : Fits s lot w [] l) : MP.fitsB s lot w l = true := by
  unfold MP.fitsB
  rw [asksB h.hok, h.fitB]; rfl
theorem fitsB_of {s : Svc} {lot : List Nat} {w : Option Nat} {l : List It} (h : HOk (· ∈ s.asks) 0 l) : fitsB s lot w l = fitB lot w l := by
  unfold fitsB
  rw [asksB h, Bool.true_and]
/-- any history of a service fits, for ever, all asks -/
theorem hok_fits {s : Svc} : ∀ {row : List Nat} {l : List It}, (∀ c ∈ row, c ∈ s.asks) → HOk (· ∈ s.asks) row.length l → Fits s s.asks none row l
  | _, [], _, _ => trivial
  | row, .ch c :: r, hr, h => ⟨h.1, hok_fits (fun z hz => by
      rcases List.mem_append.mp hz with hz | hz
      · exact hr z hz
      · rw [List.mem_singleton.mp hz]; exact h.1) (by rw [List.length_append]; exact h.2)⟩
  | row, .bk n :: r, hr, h => by
    refine ⟨h.1, h.2.1, ?_, (fun m e => nomatch e), hok_fits hr h.2.2⟩
    have hlt : row.length - n < row.length := by have := h.1; have := h.2.1; omega
    rw [List.getElem?_eq_getElem hlt]
    exact hr _ (List.getElem_mem hlt)
end MP

namespace MP
open PySem PySem.Spec PyProof.Rows L2
/-! ### windows, lots drawn -/
/-- those of a list that a draw keeps -/
theorem lc_keep {h : Hq} {n : Nat} {r : List D} {s : Src} {p : Pat} {te : WE} {tt : WT} {fr : Fr} {P : WK} (xs : List Nat) (R : RowAt h n r) (ed : s.its = some (xs.map chD)) (hz : xs.length ≤ 1000000)
    (hs : ∀ a ∈ xs, ∃ fr2, bindP p (chD a) fr = some fr2 ∧ (∀ h' Q, (∀ (b : Bool) r', RowD r' → Q b (h'.set n (.lst r'))) → (∃ r', RowAt h' n r') → tt fr2 h' Q) ∧ ∀ h' Q, Q (chD a) h' → te fr2 h' Q)
    (he : ∀ (ws : List Nat) (r' : List D), ws.Sublist xs → RowD r' → P (.lst (ws.map chD)) (h.set n (.lst r'))) :
    ∃ k, lcN s h.length (lcStep p tt te fr) (gcK h P) k 0 (h ++ [.lst []]) := by
  have hn := lst_lt R.at_
  have l1 : ∀ {r' ds}, lstAt (h.set n (.lst r') ++ [.lst ds]) h.length = some ds := fun {r' ds} => hq_at (h := h) (n := n) (r := r') (G1 := []) (G2 := [])
  refine lc_inv (ds := xs.map chD) (fun i acc h' => ∃ (ws : List Nat) (r' : List D), acc = ws.map chD ∧ ws.Sublist (xs.take i) ∧ RowD r' ∧ h' = h.set n (.lst r') ++ [.lst acc]) 0 [] (fun _ _ _ _ => Src.its_tick ed _ _)
    (fun i acc h' ⟨ws, r', e1, e2, e4, e5⟩ => ⟨by rw [e5]; exact l1, by rw [e1, List.length_map]; have := e2.length_le; rw [List.length_take] at this; omega⟩) (by rw [List.length_map]; have := sl63 hz; omega)
    ⟨[], r, rfl, List.nil_sublist _, R.ok, by rw [set_same R.at_]⟩ (fun i d acc h' ⟨ws, r', e1, e2, e4, e5⟩ hd kp sk k1 k2 => ?_) fun acc h' ⟨ws, r', e1, e2, e4, e5⟩ => ?_
  · rw [List.getElem?_map, Option.map_eq_some_iff] at hd
    obtain ⟨a, ha, rfl⟩ := hd
    obtain ⟨fr2, b1, b2, b3⟩ := hs a (List.mem_of_getElem? ha)
    have et : xs.take (i + 1) = xs.take i ++ [a] := by
      rw [List.take_add_one, ha]; rfl
    unfold lcStep
    rw [b1]
    subst e5
    refine b2 _ _ (fun b r2 ok => ?_) ⟨r', hq_row (G := [.lst acc]) hn e4⟩
    have e6 : (h.set n (.lst r') ++ [Ob.lst acc]).set n (.lst r2) = h.set n (.lst r2) ++ [.lst acc] := hq_draw (G := [.lst acc]) hn
    rw [e6]
    cases b with
    | true =>
      rw [if_pos rfl]
      refine b3 _ _ (k1 _ _ l1 ⟨ws ++ [a], r2, by rw [e1, List.map_append]; rfl, ?_, ok, hq_set (h := h) (n := n) (r := r2) (G1 := []) (G2 := [])⟩)
      rw [et]
      exact e2.append (List.Sublist.refl _)
    | false =>
      rw [if_neg Bool.false_ne_true]
      exact k2 _ ⟨ws, r2, e1, by rw [et]; exact e2.trans (List.sublist_append_left _ _), ok, rfl⟩
  · subst e5
    subst e1
    rw [List.length_map, List.take_length] at e2
    exact gc_setl e4 (nrL_map (fun _ => rfl) _) (he ws r' e2 e4)
theorem asc_pair : ∀ {a : List Nat}, (∀ x ∈ List.zip a a.tail, x.1 < x.2) → a.Pairwise (· < ·)
  | [], _ => .nil
  | [x], _ => List.pairwise_singleton _ _
  | x :: y :: r, h => by
    have ih := asc_pair (a := y :: r) fun z hz => h z (by
      rw [List.tail_cons] at hz ⊢
      rw [List.zip_cons_cons]
      exact List.mem_cons_of_mem _ hz)
    refine List.pairwise_cons.mpr ⟨fun z hz => ?_, ih⟩
    have hxy : x < y := h (x, y) (by simp)
    rcases List.mem_cons.mp hz with rfl | hz
    · exact hxy
    · exact Nat.lt_trans hxy ((List.pairwise_cons.mp ih).1 z hz)
theorem pair_asc : ∀ {a : List Nat}, a.Pairwise (· < ·) → ∀ x ∈ List.zip a a.tail, x.1 < x.2
  | [], _, x, hx => by simp at hx
  | [y], _, x, hx => by simp at hx
  | y :: z :: r, h, x, hx => by
    rw [List.tail_cons, List.zip_cons_cons] at hx
    obtain ⟨h1, h2⟩ := List.pairwise_cons.mp h
    rcases List.mem_cons.mp hx with rfl | hx
    · exact h1 z (by simp)
    · exact pair_asc h2 x hx
theorem AskOk.sub {a b : List Nat} (A : AskOk a) (h : b.Sublist a) : b = [] ∨ AskOk b := by
  cases b with
  | nil => exact .inl rfl
  | cons c b =>
    refine .inr ⟨by simp, Nat.le_trans h.length_le A.2.1, fun z hz => A.2.2.1 z (h.subset hz), pair_asc ((asc_pair A.2.2.2).sublist h)⟩
theorem Svc.Ok.asks {s : Svc} (ok : s.Ok) : AskOk s.asks := ⟨ok.a1, ok.a2, ok.az, ok.asc⟩
theorem lot_sub {s : Svc} (ok : s.Ok) {lot : List Nat} (h : lot.Sublist s.asks) : LotOk s lot := ⟨fun a ha => h.subset ha, ok.asks.sub h⟩
/-! ### histories drawn -/
theorem Fits.app {s : Svc} {lot : List Nat} {w : Option Nat} {b : List It} : ∀ {row : List Nat} {l : List It}, Fits s lot w row l → Fits s lot w (row ++ firsts l) b → Fits s lot w row (l ++ b)
  | row, [], _, h => by rw [show firsts [] = [] from rfl, List.append_nil] at h; exact h
  | row, .ch c :: r, h1, h => ⟨h1.1, Fits.app h1.2 (by rw [List.append_assoc]; exact h)⟩
  | row, .bk n :: r, ⟨a1, a2, a3, a4, a5⟩, h => ⟨a1, a2, a3, a4, Fits.app a5 h⟩
theorem firsts_app : ∀ (a b : List It), firsts (a ++ b) = firsts a ++ firsts b
  | [], _ => rfl
  | .ch c :: a, b => by
    show c :: firsts (a ++ b) = c :: (firsts a ++ firsts b)
    rw [firsts_app a b]
  | .bk n :: a, b => firsts_app a b
theorem hist_cat (hs : List It) (a : It) : histD (hs ++ [a]) = .tup (hs.map It.d ++ [a.d]) := by
  unfold histD; rw [List.map_append]; rfl
theorem ints_okL {L : List D} (h : ∀ x ∈ L, ∃ i, x = .int i) {n : Nat} : okD (n + 1) (.lst L) = true :=
  List.all_eq_true.mpr fun x hx => by
    obtain ⟨i, rfl⟩ := h x hx
    cases n <;> rfl
theorem ints_nr : ∀ {L : List D}, (∀ x ∈ L, ∃ i, x = .int i) → D.nrL L = true
  | [], _ => by unfold D.nrL; rfl
  | x :: L, h => by
    obtain ⟨i, rfl⟩ := h x (by simp)
    unfold D.nrL
    rw [ints_nr fun y hy => h y (by simp [hy])]; rfl
end MP

namespace MP
open PySem PySem.Spec PyProof.Rows L2
theorem firsts_in {A : Nat → Prop} : ∀ {m : Nat} {l : List It}, HOk A m l → ∀ c ∈ firsts l, A c
  | _, [], _, c, h => by simp [firsts] at h
  | m, .ch c :: l, hk, x, h => by
    rcases List.mem_cons.mp h with rfl | h
    · exact hk.1
    · exact firsts_in hk.2 x h
  | m, .bk n :: l, hk, x, h => firsts_in hk.2.2 x h
def hdF (x : It × Nat) : Option D := match x.1 with
  | .ch _ => some (chD x.2)
  | .bk _ => none
theorem pick_zip : ∀ (hs : List It) (ts : List Nat), (List.zip hs ts).filterMap hdF = (pick hs ts).map chD
  | [], _ => by simp [pick]
  | .ch _ :: r, t :: ts => by
    rw [List.zip_cons_cons, List.filterMap_cons_some (f := hdF) (b := chD t) rfl, pick_zip r ts]; rfl
  | .bk _ :: r, t :: ts => by
    rw [List.zip_cons_cons, List.filterMap_cons_none rfl, pick_zip r ts]; rfl
  | .bk n :: r, [] => by simp [pick]
  | .ch _ :: r, [] => by simp [pick]
theorem pick_len : ∀ (hs : List It) (ts : List Nat), (pick hs ts).length ≤ hs.length
  | [], _ => by simp [pick]
  | .ch _ :: r, t :: ts => by have := pick_len r ts; simp only [pick, List.length_cons]; omega
  | .bk _ :: r, t :: ts => by have := pick_len r ts; simp only [pick, List.length_cons]; omega
  | .bk n :: r, [] => by simp [pick]
  | .ch _ :: r, [] => by simp [pick]
def wrF (lot : List Nat) (x : It × Nat) : Option D := match x.1 with
  | .bk _ => if x.2 ∈ lot then none else some (.int 1)
  | .ch _ => none
def ovF (w : Option Nat) (x : It) : Option D := match x with
  | .bk n => if winB w n = true then none else some (.int n)
  | .ch _ => none
theorem wr_zip {lot : List Nat} : ∀ (hs : List It) (cs : List Nat), ((List.zip hs cs).filterMap (wrF lot)).isEmpty = (agn hs cs).all fun x => decide (x.2 ∈ lot)
  | [], _ => by simp [agn]
  | .bk n :: r, c :: cs => by
    have ih := wr_zip (lot := lot) r cs
    rw [List.zip_cons_cons]
    show _ = ((n, c) :: agn r cs).all _
    rw [List.all_cons]
    by_cases hc : c ∈ lot
    · rw [List.filterMap_cons_none (by show (if c ∈ lot then _ else _) = _; rw [if_pos hc]), ih, decide_eq_true hc, Bool.true_and]
    · rw [List.filterMap_cons_some (f := wrF lot) (b := .int 1) (by show (if c ∈ lot then _ else _) = _; rw [if_neg hc]), decide_eq_false hc, Bool.false_and]; rfl
  | .ch _ :: r, c :: cs => by
    rw [List.zip_cons_cons, List.filterMap_cons_none rfl, wr_zip r cs]; rfl
  | .bk n :: r, [] => by simp [agn]
  | .ch _ :: r, [] => by simp [agn]
theorem ov_all {w : Option Nat} : ∀ (hs : List It) (cs : List Nat), hs.length = cs.length → (hs.filterMap (ovF w)).isEmpty = (agn hs cs).all fun x => winB w x.1
  | [], _, _ => by simp [agn]
  | .bk n :: r, c :: cs, h => by
    have ih := ov_all (w := w) r cs (by simpa using h)
    show _ = ((n, c) :: agn r cs).all _
    rw [List.all_cons]
    by_cases hc : winB w n = true
    · rw [List.filterMap_cons_none (by show (if winB w n = true then _ else _) = _; rw [if_pos hc]), ih, hc, Bool.true_and]
    · rw [List.filterMap_cons_some (f := ovF w) (b := .int n) (by show (if winB w n = true then _ else _) = _; rw [if_neg hc]), show winB w n = false by simpa using hc, Bool.false_and]; rfl
  | .ch _ :: r, c :: cs, h => by
    rw [List.filterMap_cons_none rfl, ov_all r cs (by simpa using h)]; rfl
  | .bk n :: r, [], h => by simp at h
  | .ch _ :: r, [], h => by simp at h
theorem all_two {α : Type} {p q : α → Bool} : ∀ l : List α, (l.all fun x => p x && q x) = (l.all p && l.all q)
  | [] => rfl
  | a :: l => by
    rw [List.all_cons, List.all_cons, List.all_cons, all_two l]
    cases p a <;> cases q a <;> simp
theorem deqL_nil (L : List D) : deqL L [] = L.isEmpty := by
  cases L <;> rfl
end MP

namespace MP
open PySem PySem.Spec PyProof.Rows L2
/-! ### all stands that some are led to -/
/-- a dict of numbers, each with True, that is to be written to -/
theorem dcttM {α : Type} {s : Src} {step : D → Hq → (D → D → Hq → Prop) → (Hq → Prop) → Prop} {P : WK} {h : Hq} (xs : List α) (toD : α → D) (g : α → Nat) (ed : s.its = some (xs.map toD)) (hz : xs.length ≤ 1000000)
    (hs : ∀ a ∈ xs, ∀ (h' : Hq), h <+: h' → ∀ (kp : D → D → Hq → Prop) (sk : Hq → Prop), kp (intD (g a)) (.bl true) h' → step (toD a) h' kp sk)
    (he : P (.ref h.length) (h ++ [.dct (((xs.map g).foldl ins []).map intD) (((xs.map g).foldl ins []).map tt)])) : ∃ k, dcN s h.length step P k 0 (h ++ [.dct [] []]) := by
  have insLe : ∀ (l2 l : List Nat), (l2.foldl ins l).length ≤ l.length + l2.length := by
    intro l2
    induction l2 with
    | nil => intro l; exact Nat.le_refl _
    | cons a l2 ih =>
      intro l
      have h1 := ih (ins l a)
      have h2 : (ins l a).length ≤ l.length + 1 := by unfold ins; split <;> simp
      rw [List.foldl_cons, List.length_cons]
      omega
  have key : ∀ (n i : Nat), n + i = xs.length → dcN s h.length step P (n + 1) i (h ++ [.dct ((((xs.take i).map g).foldl ins []).map intD) ((((xs.take i).map g).foldl ins []).map tt)]) := by
    intro n
    induction n with
    | zero =>
      intro i e
      have e' : i = xs.length := by omega
      subst e'
      unfold dcN
      rw [Src.its_tick ed, List.getElem?_eq_none (by simp), List.take_length]
      exact he
    | succ n ih =>
      intro i e
      have hlt : i < xs.length := by omega
      unfold dcN
      rw [Src.its_tick ed, List.getElem?_map, List.getElem?_eq_getElem hlt]
      refine hs xs[i] (List.getElem_mem hlt) _ (List.prefix_append _ _) _ _ ?_
      have et : xs.take (i + 1) = xs.take i ++ [xs[i]] := by rw [List.take_add_one, List.getElem?_eq_getElem hlt]; rfl
      have hle := insLe ((xs.take i).map g) []
      rw [List.length_map, List.length_take, List.length_nil] at hle
      have ef : (((xs.take (i + 1)).map g).foldl ins []) = ins (((xs.take i).map g).foldl ins []) (g xs[i]) := by
        rw [et, List.map_append, List.foldl_append]; rfl
      have ih' := ih (i + 1) (by omega)
      rw [ef] at ih'
      generalize ((xs.take i).map g).foldl ins [] = K at *
      have hget : (h ++ [Ob.dct (K.map intD) (K.map tt)])[h.length]? = some (.dct (K.map intD) (K.map tt)) := by simp
      rw [hget]
      refine ⟨⟨rfl, kb_ints _, by rw [List.length_map, sizeLine_eq]; omega⟩, ?_⟩
      rw [dput_tt, set_app]
      exact ih'
  exact ⟨xs.length + 1, key xs.length 0 (by omega)⟩
theorem gne_ref {h : Hq} {n : Nat} {L : List D} {P : WK} (e : lstAt h n = some L) (ok : okD 40 (.lst L) = true) (p : P (.bl (!L.isEmpty)) h) : gEqU true (.ref n) (.lst []) h P := by
  have t : topD h (.ref n) = some (.lst L) := by
    show (lstAt h n).map D.lst = _
    rw [e]; rfl
  show (match topD h (.ref n), topD h (.lst []) with
    | some a, some b => (okD 40 a = true ∧ okD 40 b = true) ∧ P (.bl (xor true (deq a b))) h
    | _, _ => False)
  rw [t]
  refine ⟨⟨ok, rfl⟩, ?_⟩
  have : deq (.lst L) (.lst []) = L.isEmpty := by cases L <;> rfl
  rw [this, Bool.true_xor]
  exact p
theorem ints_okD40 (l : List Nat) : okD 40 (.lst (l.map intD)) = true :=
  List.all_eq_true.mpr fun x hx => by
    obtain ⟨i, _, rfl⟩ := List.mem_map.mp hx
    rfl
/-- the stands to which some asks lead from some stands -/
def Clo (s : Svc) (A S : Nat → Prop) (i : Nat) : Prop := ∃ j row, S j ∧ (∀ c ∈ row, A c) ∧ i = lead s j row
theorem Clo.base {s : Svc} {A S : Nat → Prop} {i : Nat} (h : S i) : Clo s A S i := ⟨i, [], h, by simp, rfl⟩
theorem Clo.step {s : Svc} {A S : Nat → Prop} {i c : Nat} (h : Clo s A S i) (hc : A c) : Clo s A S (s.step i c).1 := by
  obtain ⟨j, row, h1, h2, rfl⟩ := h
  refine ⟨j, row ++ [c], h1, fun z hz => ?_, by rw [lead_app]⟩
  rcases List.mem_append.mp hz with hz | hz
  · exact h2 z hz
  · rw [List.mem_singleton.mp hz]; exact hc
/-- what is closed holds it all -/
theorem Clo.least {s : Svc} {A S T : Nat → Prop} (h0 : ∀ i, S i → T i) (hs : ∀ i c, T i → A c → T (s.step i c).1) : ∀ i, Clo s A S i → T i := by
  rintro i ⟨j, row, h1, h2, rfl⟩
  have key : ∀ (row : List Nat) (j : Nat), (∀ c ∈ row, A c) → T j → T (lead s j row) := by
    intro row
    induction row with
    | nil => exact fun _ _ h => h
    | cons c row ih => exact fun j hr h => ih _ (fun z hz => hr z (by simp [hz])) (hs j c h (hr c (by simp)))
  exact key row j h2 (h0 j h1)
theorem Clo.lt {s : Svc} {A S : Nat → Prop} (ok : s.Ok) (hA : ∀ c, A c → c ∈ s.asks) (hS : ∀ i, S i → i < s.rows.length) {i : Nat} (h : Clo s A S i) : i < s.rows.length :=
  Clo.least (T := fun i => i < s.rows.length) hS (fun i c hi hc => (ok.lt hi (hA c hc)).1) i h
theorem nd_sub : ∀ {t l : List Nat}, t.Nodup → (∀ c ∈ t, c ∈ l) → t.length ≤ l.length
  | [], _, _, _ => Nat.zero_le _
  | a :: t, l, n, h => by
    obtain ⟨n1, n2⟩ := List.nodup_cons.mp n
    have hm := h a (List.mem_cons_self ..)
    have := nd_sub (t := t) (l := l.erase a) n2 fun c hc => (List.mem_erase_of_ne fun e => n1 (by rw [← e]; exact hc)).mpr (h c (List.mem_cons_of_mem _ hc))
    rw [List.length_erase_of_mem hm] at this
    have := List.length_pos_of_mem hm
    rw [List.length_cons]
    omega
theorem singles : ∀ {out : List (List Nat)}, (∀ x ∈ out, ∃ c, x = [c]) → ∃ t : List Nat, out = t.map fun c => [c]
  | [], _ => ⟨[], rfl⟩
  | x :: out, h => by
    obtain ⟨c, rfl⟩ := h x (List.mem_cons_self ..)
    obtain ⟨t, rfl⟩ := singles fun y hy => h y (List.mem_cons_of_mem _ hy)
    exact ⟨c :: t, rfl⟩
theorem single_mem {t : List Nat} {c : Nat} : [c] ∈ t.map (fun c => [c]) ↔ c ∈ t := by
  rw [List.mem_map]
  exact ⟨fun ⟨d, hd, e⟩ => by cases e; exact hd, fun h => ⟨c, h, rfl⟩⟩
theorem single_pw {t : List Nat} (h : (t.map fun c => [c]).Pairwise (· < ·)) : t.Pairwise (· < ·) :=
  (List.pairwise_map.mp h).imp fun {a b} q => by
    rcases List.cons_lt_cons_iff.mp q with q | ⟨_, q⟩
    · exact q
    · exact absurd q (by simp)
/-- a text of unlike signs, ascending: just these -/
def SetT (p : Nat → Prop) (t : List Nat) : Prop := t.Pairwise (· < ·) ∧ ∀ c, c ∈ t ↔ p c
theorem SetT.eq {p : Nat → Prop} {t u : List Nat} (h1 : SetT p t) (h2 : SetT p u) : t = u := by
  have hp : t.Perm u := (List.perm_ext_iff_of_nodup (h1.1.imp fun h => by omega) (h2.1.imp fun h => by omega)).mpr fun c => (h1.2 c).trans (h2.2 c).symm
  exact hp.eq_of_pairwise (le := (· < ·)) (fun a b _ _ x y => by omega) h1.1 h2.1
end MP

namespace MP
open PySem PySem.Spec PyProof.Rows L2
/-! ### all that a first ask can get -/
/-- the last asks of a window -/
def lastW (w : Option Nat) (pre : List Nat) : List Nat := match w with
  | none => pre
  | some m => pre.drop (pre.length - m)
theorem cut_lo {α : Type} {xs : List α} {i j : Nat} (h : j ≤ xs.length) : cutL xs (some (i : Int)) (some (j : Int)) = (xs.take j).drop i := by
  unfold cutL
  have e1 : HT.sIx xs.length 0 (some (i : Int)) = min i xs.length := by
    show (if (i : Int) < 0 then ((i : Int) + (xs.length : Int)).toNat else min (i : Int).toNat xs.length) = _
    rw [if_neg (show ¬ (i : Int) < 0 by omega)]; rfl
  have e2 : HT.sIx xs.length xs.length (some (j : Int)) = min j xs.length := by
    show (if (j : Int) < 0 then ((j : Int) + (xs.length : Int)).toNat else min (j : Int).toNat xs.length) = _
    rw [if_neg (show ¬ (j : Int) < 0 by omega)]; rfl
  rw [e1, e2, List.drop_take]
  rw [Nat.min_eq_left h]
  rcases Nat.le_total i xs.length with hi | hi
  · rw [Nat.min_eq_left hi]
  · rw [Nat.min_eq_right hi, List.drop_of_length_le (Nat.le_refl _), List.drop_of_length_le hi]
    simp
theorem cut_to {α : Type} {xs : List α} {j : Nat} (h : j ≤ xs.length) : cutL xs none (some (j : Int)) = xs.take j := by
  unfold cutL
  have e2 : HT.sIx xs.length xs.length (some (j : Int)) = min j xs.length := by
    show (if (j : Int) < 0 then ((j : Int) + (xs.length : Int)).toNat else min (j : Int).toNat xs.length) = _
    rw [if_neg (show ¬ (j : Int) < 0 by omega)]; rfl
  have e1 : HT.sIx xs.length 0 none = 0 := rfl
  rw [e1, e2, Nat.min_eq_left h]; rfl
theorem fm_filter {α : Type} {p : α → Prop} [DecidablePred p] {f : α → D} : ∀ l : List α, (l.filterMap fun c => if p c then some (f c) else none) = (l.filter fun c => decide (p c)).map f
  | [] => rfl
  | c :: l => by
    by_cases hm : p c
    · rw [List.filterMap_cons_some (f := fun c => if p c then some (f c) else none) (b := f c) (if_pos hm), List.filter_cons_of_pos (by simpa using hm), List.map_cons, fm_filter l]
    · rw [List.filterMap_cons_none (f := fun c => if p c then some (f c) else none) (if_neg hm), List.filter_cons_of_neg (by simpa using hm), fm_filter l]
/-- all answers of the asks of a row, whatever comes again -/
def CanP (s : Svc) (lot : List Nat) (w : Option Nat) : List Nat → (Nat → Prop) → List Nat → List (List Nat) → Prop
  | _, _, [], ts => ts = []
  | pre, S, a :: r, ts => ∃ t ts', ts = t :: ts' ∧ SetT (fun c => ∃ j, Clo s (fun c => c ∈ lot ∧ c ∈ lastW w pre) S j ∧ c = (s.step j a).2) t ∧
      CanP s lot w (pre ++ [a]) (fun i => ∃ j, Clo s (fun c => c ∈ lot ∧ c ∈ lastW w pre) S j ∧ i = (s.step j a).1) r ts'
theorem CanP.eq {s : Svc} {lot : List Nat} {w : Option Nat} : ∀ {row pre : List Nat} {S : Nat → Prop} {ts us : List (List Nat)}, CanP s lot w pre S row ts → CanP s lot w pre S row us → ts = us
  | [], _, _, _, _, h1, h2 => by
    unfold CanP at h1 h2
    rw [h1, h2]
  | a :: r, pre, S, ts, us, h1, h2 => by
    unfold CanP at h1 h2
    obtain ⟨t, ts', rfl, q1, q2⟩ := h1
    obtain ⟨u, us', rfl, q3, q4⟩ := h2
    rw [q1.eq q3, q2.eq q4]
def RowOk (s : Svc) (row : List Nat) : Prop := (∀ c ∈ row, c ∈ s.asks) ∧ row.length ≤ 60
abbrev N_is_row : List Str := ["service", "value", "sign"]
def ws_is_row : WS := (wsSeq (wsRet (wAnd (wCB bIsi (waCons (wVar 1) (waCons (wC (.con (.ty "str"))) waNil))) (wAnd (wOp gLe (wCB bLenU (waCons (wVar 1) waNil)) (wC (.int 60))) (wCB bAll (waCons (wLc (wiAny (wVar 1)) (.nm 2) wtYes (wOp (gInU false) (wVar 2) (wOp gIxU (wVar 0) (wC (.int 0)))) [2]) waNil))))) wsNil)
def g_is_row : WL := fun ds h P => ∃ (s : Svc) (row : List Nat), s.Ok ∧ RowOk s row ∧ ds = [s.d, .str row] ∧ P (.bl true) h
theorem is_row_ok : ∀ ds h P, g_is_row ds h P → wF ws_is_row 3 2 ds h P := by
  rintro ds h P ⟨s, row, ok, ⟨hr, hz⟩, rfl, p⟩
  refine ⟨rfl, ?_⟩
  (conv => whnf); (try dsimp only)
  refine ⟨(by first | rfl | decide), ?_⟩; (conv => whnf); (try dsimp only)
  (generalize hdec : decide ((row.length : Int) ≤ 60) = bdec; obtain rfl : bdec = true := hdec.symm.trans (decide_eq_true (by omega)); clear hdec; (conv => whnf); (try dsimp only))
  refine lcm row chD (fun _ => .bl true) rfl rfl (sl63 (by omega)) (fun c hc h' kp sk q => ?_) (fun _ _ => rfl) ?_
  · (conv => whnf); (try dsimp only)
    rw [decide_eq_true (hr c hc)]
    exact q
  · (conv => whnf); (try dsimp only); refine ⟨_, blsOf_map (fun _ => true) _, ?_⟩; simp only [all_mapT]; (conv => whnf); (try dsimp only)
    exact gc_same rfl p
abbrev N_need_row : List Str := ["service", "value"]
def ws_need_row : WS := (wsSeq (wsIf (wtNot (wtTru (wCB g_is_row (waCons (wVar 0) (waCons (wVar 1) waNil))))) (wsSeq wsNever wsNil) wsNil) wsNil)
def g_need_row : WL := fun ds h P => ∃ (s : Svc) (row : List Nat), s.Ok ∧ RowOk s row ∧ ds = [s.d, .str row] ∧ P .non h
theorem need_row_ok : ∀ ds h P, g_need_row ds h P → wF ws_need_row 2 2 ds h P := by
  rintro ds h P ⟨s, row, ok, hr, rfl, p⟩
  refine ⟨rfl, s, row, ok, hr, rfl, ?_⟩
  (conv => whnf); (try dsimp only)
  exact gc_same rfl p
theorem its_enum {l : List Nat} : (Src.enum (.fix (l.map fun c => .str [c]))).its = some ((l.zipIdx).map fun x => D.tup [.int (x.2 : Nat), .str [x.1]]) := by
  show some ((l.map fun c => D.str [c]).mapIdx fun i p => D.tup [.int i, p]) = _
  apply congrArg some
  apply List.ext_getElem?
  intro i
  rw [List.getElem?_mapIdx, List.getElem?_map, List.getElem?_map, List.getElem?_zipIdx]
  cases l[i]? with
  | none => rfl
  | some c => simp
end MP

namespace MP
open PySem PySem.Spec PyProof.Rows L2
/-! ### what can be answered, and what is -/
theorem lastW_in {w : Option Nat} {pre : List Nat} {c : Nat} (h : c ∈ lastW w pre) : ∃ n, 1 ≤ n ∧ n ≤ pre.length ∧ (∀ m, w = some m → n ≤ m) ∧ askB pre n = c := by
  have key : ∀ k, c ∈ pre.drop k → ∃ n, 1 ≤ n ∧ n ≤ pre.length ∧ n ≤ pre.length - k ∧ askB pre n = c := fun k hk => by
    obtain ⟨j, hj, e⟩ := List.mem_iff_getElem.mp hk
    rw [List.length_drop] at hj
    rw [List.getElem_drop] at e
    refine ⟨pre.length - (k + j), by omega, by omega, by omega, ?_⟩
    unfold askB
    rw [show pre.length - (pre.length - (k + j)) = k + j by omega, List.getElem?_eq_getElem (by omega), e]; rfl
  unfold lastW at h
  split at h
  · obtain ⟨n, h1, h2, _, h4⟩ := key 0 (by rwa [List.drop_zero])
    exact ⟨n, h1, h2, (fun m e => nomatch e), h4⟩
  · rename_i m
    obtain ⟨n, h1, h2, h3, h4⟩ := key _ h
    exact ⟨n, h1, h2, fun m' e => by cases e; omega, h4⟩
theorem in_lastW {w : Option Nat} {pre : List Nat} {n : Nat} (h1 : 1 ≤ n) (h2 : n ≤ pre.length) (h3 : ∀ m, w = some m → n ≤ m) : askB pre n ∈ lastW w pre := by
  have hlt : pre.length - n < pre.length := by omega
  have key : ∀ k, k ≤ pre.length - n → askB pre n ∈ pre.drop k := fun k hk => by
    unfold askB
    rw [List.getElem?_eq_getElem hlt]
    refine List.mem_iff_getElem.mpr ⟨pre.length - n - k, by rw [List.length_drop]; omega, ?_⟩
    rw [List.getElem_drop]
    show _ = pre[pre.length - n]
    congr 1
    omega
  unfold lastW
  split
  · have := key 0 (by omega)
    rwa [List.drop_zero] at this
  · rename_i m
    have := h3 m rfl
    exact key _ (by omega)
theorem clo_beh {s : Svc} {lot : List Nat} {w : Option Nat} (hl : ∀ a ∈ lot, a ∈ s.asks) (B : ∀ a ∈ lot, Bear s a w) {pre : List Nat} (hp : ∀ c ∈ pre, c ∈ s.asks) {S : Nat → Prop} (hS : ∀ i, S i → Beh s i (lead s 0 pre)) :
    ∀ i, Clo s (fun c => c ∈ lot ∧ c ∈ lastW w pre) S i → Beh s i (lead s 0 pre) := by
  refine Clo.least (T := fun i => Beh s i (lead s 0 pre)) hS fun i c hi ⟨h1, h2⟩ => ?_
  obtain ⟨n, n1, n2, n3, e⟩ := lastW_in h2
  have o := open_row (w := w) hp n1 n2 n3
  have e' : pre[pre.length - n]?.getD 0 = c := e
  rw [e'] at o
  exact ((hi.step (hl c h1)).2).trans (B c h1 _ o)
theorem setT_one {p : Nat → Prop} {c : Nat} (h1 : p c) (h2 : ∀ d, p d → d = c) : SetT p [c] :=
  ⟨List.pairwise_singleton _ _, fun d => ⟨fun h => by rw [List.mem_singleton.mp h]; exact h1, fun h => by rw [h2 d h]; simp⟩⟩
/-- what is borne gets one answer alone -/
theorem can_borne {s : Svc} {lot : List Nat} {w : Option Nat} (hl : ∀ a ∈ lot, a ∈ s.asks) (B : ∀ a ∈ lot, Bear s a w) : ∀ (row pre : List Nat) (S : Nat → Prop) (ts : List (List Nat)), (∀ c ∈ pre, c ∈ s.asks) → (∀ c ∈ row, c ∈ s.asks) → (∀ i, S i → Beh s i (lead s 0 pre)) → (∃ i, S i) →
    CanP s lot w pre S row ts → ts = (tell s (lead s 0 pre) row).map fun c => [c]
  | [], _, _, ts, _, _, _, _, h => h
  | a :: r, pre, S, ts, hp, hr, hS, ⟨i0, hi0⟩, h => by
    unfold CanP at h
    obtain ⟨t, ts', rfl, ht, hn⟩ := h
    have ha := hr a (by simp)
    have cb := clo_beh hl B hp hS
    have e1 : t = [(s.step (lead s 0 pre) a).2] := ht.eq (setT_one ⟨i0, Clo.base hi0, ((hS i0 hi0).step ha).1.symm⟩ fun d ⟨j, hj, e⟩ => by rw [e]; exact ((cb j hj).step ha).1)
    have ih := can_borne hl B r (pre ++ [a]) _ ts' (fun c hc => by
      rcases List.mem_append.mp hc with hc | hc
      · exact hp c hc
      · rw [List.mem_singleton.mp hc]; exact ha) (fun c hc => hr c (by simp [hc])) (fun i ⟨j, hj, e⟩ => by
        rw [e, lead_app]
        exact ((cb j hj).step ha).2) ⟨_, i0, Clo.base hi0, rfl⟩ hn
    rw [e1, ih, lead_app]; rfl
/-- what is answered with all that comes again is among it -/
theorem can_heard {s : Svc} {lot : List Nat} {w : Option Nat} : ∀ (l : List It) (row : List Nat) (S : Nat → Prop) (x : Nat) (ts : List (List Nat)), Fits s lot w row l → Clo s (fun c => c ∈ lot ∧ c ∈ lastW w row) S x → CanP s lot w row S (firsts l) ts →
    ∀ y ∈ List.zip ts (pick l (tell s x (mean row l))), y.2 ∈ y.1
  | [], _, _, _, ts, _, _, _, y, hy => by simp [pick] at hy
  | .ch c :: r, row, S, x, ts, hf, hx, h, y, hy => by
    have h' : CanP s lot w row S (c :: firsts r) ts := h
    unfold CanP at h'
    obtain ⟨t, ts', rfl, ht, hn⟩ := h'
    have hy' : y ∈ (t, (s.step x c).2) :: List.zip ts' (pick r (tell s (s.step x c).1 (mean (row ++ [c]) r))) := hy
    rcases List.mem_cons.mp hy' with rfl | hy'
    · exact (ht.2 _).mpr ⟨x, hx, rfl⟩
    · exact can_heard r (row ++ [c]) _ _ ts' hf.2 (Clo.base ⟨x, hx, rfl⟩) hn y hy'
  | .bk n :: r, row, S, x, ts, hf, hx, h, y, hy => by
    obtain ⟨h1, h2, h3, h4, h5⟩ := hf
    exact can_heard r row S _ ts h5 (hx.step ⟨h3, in_lastW h1 h2 h4⟩) h y hy
theorem fits_ch {s : Svc} {lot : List Nat} {w : Option Nat} : ∀ {row l : List Nat}, (∀ c ∈ l, c ∈ s.asks) → Fits s lot w row (l.map It.ch)
  | _, [], _ => trivial
  | row, c :: l, h => ⟨h c (by simp), fits_ch fun z hz => h z (by simp [hz])⟩
theorem pick_ch : ∀ (l t : List Nat), l.length = t.length → pick (l.map It.ch) t = t
  | [], [], _ => rfl
  | c :: l, u :: t, h => by
    show u :: pick (l.map It.ch) t = _
    rw [pick_ch l t (by simpa using h)]
  | [], _ :: _, h => by simp at h
  | _ :: _, [], h => by simp at h
/-- what is answered alone is among it -/
theorem can_alone {s : Svc} {lot : List Nat} {w : Option Nat} {row : List Nat} {ts : List (List Nat)} (hr : ∀ c ∈ row, c ∈ s.asks) (h : CanP s lot w [] (· = 0) row ts) : ∀ y ∈ List.zip ts (tell s 0 row), y.2 ∈ y.1 := by
  have e1 : mean [] (row.map It.ch) = row := by
    have := mean_ch row [] []
    rw [List.append_nil] at this
    rw [this]
    show row ++ [] = row
    rw [List.append_nil]
  have e2 : firsts (row.map It.ch) = row := by
    have := firsts_ch row []
    rw [List.append_nil] at this
    rw [this]
    show row ++ [] = row
    rw [List.append_nil]
  have := can_heard (s := s) (lot := lot) (w := w) (row.map It.ch) [] (· = 0) 0 ts (fits_ch hr) (Clo.base rfl) (by rw [e2]; exact h)
  rw [e1, pick_ch _ _ (by rw [tell_len])] at this
  exact this
/-! ### rows drawn -/
theorem lc_drawS {α : Type} {h : Hq} {n : Nat} {r : List D} {s : Src} {p : Pat} {te : WE} {fr : Fr} {P : WK} (xs : List α) (toD : α → D) (G : Nat → Prop) (hn : n < h.length) (okr : RowD r) (ed : s.its = some (xs.map toD)) (hz : xs.length ≤ 1000000)
    (hs : ∀ a ∈ xs, ∃ fr2, bindP p (toD a) fr = some fr2 ∧ ∀ h' r1 Q, RowAt h' n r1 → (∀ (w : Nat) r', G w → RowD r' → Q (chD w) (h'.set n (.lst r'))) → te fr2 h' Q)
    (he : ∀ (ws : List Nat) (r' : List D), ws.length = xs.length → (∀ w ∈ ws, G w) → RowD r' → P (.lst (ws.map chD)) (h.set n (.lst r'))) :
    ∃ k, lcN s h.length (lcStep p wtYes te fr) (gcK h P) k 0 (h.set n (.lst r) ++ [.lst []]) := by
  have l1 : ∀ {r' ds}, lstAt (h.set n (.lst r') ++ [.lst ds]) h.length = some ds := fun {r' ds} => hq_at (h := h) (n := n) (r := r') (G1 := []) (G2 := [])
  refine lc_inv (ds := xs.map toD) (fun i acc h' => ∃ (ws : List Nat) (r' : List D), acc = ws.map chD ∧ ws.length = i ∧ (∀ w ∈ ws, G w) ∧ RowD r' ∧ h' = h.set n (.lst r') ++ [.lst acc]) 0 [] (fun _ _ _ _ => Src.its_tick ed _ _)
    (fun i acc h' ⟨ws, r', e1, e2, e3, e4, e5⟩ => ⟨by rw [e5]; exact l1, by rw [e1, List.length_map]; omega⟩) (by rw [List.length_map]; have := sl63 hz; omega)
    ⟨[], r, rfl, rfl, by simp, okr, rfl⟩ (fun i d acc h' ⟨ws, r', e1, e2, e3, e4, e5⟩ hd kp sk k1 k2 => ?_) fun acc h' ⟨ws, r', e1, e2, e3, e4, e5⟩ => ?_
  · rw [List.getElem?_map, Option.map_eq_some_iff] at hd
    obtain ⟨a, ha, rfl⟩ := hd
    obtain ⟨fr2, b1, b2⟩ := hs a (List.mem_of_getElem? ha)
    unfold lcStep
    rw [b1]
    subst e5
    refine b2 _ _ _ (hq_row (G := [.lst acc]) hn e4) fun z r2 hz ok => ?_
    have e6 : (h.set n (.lst r') ++ [Ob.lst acc]).set n (.lst r2) = h.set n (.lst r2) ++ [.lst acc] := hq_draw (G := [.lst acc]) hn
    rw [e6]
    refine k1 _ _ l1 ⟨ws ++ [z], r2, by rw [e1, List.map_append]; rfl, by rw [List.length_append, e2]; rfl, fun w hw => ?_, ok, hq_set (h := h) (n := n) (r := r2) (G1 := []) (G2 := [])⟩
    rcases List.mem_append.mp hw with hw | hw
    · exact e3 w hw
    · rw [List.mem_singleton.mp hw]; exact hz
  · subst e5
    subst e1
    rw [List.length_map] at e2
    exact gc_setl e4 (nrL_map (fun _ => rfl) _) (he ws r' e2 e3 e4)
abbrev N_law_row : List Str := ["_law_row_here", "_law_asks", "_law_most", "_law_turn"]
def ws_law_row : WS := (wsSeq (wsRet (wBM "str" mJoin (wC (.str [])) (waCons (wLc (wiRng1 (waCons (wCB g_law_taken (waCons (wVar 0) (waCons (wOp gAdd (wVar 2) (wC (.int 1))) waNil))) waNil)) (.nm 3) wtYes (wCB g_law_pick (waCons (wVar 0) (waCons (wCB bLstU (waCons (wVar 1) waNil)) waNil))) [3]) waNil))) wsNil)
def g_law_row : WL := fun ds h P => ∃ (n : Nat) (r : List D) (a : List Nat) (most : Nat), 1 ≤ a.length ∧ a.length ≤ 4 ∧ ds = [.ref n, .str a, .int most] ∧ RowAt h n r ∧ most ≤ 60 ∧ ∀ (row : List Nat) (r' : List D), (∀ c ∈ row, c ∈ a) → row.length ≤ most → RowD r' → P (.str row) (h.set n (.lst r'))
theorem law_row_ok : ∀ ds h P, g_law_row ds h P → wF ws_law_row 4 3 ds h P := by
  rintro ds h P ⟨n, r, a, most, a1, a2, rfl, R, hm, hP⟩
  refine ⟨rfl, ?_⟩
  have hn := lst_lt R.at_
  (conv => whnf); (try dsimp only)
  refine ⟨rfl, ?_⟩
  (conv => whnf); (try dsimp only)
  refine ⟨n, r, most + 1, rfl, R, by omega, by omega, fun T r1 hT ok1 => ?_⟩
  (conv => whnf); (try dsimp only)
  refine ⟨⟨by omega, by omega⟩, ?_⟩
  rw [List.length_set]
  refine lc_drawS (h := h) (List.range T) (fun i : Nat => D.int (i : Int)) (· ∈ a) hn ok1 ?_ (by rw [List.length_range]; omega) (fun i hi => ?_) fun ws r' hl hw okr => ?_
  · show some ((List.range ((T : Int)).toNat).map fun i : Nat => D.int (i : Int)) = _
    rw [Int.toNat_natCast]
  · refine ⟨_, rfl, fun h' r2 Q R2 q => ?_⟩
    (conv => whnf); (try dsimp only)
    refine ⟨n, r2, _, _, rfl, .inl rfl, R2, by rw [List.length_map]; omega, by rw [List.length_map]; omega, nrL_map (fun _ => rfl) _, fun z hz r3 ok3 => ?_⟩
    rw [List.length_map] at hz
    rw [show ((a.map fun c => D.str [c])[z]'(by rw [List.length_map]; exact hz)) = .str [a[z]] from List.getElem_map ..]
    exact q _ _ (List.getElem_mem hz) ok3
  · rw [List.length_range] at hl
    (conv => whnf); (try dsimp only)
    refine ⟨_, strs_ch ws, by have := sum_ones ws; simp only [List.length_map, List.length_nil, Nat.mul_zero, Nat.add_zero]; omega, ?_⟩
    rw [join_ch]
    exact gc_mut pre_refl okr.nr rfl (hP ws r' hw (by omega) okr)
end MP

namespace MP
open PySem PySem.Spec PyProof.Rows L2
/-! ### two services beside one another -/
structure Both (o u b : Svc) (f : Nat → Nat × Nat) : Prop where
  bok : b.Ok
  dis : ∀ c ∈ o.asks, c ∉ u.asks
  mem : ∀ c, c ∈ b.asks ↔ c ∈ o.asks ∨ c ∈ u.asks
  z : f 0 = (0, 0)
  l : ∀ i, i < b.rows.length → ∀ c ∈ o.asks, (b.step i c).2 = (o.step (f i).1 c).2 ∧ f (b.step i c).1 = ((o.step (f i).1 c).1, (f i).2)
  r : ∀ i, i < b.rows.length → ∀ c ∈ u.asks, (b.step i c).2 = (u.step (f i).2 c).2 ∧ f (b.step i c).1 = ((f i).1, (u.step (f i).2 c).1)
namespace Both
variable {o u b : Svc} {f : Nat → Nat × Nat}
theorem swap (B : Both o u b f) : Both u o b fun i => ((f i).2, (f i).1) where
  bok := B.bok
  dis := fun c hc h => B.dis c h hc
  mem := fun c => (B.mem c).trans or_comm
  z := by rw [B.z]
  l := fun i hi c hc => ⟨(B.r i hi c hc).1, by rw [(B.r i hi c hc).2]⟩
  r := fun i hi c hc => ⟨(B.l i hi c hc).1, by rw [(B.l i hi c hc).2]⟩
theorem ma (B : Both o u b f) {c : Nat} (h : c ∈ o.asks) : c ∈ b.asks := (B.mem c).mpr (.inl h)
theorem mb (B : Both o u b f) {c : Nat} (h : c ∈ u.asks) : c ∈ b.asks := (B.mem c).mpr (.inr h)
theorem row_l (B : Both o u b f) : ∀ (row : List Nat) (i : Nat), i < b.rows.length → (∀ c ∈ row, c ∈ o.asks) → f (lead b i row) = (lead o (f i).1 row, (f i).2) ∧ tell b i row = tell o (f i).1 row
  | [], i, _, _ => ⟨rfl, rfl⟩
  | c :: row, i, hi, hr => by
    have hc := hr c (by simp)
    obtain ⟨e1, e2⟩ := B.l i hi c hc
    obtain ⟨h1, h2⟩ := row_l B row (b.step i c).1 (B.bok.lt hi (B.ma hc)).1 fun z hz => hr z (by simp [hz])
    rw [e2] at h1 h2
    refine ⟨h1, ?_⟩
    show (b.step i c).2 :: tell b (b.step i c).1 row = (o.step (f i).1 c).2 :: tell o (o.step (f i).1 c).1 row
    rw [e1, h2]
/-- of any row each hears its own asks -/
theorem row_any (B : Both o u b f) : ∀ (row : List Nat) (i : Nat), i < b.rows.length → (∀ c ∈ row, c ∈ b.asks) → f (lead b i row) = (lead o (f i).1 (row.filter fun c => decide (c ∈ o.asks)), lead u (f i).2 (row.filter fun c => decide (c ∈ u.asks)))
  | [], i, _, _ => rfl
  | c :: row, i, hi, hr => by
    have hcb := hr c (by simp)
    have ih := row_any B row (b.step i c).1 (B.bok.lt hi hcb).1 fun z hz => hr z (by simp [hz])
    show f (lead b (b.step i c).1 row) = _
    rw [ih]
    rcases (B.mem c).mp hcb with hc | hc
    · rw [(B.l i hi c hc).2, List.filter_cons_of_pos (by simpa using hc), List.filter_cons_of_neg (by simpa using B.dis c hc)]; rfl
    · have hn : c ∉ o.asks := fun h => B.dis c h hc
      rw [(B.r i hi c hc).2, List.filter_cons_of_neg (by simpa using hn), List.filter_cons_of_pos (by simpa using hc)]; rfl
theorem beh (B : Both o u b f) {i j : Nat} (hi : i < b.rows.length) (hj : j < b.rows.length) : Beh b i j ↔ Beh o (f i).1 (f j).1 ∧ Beh u (f i).2 (f j).2 := by
  refine ⟨fun h => ⟨fun row hr => ?_, fun row hr => ?_⟩, fun ⟨h1, h2⟩ row hr => ?_⟩
  · rw [← (B.row_l row i hi hr).2, ← (B.row_l row j hj hr).2]
    exact h row fun c hc => B.ma (hr c hc)
  · rw [← (B.swap.row_l row i hi hr).2, ← (B.swap.row_l row j hj hr).2]
    exact h row fun c hc => B.mb (hr c hc)
  · induction row generalizing i j with
    | nil => rfl
    | cons c row ih =>
      have hcb := hr c (by simp)
      show (b.step i c).2 :: tell b (b.step i c).1 row = (b.step j c).2 :: tell b (b.step j c).1 row
      have li := (B.bok.lt hi hcb).1
      have lj := (B.bok.lt hj hcb).1
      rcases (B.mem c).mp hcb with hc | hc
      · obtain ⟨a1, a2⟩ := B.l i hi c hc
        obtain ⟨b1, b2⟩ := B.l j hj c hc
        obtain ⟨s1, s2⟩ := h1.step hc
        rw [a1, b1, s1, ih li lj (by rw [a2, b2]; exact ⟨s2, h2⟩) fun z hz => hr z (by simp [hz])]
        · rw [a2, b2]; exact s2
        · rw [a2, b2]; exact h2
      · obtain ⟨a1, a2⟩ := B.r i hi c hc
        obtain ⟨b1, b2⟩ := B.r j hj c hc
        obtain ⟨s1, s2⟩ := h2.step hc
        rw [a1, b1, s1, ih li lj (by rw [a2, b2]; exact ⟨h1, s2⟩) fun z hz => hr z (by simp [hz])]
        · rw [a2, b2]; exact h1
        · rw [a2, b2]; exact s2
theorem down (B : Both o u b f) {i : Nat} (R : Reach b i) : Reach o (f i).1 := by
  induction R with
  | zero => rw [B.z]; exact .zero
  | @step i c R hcb ih =>
    rcases (B.mem c).mp hcb with hc | hc
    · rw [(B.l i (R.lt B.bok) c hc).2]; exact ih.step hc
    · rw [(B.r i (R.lt B.bok) c hc).2]; exact ih
theorem up (B : Both o u b f) {p : Nat} (R : Reach o p) : ∃ i, Reach b i ∧ f i = (p, 0) := by
  induction R with
  | zero => exact ⟨0, .zero, B.z⟩
  | @step p c R hc ih =>
    obtain ⟨i, hi, e⟩ := ih
    refine ⟨_, hi.step (B.ma hc), ?_⟩
    rw [(B.l i (hi.lt B.bok) c hc).2, e]
theorem bear (B : Both o u b f) {a : Nat} (ha : a ∈ o.asks) {w : Option Nat} : Bear b a w ↔ Bear o a w := by
  have hab := B.ma ha
  refine ⟨fun h p ⟨q, row, rq, hr, hw, e⟩ => ?_, fun h j oj => ?_⟩
  · obtain ⟨i, ri, ei⟩ := B.up rq
    have hi := ri.lt B.bok
    have e1 := (B.l i hi a ha).2
    rw [ei] at e1
    have hi2 := (B.bok.lt hi hab).1
    have hrb : ∀ c ∈ row, c ∈ b.asks := fun c hc => B.ma (hr c hc)
    have e2 := (B.row_l row _ hi2 hr).1
    rw [e1] at e2
    have hO : Open b a w (lead b (b.step i a).1 row) := ⟨i, row, ri, hrb, hw, rfl⟩
    have hj := (hO.reach hab).lt B.bok
    have := ((B.beh (B.bok.lt hj hab).1 hj).mp (h _ hO)).1
    rw [(B.l _ hj a ha).2, e2, show lead o (o.step q a).1 row = p from e] at this
    exact this
  · have hj := (oj.reach hab).lt B.bok
    refine (B.beh (B.bok.lt hj hab).1 hj).mpr ?_
    rw [(B.l _ hj a ha).2]
    refine ⟨h _ ?_, Beh.refl⟩
    obtain ⟨i, row, ri, hr, hw, e⟩ := oj
    have hi := ri.lt B.bok
    refine ⟨(f i).1, row.filter fun c => decide (c ∈ o.asks), B.down ri, fun c hc => by simpa using (List.mem_filter.mp hc).2, fun n hn => Nat.lt_of_le_of_lt (List.length_filter_le _ _) (hw n hn), ?_⟩
    have := B.row_any row _ (B.bok.lt hi hab).1 hr
    rw [e, (B.l i hi a ha).2] at this
    rw [this]
end Both
/-- each number comes after all less ones -/
theorem ins_lt {n k : Nat} (h : k < n) : ins (List.range n) k = List.range n := by
  unfold ins; rw [if_pos (List.mem_range.mpr h)]
theorem ins_nx {n : Nat} : ins (List.range n) n = List.range (n + 1) := by
  unfold ins; rw [if_neg (by simp), List.range_succ]
/-! ### asks called otherwise -/
def renS (s : Svc) (ls A : List Nat) : Svc := ⟨A, s.rows.map fun l => A.map fun c => (l[ls.idxOf c]?).getD (0, 97)⟩
structure RenOk (s : Svc) (ls A : List Nat) : Prop where
  ok : s.Ok
  len : ls.length = s.asks.length
  nd : ls.Nodup
  le : ∀ c ∈ ls, Lett c
  pm : A.Perm ls
  pw : A.Pairwise (· < ·)
theorem pw_asc : ∀ {l : List Nat}, l.Pairwise (· < ·) → ∀ x ∈ List.zip l l.tail, x.1 < x.2
  | [], _ => by simp
  | [a], _ => by simp
  | a :: b :: l, h => by
    intro x hx
    rw [List.tail_cons, List.zip_cons_cons, List.mem_cons] at hx
    rcases hx with rfl | hx
    · exact (List.pairwise_cons.mp h).1 b (by simp)
    · exact pw_asc (List.pairwise_cons.mp h).2 x hx
namespace RenOk
variable {s : Svc} {ls A : List Nat}
theorem rok (R : RenOk s ls A) : (renS s ls A).Ok := by
  have h1 := R.ok.a1
  have h2 := R.ok.a2
  have h3 := R.pm.length_eq
  have h4 := R.len
  refine ⟨by show 1 ≤ A.length; omega, by show A.length ≤ 4; omega, fun c hc => R.le c (R.pm.mem_iff.mp hc), pw_asc R.pw, ?_, ?_, fun l hl => ?_, fun l hl x hx => ?_⟩
  · show 1 ≤ (s.rows.map _).length
    rw [List.length_map]; exact R.ok.r1
  · show (s.rows.map _).length ≤ 40
    rw [List.length_map]; exact R.ok.r2
  · obtain ⟨l0, _, rfl⟩ := List.mem_map.mp hl
    rw [List.length_map]; rfl
  · obtain ⟨l0, hl0, rfl⟩ := List.mem_map.mp hl
    obtain ⟨c, hc, rfl⟩ := List.mem_map.mp hx
    have hi : ls.idxOf c < l0.length := by
      rw [R.ok.rl l0 hl0, ← R.len]
      exact List.idxOf_lt_length_of_mem (R.pm.mem_iff.mp hc)
    rw [List.getElem?_eq_getElem hi, Option.getD_some]
    have := R.ok.st l0 hl0 _ (List.getElem_mem hi)
    exact ⟨by show _ < (s.rows.map _).length; rw [List.length_map]; exact this.1, this.2⟩
/-- the letter of an ask -/
def nm (s : Svc) (ls : List Nat) (a : Nat) : Nat := (ls[s.asks.idxOf a]?).getD 0
theorem nm_mem (R : RenOk s ls A) {a : Nat} (ha : a ∈ s.asks) : nm s ls a ∈ ls := by
  have := List.idxOf_lt_length_of_mem ha
  unfold nm
  rw [List.getElem?_eq_getElem (by rw [R.len]; exact this)]
  exact List.getElem_mem _
theorem step (R : RenOk s ls A) {i a : Nat} (hi : i < s.rows.length) (ha : a ∈ s.asks) : (renS s ls A).step i (nm s ls a) = s.step i a := by
  have h1 := List.idxOf_lt_length_of_mem ha
  have h2 : ls.idxOf (nm s ls a) = s.asks.idxOf a := by
    unfold nm
    rw [List.getElem?_eq_getElem (by rw [R.len]; exact h1), Option.getD_some]
    exact R.nd.idxOf_getElem _ _
  have h3 : nm s ls a ∈ A := R.pm.mem_iff.mpr (R.nm_mem ha)
  unfold Svc.step renS
  simp only [List.getElem?_map, List.getElem?_eq_getElem hi, Option.map_some, Option.getD_some, List.getElem?_eq_getElem (List.idxOf_lt_length_of_mem h3), List.getElem_idxOf, h2]
theorem tell (R : RenOk s ls A) : ∀ (row : List Nat) (i : Nat), i < s.rows.length → (∀ c ∈ row, c ∈ s.asks) → MP.tell (renS s ls A) i (row.map (nm s ls)) = MP.tell s i row
  | [], _, _, _ => rfl
  | c :: row, i, hi, hr => by
    have hc := hr c (by simp)
    show ((renS s ls A).step i (nm s ls c)).2 :: MP.tell _ ((renS s ls A).step i (nm s ls c)).1 (row.map (nm s ls)) = _
    rw [R.step hi hc, tell R row _ (R.ok.lt hi hc).1 fun z hz => hr z (by simp [hz])]; rfl
end RenOk
/-- two texts in order with the same signs -/
theorem sort_eq {α : Type} {lt : α → α → Prop} (asym : ∀ a b, ¬ lt a b → ¬ lt b a → a = b) {l1 l2 : List α} (p : l1.Perm l2) (h1 : l1.Pairwise fun a b => ¬ lt b a) (h2 : l2.Pairwise fun a b => ¬ lt b a) : l1 = l2 :=
  p.eq_of_pairwise (fun a b _ _ x y => asym a b y x) h1 h2
theorem single_nlt {l : List Nat} : (l.map fun c => [c]).Pairwise (fun a b => ¬ b < a) ↔ l.Pairwise (· ≤ ·) := by
  rw [List.pairwise_map]
  refine ⟨fun h => h.imp fun {a b} q => ?_, fun h => h.imp fun {a b} q => ?_⟩
  · rcases Nat.lt_or_ge b a with h | h
    · exact (q (List.cons_lt_cons_iff.mpr (.inl h))).elim
    · exact h
  · intro h
    rcases List.cons_lt_cons_iff.mp h with h | ⟨_, h⟩
    · omega
    · exact absurd h (by simp)
theorem pw_lt_of {l : List Nat} (h : l.Pairwise (· ≤ ·)) (nd : l.Nodup) : l.Pairwise (· < ·) :=
  h.imp₂ (fun _ _ a b => by omega) nd
end MP

namespace MP
open PySem PySem.Spec PyProof.Rows L2
/-! ### dicts whose keys are pairs of numbers -/
def pD (x : Nat × Nat) : D := .tup [intD x.1, intD x.2]
theorem deq_pD (a b : Nat × Nat) : deq (pD a) (pD b) = decide (a = b) := by
  have e : deq (pD a) (pD b) = (deq (intD a.1) (intD b.1) && (deq (intD a.2) (intD b.2) && true)) := rfl
  rw [e, deq_intD, deq_intD]
  obtain ⟨a1, a2⟩ := a
  obtain ⟨b1, b2⟩ := b
  by_cases h1 : a1 = b1 <;> by_cases h2 : a2 = b2 <;> simp [h1, h2]
theorem nk_pD (t : Nat × Nat) : nkB (pD t) = true := rfl
theorem nk_pDs (O : List (Nat × Nat)) : (O.map pD).all nkB = true := by
  rw [List.all_map]; exact List.all_eq_true.mpr fun t _ => nk_pD t
theorem kok_pD (O : List (Nat × Nat)) (x : Nat × Nat) : KOk (O.map pD) (pD x) := .inr ⟨nk_pD x, nk_pDs O⟩
theorem dix_pD (O : List (Nat × Nat)) (t : Nat × Nat) : dix (O.map pD) (pD t) = O.findIdx? fun a => decide (a = t) := by
  unfold dix
  rw [List.findIdx?_map]
  congr 1
  funext a
  exact deq_pD a t
theorem dix_pD_in {O : List (Nat × Nat)} {t : Nat × Nat} (h : t ∈ O) : dix (O.map pD) (pD t) = some (O.idxOf t) := by
  rw [dix_pD, List.findIdx?_eq_some_iff_findIdx_eq]
  refine ⟨List.idxOf_lt_length_of_mem h, ?_⟩
  show O.findIdx (fun a => decide (a = t)) = O.findIdx (fun a => a == t)
  congr 1
  funext a
  by_cases e : a = t
  · rw [decide_eq_true e]; exact (beq_iff_eq.mpr e).symm
  · rw [decide_eq_false e]; exact (beq_eq_false_iff_ne.mpr e).symm
theorem dix_pD_no {O : List (Nat × Nat)} {t : Nat × Nat} (h : t ∉ O) : dix (O.map pD) (pD t) = none := by
  rw [dix_pD, List.findIdx?_eq_none_iff]
  intro x hx
  refine decide_eq_false fun e => h (e ▸ hx)
def numV (n : Nat) : List D := (List.range n).map intD
theorem dget_pD {O : List (Nat × Nat)} {t : Nat × Nat} (h : t ∈ O) : dget (O.map pD) (numV O.length) (pD t) = some (intD (O.idxOf t)) := by
  unfold dget
  rw [dix_pD_in h, Option.bind_some]
  unfold numV
  rw [List.getElem?_map, List.getElem?_range (List.idxOf_lt_length_of_mem h)]; rfl
theorem dput_pD {O : List (Nat × Nat)} {t : Nat × Nat} (h : t ∉ O) : dput (O.map pD) (numV O.length) (pD t) (intD O.length) = ((O ++ [t]).map pD, numV (O ++ [t]).length) := by
  unfold dput
  rw [dix_pD_no h, List.map_append, List.length_append]
  unfold numV
  rw [List.length_singleton, List.range_succ, List.map_append]; rfl
theorem idx_app {O : List (Nat × Nat)} {G : List (Nat × Nat)} {t : Nat × Nat} (h : t ∈ O) : (O ++ G).idxOf t = O.idxOf t := by
  rw [List.idxOf_append, if_pos h]
theorem idx_last {O : List (Nat × Nat)} {t : Nat × Nat} (h : t ∉ O) : (O ++ [t]).idxOf t = O.length := by
  rw [List.idxOf_append, if_neg h]; simp
/-! ### the walk over pairs -/
def prA (o u : Svc) (x : Nat × Nat) (c : Nat) : (Nat × Nat) × Nat := if c ∈ o.asks then (((o.step x.1 c).1, x.2), (o.step x.1 c).2) else ((x.1, (u.step x.2 c).1), (u.step x.2 c).2)
def inQ (l : List (Nat × Nat)) (x : Nat × Nat) : List (Nat × Nat) := if x ∈ l then l else l ++ [x]
theorem inQ_pre (l : List (Nat × Nat)) (x : Nat × Nat) : l <+: inQ l x := by
  unfold inQ
  split
  · exact List.prefix_refl _
  · exact List.prefix_append _ _
theorem inQ_mem (l : List (Nat × Nat)) (x : Nat × Nat) : x ∈ inQ l x := by
  unfold inQ
  split
  · assumption
  · simp
theorem inQ_nd {l : List (Nat × Nat)} {x : Nat × Nat} (h : l.Nodup) : (inQ l x).Nodup := by
  unfold inQ
  split
  · exact h
  · rename_i hn
    rw [List.nodup_append]
    exact ⟨h, by simp, fun a ha b hb e => hn (by rw [List.mem_singleton] at hb; rw [← hb, ← e]; exact ha)⟩
def rowP (o u : Svc) (F : List (Nat × Nat)) (D : List Nat) (x : Nat × Nat) : List (Nat × Nat) := D.map fun c => (F.idxOf (prA o u x c).1, (prA o u x c).2)
theorem rowP_pre {o u : Svc} {F G : List (Nat × Nat)} {D : List Nat} {x : Nat × Nat} (h : ∀ c ∈ D, (prA o u x c).1 ∈ F) (p : F <+: G) : rowP o u G D x = rowP o u F D x := by
  obtain ⟨t, rfl⟩ := p
  exact List.map_congr_left fun c hc => by rw [idx_app (h c hc)]
theorem nodupP_le {l : List (Nat × Nat)} {m n : Nat} (nd : l.Nodup) (h : ∀ x ∈ l, x.1 < m ∧ x.2 < n) : l.length ≤ m * n := by
  have inj : ∀ x y : Nat × Nat, x.2 < n → y.2 < n → x.1 * n + x.2 = y.1 * n + y.2 → x = y := fun x y hx hy e => by
    have e2 : x.2 = y.2 := by
      have := congrArg (· % n) e
      simp only [Nat.mul_comm _ n, Nat.mul_add_mod, Nat.mod_eq_of_lt hx, Nat.mod_eq_of_lt hy] at this
      exact this
    have e1 : x.1 = y.1 := by
      rw [e2] at e
      exact Nat.eq_of_mul_eq_mul_right (by omega) (Nat.add_right_cancel e)
    exact Prod.ext e1 e2
  have nd2 : (l.map fun x => x.1 * n + x.2).Nodup := by
    rw [List.nodup_iff_pairwise_ne, List.pairwise_map]
    refine (List.nodup_iff_pairwise_ne.mp nd).imp_of_mem fun {a b} ha hb hab e => hab (inj a b (h a ha).2 (h b hb).2 e)
  have := nodup_le nd2 (n := m * n) fun i hi => by
    obtain ⟨x, hx, rfl⟩ := List.mem_map.mp hi
    obtain ⟨h1, h2⟩ := h x hx
    have : (x.1 + 1) * n ≤ m * n := Nat.mul_le_mul_right n h1
    rw [Nat.add_mul, Nat.one_mul] at this
    omega
  rwa [List.length_map] at this
structure PInv (o u : Svc) (A : List Nat) (F : List (Nat × Nat)) (k : Nat) : Prop where
  nd : F.Nodup
  hd : F.head? = some (0, 0)
  lt : ∀ x ∈ F, x.1 < o.rows.length ∧ x.2 < u.rows.length
  cl : ∀ x ∈ F.take k, ∀ c ∈ A, (prA o u x c).1 ∈ F
  ky : k ≤ F.length
  num : (((F.take k).flatMap (rowP o u F A)).map (·.1)).foldl ins [0] = List.range F.length
/-- on the way through the asks of the k-th -/
structure PRow (o u : Svc) (A : List Nat) (F0 : List (Nat × Nat)) (k : Nat) (x : Nat × Nat) (D : List Nat) (F : List (Nat × Nat)) : Prop where
  nd : F.Nodup
  pre : F0 <+: F
  lt : ∀ x ∈ F, x.1 < o.rows.length ∧ x.2 < u.rows.length
  cl : ∀ c ∈ D, (prA o u x c).1 ∈ F
  num : ((((F0.take k).flatMap (rowP o u F0 A)) ++ rowP o u F D x).map (·.1)).foldl ins [0] = List.range F.length
theorem PRow.one {o u : Svc} {A : List Nat} {F0 F : List (Nat × Nat)} {k : Nat} {x : Nat × Nat} {D : List Nat} {c : Nat} (I : PRow o u A F0 k x D F) (hy : (prA o u x c).1.1 < o.rows.length ∧ (prA o u x c).1.2 < u.rows.length) :
    PRow o u A F0 k x (D ++ [c]) (inQ F (prA o u x c).1) ∧ rowP o u (inQ F (prA o u x c).1) (D ++ [c]) x = rowP o u F D x ++ [((inQ F (prA o u x c).1).idxOf (prA o u x c).1, (prA o u x c).2)] := by
  have e : rowP o u (inQ F (prA o u x c).1) (D ++ [c]) x = rowP o u F D x ++ [((inQ F (prA o u x c).1).idxOf (prA o u x c).1, (prA o u x c).2)] := by
    rw [← rowP_pre I.cl (inQ_pre F (prA o u x c).1)]
    unfold rowP
    rw [List.map_append]; rfl
  refine ⟨⟨inQ_nd I.nd, I.pre.trans (inQ_pre _ _), fun z hz => ?_, fun z hz => ?_, ?_⟩, e⟩
  · unfold inQ at hz
    split at hz
    · exact I.lt z hz
    · rcases List.mem_append.mp hz with hz | hz
      · exact I.lt z hz
      · rw [List.mem_singleton.mp hz]; exact hy
  · rcases List.mem_append.mp hz with hz | hz
    · exact (inQ_pre _ _).subset (I.cl z hz)
    · rw [List.mem_singleton.mp hz]; exact inQ_mem _ _
  · rw [e, ← List.append_assoc, List.map_append, List.foldl_append, I.num]
    show ins (List.range F.length) ((inQ F (prA o u x c).1).idxOf (prA o u x c).1) = _
    by_cases h : (prA o u x c).1 ∈ F
    · have e2 : inQ F (prA o u x c).1 = F := if_pos h
      rw [e2]
      exact ins_lt (List.idxOf_lt_length_of_mem h)
    · have e2 : inQ F (prA o u x c).1 = F ++ [(prA o u x c).1] := if_neg h
      rw [e2, idx_last h, List.length_append]
      exact ins_nx
theorem take_preP {F0 F : List (Nat × Nat)} {k : Nat} {x : Nat × Nat} (p : F0 <+: F) (h : F0[k]? = some x) : F.take (k + 1) = F0.take k ++ [x] := by
  obtain ⟨t, rfl⟩ := p
  have hk : k < F0.length := by
    rcases Nat.lt_or_ge k F0.length with q | q
    · exact q
    · rw [List.getElem?_eq_none q] at h; cases h
  rw [List.take_add_one, List.take_append_of_le_length (by omega), List.getElem?_append_left hk, h]; rfl
theorem PInv.start {o u : Svc} {A : List Nat} {F0 : List (Nat × Nat)} {k : Nat} {x : Nat × Nat} (I : PInv o u A F0 k) : PRow o u A F0 k x [] F0 where
  nd := I.nd
  pre := List.prefix_refl _
  lt := I.lt
  cl := by simp
  num := by rw [show rowP o u F0 [] x = [] from rfl, List.append_nil]; exact I.num
theorem PRow.done {o u : Svc} {A : List Nat} {F0 F : List (Nat × Nat)} {k : Nat} {x : Nat × Nat} (I0 : PInv o u A F0 k) (hx : F0[k]? = some x) (I : PRow o u A F0 k x A F) : PInv o u A F (k + 1) ∧ (F.take (k + 1)).map (rowP o u F A) = (F0.take k).map (rowP o u F0 A) ++ [rowP o u F A x] := by
  have et := take_preP I.pre hx
  have hk : k < F0.length := by
    rcases Nat.lt_or_ge k F0.length with q | q
    · exact q
    · rw [List.getElem?_eq_none q] at hx; cases hx
  have em : (F.take (k + 1)).map (rowP o u F A) = (F0.take k).map (rowP o u F0 A) ++ [rowP o u F A x] := by
    rw [et, List.map_append]
    congr 1
    exact List.map_congr_left fun z hz => rowP_pre (I0.cl z hz) I.pre
  refine ⟨⟨I.nd, ?_, I.lt, fun z hz c hc => ?_, by have := I.pre.length_le; omega, ?_⟩, em⟩
  · obtain ⟨t, rfl⟩ := I.pre
    cases F0 with
    | nil => simp at hk
    | cons a F0 => exact I0.hd
  · rw [et] at hz
    rcases List.mem_append.mp hz with hz | hz
    · exact I.pre.subset (I0.cl z hz c hc)
    · rw [List.mem_singleton.mp hz]; exact I.cl c hc
  · rw [List.flatMap_def, em, List.flatten_append, ← List.flatMap_def, List.flatten_singleton]
    exact I.num
theorem PInv.first {o u : Svc} {A : List Nat} (h1 : 0 < o.rows.length) (h2 : 0 < u.rows.length) : PInv o u A [(0, 0)] 0 where
  nd := by simp
  hd := rfl
  lt := fun x hx => by rw [List.mem_singleton.mp hx]; exact ⟨h1, h2⟩
  cl := fun x hx => by simp at hx
  ky := by simp
  num := rfl
theorem pr_lt {o u : Svc} (ok : o.Ok) (uk : u.Ok) {x : Nat × Nat} {c : Nat} (hx : x.1 < o.rows.length ∧ x.2 < u.rows.length) (hc : c ∈ o.asks ∨ c ∈ u.asks) : ((prA o u x c).1.1 < o.rows.length ∧ (prA o u x c).1.2 < u.rows.length) ∧ Lett (prA o u x c).2 := by
  unfold prA
  split
  · rename_i h
    exact ⟨⟨(ok.lt hx.1 h).1, hx.2⟩, (ok.lt hx.1 h).2⟩
  · rename_i h
    have := hc.resolve_left h
    exact ⟨⟨hx.1, (uk.lt hx.2 this).1⟩, (uk.lt hx.2 this).2⟩
def besS (o u : Svc) (A : List Nat) (F : List (Nat × Nat)) : Svc := ⟨A, F.map (rowP o u F A)⟩
theorem besS_both {o u : Svc} {A : List Nat} {F : List (Nat × Nat)} (ok : o.Ok) (uk : u.Ok) (dis : ∀ c ∈ o.asks, c ∉ u.asks) (h4 : o.asks.length + u.asks.length ≤ 4) (h40 : o.rows.length * u.rows.length ≤ 40) (pm : A.Perm (o.asks ++ u.asks)) (pw : A.Pairwise (· < ·)) (I : PInv o u A F F.length) :
    Both o u (besS o u A F) (fun i => (F[i]?).getD (0, 0)) ∧ (((besS o u A F).rows.flatten).map (·.1)).foldl ins [0] = List.range (besS o u A F).rows.length := by
  have hmem : ∀ c, c ∈ A ↔ c ∈ o.asks ∨ c ∈ u.asks := fun c => pm.mem_iff.trans List.mem_append
  have hn := nodupP_le I.nd I.lt
  have hcl : ∀ x ∈ F, ∀ c ∈ A, (prA o u x c).1 ∈ F := fun x hx => I.cl x (by rw [List.take_length]; exact hx)
  have nA : A.Nodup := pw.imp fun h => by omega
  have hA := pm.length_eq
  rw [List.length_append] at hA
  have hF0 : 0 < F.length := by
    cases F with
    | nil => have := I.hd; cases this
    | cons a F => simp
  have stp : ∀ i c (hi : i < F.length), c ∈ A → (besS o u A F).step i c = (F.idxOf (prA o u F[i] c).1, (prA o u F[i] c).2) := fun i c hi hc => by
    have h1 := List.idxOf_lt_length_of_mem hc
    unfold Svc.step besS rowP
    simp only [List.getElem?_map, List.getElem?_eq_getElem hi, Option.map_some, Option.getD_some, List.getElem?_eq_getElem h1, List.getElem_idxOf]
  have fi : ∀ i (hi : i < F.length), (F[i]?).getD (0, 0) = F[i] := fun i hi => by rw [List.getElem?_eq_getElem hi]; rfl
  have fx : ∀ x, x ∈ F → (F[F.idxOf x]?).getD (0, 0) = x := fun x hx => by
    have h1 := List.idxOf_lt_length_of_mem hx
    rw [fi _ h1]; exact List.getElem_idxOf h1
  have nl : (besS o u A F).rows.length = F.length := List.length_map ..
  refine ⟨⟨⟨by show 1 ≤ A.length; have := ok.a1; omega, by show A.length ≤ 4; omega, fun c hc => ?_, pw_asc pw, by rw [nl]; omega, by rw [nl]; omega, fun l hl => ?_, fun l hl y hy => ?_⟩, dis, hmem, ?_, fun i hi c hc => ?_, fun i hi c hc => ?_⟩, ?_⟩
  · rcases (hmem c).mp hc with h | h
    · exact ok.az c h
    · exact uk.az c h
  · obtain ⟨x, _, rfl⟩ := List.mem_map.mp hl
    exact List.length_map ..
  · obtain ⟨x, hx, rfl⟩ := List.mem_map.mp hl
    obtain ⟨c, hc, rfl⟩ := List.mem_map.mp hy
    rw [nl]
    exact ⟨List.idxOf_lt_length_of_mem (hcl x hx c hc), (pr_lt ok uk (I.lt x hx) ((hmem c).mp hc)).2⟩
  · have := I.hd
    cases F with
    | nil => cases this
    | cons a F => cases this; rfl
  · rw [nl] at hi
    have hcA := (hmem c).mpr (.inl hc)
    have e : prA o u F[i] c = (((o.step F[i].1 c).1, F[i].2), (o.step F[i].1 c).2) := if_pos hc
    rw [stp i c hi hcA]
    simp only [fi i hi]
    refine ⟨by rw [e], ?_⟩
    rw [fx _ (hcl _ (List.getElem_mem hi) c hcA), e]
  · rw [nl] at hi
    have hcA := (hmem c).mpr (.inr hc)
    have e : prA o u F[i] c = ((F[i].1, (u.step F[i].2 c).1), (u.step F[i].2 c).2) := if_neg fun h => dis c h hc
    rw [stp i c hi hcA]
    simp only [fi i hi]
    refine ⟨by rw [e], ?_⟩
    rw [fx _ (hcl _ (List.getElem_mem hi) c hcA), e]
  · have := I.num
    rw [List.take_length, List.flatMap_def] at this
    rw [nl]; exact this
/-- the signs of a text in order -/
theorem srt_txt {t : List Nat} {h : Hq} {P : WK} (p : ∀ A : List Nat, A.Perm t → A.Pairwise (· ≤ ·) → P (.lst (A.map chD)) h) : bSrt4 [.str t] h P := by
  refine .inr (.inr (.inl ⟨t.map fun c => [c], by show some _ = some _; rw [List.map_map]; rfl, fun out pm pw => ?_⟩))
  obtain ⟨A, rfl⟩ := singles (out := out) fun x hx => by
    obtain ⟨c, _, e⟩ := List.mem_map.mp (pm.mem_iff.mp hx)
    exact ⟨c, e.symm⟩
  rw [List.map_map]
  refine p A ?_ (single_nlt.mp pw)
  have := pm.map (fun l : List Nat => l.headD 0)
  rw [List.map_map, List.map_map] at this
  have e : ∀ l : List Nat, l.map ((fun l : List Nat => l.headD 0) ∘ fun c => [c]) = l := fun l => (List.map_congr_left fun _ _ => rfl).trans (List.map_id l)
  rw [e, e] at this
  exact this
section
variable {h G : Hq} {a b c l o : Ob}
theorem b0 : (h ++ (a :: b :: c :: G))[h.length]? = some a := tg0
theorem b1 : (h ++ (a :: b :: c :: G))[h.length + 1]? = some b := tg 1
theorem b2 : (h ++ (a :: b :: c :: G))[h.length + 2]? = some c := tg 2
theorem b3 : (h ++ (a :: b :: c :: (G ++ [l])))[h.length + (G.length + 3)]? = some l := by
  rw [tg, show G.length + 3 = G.length + 1 + 1 + 1 from rfl, List.getElem?_cons_succ, List.getElem?_cons_succ, List.getElem?_cons_succ]; simp
theorem bs0 : (h ++ (a :: b :: c :: G)).set h.length o = h ++ (o :: b :: c :: G) := ts0
theorem bs1 : (h ++ (a :: b :: c :: G)).set (h.length + 1) o = h ++ (a :: o :: c :: G) := ts 1
theorem bs2 : (h ++ (a :: b :: c :: G)).set (h.length + 2) o = h ++ (a :: b :: o :: G) := ts 2
theorem bs3 : (h ++ (a :: b :: c :: (G ++ [l]))).set (h.length + (G.length + 3)) o = h ++ (a :: b :: c :: (G ++ [o])) := by
  rw [ts, show G.length + 3 = G.length + 1 + 1 + 1 from rfl, List.set_cons_succ, List.set_cons_succ, List.set_cons_succ, List.set_append_right _ _ (Nat.le_refl _), Nat.sub_self]; rfl
end
abbrev N_beside : List Str := ["one", "other", "asks", "found", "place", "rows", "line", "ask", "left", "right", "pair", "later", "answer"]
def ws_beside : WS := (wsSeq (wsExpr (wCB g_need_service (waCons (wVar 0) waNil))) (wsSeq (wsExpr (wCB g_need_service (waCons (wVar 1) waNil))) (wsSeq (wsIf (wtTru (wCB bAny (waCons (wLc (wiAny (wOp gIxU (wVar 0) (wC (.int 0)))) (.nm 7) wtYes (wOp (gInU false) (wVar 7) (wOp gIxU (wVar 1) (wC (.int 0)))) [7]) waNil))) (wsSeq wsNever wsNil) wsNil) (wsSeq (wsAsg (wgPat (.nm 2)) (wBM "str" mJoin (wC (.str [])) (waCons (wCB bSrt4 (waCons (wOp gAdd (wOp gIxU (wVar 0) (wC (.int 0))) (wOp gIxU (wVar 1) (wC (.int 0)))) waNil)) waNil))) (wsSeq (wsIf (wtB (wOp gGt (wCB bLenU (waCons (wVar 2) waNil)) (wC (.int 4)))) (wsSeq wsNever wsNil) wsNil) (wsSeq (wsPar3 3 4 5 (waCons (wLstM (waCons (wTup (waCons (wC (.int 0)) (waCons (wC (.int 0)) waNil))) waNil)) (waCons (wDisp true (wTup (waCons (wC (.int 0)) (waCons (wC (.int 0)) waNil))) (wC (.int 0))) (waCons (wLstM waNil) waNil)))) (wsSeq (wsWhile (wtB (wOp gLt (wCB bLenU (waCons (wVar 5) waNil)) (wCB bLenU (waCons (wVar 3) waNil)))) (wsSeq (wsAsg (wgPat (.tp (.cons (.nm 8) (.cons (.nm 9) .nil)))) (wOp gIxU (wVar 3) (wCB bLenU (waCons (wVar 5) waNil)))) (wsSeq (wsAsg (wgPat (.nm 6)) (wLstM waNil)) (wsSeq (wsFor (wiAny (wVar 2)) (wgPat (.nm 7)) (wsSeq (wsIf (wtB (wOp (gInU false) (wVar 7) (wOp gIxU (wVar 0) (wC (.int 0))))) (wsSeq (wsAsg (wgPat (.tp (.cons (.nm 11) (.cons (.nm 12) .nil)))) (wCB g_step_of (waCons (wVar 0) (waCons (wVar 8) (waCons (wVar 7) waNil))))) (wsSeq (wsAsg (wgPat (.nm 10)) (wTup (waCons (wVar 11) (waCons (wVar 9) waNil)))) wsNil)) (wsSeq (wsAsg (wgPat (.tp (.cons (.nm 11) (.cons (.nm 12) .nil)))) (wCB g_step_of (waCons (wVar 1) (waCons (wVar 9) (waCons (wVar 7) waNil))))) (wsSeq (wsAsg (wgPat (.nm 10)) (wTup (waCons (wVar 8) (waCons (wVar 11) waNil)))) wsNil))) (wsSeq (wsIf (wtB (wOp (gInU true) (wVar 10) (wVar 4))) (wsSeq (wsAsg (wgSub (wVar 4) (wVar 10)) (wCB bLenU (waCons (wVar 3) waNil))) (wsSeq (wsExpr (wBM "list" mAppend (wVar 3) (waCons (wVar 10) waNil))) wsNil)) wsNil) (wsSeq (wsExpr (wBM "list" mAppend (wVar 6) (waCons (wTup (waCons (wOp gIxU (wVar 4) (wVar 10)) (waCons (wVar 12) waNil))) waNil))) wsNil)))) (wsSeq (wsExpr (wBM "list" mAppend (wVar 5) (waCons (wCB bTup (waCons (wVar 6) waNil)) waNil))) (wsSeq (wsIf (wtB (wOp gGt (wCB bLenU (waCons (wVar 3) waNil)) (wC (.int 40)))) (wsSeq wsNever wsNil) wsNil) wsNil)))))) (wsSeq (wsRet (wTup (waCons (wVar 2) (waCons (wCB bTup (waCons (wVar 5) waNil)) waNil)))) wsNil))))))))
def g_beside : WL := fun ds h P => ∃ o u : Svc, o.Ok ∧ u.Ok ∧ (∀ c ∈ o.asks, c ∉ u.asks) ∧ o.asks.length + u.asks.length ≤ 4 ∧ o.rows.length * u.rows.length ≤ 40 ∧ ds = [o.d, u.d] ∧
  ∀ (b : Svc) (f : Nat → Nat × Nat), Both o u b f → b.asks.Perm (o.asks ++ u.asks) → (b.rows.flatten.map (·.1)).foldl ins [0] = List.range b.rows.length → P b.d h
theorem beside_ok : ∀ ds h P, g_beside ds h P → wF ws_beside 13 2 ds h P := by
  rintro ds h P ⟨o, u, ok, uk, dis, h4, h40, rfl, hP⟩
  refine ⟨rfl, o, ok, rfl, ?_⟩
  (conv => whnf); (try dsimp only)
  refine ⟨u, uk, rfl, ?_⟩
  (conv => whnf); (try dsimp only)
  refine lcm o.asks chD (fun _ => .bl false) rfl rfl (sl63 (by omega)) (fun c hc h' kp sk q => ?_) (fun _ _ => rfl) ?_
  · (conv => whnf); (try dsimp only)
    rw [decide_eq_false (dis c hc)]
    exact q
  (conv => whnf); (try dsimp only)
  refine ⟨_, blsOf_map (fun _ => false) o.asks, ?_⟩
  (conv => whnf); (try dsimp only)
  rw [show (List.map (fun _ : Nat => false) o.asks).any id = false by simp]
  (conv => whnf); (try dsimp only)
  refine ⟨rfl, ?_⟩
  (conv => whnf); (try dsimp only)
  refine ⟨sl63 (n := o.asks.length + u.asks.length) (by omega), ?_⟩
  refine srt_txt fun A pm pw => ?_
  have hA := pm.length_eq
  rw [List.length_append] at hA
  (conv => whnf); (try dsimp only)
  refine ⟨_, strs_ch A, by have := sum_ones A; simp only [List.length_map, List.length_nil, Nat.mul_zero, Nat.add_zero]; omega, ?_⟩
  rw [join_ch]
  (conv => whnf); (try dsimp only)
  (generalize hdec : decide ((A.length : Int) > 4) = bdec; obtain rfl : bdec = false := hdec.symm.trans (decide_eq_false (by omega)); clear hdec; (conv => whnf); (try dsimp only))
  refine ⟨sl63 (by simp), ?_⟩
  (conv => whnf); (try dsimp only)
  refine ⟨sl63 (by simp), ?_⟩
  (conv => whnf); (try dsimp only)
  refine ⟨sl63 (by simp), ?_⟩
  (conv => whnf); (try dsimp only)
  have e1 : List.length (h ++ [Ob.lst [D.tup [D.int 0, D.int 0]]] ++ [Ob.dct [] []]) = h.length + 2 := by simp
  simp only [tl1, List.append_assoc, tg0, tg]
  (conv => whnf); (try dsimp only)
  refine ⟨rfl, ?_⟩
  have e0 : ((h ++ ([Ob.lst [D.tup [D.int 0, D.int 0]]] ++ [Ob.dct [] []])).set (h.length + 1) (Ob.dct [D.tup [D.int 0, D.int 0]] [D.int 0])) = h ++ [Ob.lst [pD (0, 0)], Ob.dct [pD (0, 0)] [D.int 0]] := ts 1
  rw [e0]
  (conv => whnf); (try dsimp only)
  refine ⟨sl63 (by simp), ?_⟩
  (conv => whnf); (try dsimp only)
  have e2 : List.length (h ++ [Ob.lst [pD (0, 0)], Ob.dct [pD (0, 0)] [D.int 0]]) = h.length + 2 := by simp
  have e3 : (h ++ [Ob.lst [pD (0, 0)], Ob.dct [pD (0, 0)] [D.int 0]]) ++ [Ob.lst []] = h ++ (Ob.lst [pD (0, 0)] :: Ob.dct [pD (0, 0)] [D.int 0] :: Ob.lst [] :: []) := by rw [List.append_assoc]; rfl
  rw [e2, e3]
  clear e0 e1 e2 e3
  have hmem : ∀ c, c ∈ A ↔ c ∈ o.asks ∨ c ∈ u.asks := fun c => pm.mem_iff.trans List.mem_append
  have nA : A.Nodup := pm.nodup_iff.mpr (List.nodup_append.mpr ⟨ok.nd, uk.nd, fun a ha b hb e => dis a ha (e ▸ hb)⟩)
  have pwl := pw_lt_of pw nA
  refine wh_inv (fun n fr h' => ∃ (F : List (Nat × Nat)) (k : Nat) (G : Hq) (x6 x7 x8 x9 x10 x11 x12 : Option D), h' = h ++ (.lst (F.map pD) :: .dct (F.map pD) (numV F.length) :: .lst (((F.take k).map (rowP o u F A)).map rowD) :: G) ∧
    fr = [some o.d, some u.d, some (.str A), some (.ref h.length), some (.ref (h.length + 1)), some (.ref (h.length + 2)), x6, x7, x8, x9, x10, x11, x12] ∧ PInv o u A F k ∧ n = 40 - k) (n := 40) ?_ ?_
  · exact ⟨[(0, 0)], 0, [], _, _, _, _, _, _, _, rfl, rfl, .first ok.r1 uk.r1, rfl⟩
  · rintro n fr h' ⟨F, k, G, x6, x7, x8, x9, x10, x11, x12, rfl, rfl, I, rfl⟩ K hK
    have hF40 := nodupP_le I.nd I.lt
    have hky := I.ky
    have hlen : (((F.take k).map (rowP o u F A)).map rowD).length = k := by rw [List.length_map, List.length_map, List.length_take]; omega
    (conv => whnf); (try dsimp only)
    simp only [b0, b2]
    (conv => whnf); (try dsimp only)
    simp only [b0, b2]
    (conv => whnf); (try dsimp only)
    by_cases hlt : k < F.length
    · (generalize hdec : decide (((((F.take k).map (rowP o u F A)).map rowD).length : Int) < ((F.map pD).length : Int)) = bdec; obtain rfl : bdec = true := hdec.symm.trans (decide_eq_true (by rw [hlen, List.length_map]; omega)); clear hdec; (conv => whnf); (try dsimp only))
      simp only [b0, b2]
      (conv => whnf); (try dsimp only)
      have hat : atI (F.map pD) ((((F.take k).map (rowP o u F A)).map rowD).length : Int) = some (pD F[k]) := by
        rw [hlen]; exact atI_nat (by rw [List.getElem?_map, List.getElem?_eq_getElem hlt]; rfl)
      simp only [b0, hat]
      (conv => whnf); (try dsimp only)
      refine ⟨sl63 (by simp), ?_⟩
      (conv => whnf); (try dsimp only)
      have el : ∀ b c : Ob, (h ++ (Ob.lst (F.map pD) :: b :: c :: G)).length = h.length + (G.length + 3) := fun b c => by rw [List.length_append]; rfl
      have ea : ∀ b c : Ob, (h ++ (Ob.lst (F.map pD) :: b :: c :: G)) ++ [Ob.lst []] = h ++ (Ob.lst (F.map pD) :: b :: c :: (G ++ [Ob.lst []])) := fun b c => by rw [List.append_assoc]; rfl
      rw [el, ea]
      have hxk : F[k]? = some F[k] := List.getElem?_eq_getElem hlt
      have hx := I.lt _ (List.getElem_mem hlt)
      generalize F[k] = x at hx hxk hat
      refine fo_fix A chD (fun rest fr h' => ∃ (F' : List (Nat × Nat)) (dn : List Nat) (x7 x10 x11 x12 : Option D), h' = h ++ (.lst (F'.map pD) :: .dct (F'.map pD) (numV F'.length) :: .lst (((F.take k).map (rowP o u F A)).map rowD) :: (G ++ [.lst ((rowP o u F' dn x).map stD)])) ∧
        fr = [some o.d, some u.d, some (.str A), some (.ref h.length), some (.ref (h.length + 1)), some (.ref (h.length + 2)), some (.ref (h.length + (G.length + 3))), x7, some (intD x.1), some (intD x.2), x10, x11, x12] ∧ PRow o u A F k x dn F' ∧ A = dn ++ rest) rfl ?_ ?_ ?_
      · exact ⟨F, [], _, _, _, _, rfl, rfl, I.start, rfl⟩
      · rintro c rest fr h' hcA ⟨F', dn, x7, x10, x11, x12, rfl, rfl, J, hdn⟩ K2 hK2
        have hF' := nodupP_le J.nd J.lt
        have hy := pr_lt ok uk hx ((hmem c).mp hcA)
        obtain ⟨J2, e2⟩ := J.one hy.1
        have hdl : dn.length ≤ 4 := by
          have := congrArg List.length hdn
          rw [List.length_append] at this
          omega
        have rest : ∀ (x11 : Option D) (M : MEnds) (hs0 : Hq), M.nx = gcF hs0 K2 → (wsSeq (wsIf (wtB (wOp (gInU true) (wVar 10) (wVar 4))) (wsSeq (wsAsg (wgSub (wVar 4) (wVar 10)) (wCB bLenU (waCons (wVar 3) waNil))) (wsSeq (wsExpr (wBM "list" mAppend (wVar 3) (waCons (wVar 10) waNil))) wsNil)) wsNil) (wsSeq (wsExpr (wBM "list" mAppend (wVar 6) (waCons (wTup (waCons (wOp gIxU (wVar 4) (wVar 10)) (waCons (wVar 12) waNil))) waNil))) wsNil)) M
            [some o.d, some u.d, some (.str A), some (.ref h.length), some (.ref (h.length + 1)), some (.ref (h.length + 2)), some (.ref (h.length + (G.length + 3))), some (chD c), some (intD x.1), some (intD x.2), some (pD (prA o u x c).1), x11, some (.str [(prA o u x c).2])]
            (h ++ (.lst (F'.map pD) :: .dct (F'.map pD) (numV F'.length) :: .lst (((F.take k).map (rowP o u F A)).map rowD) :: (G ++ [.lst ((rowP o u F' dn x).map stD)]))) := by
          intro x11 M hs0 hM
          generalize hyg : (prA o u x c) = y at hy J2 e2
          (conv => whnf); (try dsimp only)
          simp only [dct_ref b1]
          refine ⟨kok_pD F' _, ?_⟩
          by_cases hm : y.1 ∈ F'
          · have eF : inQ F' y.1 = F' := if_pos hm
            rw [eF] at J2 e2
            rw [dix_pD_in hm]
            (conv => whnf); (try dsimp only)
            refine ⟨ty_lst (lst_of b3), ?_⟩
            (conv => whnf); (try dsimp only)
            simp only [b1]
            refine ⟨kok_pD _ _, _, dget_pD (hm), ?_⟩
            (conv => whnf); (try dsimp only)
            refine ⟨sl63 (by simp), ?_⟩
            (conv => whnf); (try dsimp only)
            simp only [lst_of b3]
            refine ⟨sl63 (by rw [List.length_map]; unfold rowP; rw [List.length_map]; omega), ?_⟩
            rw [bs3]
            show M.nx _ _
            rw [hM]
            refine .inl (hK2 _ _ ⟨F', dn ++ [c], _, _, _, _, ?_, rfl, J2, by rw [hdn, List.append_assoc]; rfl⟩)
            rw [e2, List.map_append (f := stD)]; rfl
          · have eF : inQ F' y.1 = F' ++ [y.1] := if_neg hm
            rw [eF] at J2 e2
            have hm2 : y.1 ∈ F' ++ [y.1] := by simp
            rw [dix_pD_no hm]
            (conv => whnf); (try dsimp only)
            simp only [b0]
            (conv => whnf); (try dsimp only)
            simp only [b1]
            refine ⟨⟨kok_pD _ _, by rw [List.length_map, sizeLine_eq]; omega⟩, ?_⟩
            rw [show D.int ((F'.map pD).length : Int) = intD F'.length by rw [List.length_map]; rfl, dput_pD hm, bs1]
            (conv => whnf); (try dsimp only)
            refine ⟨ty_lst (lst_of b0), ?_⟩
            (conv => whnf); (try dsimp only)
            simp only [lst_of b0]
            refine ⟨by rw [List.length_map, sizeLine_eq]; omega, ?_⟩
            rw [bs0, show F'.map pD ++ [pD y.1] = (F' ++ [y.1]).map pD by rw [List.map_append]; rfl]
            (conv => whnf); (try dsimp only)
            refine ⟨ty_lst (lst_of b3), ?_⟩
            (conv => whnf); (try dsimp only)
            simp only [b1]
            refine ⟨kok_pD _ _, _, dget_pD (hm2), ?_⟩
            (conv => whnf); (try dsimp only)
            refine ⟨sl63 (by simp), ?_⟩
            (conv => whnf); (try dsimp only)
            simp only [lst_of b3]
            refine ⟨sl63 (by rw [List.length_map]; unfold rowP; rw [List.length_map]; omega), ?_⟩
            rw [bs3]
            show M.nx _ _
            rw [hM]
            refine .inl (hK2 _ _ ⟨F' ++ [y.1], dn ++ [c], _, _, _, _, ?_, rfl, J2, by rw [hdn, List.append_assoc]; rfl⟩)
            rw [e2, List.map_append (f := stD)]; rfl
        by_cases hc : c ∈ o.asks
        · (conv => whnf); (try dsimp only)
          rw [decide_eq_true hc]
          (conv => whnf); (try dsimp only)
          refine ⟨o, x.1, c, ok, hx.1, hc, rfl, ?_⟩
          (conv => whnf); (try dsimp only)
          have ey : (prA o u x c) = (((o.step x.1 c).1, x.2), (o.step x.1 c).2) := if_pos hc
          rw [ey] at rest
          refine ⟨sl63 (by simp), ?_⟩
          exact rest _ _ _ rfl
        · (conv => whnf); (try dsimp only)
          rw [decide_eq_false hc]
          (conv => whnf); (try dsimp only)
          have hcu := ((hmem c).mp hcA).resolve_left hc
          refine ⟨u, x.2, c, uk, hx.2, hcu, rfl, ?_⟩
          (conv => whnf); (try dsimp only)
          have ey : (prA o u x c) = ((x.1, (u.step x.2 c).1), (u.step x.2 c).2) := if_neg hc
          rw [ey] at rest
          refine ⟨sl63 (by simp), ?_⟩
          exact rest _ _ _ rfl
      · rintro fr h' ⟨F', dn, x7, x10, x11, x12, rfl, rfl, J, hdn⟩
        rw [List.append_nil] at hdn
        subst hdn
        obtain ⟨I2, e2⟩ := PRow.done I hxk J
        have hF' := nodupP_le J.nd J.lt
        (conv => whnf); (try dsimp only)
        refine ⟨ty_lst (lst_of b2), ?_⟩
        (conv => whnf); (try dsimp only)
        simp only [seq_ref (lst_of b3)]
        (conv => whnf); (try dsimp only)
        simp only [lst_of b2]
        refine ⟨by rw [List.length_map, List.length_map, List.length_take, sizeLine_eq]; omega, ?_⟩
        rw [bs2]
        (conv => whnf); (try dsimp only)
        simp only [b0]
        (conv => whnf); (try dsimp only)
        (generalize hdec : decide (((F'.map pD).length : Int) > 40) = bdec; obtain rfl : bdec = false := hdec.symm.trans (decide_eq_false (by rw [List.length_map]; omega)); clear hdec; (conv => whnf); (try dsimp only))
        refine .inl (hK (40 - (k + 1)) _ _ (by omega) ⟨F', k + 1, G ++ [.lst ((rowP o u F' A x).map stD)], _, _, _, _, _, _, _, ?_, rfl, I2, rfl⟩)
        rw [e2, List.map_append (f := rowD)]; rfl
    · (generalize hdec : decide (((((F.take k).map (rowP o u F A)).map rowD).length : Int) < ((F.map pD).length : Int)) = bdec; obtain rfl : bdec = false := hdec.symm.trans (decide_eq_false (by rw [hlen, List.length_map]; omega)); clear hdec; (conv => whnf); (try dsimp only))
      simp only [seq_ref (lst_of b2)]
      have ek : k = F.length := by omega
      subst ek
      rw [List.take_length]
      obtain ⟨B, hN⟩ := besS_both ok uk dis h4 h40 pm pwl I
      refine ⟨sl63 (by simp), ?_⟩
      have := hP _ _ B pm hN
      unfold Svc.d besS at this
      exact gc_pre (List.prefix_append _ _) (svc_nr (besS o u A F)) this
end MP

namespace MP
open PySem PySem.Spec PyProof.Rows L2
/-! ### asks called otherwise; what is borne; answers -/
abbrev N_answers : List Str := ["service", "row"]
def ws_answers : WS := (wsSeq (wsExpr (wCB g_need_service (waCons (wVar 0) waNil))) (wsSeq (wsExpr (wCB g_need_row (waCons (wVar 0) (waCons (wVar 1) waNil)))) (wsSeq (wsRet (wCB g_answered (waCons (wVar 0) (waCons (wVar 1) waNil)))) wsNil)))
def g_answers : WL := fun ds h P => ∃ (s : Svc) (row : List Nat), s.Ok ∧ RowOk s row ∧ ds = [s.d, .str row] ∧ P (.str (tell s 0 row)) h
theorem answers_ok : ∀ ds h P, g_answers ds h P → wF ws_answers 2 2 ds h P := by
  rintro ds h P ⟨s, row, ok, hr, rfl, p⟩
  refine ⟨rfl, s, ok, rfl, ?_⟩
  (conv => whnf); (try dsimp only)
  refine ⟨s, row, ok, hr, rfl, ?_⟩
  (conv => whnf); (try dsimp only)
  refine ⟨s, row, ok, hr.1, by have := hr.2; omega, rfl, ?_⟩
  exact gc_same rfl p
noncomputable def borneL (s : Svc) (w : Option Nat) : List Nat := s.asks.filter fun a => bearB s w a
abbrev N_borne_of : List Str := ["service", "window", "ask"]
def ws_borne_of : WS := (wsSeq (wsRet (wBM "str" mJoin (wC (.str [])) (waCons (wLc (wiAny (wOp gIxU (wVar 0) (wC (.int 0)))) (.nm 2) (wtTru (wCB g_does_bear (waCons (wVar 0) (waCons (wVar 2) (waCons (wVar 1) waNil))))) (wVar 2) [2]) waNil))) wsNil)
def g_borne_of : WL := fun ds h P => ∃ (s : Svc) (w : Option Nat), s.Ok ∧ ds = [s.d, winD w] ∧ P (.str (borneL s w)) h
theorem borne_of_ok : ∀ ds h P, g_borne_of ds h P → wF ws_borne_of 3 2 ds h P := by
  rintro ds h P ⟨s, w, ok, rfl, p⟩
  have h2 := ok.a2
  have hl : (borneL s w).length ≤ s.asks.length := List.length_filter_le _ _
  refine ⟨rfl, ?_⟩
  (conv => whnf); (try dsimp only)
  refine ⟨rfl, ?_⟩
  (conv => whnf); (try dsimp only)
  refine lcv s.asks chD (fun a => if bearB s w a = true then some (chD a) else none) rfl rfl (sl63 (by omega)) (fun a ha h' kp sk k1 k2 => ?_) (fun a ha y e => ?_) ?_
  · (conv => whnf); (try dsimp only)
    refine ⟨s, a, w, ok, ha, rfl, ?_⟩
    cases hb : bearB s w a with
    | true =>
      (conv => whnf); (try dsimp only)
      exact k1 _ (by rw [if_pos hb])
    | false =>
      (conv => whnf); (try dsimp only)
      exact k2 (by rw [hb]; rfl)
  · split at e
    · cases e; rfl
    · cases e
  · have e : s.asks.filterMap (fun a => if bearB s w a = true then some (chD a) else none) = (borneL s w).map chD := by
      unfold borneL
      induction s.asks with
      | nil => rfl
      | cons a l ih =>
        cases hb : bearB s w a with
        | true => rw [List.filterMap_cons_some (b := chD a) (by rw [hb]; rfl), List.filter_cons_of_pos hb, List.map_cons, ih]
        | false => rw [List.filterMap_cons_none (by rw [hb]; rfl), List.filter_cons_of_neg (by rw [hb]; decide), ih]
    rw [e]
    refine ⟨_, strs_ch (borneL s w), by have := sum_ones (borneL s w); simp only [List.length_map, List.length_nil, Nat.mul_zero, Nat.add_zero]; omega, ?_⟩
    rw [join_ch]
    exact gc_same rfl p
abbrev N_borne : List Str := ["service", "window"]
def ws_borne : WS := (wsSeq (wsExpr (wCB g_need_service (waCons (wVar 0) waNil))) (wsSeq (wsExpr (wCB g_need_window (waCons (wVar 1) waNil))) (wsSeq (wsRet (wCB g_borne_of (waCons (wVar 0) (waCons (wVar 1) waNil)))) wsNil)))
def g_borne : WL := fun ds h P => ∃ (s : Svc) (w : Option Nat), s.Ok ∧ WinOk w ∧ ds = [s.d, winD w] ∧ P (.str (borneL s w)) h
theorem borne_ok : ∀ ds h P, g_borne ds h P → wF ws_borne 2 2 ds h P := by
  rintro ds h P ⟨s, w, ok, hw, rfl, p⟩
  refine ⟨rfl, s, ok, rfl, ?_⟩
  (conv => whnf); (try dsimp only)
  refine ⟨w, hw, rfl, ?_⟩
  (conv => whnf); (try dsimp only)
  refine ⟨s, w, ok, rfl, ?_⟩
  exact gc_same rfl p
abbrev N_renamed : List Str := ["service", "letters", "asks", "order", "sign", "line", "at"]
def ws_renamed : WS := (wsSeq (wsExpr (wCB g_need_service (waCons (wVar 0) waNil))) (wsSeq (wsIf (wtOr (wtNot (wtTru (wCB bIsi (waCons (wVar 1) (waCons (wC (.con (.ty "str"))) waNil))))) (wtOr (wtB (wOp (gEqU true) (wCB bLenU (waCons (wVar 1) waNil)) (wCB bLenU (waCons (wOp gIxU (wVar 0) (wC (.int 0))) waNil)))) (wtB (wOp (gEqU true) (wLenSet (wVar 1)) (wCB bLenU (waCons (wVar 1) waNil)))))) (wsSeq wsNever wsNil) wsNil) (wsSeq (wsIf (wtNot (wtTru (wCB bAll (waCons (wLc (wiAny (wVar 1)) (.nm 4) wtYes (wCB g_is_letter (waCons (wVar 4) waNil)) [4]) waNil)))) (wsSeq wsNever wsNil) wsNil) (wsSeq (wsAsg (wgPat (.nm 2)) (wBM "str" mJoin (wC (.str [])) (waCons (wCB bSrt4 (waCons (wVar 1) waNil)) waNil))) (wsSeq (wsAsg (wgPat (.nm 3)) (wLc (wiAny (wVar 2)) (.nm 4) wtYes (wBM "str" mIndex (wVar 1) (waCons (wVar 4) waNil)) [4])) (wsSeq (wsRet (wTup (waCons (wVar 2) (waCons (wCB bTup (waCons (wLc (wiAny (wOp gIxU (wVar 0) (wC (.int 1)))) (.nm 5) wtYes (wCB bTup (waCons (wLc (wiAny (wVar 3)) (.nm 6) wtYes (wOp gIxU (wVar 5) (wVar 6)) [6]) waNil)) [5]) waNil)) waNil)))) wsNil))))))
def g_renamed : WL := fun ds h P => ∃ (s : Svc) (ls : List Nat), s.Ok ∧ ls.length = s.asks.length ∧ ls.Nodup ∧ (∀ c ∈ ls, Lett c) ∧ ds = [s.d, .str ls] ∧ ∀ A, RenOk s ls A → P (renS s ls A).d h
theorem renamed_ok : ∀ ds h P, g_renamed ds h P → wF ws_renamed 7 2 ds h P := by
  rintro ds h P ⟨s, ls, ok, hl, nd, le, rfl, hP⟩
  have h2 := ok.a2
  have hr2 := ok.r2
  refine ⟨rfl, s, ok, rfl, ?_⟩
  (conv => whnf); (try dsimp only)
  refine ⟨(by first | rfl | decide), ?_⟩; (conv => whnf); (try dsimp only)
  have e1 : ((ls.length : Int) == (s.asks.length : Int)) = true := beqT (by omega)
  rw [e1]
  (conv => whnf); (try dsimp only)
  refine ⟨ls.map fun c => [c], by show some _ = some _; rw [List.map_map]; rfl, by rw [List.length_map]; omega, fun out no mo => ?_⟩
  have ndS : (ls.map fun c => [c]).Nodup := by
    rw [List.nodup_iff_pairwise_ne, List.pairwise_map]
    exact (List.nodup_iff_pairwise_ne.mp nd).imp fun h e => h (by cases e; rfl)
  have eo : out.length = ls.length := by
    have := ((List.perm_ext_iff_of_nodup no ndS).mpr mo).length_eq
    rwa [List.length_map] at this
  (conv => whnf); (try dsimp only)
  have e2 : ((out.length : Int) == (ls.length : Int)) = true := beqT (by omega)
  rw [e2]
  (conv => whnf); (try dsimp only)
  refine lcm ls chD (fun _ => .bl true) rfl rfl (sl63 (by omega)) (fun c hc h' kp sk q => ?_) (fun _ _ => rfl) ?_
  · (conv => whnf); (try dsimp only)
    exact ⟨c, rfl, le c hc, q⟩
  (conv => whnf); (try dsimp only); refine ⟨_, blsOf_map (fun _ => true) _, ?_⟩; simp only [all_mapT]; (conv => whnf); (try dsimp only)
  refine ⟨rfl, ?_⟩
  (conv => whnf); (try dsimp only)
  refine srt_txt fun A pm pw => ?_
  have hA := pm.length_eq
  have R : RenOk s ls A := ⟨ok, hl, nd, le, pm, pw_lt_of pw (pm.nodup_iff.mpr nd)⟩
  (conv => whnf); (try dsimp only)
  refine ⟨_, strs_ch A, by have := sum_ones A; simp only [List.length_map, List.length_nil, Nat.mul_zero, Nat.add_zero]; omega, ?_⟩
  rw [join_ch]
  (conv => whnf); (try dsimp only)
  refine lcm A chD (fun c => intD (ls.idxOf c)) rfl rfl (sl63 (by omega)) (fun c hc h' kp sk q => ?_) (fun _ _ => rfl) ?_
  · (conv => whnf); (try dsimp only)
    refine ⟨rfl, ?_⟩
    (conv => whnf); (try dsimp only)
    exact ⟨pm.mem_iff.mp hc, q⟩
  (conv => whnf); (try dsimp only)
  refine lcm s.rows rowD (fun l => rowD (A.map fun c => (l[ls.idxOf c]?).getD (0, 97))) rfl rfl (sl63 (by omega)) (fun l hlm h' kp sk q => ?_) (fun _ _ => row_nr _) ?_
  · (conv => whnf); (try dsimp only)
    refine lcm A (fun c => intD (ls.idxOf c)) (fun c => stD ((l[ls.idxOf c]?).getD (0, 97))) rfl rfl (sl63 (by omega)) (fun c hc h' kp sk q => ?_) (fun _ _ => rfl) ?_
    · have hi : ls.idxOf c < l.length := by
        rw [ok.rl l hlm, ← hl]; exact List.idxOf_lt_length_of_mem (pm.mem_iff.mp hc)
      have ha : atI (l.map stD) ((ls.idxOf c : Nat) : Int) = some (stD ((l[ls.idxOf c]?).getD (0, 97))) := atI_nat (by rw [List.getElem?_map, List.getElem?_eq_getElem hi]; rfl)
      (conv => whnf); (try dsimp only)
      simp only [ha]
      exact q
    · (conv => whnf); (try dsimp only)
      rw [show (A.map fun c => stD ((l[ls.idxOf c]?).getD (0, 97))) = (A.map fun c => (l[ls.idxOf c]?).getD (0, 97)).map stD by rw [List.map_map]; rfl]
      exact q
  · (conv => whnf); (try dsimp only)
    refine ⟨sl63 (by simp), ?_⟩
    have e : D.tup [.str A, .tup (s.rows.map fun l => rowD (A.map fun c => (l[ls.idxOf c]?).getD (0, 97)))] = (renS s ls A).d := by
      unfold renS Svc.d
      rw [List.map_map]; rfl
    rw [e]
    exact gc_same (svc_nr _) (hP A R)
end MP

namespace MP
open PySem PySem.Spec PyProof.Rows L2
def g_law_alike : WL := g_alk 3
theorem ins_skip : ∀ (th L K : List Nat), (∀ x ∈ th, x ∈ K) → (L.filter fun x => decide (x ∉ th)).foldl ins K = L.foldl ins K
  | th, [], K, _ => rfl
  | th, x :: L, K, h => by
    by_cases hx : x ∈ th
    · rw [List.filter_cons_of_neg (by simpa using hx), List.foldl_cons, show ins K x = K from if_pos (h x hx)]
      exact ins_skip th L K h
    · rw [List.filter_cons_of_pos (by simpa using hx), List.foldl_cons, List.foldl_cons]
      exact ins_skip th L _ fun z hz => ins_mem.mpr (.inl (h z hz))
theorem ins_there (th L : List Nat) : (th ++ L.filter fun x => decide (x ∉ th)).foldl ins [] = L.foldl ins (th.foldl ins []) := by
  rw [List.foldl_append]
  exact ins_skip th L _ fun x hx => foldl_ins_mem.mpr (.inr hx)
/-- the first letters of qmtw -/
theorem names_ok {k : Nat} (h1 : 1 ≤ k) (h2 : k ≤ 4) : (([113, 109, 116, 119] : List Nat).take k).length = k ∧ (([113, 109, 116, 119] : List Nat).take k).Nodup ∧ (∀ c ∈ ([113, 109, 116, 119] : List Nat).take k, Lett c) ∧ ∀ c ∈ ([113, 109, 116, 119] : List Nat).take k, c ∈ ([113, 109, 116, 119] : List Nat) := by
  refine ⟨by rw [List.length_take]; simp; omega, (List.take_sublist _ _).nodup (by decide), fun c hc => ?_, fun c hc => List.mem_of_mem_take hc⟩
  have := List.mem_of_mem_take hc
  unfold Lett
  simp only [List.mem_cons, List.not_mem_nil, or_false] at this
  omega
theorem drawn_dis {a : List Nat} (h : Drawn a) : ∀ c ∈ a, c ∉ ([113, 109, 116, 119] : List Nat) := by
  unfold Drawn at h
  simp only [List.mem_cons, List.not_mem_nil, or_false] at h
  rcases h with rfl | rfl | rfl | rfl | rfl <;> decide
theorem srt_uniq {A B t : List Nat} (p1 : A.Perm t) (p2 : B.Perm t) (h1 : A.Pairwise (· ≤ ·)) (h2 : B.Pairwise (· ≤ ·)) : A = B :=
  (p1.trans p2.symm).eq_of_pairwise (le := (· ≤ ·)) (fun a b _ _ x y => by omega) h1 h2
theorem bornes {o u b : Svc} {f : Nat → Nat × Nat} (B : Both o u b f) (pm : b.asks.Perm (o.asks ++ u.asks)) {w : Option Nat} : (borneL b w).Perm (borneL o w ++ borneL u w) := by
  unfold borneL
  refine (pm.filter _).trans ?_
  rw [List.filter_append]
  have e1 : o.asks.filter (fun a => bearB b w a) = o.asks.filter fun a => bearB o w a := List.filter_congr fun a ha => by
    rw [Bool.eq_iff_iff, bearB_iff, bearB_iff]; exact B.bear ha
  have e2 : u.asks.filter (fun a => bearB b w a) = u.asks.filter fun a => bearB u w a := List.filter_congr fun a ha => by
    rw [Bool.eq_iff_iff, bearB_iff, bearB_iff]; exact B.swap.bear ha
  rw [e1, e2]
theorem bears_eq {o u b : Svc} {f : Nat → Nat × Nat} (B : Both o u b f) {w : Option Nat} : bearAll b o.asks w = bearAll o o.asks w := by
  rw [Bool.eq_iff_iff, bearAll_iff, bearAll_iff]
  exact ⟨fun h a ha => (B.bear ha).mp (h a ha), fun h a ha => (B.bear ha).mpr (h a ha)⟩
abbrev N_law : List Str := ["_law_script", "_law_row_here", "_law_names", "_law_other", "_law_text", "_law_order", "_law_both", "_law_asks", "_law_there", "_law_line", "_law_first", "_law_later", "_law_turn", "_law_window", "_law_one", "_law_draft", "_law_ask", "_law_left", "_law_right", "_law_answer", "_law_due", "_law_at"]
def ws_law : WS := (wsSeq (wsAsg (wgPat (.nm 1)) (wLstM (waCons (wVar 0) (waCons (wC (.int 0)) (waCons (wC (.int 7709)) (waCons (wC (.int 0)) waNil)))))) (wsSeq (wsAsg (wgPat (.tp (.cons (.nm 14) (.cons (.nm 15) .nil)))) (wTup (waCons (wCB g_law_service (waCons (wVar 1) (waCons (wC (.int 4)) waNil))) (waCons (wCB g_law_service (waCons (wVar 1) (waCons (wC (.int 4)) waNil))) waNil)))) (wsSeq (wsIf (wtB (wOp gGt (wOp gAdd (wCB bLenU (waCons (wOp gIxU (wVar 14) (wC (.int 0))) waNil)) (wCB bLenU (waCons (wOp gIxU (wVar 15) (wC (.int 0))) waNil))) (wC (.int 4)))) (wsSeq (wsRet (wC (.bl true))) wsNil) wsNil) (wsSeq (wsAsg (wgPat (.nm 2)) (wSl (wC (.str [113, 109, 116, 119])) woNone (woSome (wCB bLenU (waCons (wOp gIxU (wVar 15) (wC (.int 0))) waNil))))) (wsSeq (wsAsg (wgPat (.nm 3)) (wCB g_renamed (waCons (wVar 15) (waCons (wVar 2) waNil)))) (wsSeq (wsIf (wtOr (wtB (wOp (isD true) (wCB g_is_service (waCons (wVar 3) waNil)) (wC (.bl true)))) (wtB (wOp (gEqU true) (wOp gIxU (wVar 3) (wC (.int 0))) (wBM "str" mJoin (wC (.str [])) (waCons (wCB bSrt4 (waCons (wVar 2) waNil)) waNil))))) (wsSeq (wsRet (wC (.bl false))) wsNil) wsNil) (wsSeq (wsAsg (wgPat (.nm 4)) (wCB g_law_row (waCons (wVar 1) (waCons (wOp gIxU (wVar 15) (wC (.int 0))) (waCons (wC (.int 9)) waNil))))) (wsSeq (wsIf (wtB (wOp (gEqU true) (wCB g_answers (waCons (wVar 3) (waCons (wBM "str" mJoin (wC (.str [])) (waCons (wLc (wiAny (wVar 4)) (.nm 16) wtYes (wOp gIxU (wVar 2) (wBM "str" mIndex (wOp gIxU (wVar 15) (wC (.int 0))) (waCons (wVar 16) waNil))) [16]) waNil)) waNil))) (wCB g_law_told (waCons (wVar 15) (waCons (wC (.int 0)) (waCons (wVar 4) waNil)))))) (wsSeq (wsRet (wC (.bl false))) wsNil) wsNil) (wsSeq (wsAsg (wgPat (.nm 5)) (wLc (wiAny (wOp gIxU (wVar 3) (wC (.int 0)))) (.nm 16) wtYes (wBM "str" mIndex (wVar 2) (waCons (wVar 16) waNil)) [16])) (wsSeq (wsIf (wtNot (wtTru (wCB g_law_alike (waCons (wOp gIxU (wVar 3) (wC (.int 1))) (waCons (wCB bTup (waCons (wLc (wiAny (wOp gIxU (wVar 15) (wC (.int 1)))) (.nm 9) wtYes (wCB bTup (waCons (wLc (wiAny (wVar 5)) (.nm 21) wtYes (wOp gIxU (wVar 9) (wVar 21)) [21]) waNil)) [9]) waNil)) waNil))))) (wsSeq (wsRet (wC (.bl false))) wsNil) wsNil) (wsSeq (wsAsg (wgPat (.nm 6)) (wCB g_beside (waCons (wVar 14) (waCons (wVar 3) waNil)))) (wsSeq (wsAsg (wgPat (.nm 7)) (wOp gIxU (wVar 6) (wC (.int 0)))) (wsSeq (wsIf (wtOr (wtB (wOp (gEqU true) (wVar 7) (wBM "str" mJoin (wC (.str [])) (waCons (wCB bSrt4 (waCons (wOp gAdd (wOp gIxU (wVar 14) (wC (.int 0))) (wOp gIxU (wVar 3) (wC (.int 0)))) waNil)) waNil)))) (wtB (wOp (isD true) (wCB g_is_service (waCons (wVar 6) waNil)) (wC (.bl true))))) (wsSeq (wsRet (wC (.bl false))) wsNil) wsNil) (wsSeq (wsAsg (wgPat (.nm 8)) (wLst (waCons (wC (.int 0)) waNil))) (wsSeq (wsFor (wiAny (wOp gIxU (wVar 6) (wC (.int 1)))) (wgPat (.nm 9)) (wsSeq (wsAsg (wgPat (.nm 8)) (wOp gAdd (wVar 8) (wLc (wiAny (wVar 9)) (.tp (.cons (.nm 11) (.cons (.nm 19) .nil))) (wtB (wOp (gInU true) (wVar 11) (wVar 8))) (wVar 11) [11, 19]))) wsNil)) (wsSeq (wsAsg (wgPat (.nm 10)) (wLst waNil)) (wsSeq (wsFor (wiAny (wVar 8)) (wgPat (.nm 11)) (wsSeq (wsAsg (wgPat (.nm 10)) (wOp gAdd (wVar 10) (wOp gMul (wLst (waCons (wVar 11) waNil)) (wCB bInt (waCons (wOp (gInU true) (wVar 11) (wVar 10)) waNil))))) wsNil)) (wsSeq (wsIf (wtB (wOp (gEqU true) (wVar 10) (wRgL (wCB bLenU (waCons (wOp gIxU (wVar 6) (wC (.int 1))) waNil))))) (wsSeq (wsRet (wC (.bl false))) wsNil) wsNil) (wsSeq (wsFor (wiRng1 (waCons (wC (.int 3)) waNil)) (wgPat (.nm 12)) (wsSeq (wsPar3 4 17 18 (waCons (wCB g_law_row (waCons (wVar 1) (waCons (wVar 7) (waCons (wC (.int 12)) waNil)))) (waCons (wC (.int 0)) (waCons (wC (.int 0)) waNil)))) (wsSeq (wsFor (wiZip (waCons (wVar 4) (waCons (wCB g_answers (waCons (wVar 6) (waCons (wVar 4) waNil))) waNil))) (wgPat (.tp (.cons (.nm 16) (.cons (.nm 19) .nil)))) (wsSeq (wsIf (wtB (wOp (gInU false) (wVar 16) (wOp gIxU (wVar 14) (wC (.int 0))))) (wsSeq (wsAsg (wgPat (.tp (.cons (.nm 17) (.cons (.nm 20) .nil)))) (wCB g_law_step (waCons (wVar 14) (waCons (wVar 17) (waCons (wVar 16) waNil))))) wsNil) (wsSeq (wsAsg (wgPat (.tp (.cons (.nm 18) (.cons (.nm 20) .nil)))) (wCB g_law_step (waCons (wVar 3) (waCons (wVar 18) (waCons (wVar 16) waNil))))) wsNil)) (wsSeq (wsIf (wtB (wOp (gEqU true) (wVar 19) (wVar 20))) (wsSeq (wsRet (wC (.bl false))) wsNil) wsNil) wsNil))) wsNil))) (wsSeq (wsIf (wtB (wOp (gEqU true) (wCB g_borne (waCons (wVar 6) (waCons (wC .non) waNil))) (wBM "str" mJoin (wC (.str [])) (waCons (wCB bSrt4 (waCons (wOp gAdd (wCB g_borne (waCons (wVar 14) (waCons (wC .non) waNil))) (wCB g_borne (waCons (wVar 3) (waCons (wC .non) waNil)))) waNil)) waNil)))) (wsSeq (wsRet (wC (.bl false))) wsNil) wsNil) (wsSeq (wsAsg (wgPat (.nm 13)) (wOp gAdd (wC (.int 1)) (wCB g_law_taken (waCons (wVar 1) (waCons (wC (.int 4)) waNil))))) (wsSeq (wsRet (wOr (wOp (gEqU false) (wCB g_bears (waCons (wVar 6) (waCons (wOp gIxU (wVar 14) (wC (.int 0))) (waCons (wVar 13) waNil)))) (wCB g_bears (waCons (wVar 14) (waCons (wOp gIxU (wVar 14) (wC (.int 0))) (waCons (wVar 13) waNil))))) (wNot (wCB g_bears (waCons (wVar 6) (waCons (wOp gIxU (wVar 14) (wC (.int 0))) (waCons (wVar 13) waNil))))))) wsNil))))))))))))))))))))))
def ws_law_t4 : WS := (wsSeq (wsAsg (wgPat (.nm 3)) (wCB g_renamed (waCons (wVar 15) (waCons (wVar 2) waNil)))) (wsSeq (wsIf (wtOr (wtB (wOp (isD true) (wCB g_is_service (waCons (wVar 3) waNil)) (wC (.bl true)))) (wtB (wOp (gEqU true) (wOp gIxU (wVar 3) (wC (.int 0))) (wBM "str" mJoin (wC (.str [])) (waCons (wCB bSrt4 (waCons (wVar 2) waNil)) waNil))))) (wsSeq (wsRet (wC (.bl false))) wsNil) wsNil) (wsSeq (wsAsg (wgPat (.nm 4)) (wCB g_law_row (waCons (wVar 1) (waCons (wOp gIxU (wVar 15) (wC (.int 0))) (waCons (wC (.int 9)) waNil))))) (wsSeq (wsIf (wtB (wOp (gEqU true) (wCB g_answers (waCons (wVar 3) (waCons (wBM "str" mJoin (wC (.str [])) (waCons (wLc (wiAny (wVar 4)) (.nm 16) wtYes (wOp gIxU (wVar 2) (wBM "str" mIndex (wOp gIxU (wVar 15) (wC (.int 0))) (waCons (wVar 16) waNil))) [16]) waNil)) waNil))) (wCB g_law_told (waCons (wVar 15) (waCons (wC (.int 0)) (waCons (wVar 4) waNil)))))) (wsSeq (wsRet (wC (.bl false))) wsNil) wsNil) (wsSeq (wsAsg (wgPat (.nm 5)) (wLc (wiAny (wOp gIxU (wVar 3) (wC (.int 0)))) (.nm 16) wtYes (wBM "str" mIndex (wVar 2) (waCons (wVar 16) waNil)) [16])) (wsSeq (wsIf (wtNot (wtTru (wCB g_law_alike (waCons (wOp gIxU (wVar 3) (wC (.int 1))) (waCons (wCB bTup (waCons (wLc (wiAny (wOp gIxU (wVar 15) (wC (.int 1)))) (.nm 9) wtYes (wCB bTup (waCons (wLc (wiAny (wVar 5)) (.nm 21) wtYes (wOp gIxU (wVar 9) (wVar 21)) [21]) waNil)) [9]) waNil)) waNil))))) (wsSeq (wsRet (wC (.bl false))) wsNil) wsNil) (wsSeq (wsAsg (wgPat (.nm 6)) (wCB g_beside (waCons (wVar 14) (waCons (wVar 3) waNil)))) (wsSeq (wsAsg (wgPat (.nm 7)) (wOp gIxU (wVar 6) (wC (.int 0)))) (wsSeq (wsIf (wtOr (wtB (wOp (gEqU true) (wVar 7) (wBM "str" mJoin (wC (.str [])) (waCons (wCB bSrt4 (waCons (wOp gAdd (wOp gIxU (wVar 14) (wC (.int 0))) (wOp gIxU (wVar 3) (wC (.int 0)))) waNil)) waNil)))) (wtB (wOp (isD true) (wCB g_is_service (waCons (wVar 6) waNil)) (wC (.bl true))))) (wsSeq (wsRet (wC (.bl false))) wsNil) wsNil) (wsSeq (wsAsg (wgPat (.nm 8)) (wLst (waCons (wC (.int 0)) waNil))) (wsSeq (wsFor (wiAny (wOp gIxU (wVar 6) (wC (.int 1)))) (wgPat (.nm 9)) (wsSeq (wsAsg (wgPat (.nm 8)) (wOp gAdd (wVar 8) (wLc (wiAny (wVar 9)) (.tp (.cons (.nm 11) (.cons (.nm 19) .nil))) (wtB (wOp (gInU true) (wVar 11) (wVar 8))) (wVar 11) [11, 19]))) wsNil)) (wsSeq (wsAsg (wgPat (.nm 10)) (wLst waNil)) (wsSeq (wsFor (wiAny (wVar 8)) (wgPat (.nm 11)) (wsSeq (wsAsg (wgPat (.nm 10)) (wOp gAdd (wVar 10) (wOp gMul (wLst (waCons (wVar 11) waNil)) (wCB bInt (waCons (wOp (gInU true) (wVar 11) (wVar 10)) waNil))))) wsNil)) (wsSeq (wsIf (wtB (wOp (gEqU true) (wVar 10) (wRgL (wCB bLenU (waCons (wOp gIxU (wVar 6) (wC (.int 1))) waNil))))) (wsSeq (wsRet (wC (.bl false))) wsNil) wsNil) (wsSeq (wsFor (wiRng1 (waCons (wC (.int 3)) waNil)) (wgPat (.nm 12)) (wsSeq (wsPar3 4 17 18 (waCons (wCB g_law_row (waCons (wVar 1) (waCons (wVar 7) (waCons (wC (.int 12)) waNil)))) (waCons (wC (.int 0)) (waCons (wC (.int 0)) waNil)))) (wsSeq (wsFor (wiZip (waCons (wVar 4) (waCons (wCB g_answers (waCons (wVar 6) (waCons (wVar 4) waNil))) waNil))) (wgPat (.tp (.cons (.nm 16) (.cons (.nm 19) .nil)))) (wsSeq (wsIf (wtB (wOp (gInU false) (wVar 16) (wOp gIxU (wVar 14) (wC (.int 0))))) (wsSeq (wsAsg (wgPat (.tp (.cons (.nm 17) (.cons (.nm 20) .nil)))) (wCB g_law_step (waCons (wVar 14) (waCons (wVar 17) (waCons (wVar 16) waNil))))) wsNil) (wsSeq (wsAsg (wgPat (.tp (.cons (.nm 18) (.cons (.nm 20) .nil)))) (wCB g_law_step (waCons (wVar 3) (waCons (wVar 18) (waCons (wVar 16) waNil))))) wsNil)) (wsSeq (wsIf (wtB (wOp (gEqU true) (wVar 19) (wVar 20))) (wsSeq (wsRet (wC (.bl false))) wsNil) wsNil) wsNil))) wsNil))) (wsSeq (wsIf (wtB (wOp (gEqU true) (wCB g_borne (waCons (wVar 6) (waCons (wC .non) waNil))) (wBM "str" mJoin (wC (.str [])) (waCons (wCB bSrt4 (waCons (wOp gAdd (wCB g_borne (waCons (wVar 14) (waCons (wC .non) waNil))) (wCB g_borne (waCons (wVar 3) (waCons (wC .non) waNil)))) waNil)) waNil)))) (wsSeq (wsRet (wC (.bl false))) wsNil) wsNil) (wsSeq (wsAsg (wgPat (.nm 13)) (wOp gAdd (wC (.int 1)) (wCB g_law_taken (waCons (wVar 1) (waCons (wC (.int 4)) waNil))))) (wsSeq (wsRet (wOr (wOp (gEqU false) (wCB g_bears (waCons (wVar 6) (waCons (wOp gIxU (wVar 14) (wC (.int 0))) (waCons (wVar 13) waNil)))) (wCB g_bears (waCons (wVar 14) (waCons (wOp gIxU (wVar 14) (wC (.int 0))) (waCons (wVar 13) waNil))))) (wNot (wCB g_bears (waCons (wVar 6) (waCons (wOp gIxU (wVar 14) (wC (.int 0))) (waCons (wVar 13) waNil))))))) wsNil))))))))))))))))))
def ws_law_t10 : WS := (wsSeq (wsAsg (wgPat (.nm 6)) (wCB g_beside (waCons (wVar 14) (waCons (wVar 3) waNil)))) (wsSeq (wsAsg (wgPat (.nm 7)) (wOp gIxU (wVar 6) (wC (.int 0)))) (wsSeq (wsIf (wtOr (wtB (wOp (gEqU true) (wVar 7) (wBM "str" mJoin (wC (.str [])) (waCons (wCB bSrt4 (waCons (wOp gAdd (wOp gIxU (wVar 14) (wC (.int 0))) (wOp gIxU (wVar 3) (wC (.int 0)))) waNil)) waNil)))) (wtB (wOp (isD true) (wCB g_is_service (waCons (wVar 6) waNil)) (wC (.bl true))))) (wsSeq (wsRet (wC (.bl false))) wsNil) wsNil) (wsSeq (wsAsg (wgPat (.nm 8)) (wLst (waCons (wC (.int 0)) waNil))) (wsSeq (wsFor (wiAny (wOp gIxU (wVar 6) (wC (.int 1)))) (wgPat (.nm 9)) (wsSeq (wsAsg (wgPat (.nm 8)) (wOp gAdd (wVar 8) (wLc (wiAny (wVar 9)) (.tp (.cons (.nm 11) (.cons (.nm 19) .nil))) (wtB (wOp (gInU true) (wVar 11) (wVar 8))) (wVar 11) [11, 19]))) wsNil)) (wsSeq (wsAsg (wgPat (.nm 10)) (wLst waNil)) (wsSeq (wsFor (wiAny (wVar 8)) (wgPat (.nm 11)) (wsSeq (wsAsg (wgPat (.nm 10)) (wOp gAdd (wVar 10) (wOp gMul (wLst (waCons (wVar 11) waNil)) (wCB bInt (waCons (wOp (gInU true) (wVar 11) (wVar 10)) waNil))))) wsNil)) (wsSeq (wsIf (wtB (wOp (gEqU true) (wVar 10) (wRgL (wCB bLenU (waCons (wOp gIxU (wVar 6) (wC (.int 1))) waNil))))) (wsSeq (wsRet (wC (.bl false))) wsNil) wsNil) (wsSeq (wsFor (wiRng1 (waCons (wC (.int 3)) waNil)) (wgPat (.nm 12)) (wsSeq (wsPar3 4 17 18 (waCons (wCB g_law_row (waCons (wVar 1) (waCons (wVar 7) (waCons (wC (.int 12)) waNil)))) (waCons (wC (.int 0)) (waCons (wC (.int 0)) waNil)))) (wsSeq (wsFor (wiZip (waCons (wVar 4) (waCons (wCB g_answers (waCons (wVar 6) (waCons (wVar 4) waNil))) waNil))) (wgPat (.tp (.cons (.nm 16) (.cons (.nm 19) .nil)))) (wsSeq (wsIf (wtB (wOp (gInU false) (wVar 16) (wOp gIxU (wVar 14) (wC (.int 0))))) (wsSeq (wsAsg (wgPat (.tp (.cons (.nm 17) (.cons (.nm 20) .nil)))) (wCB g_law_step (waCons (wVar 14) (waCons (wVar 17) (waCons (wVar 16) waNil))))) wsNil) (wsSeq (wsAsg (wgPat (.tp (.cons (.nm 18) (.cons (.nm 20) .nil)))) (wCB g_law_step (waCons (wVar 3) (waCons (wVar 18) (waCons (wVar 16) waNil))))) wsNil)) (wsSeq (wsIf (wtB (wOp (gEqU true) (wVar 19) (wVar 20))) (wsSeq (wsRet (wC (.bl false))) wsNil) wsNil) wsNil))) wsNil))) (wsSeq (wsIf (wtB (wOp (gEqU true) (wCB g_borne (waCons (wVar 6) (waCons (wC .non) waNil))) (wBM "str" mJoin (wC (.str [])) (waCons (wCB bSrt4 (waCons (wOp gAdd (wCB g_borne (waCons (wVar 14) (waCons (wC .non) waNil))) (wCB g_borne (waCons (wVar 3) (waCons (wC .non) waNil)))) waNil)) waNil)))) (wsSeq (wsRet (wC (.bl false))) wsNil) wsNil) (wsSeq (wsAsg (wgPat (.nm 13)) (wOp gAdd (wC (.int 1)) (wCB g_law_taken (waCons (wVar 1) (waCons (wC (.int 4)) waNil))))) (wsSeq (wsRet (wOr (wOp (gEqU false) (wCB g_bears (waCons (wVar 6) (waCons (wOp gIxU (wVar 14) (wC (.int 0))) (waCons (wVar 13) waNil)))) (wCB g_bears (waCons (wVar 14) (waCons (wOp gIxU (wVar 14) (wC (.int 0))) (waCons (wVar 13) waNil))))) (wNot (wCB g_bears (waCons (wVar 6) (waCons (wOp gIxU (wVar 14) (wC (.int 0))) (waCons (wVar 13) waNil))))))) wsNil))))))))))))
def ws_law_t13 : WS := (wsSeq (wsAsg (wgPat (.nm 8)) (wLst (waCons (wC (.int 0)) waNil))) (wsSeq (wsFor (wiAny (wOp gIxU (wVar 6) (wC (.int 1)))) (wgPat (.nm 9)) (wsSeq (wsAsg (wgPat (.nm 8)) (wOp gAdd (wVar 8) (wLc (wiAny (wVar 9)) (.tp (.cons (.nm 11) (.cons (.nm 19) .nil))) (wtB (wOp (gInU true) (wVar 11) (wVar 8))) (wVar 11) [11, 19]))) wsNil)) (wsSeq (wsAsg (wgPat (.nm 10)) (wLst waNil)) (wsSeq (wsFor (wiAny (wVar 8)) (wgPat (.nm 11)) (wsSeq (wsAsg (wgPat (.nm 10)) (wOp gAdd (wVar 10) (wOp gMul (wLst (waCons (wVar 11) waNil)) (wCB bInt (waCons (wOp (gInU true) (wVar 11) (wVar 10)) waNil))))) wsNil)) (wsSeq (wsIf (wtB (wOp (gEqU true) (wVar 10) (wRgL (wCB bLenU (waCons (wOp gIxU (wVar 6) (wC (.int 1))) waNil))))) (wsSeq (wsRet (wC (.bl false))) wsNil) wsNil) (wsSeq (wsFor (wiRng1 (waCons (wC (.int 3)) waNil)) (wgPat (.nm 12)) (wsSeq (wsPar3 4 17 18 (waCons (wCB g_law_row (waCons (wVar 1) (waCons (wVar 7) (waCons (wC (.int 12)) waNil)))) (waCons (wC (.int 0)) (waCons (wC (.int 0)) waNil)))) (wsSeq (wsFor (wiZip (waCons (wVar 4) (waCons (wCB g_answers (waCons (wVar 6) (waCons (wVar 4) waNil))) waNil))) (wgPat (.tp (.cons (.nm 16) (.cons (.nm 19) .nil)))) (wsSeq (wsIf (wtB (wOp (gInU false) (wVar 16) (wOp gIxU (wVar 14) (wC (.int 0))))) (wsSeq (wsAsg (wgPat (.tp (.cons (.nm 17) (.cons (.nm 20) .nil)))) (wCB g_law_step (waCons (wVar 14) (waCons (wVar 17) (waCons (wVar 16) waNil))))) wsNil) (wsSeq (wsAsg (wgPat (.tp (.cons (.nm 18) (.cons (.nm 20) .nil)))) (wCB g_law_step (waCons (wVar 3) (waCons (wVar 18) (waCons (wVar 16) waNil))))) wsNil)) (wsSeq (wsIf (wtB (wOp (gEqU true) (wVar 19) (wVar 20))) (wsSeq (wsRet (wC (.bl false))) wsNil) wsNil) wsNil))) wsNil))) (wsSeq (wsIf (wtB (wOp (gEqU true) (wCB g_borne (waCons (wVar 6) (waCons (wC .non) waNil))) (wBM "str" mJoin (wC (.str [])) (waCons (wCB bSrt4 (waCons (wOp gAdd (wCB g_borne (waCons (wVar 14) (waCons (wC .non) waNil))) (wCB g_borne (waCons (wVar 3) (waCons (wC .non) waNil)))) waNil)) waNil)))) (wsSeq (wsRet (wC (.bl false))) wsNil) wsNil) (wsSeq (wsAsg (wgPat (.nm 13)) (wOp gAdd (wC (.int 1)) (wCB g_law_taken (waCons (wVar 1) (waCons (wC (.int 4)) waNil))))) (wsSeq (wsRet (wOr (wOp (gEqU false) (wCB g_bears (waCons (wVar 6) (waCons (wOp gIxU (wVar 14) (wC (.int 0))) (waCons (wVar 13) waNil)))) (wCB g_bears (waCons (wVar 14) (waCons (wOp gIxU (wVar 14) (wC (.int 0))) (waCons (wVar 13) waNil))))) (wNot (wCB g_bears (waCons (wVar 6) (waCons (wOp gIxU (wVar 14) (wC (.int 0))) (waCons (wVar 13) waNil))))))) wsNil)))))))))
def ws_law_t18 : WS := (wsSeq (wsFor (wiRng1 (waCons (wC (.int 3)) waNil)) (wgPat (.nm 12)) (wsSeq (wsPar3 4 17 18 (waCons (wCB g_law_row (waCons (wVar 1) (waCons (wVar 7) (waCons (wC (.int 12)) waNil)))) (waCons (wC (.int 0)) (waCons (wC (.int 0)) waNil)))) (wsSeq (wsFor (wiZip (waCons (wVar 4) (waCons (wCB g_answers (waCons (wVar 6) (waCons (wVar 4) waNil))) waNil))) (wgPat (.tp (.cons (.nm 16) (.cons (.nm 19) .nil)))) (wsSeq (wsIf (wtB (wOp (gInU false) (wVar 16) (wOp gIxU (wVar 14) (wC (.int 0))))) (wsSeq (wsAsg (wgPat (.tp (.cons (.nm 17) (.cons (.nm 20) .nil)))) (wCB g_law_step (waCons (wVar 14) (waCons (wVar 17) (waCons (wVar 16) waNil))))) wsNil) (wsSeq (wsAsg (wgPat (.tp (.cons (.nm 18) (.cons (.nm 20) .nil)))) (wCB g_law_step (waCons (wVar 3) (waCons (wVar 18) (waCons (wVar 16) waNil))))) wsNil)) (wsSeq (wsIf (wtB (wOp (gEqU true) (wVar 19) (wVar 20))) (wsSeq (wsRet (wC (.bl false))) wsNil) wsNil) wsNil))) wsNil))) (wsSeq (wsIf (wtB (wOp (gEqU true) (wCB g_borne (waCons (wVar 6) (waCons (wC .non) waNil))) (wBM "str" mJoin (wC (.str [])) (waCons (wCB bSrt4 (waCons (wOp gAdd (wCB g_borne (waCons (wVar 14) (waCons (wC .non) waNil))) (wCB g_borne (waCons (wVar 3) (waCons (wC .non) waNil)))) waNil)) waNil)))) (wsSeq (wsRet (wC (.bl false))) wsNil) wsNil) (wsSeq (wsAsg (wgPat (.nm 13)) (wOp gAdd (wC (.int 1)) (wCB g_law_taken (waCons (wVar 1) (waCons (wC (.int 4)) waNil))))) (wsSeq (wsRet (wOr (wOp (gEqU false) (wCB g_bears (waCons (wVar 6) (waCons (wOp gIxU (wVar 14) (wC (.int 0))) (waCons (wVar 13) waNil)))) (wCB g_bears (waCons (wVar 14) (waCons (wOp gIxU (wVar 14) (wC (.int 0))) (waCons (wVar 13) waNil))))) (wNot (wCB g_bears (waCons (wVar 6) (waCons (wOp gIxU (wVar 14) (wC (.int 0))) (waCons (wVar 13) waNil))))))) wsNil))))
def ws_law_t19 : WS := (wsSeq (wsIf (wtB (wOp (gEqU true) (wCB g_borne (waCons (wVar 6) (waCons (wC .non) waNil))) (wBM "str" mJoin (wC (.str [])) (waCons (wCB bSrt4 (waCons (wOp gAdd (wCB g_borne (waCons (wVar 14) (waCons (wC .non) waNil))) (wCB g_borne (waCons (wVar 3) (waCons (wC .non) waNil)))) waNil)) waNil)))) (wsSeq (wsRet (wC (.bl false))) wsNil) wsNil) (wsSeq (wsAsg (wgPat (.nm 13)) (wOp gAdd (wC (.int 1)) (wCB g_law_taken (waCons (wVar 1) (waCons (wC (.int 4)) waNil))))) (wsSeq (wsRet (wOr (wOp (gEqU false) (wCB g_bears (waCons (wVar 6) (waCons (wOp gIxU (wVar 14) (wC (.int 0))) (waCons (wVar 13) waNil)))) (wCB g_bears (waCons (wVar 14) (waCons (wOp gIxU (wVar 14) (wC (.int 0))) (waCons (wVar 13) waNil))))) (wNot (wCB g_bears (waCons (wVar 6) (waCons (wOp gIxU (wVar 14) (wC (.int 0))) (waCons (wVar 13) waNil))))))) wsNil)))
abbrev M0 (P : WK) : MEnds := { nx := fun _ h' => gcK [] P .non h', rt := gcK [] P }
theorem law_19 {o u b : Svc} {f : Nat → Nat × Nat} {P : WK} (ok : o.Ok) (uk : u.Ok) (B : Both o u b f) (pm : b.asks.Perm (o.asks ++ u.asks)) (p : P (.bl true) []) {r : List D} (okr : RowD r) (x0 x2 x4 x5 x7 x8 x9 x10 x11 x12 x13 x15 x16 x17 x18 x19 x20 x21 : Option D) :
    ws_law_t19 (M0 P) [x0, some (.ref 0), x2, some u.d, x4, x5, some b.d, x7, x8, x9, x10, x11, x12, x13, some o.d, x15, x16, x17, x18, x19, x20, x21] [.lst r] := by
  (conv => whnf); (try dsimp only)
  have hz : ∀ (s : Svc) (w : Option Nat), (borneL s w).length ≤ s.asks.length := fun s w => List.length_filter_le _ _
  have z1 := hz o none
  have z2 := hz u none
  have z3 := hz b none
  have a1 := ok.a2
  have a2 := uk.a2
  refine ⟨b, none, B.bok, (fun n hn => nomatch hn), rfl, ?_⟩
  (conv => whnf); (try dsimp only)
  refine ⟨rfl, ?_⟩
  (conv => whnf); (try dsimp only)
  refine ⟨o, none, ok, (fun n hn => nomatch hn), rfl, ?_⟩
  (conv => whnf); (try dsimp only)
  refine ⟨u, none, uk, (fun n hn => nomatch hn), rfl, ?_⟩
  (conv => whnf); (try dsimp only)
  refine ⟨sl63 (n := (borneL o none).length + (borneL u none).length) (by omega), ?_⟩
  refine srt_txt fun C pmC pwC => ?_
  have hC := pmC.length_eq
  rw [List.length_append] at hC
  (conv => whnf); (try dsimp only)
  refine ⟨_, strs_ch C, by have := sum_ones C; simp only [List.length_map, List.length_nil, Nat.mul_zero, Nat.add_zero]; omega, ?_⟩
  rw [join_ch]
  have eC : borneL b none = C := srt_uniq (bornes B pm) pmC ((B.bok.pw.imp fun h => by omega).filter _) pwC
  (conv => whnf); (try dsimp only)
  rw [show (borneL b none == C) = true by rw [eC]; exact beq_self_eq_true _]
  (conv => whnf); (try dsimp only)
  refine ⟨0, r, 4, rfl, ⟨rfl, okr⟩, by omega, by omega, fun z r1 hz4 ok1 => ?_⟩
  (conv => whnf); (try dsimp only)
  have ao : AskOk o.asks := ⟨ok.a1, ok.a2, ok.az, ok.asc⟩
  have hw : WinOk (some (1 + z)) := fun n hn => by cases hn; omega
  rw [show (1 + (z : Int)) = ((1 + z : Nat) : Int) by omega]
  refine ⟨b, o.asks, some (1 + z), B.bok, ⟨fun a ha => B.ma ha, .inr ao⟩, hw, rfl, ?_⟩
  (conv => whnf); (try dsimp only)
  refine ⟨o, o.asks, some (1 + z), ok, ⟨fun a ha => ha, .inr ao⟩, hw, rfl, ?_⟩
  rw [bears_eq B]
  (conv => whnf); (try dsimp only)
  generalize bearAll o o.asks (some (1 + z)) = bb
  refine ⟨⟨rfl, rfl⟩, ?_⟩
  cases bb
  · (conv => whnf); (try dsimp only)
    exact gc_v (h := []) (g := [.lst r1]) rfl p
  · (conv => whnf); (try dsimp only)
    exact gc_v (h := []) (g := [.lst r1]) rfl p
theorem law_18 {o u b : Svc} {f : Nat → Nat × Nat} {P : WK} (ok : o.Ok) (uk : u.Ok) (B : Both o u b f) (pm : b.asks.Perm (o.asks ++ u.asks)) (p : P (.bl true) []) {r : List D} (okr : RowD r) (x0 x2 x4 x5 x8 x9 x10 x11 x12 x13 x15 x16 x17 x18 x19 x20 x21 : Option D) :
    ws_law_t18 (M0 P) [x0, some (.ref 0), x2, some u.d, x4, x5, some b.d, some (.str b.asks), x8, x9, x10, x11, x12, x13, some o.d, x15, x16, x17, x18, x19, x20, x21] [.lst r] := by
  (conv => whnf); (try dsimp only)
  refine ⟨by decide, ?_⟩
  refine fo_fix (List.range 3) (fun i : Nat => D.int (i : Int)) (fun rest fr h' => ∃ (r' : List D) (y4 y12 y16 y17 y18 y19 y20 : Option D), RowD r' ∧ h' = [.lst r'] ∧ fr = [x0, some (.ref 0), x2, some u.d, y4, x5, some b.d, some (.str b.asks), x8, x9, x10, x11, y12, x13, some o.d, x15, y16, y17, y18, y19, y20, x21]) rfl ?_ ?_ ?_
  · exact ⟨r, _, _, _, _, _, _, _, okr, rfl, rfl⟩
  · rintro t rest fr h' _ ⟨r1, y4, y12, y16, y17, y18, y19, y20, ok1, rfl, rfl⟩ K hK
    (conv => whnf); (try dsimp only)
    refine ⟨0, r1, b.asks, 12, B.bok.a1, B.bok.a2, rfl, ⟨rfl, ok1⟩, by omega, fun row r2 hrow hlen ok2 => ?_⟩
    (conv => whnf); (try dsimp only)
    refine ⟨b, row, B.bok, ⟨hrow, by omega⟩, rfl, ?_⟩
    have htl := tell_len (s := b) row 0
    (conv => whnf); (try dsimp only)
    refine fo_fix (List.zip row (tell b 0 row)) (fun x => D.tup [.str [x.1], .str [x.2]]) (fun rest fr h' => ∃ (tl : List Nat) (i : Nat) (y16 y19 y20 : Option D), rest = List.zip tl (tell b i tl) ∧ Reach b i ∧ (∀ c ∈ tl, c ∈ b.asks) ∧ h' = [.lst r2] ∧
      fr = [x0, some (.ref 0), x2, some u.d, some (.str row), x5, some b.d, some (.str b.asks), x8, x9, x10, x11, some (.int (t : Nat)), x13, some o.d, x15, y16, some (intD (f i).1), some (intD (f i).2), y19, y20, x21]) ?_ ?_ ?_ ?_
    · show some (List.zipWith _ _ _) = _
      rw [List.zipWith_map, List.zip_eq_zipWith, List.map_zipWith]
    · refine ⟨row, 0, y16, y19, y20, rfl, .zero, hrow, rfl, ?_⟩
      rw [B.z]; rfl
    · rintro ⟨c, a⟩ rest fr h' _ ⟨tl, i, y16, y19, y20, e, hi, htl2, rfl, rfl⟩ K2 hK2
      cases tl with
      | nil => cases e
      | cons c' tl =>
      rw [show List.zip (c' :: tl) (tell b i (c' :: tl)) = (c', (b.step i c').2) :: List.zip tl (tell b (b.step i c').1 tl) from rfl] at e
      obtain ⟨e1, e2⟩ := List.cons.inj e
      cases e1
      have hcb := htl2 c (by simp)
      have hi2 := hi.lt B.bok
      have htl3 : ∀ z ∈ tl, z ∈ b.asks := fun z hz => htl2 z (by simp [hz])
      by_cases hc : c ∈ o.asks
      · obtain ⟨s1, s2⟩ := B.l i hi2 c hc
        have hlt := (B.down hi).lt ok
        (conv => whnf); (try dsimp only)
        rw [decide_eq_true hc]
        (conv => whnf); (try dsimp only)
        refine ⟨o, (f i).1, c, ok, hlt, hc, rfl, ?_⟩
        rw [s1]
        (conv => whnf); (try dsimp only)
        (refine drecF _ (by first | exact (by simp) | exact decide_eq_true (by simp) | simpa using (by simp)) ?_; (conv => whnf); (try dsimp only))
        refine .inl (hK2 _ _ ⟨tl, (b.step i c).1, some (chD c), some (.str [(o.step (f i).1 c).2]), some (.str [(o.step (f i).1 c).2]), e2, hi.step hcb, htl3, rfl, ?_⟩)
        rw [s2]; rfl
      · have hcu := ((B.mem c).mp hcb).resolve_left hc
        obtain ⟨s1, s2⟩ := B.r i hi2 c hcu
        have hlt := (B.swap.down hi).lt uk
        (conv => whnf); (try dsimp only)
        rw [decide_eq_false hc]
        (conv => whnf); (try dsimp only)
        refine ⟨u, (f i).2, c, uk, hlt, hcu, rfl, ?_⟩
        rw [s1]
        (conv => whnf); (try dsimp only)
        (refine drecF _ (by first | exact (by simp) | exact decide_eq_true (by simp) | simpa using (by simp)) ?_; (conv => whnf); (try dsimp only))
        refine .inl (hK2 _ _ ⟨tl, (b.step i c).1, some (chD c), some (.str [(u.step (f i).2 c).2]), some (.str [(u.step (f i).2 c).2]), e2, hi.step hcb, htl3, rfl, ?_⟩)
        rw [s2]; rfl
    · rintro fr h' ⟨tl, i, y16, y19, y20, e, hi, htl2, rfl, rfl⟩
      (conv => whnf); (try dsimp only)
      exact .inl (hK _ _ ⟨r2, _, _, _, _, _, _, _, ok2, rfl, rfl⟩)
  · rintro fr h' ⟨r1, y4, y12, y16, y17, y18, y19, y20, ok1, rfl, rfl⟩
    exact law_19 ok uk B pm p ok1 _ _ _ _ _ _ _ _ _ _ _ _ _ _ _ _ _ _
theorem ok_ints (n : Nat) (l : List Nat) : (l.map intD).all (okD n) = true := by
  rw [List.all_map]; exact List.all_eq_true.mpr fun _ _ => by cases n <;> rfl
theorem any_ints (l : List Nat) (i : Nat) : ((l.map intD).any fun z => deq z (intD i)) = decide (i ∈ l) := by
  rw [List.any_map, Bool.eq_iff_iff, List.any_eq_true, decide_eq_true_iff]
  refine ⟨fun ⟨x, hx, e⟩ => ?_, fun h => ⟨i, h, by show deq (intD i) (intD i) = true; rw [deq_intD]; exact decide_eq_true rfl⟩⟩
  have e2 : deq (intD x) (intD i) = true := e
  rw [deq_intD, decide_eq_true_iff] at e2
  rw [← e2]; exact hx
theorem deqL_ints : ∀ l : List Nat, deqL (l.map intD) (l.map intD) = true
  | [] => rfl
  | a :: l => by
    show (deq (intD a) (intD a) && deqL (l.map intD) (l.map intD)) = true
    rw [deq_intD, deqL_ints l, decide_eq_true rfl]; rfl
theorem alk_rows {s : Svc} (ok : s.Ok) : AlkD 3 (.tup (s.rows.map rowD)) := by
  have h1 := ok.r2
  have h2 := ok.a2
  unfold AlkD
  refine ⟨by rw [List.length_map]; omega, fun x hx => ?_⟩
  obtain ⟨l, hl, rfl⟩ := List.mem_map.mp hx
  have := ok.rl l hl
  unfold rowD AlkD
  refine ⟨by rw [List.length_map]; omega, fun y hy => ?_⟩
  obtain ⟨z, _, rfl⟩ := List.mem_map.mp hy
  unfold stD AlkD
  refine ⟨by simp, fun w hw => ?_⟩
  simp only [List.mem_cons, List.not_mem_nil, or_false] at hw
  rcases hw with rfl | rfl <;> (unfold AlkD; trivial)
theorem filt_there (th : List Nat) : ∀ l : List (Nat × Nat), l.filterMap (fun x => if x.1 ∈ th then none else some (intD x.1)) = ((l.map (·.1)).filter fun x => decide (x ∉ th)).map intD
  | [] => rfl
  | x :: l => by
    by_cases h : x.1 ∈ th
    · rw [List.filterMap_cons_none (by simp [h]), List.map_cons, List.filter_cons_of_neg (by simpa using h), filt_there th l]
    · rw [List.filterMap_cons_some (b := intD x.1) (by simp [h]), List.map_cons, List.filter_cons_of_pos (by simpa using h), List.map_cons, filt_there th l]
theorem law_13 {o u b : Svc} {f : Nat → Nat × Nat} {P : WK} (ok : o.Ok) (uk : u.Ok) (B : Both o u b f) (pm : b.asks.Perm (o.asks ++ u.asks)) (hN : (b.rows.flatten.map (·.1)).foldl ins [0] = List.range b.rows.length) (p : P (.bl true) []) {r : List D} (okr : RowD r) (x0 x2 x4 x5 x12 x13 x15 x16 x17 x18 x19 x20 x21 : Option D) :
    ws_law_t13 (M0 P) [x0, some (.ref 0), x2, some u.d, x4, x5, some b.d, some (.str b.asks), none, none, none, none, x12, x13, some o.d, x15, x16, x17, x18, x19, x20, x21] [.lst r] := by
  have h40 := B.bok.r2
  have h4 := B.bok.a2
  (conv => whnf); (try dsimp only)
  refine ⟨sl63 (by simp), ?_⟩
  (conv => whnf); (try dsimp only)
  refine fo_fix b.rows rowD (fun rest fr h' => ∃ (th : List Nat) (y9 y11 y19 : Option D), h' = [.lst r] ∧ fr = [x0, some (.ref 0), x2, some u.d, x4, x5, some b.d, some (.str b.asks), some (.lst (th.map intD)), y9, none, y11, x12, x13, some o.d, x15, x16, x17, x18, y19, x20, x21] ∧
    th.length + 4 * rest.length ≤ 1 + 4 * b.rows.length ∧ (rest.flatten.map (·.1)).foldl ins (th.foldl ins []) = List.range b.rows.length) rfl ?_ ?_ ?_
  · exact ⟨[0], none, none, x19, rfl, rfl, by simp, hN⟩
  · rintro l rest fr h' hl ⟨th, y9, y11, y19, rfl, rfl, hlen, he⟩ K hK
    have hll := B.bok.rl l hl
    rw [List.length_cons] at hlen
    (conv => whnf); (try dsimp only)
    refine lcv l stD (fun x => if x.1 ∈ th then none else some (intD x.1)) rfl rfl (sl63 (by omega)) (fun x hx h1 kp sk k1 k2 => ?_) (fun x hx y e => ?_) ?_
    · (conv => whnf); (try dsimp only)
      refine ⟨⟨rfl, ok_ints _ _⟩, ?_⟩
      rw [show D.int (x.1 : Int) = intD x.1 from rfl, any_ints]
      by_cases hm : x.1 ∈ th
      · rw [decide_eq_true hm]
        (conv => whnf); (try dsimp only)
        exact k2 (if_pos hm)
      · rw [decide_eq_false hm]
        (conv => whnf); (try dsimp only)
        exact k1 _ (if_neg hm)
    · split at e
      · cases e
      · cases e; rfl
    rw [filt_there]
    have hfl := List.length_filter_le (fun x => decide (x ∉ th)) (l.map (·.1))
    rw [List.length_map] at hfl
    (conv => whnf); (try dsimp only)
    refine ⟨sl63 (by simp only [List.length_map]; omega), ?_⟩
    refine .inl (hK _ _ ⟨th ++ (l.map (·.1)).filter (fun x => decide (x ∉ th)), some (rowD l), y11, y19, rfl, by rw [List.map_append]; rfl, by rw [List.length_append]; omega, ?_⟩)
    rw [ins_there, ← List.foldl_append, ← List.map_append]
    exact he
  · rintro fr h' ⟨th, y9, y11, y19, rfl, rfl, hlen, he⟩
    have he' : th.foldl ins [] = List.range b.rows.length := he
    rw [List.length_nil] at hlen
    (conv => whnf); (try dsimp only)
    refine ⟨sl63 (by simp), ?_⟩
    (conv => whnf); (try dsimp only)
    refine fo_fix th intD (fun rest fr h' => ∃ (fi : List Nat) (y11 : Option D), h' = [.lst r] ∧ fr = [x0, some (.ref 0), x2, some u.d, x4, x5, some b.d, some (.str b.asks), some (.lst (th.map intD)), y9, some (.lst (fi.map intD)), y11, x12, x13, some o.d, x15, x16, x17, x18, y19, x20, x21] ∧
      fi.length + rest.length ≤ 1 + 4 * b.rows.length ∧ rest.foldl ins fi = List.range b.rows.length) rfl ?_ ?_ ?_
    · exact ⟨[], y11, rfl, rfl, by simp; omega, he'⟩
    · rintro x rest fr h' _ ⟨fi, y11, rfl, rfl, hl2, e2⟩ K hK
      rw [List.length_cons] at hl2
      (conv => whnf); (try dsimp only)
      refine ⟨sl63 (by simp), ?_⟩
      (conv => whnf); (try dsimp only)
      refine ⟨⟨rfl, ok_ints _ _⟩, ?_⟩
      rw [any_ints]
      by_cases hm : x ∈ fi
      · rw [decide_eq_true hm]
        (conv => whnf); (try dsimp only)
        refine ⟨by decide, by decide, sl63 (by simp), ?_⟩
        rw [show (List.replicate (if (true ^^ true) = true then (1 : Int) else 0).toNat [intD x]).flatten = [] from rfl]
        (conv => whnf); (try dsimp only)
        refine ⟨sl63 (by rw [List.length_map]; simp; omega), ?_⟩
        refine .inl (hK _ _ ⟨fi, _, rfl, by rw [List.append_nil]; rfl, by omega, ?_⟩)
        rw [List.foldl_cons, show ins fi x = fi from if_pos hm] at e2
        exact e2
      · rw [decide_eq_false hm]
        (conv => whnf); (try dsimp only)
        refine ⟨by decide, by decide, sl63 (by simp), ?_⟩
        rw [show (List.replicate (if (true ^^ false) = true then (1 : Int) else 0).toNat [intD x]).flatten = [intD x] from rfl]
        (conv => whnf); (try dsimp only)
        refine ⟨sl63 (by rw [List.length_map]; simp; omega), ?_⟩
        refine .inl (hK _ _ ⟨fi ++ [x], _, rfl, by rw [List.map_append]; rfl, by rw [List.length_append]; simp; omega, ?_⟩)
        rw [List.foldl_cons, show ins fi x = fi ++ [x] from if_neg hm] at e2
        exact e2
    · rintro fr h' ⟨fi, y11, rfl, rfl, hl2, e2⟩
      have e2' : fi = List.range b.rows.length := e2
      subst e2'
      (conv => whnf); (try dsimp only)
      refine ⟨⟨by omega, by rw [List.length_map]; omega⟩, ?_⟩
      rw [List.length_map, Int.toNat_natCast]
      (conv => whnf); (try dsimp only)
      refine ⟨⟨ok_ints _ _, ok_ints _ _⟩, ?_⟩
      rw [show deq (D.lst (List.map intD (List.range b.rows.length))) (D.lst (List.map (fun i : Nat => D.int (i : Int)) (List.range b.rows.length))) = true from deqL_ints _]
      (conv => whnf); (try dsimp only)
      exact law_18 ok uk B pm p okr _ _ _ _ _ _ _ _ _ _ _ _ _ _ _ _ _
theorem law_ok : ∀ ds h P, gLaw ds h P → wF ws_law 22 1 ds h P := by
  rintro ds h P ⟨ns, rfl, rfl, p⟩
  refine ⟨rfl, ?_⟩
  (conv => whnf); (try dsimp only)
  refine ⟨sl63 (by simp), ?_⟩
  (conv => whnf); (try dsimp only)
  refine ⟨0, _, 4, rfl, ⟨rfl, ns, 0, 7709, 0, rfl, by omega, by omega, by omega, by omega⟩, by omega, by omega, fun o r0 ok dr sz okr0 => ?_⟩
  (conv => whnf); (try dsimp only)
  refine ⟨0, _, 4, rfl, ⟨rfl, okr0⟩, by omega, by omega, fun s r1 sk dr2 sz2 okr1 => ?_⟩
  (conv => whnf); (try dsimp only)
  refine ⟨sl63 (by simp), ?_⟩
  (conv => whnf); (try dsimp only)
  have oa := ok.a1
  have sa := sk.a1
  by_cases h4 : o.asks.length + s.asks.length ≤ 4
  case neg =>
    (generalize hdec : decide ((o.asks.length : Int) + (s.asks.length : Int) > 4) = bdec; obtain rfl : bdec = true := hdec.symm.trans (decide_eq_true (by omega)); clear hdec; (conv => whnf); (try dsimp only))
    exact gc_v (h := []) (g := [.lst r1]) rfl p
  (generalize hdec : decide ((o.asks.length : Int) + (s.asks.length : Int) > 4) = bdec; obtain rfl : bdec = false := hdec.symm.trans (decide_eq_false (by omega)); clear hdec; (conv => whnf); (try dsimp only))
  have hcut : cutL ([113, 109, 116, 119] : List Nat) none (some (s.asks.length : Int)) = ([113, 109, 116, 119] : List Nat).take s.asks.length := cut_to (by show s.asks.length ≤ 4; omega)
  rw [hcut]
  obtain ⟨n1, n2, n3, n4⟩ := names_ok sa (by omega : s.asks.length ≤ 4)
  have dis0 : ∀ c ∈ o.asks, c ∉ ([113, 109, 116, 119] : List Nat).take s.asks.length := fun c hc h => drawn_dis dr c hc (n4 c h)
  clear hcut n4
  generalize ([113, 109, 116, 119] : List Nat).take s.asks.length = ls at n1 n2 n3 dis0
  refine ⟨s, ls, sk, n1, n2, n3, rfl, fun A R => ?_⟩
  have Rok := R.rok
  have hAl := R.pm.length_eq
  have h4s : s.asks.length ≤ 4 := sk.a2
  have rl : (renS s ls A).rows.length = s.rows.length := List.length_map ..
  (conv => whnf); (try dsimp only)
  refine ⟨renS s ls A, Rok, rfl, ?_⟩
  (conv => whnf); (try dsimp only)
  refine ⟨rfl, ?_⟩
  (conv => whnf); (try dsimp only)
  refine srt_txt fun B pmB pwB => ?_
  have eB : B = A := srt_uniq pmB R.pm pwB (R.pw.imp fun h => by omega)
  subst eB
  (conv => whnf); (try dsimp only)
  refine ⟨_, strs_ch B, by have := sum_ones B; simp only [List.length_map, List.length_nil, Nat.mul_zero, Nat.add_zero]; omega, ?_⟩
  rw [join_ch]
  (conv => whnf); (try dsimp only)
  (refine drecF _ (by first | exact (by simp [renS]) | exact decide_eq_true (by simp [renS]) | simpa using (by simp [renS])) ?_; (conv => whnf); (try dsimp only))
  refine ⟨0, _, s.asks, 9, sk.a1, sk.a2, rfl, ⟨rfl, okr1⟩, by omega, fun row r2 hrow hlen okr2 => ?_⟩
  (conv => whnf); (try dsimp only)
  refine ⟨rfl, ?_⟩
  (conv => whnf); (try dsimp only)
  refine lcm row chD (fun a => chD (RenOk.nm s ls a)) rfl rfl (sl63 (by omega)) (fun a ha h' kp sk' q => ?_) (fun _ _ => rfl) ?_
  · have hi := List.idxOf_lt_length_of_mem (hrow a ha)
    have hat : atI ls ((s.asks.idxOf a : Nat) : Int) = some (RenOk.nm s ls a) := atI_nat (by unfold RenOk.nm; rw [List.getElem?_eq_getElem (by omega)]; rfl)
    (conv => whnf); (try dsimp only)
    refine ⟨rfl, ?_⟩
    (conv => whnf); (try dsimp only)
    refine ⟨hrow a ha, ?_⟩
    (conv => whnf); (try dsimp only)
    simp only [hat]
    exact q
  have hm : (row.map (RenOk.nm s ls)).length = row.length := List.length_map ..
  have hmem : ∀ c ∈ row.map (RenOk.nm s ls), c ∈ B := fun c hc => by
    obtain ⟨a, ha, rfl⟩ := List.mem_map.mp hc
    exact R.pm.mem_iff.mpr (R.nm_mem (hrow a ha))
  have em : row.map (fun a => chD (RenOk.nm s ls a)) = (row.map (RenOk.nm s ls)).map chD := by rw [List.map_map]; rfl
  rw [em]
  (conv => whnf); (try dsimp only)
  refine ⟨_, strs_ch _, by have := sum_ones (row.map (RenOk.nm s ls)); simp only [List.length_map, List.length_nil, Nat.mul_zero, Nat.add_zero] at this ⊢; omega, ?_⟩
  rw [join_ch]
  (conv => whnf); (try dsimp only)
  refine ⟨renS s ls B, row.map (RenOk.nm s ls), Rok, ⟨hmem, by omega⟩, rfl, ?_⟩
  (conv => whnf); (try dsimp only)
  refine ⟨s, row, sk, hrow, by omega, rfl, ?_⟩
  rw [R.tell row 0 sk.r1 hrow]
  (conv => whnf); (try dsimp only)
  (refine drecF _ (by first | exact (by simp) | exact decide_eq_true (by simp) | simpa using (by simp)) ?_; (conv => whnf); (try dsimp only))
  refine lcm B chD (fun c => intD (ls.idxOf c)) rfl rfl (sl63 (by omega)) (fun c hc h' kp sk' q => ?_) (fun _ _ => rfl) ?_
  · (conv => whnf); (try dsimp only)
    refine ⟨rfl, ?_⟩
    (conv => whnf); (try dsimp only)
    exact ⟨R.pm.mem_iff.mp hc, q⟩
  (conv => whnf); (try dsimp only)
  refine lcm s.rows rowD (fun l => rowD (B.map fun c => (l[ls.idxOf c]?).getD (0, 97))) rfl rfl (sl63 (by omega)) (fun l hlm h' kp sk' q => ?_) (fun _ _ => row_nr _) ?_
  · (conv => whnf); (try dsimp only)
    refine lcm B (fun c => intD (ls.idxOf c)) (fun c => stD ((l[ls.idxOf c]?).getD (0, 97))) rfl rfl (sl63 (by omega)) (fun c hc h' kp sk' q => ?_) (fun _ _ => rfl) ?_
    · have hi : ls.idxOf c < l.length := by
        rw [sk.rl l hlm, ← n1]; exact List.idxOf_lt_length_of_mem (R.pm.mem_iff.mp hc)
      have ha : atI (l.map stD) ((ls.idxOf c : Nat) : Int) = some (stD ((l[ls.idxOf c]?).getD (0, 97))) := atI_nat (by rw [List.getElem?_map, List.getElem?_eq_getElem hi]; rfl)
      (conv => whnf); (try dsimp only)
      simp only [ha]
      exact q
    · (conv => whnf); (try dsimp only)
      rw [show (B.map fun c => stD ((l[ls.idxOf c]?).getD (0, 97))) = (B.map fun c => (l[ls.idxOf c]?).getD (0, 97)).map stD by rw [List.map_map]; rfl]
      exact q
  have er : (s.rows.map fun l => rowD (B.map fun c => (l[ls.idxOf c]?).getD (0, 97))) = (renS s ls B).rows.map rowD := by
    unfold renS
    rw [List.map_map]; rfl
  rw [er]
  (conv => whnf); (try dsimp only)
  refine ⟨_, alk_rows Rok, rfl, ?_⟩
  (conv => whnf); (try dsimp only)
  refine ⟨o, renS s ls B, ok, Rok, fun c hc h => dis0 c hc (R.pm.mem_iff.mp h), by show o.asks.length + B.length ≤ 4; omega, ?_, rfl, fun b f Bo pmb hN => ?_⟩
  · rw [rl]
    exact Nat.le_trans (Nat.mul_le_mul sz sz2) (by omega)
  (conv => whnf); (try dsimp only)
  refine ⟨rfl, ?_⟩
  (conv => whnf); (try dsimp only)
  refine ⟨sl63 (n := o.asks.length + B.length) (by omega), ?_⟩
  refine srt_txt fun C pmC pwC => ?_
  have eC : b.asks = C := srt_uniq pmb pmC (Bo.bok.pw.imp fun h => by omega) pwC
  have hC := pmC.length_eq
  have hC2 : (o.asks ++ (renS s ls B).asks).length = o.asks.length + B.length := List.length_append ..
  (conv => whnf); (try dsimp only)
  refine ⟨_, strs_ch C, by have := sum_ones C; simp only [List.length_map, List.length_nil, Nat.mul_zero, Nat.add_zero]; omega, ?_⟩
  rw [join_ch]
  rw [← eC]
  (conv => whnf); (try dsimp only)
  rw [show (b.asks == b.asks) = true from beq_self_eq_true _]
  (conv => whnf); (try dsimp only)
  refine ⟨b, Bo.bok, rfl, ?_⟩
  (conv => whnf); (try dsimp only)
  exact law_13 ok Rok Bo pmb hN p okr2 _ _ _ _ _ _ _ _ _ _ _ _ _
end MP

namespace MP
open PySem PySem.Spec PyProof.Rows L2
theorem no_nil {K : PySem.W.Frag} {C : Addr} : ∀ f ∈ ([] : List Str), NoAttr K C f := fun _ h => by cases h
theorem no_cons {K : PySem.W.Frag} {C : Addr} {g : Str} {r : List Str} (h : PySem.W.findIn K (.ref C) g = some none) (t : ∀ f ∈ r, NoAttr K C f) : ∀ f ∈ g :: r, NoAttr K C f := fun f hf => by
  rcases List.mem_cons.mp hf with rfl | hf
  · exact h
  · exact t f hf
def top (i : Nat) : Stmt := PySem.Challenge.pw_oftenasked_k09_together.main.body.getD i (.Pass ⟨0, 0, 0, 0⟩)
abbrev s_is_integer : Stmt := top 14
def E_is_integer : CEnv := ⟨N_is_integer, [], [], [], "", [], [], []⟩
theorem cc_is_integer : cSs (comp E_is_integer 30) (defScope s_is_integer) (defBody s_is_integer) = some ws_is_integer := by rfl
theorem sc_is_integer : FnScope N_is_integer ["value"] (defScope s_is_integer) := ⟨rfl, rfl, rfl, by decide +kernel, rfl, by decide +kernel, by decide +kernel⟩
abbrev s_is_from : Stmt := top 15
def E_is_from : CEnv := ⟨N_is_from, [("is_integer", g_is_integer)], [], [], "", [], [], []⟩
theorem cc_is_from : cSs (comp E_is_from 30) (defScope s_is_from) (defBody s_is_from) = some ws_is_from := by rfl
theorem sc_is_from : FnScope N_is_from ["value", "low", "high"] (defScope s_is_from) := ⟨rfl, rfl, rfl, by decide +kernel, rfl, by decide +kernel, by decide +kernel⟩
abbrev s_is_letter : Stmt := top 16
def E_is_letter : CEnv := ⟨N_is_letter, [], [("SMALL", (.str [97, 98, 99, 100, 101, 102, 103, 104, 105, 106, 107, 108, 109, 110, 111, 112, 113, 114, 115, 116, 117, 118, 119, 120, 121, 122]))], [], "", [], [], []⟩
theorem cc_is_letter : cSs (comp E_is_letter 30) (defScope s_is_letter) (defBody s_is_letter) = some ws_is_letter := by rfl
theorem sc_is_letter : FnScope N_is_letter ["value"] (defScope s_is_letter) := ⟨rfl, rfl, rfl, by decide +kernel, rfl, by decide +kernel, by decide +kernel⟩
abbrev s_is_asks : Stmt := top 17
def E_is_asks : CEnv := ⟨N_is_asks, [], [("MOST_ASKS", (.int 4)), ("SMALL", (.str [97, 98, 99, 100, 101, 102, 103, 104, 105, 106, 107, 108, 109, 110, 111, 112, 113, 114, 115, 116, 117, 118, 119, 120, 121, 122]))], [], "", [], [], []⟩
theorem cc_is_asks : cSs (comp E_is_asks 30) (defScope s_is_asks) (defBody s_is_asks) = some ws_is_asks := by rfl
theorem sc_is_asks : FnScope N_is_asks ["value"] (defScope s_is_asks) := ⟨rfl, rfl, rfl, by decide +kernel, rfl, by decide +kernel, by decide +kernel⟩
abbrev s_is_step : Stmt := top 18
def E_is_step : CEnv := ⟨N_is_step, [("is_from", g_is_from), ("is_letter", g_is_letter)], [], [], "", [], [], []⟩
theorem cc_is_step : cSs (comp E_is_step 30) (defScope s_is_step) (defBody s_is_step) = some ws_is_step := by rfl
theorem sc_is_step : FnScope N_is_step ["size", "value"] (defScope s_is_step) := ⟨rfl, rfl, rfl, by decide +kernel, rfl, by decide +kernel, by decide +kernel⟩
abbrev s_is_service : Stmt := top 19
def E_is_service : CEnv := ⟨N_is_service, [("is_asks", g_is_asks), ("is_step", g_is_step)], [("MOST_STANDS", (.int 40))], [], "", [], [], []⟩
theorem cc_is_service : cSs (comp E_is_service 30) (defScope s_is_service) (defBody s_is_service) = some ws_is_service := by rfl
theorem sc_is_service : FnScope N_is_service ["value"] (defScope s_is_service) := ⟨rfl, rfl, rfl, by decide +kernel, rfl, by decide +kernel, by decide +kernel⟩
abbrev s_need_service : Stmt := top 20
def E_need_service : CEnv := ⟨N_need_service, [("is_service", g_is_service)], [], [], "", [], [], []⟩
theorem cc_need_service : cSs (comp E_need_service 30) (defScope s_need_service) (defBody s_need_service) = some ws_need_service := by rfl
theorem sc_need_service : FnScope N_need_service ["value"] (defScope s_need_service) := ⟨rfl, rfl, rfl, by decide +kernel, rfl, by decide +kernel, by decide +kernel⟩
abbrev s_is_row : Stmt := top 21
def E_is_row : CEnv := ⟨N_is_row, [], [("MOST_ROW", (.int 60))], [], "", [], [], []⟩
theorem cc_is_row : cSs (comp E_is_row 30) (defScope s_is_row) (defBody s_is_row) = some ws_is_row := by rfl
theorem sc_is_row : FnScope N_is_row ["service", "value"] (defScope s_is_row) := ⟨rfl, rfl, rfl, by decide +kernel, rfl, by decide +kernel, by decide +kernel⟩
abbrev s_need_row : Stmt := top 22
def E_need_row : CEnv := ⟨N_need_row, [("is_row", g_is_row)], [], [], "", [], [], []⟩
theorem cc_need_row : cSs (comp E_need_row 30) (defScope s_need_row) (defBody s_need_row) = some ws_need_row := by rfl
theorem sc_need_row : FnScope N_need_row ["service", "value"] (defScope s_need_row) := ⟨rfl, rfl, rfl, by decide +kernel, rfl, by decide +kernel, by decide +kernel⟩
abbrev s_step_of : Stmt := top 23
def E_step_of : CEnv := ⟨N_step_of, [], [], [], "", [], [], []⟩
theorem cc_step_of : cSs (comp E_step_of 30) (defScope s_step_of) (defBody s_step_of) = some ws_step_of := by rfl
theorem sc_step_of : FnScope N_step_of ["service", "stand", "ask"] (defScope s_step_of) := ⟨rfl, rfl, rfl, by decide +kernel, rfl, by decide +kernel, by decide +kernel⟩
abbrev s_led : Stmt := top 24
def E_led : CEnv := ⟨N_led, [("step_of", g_step_of)], [], [], "", [], [], []⟩
theorem cc_led : cSs (comp E_led 30) (defScope s_led) (defBody s_led) = some ws_led := by rfl
theorem sc_led : FnScope N_led ["service", "stand", "row"] (defScope s_led) := ⟨rfl, rfl, rfl, by decide +kernel, rfl, by decide +kernel, by decide +kernel⟩
abbrev s_answered : Stmt := top 25
def E_answered : CEnv := ⟨N_answered, [("step_of", g_step_of)], [], [], "", [], [], []⟩
theorem cc_answered : cSs (comp E_answered 30) (defScope s_answered) (defBody s_answered) = some ws_answered := by rfl
theorem sc_answered : FnScope N_answered ["service", "row"] (defScope s_answered) := ⟨rfl, rfl, rfl, by decide +kernel, rfl, by decide +kernel, by decide +kernel⟩
abbrev s_answers : Stmt := top 26
def E_answers : CEnv := ⟨N_answers, [("need_service", g_need_service), ("need_row", g_need_row), ("answered", g_answered)], [], [], "", [], [], []⟩
theorem cc_answers : cSs (comp E_answers 30) (defScope s_answers) (defBody s_answers) = some ws_answers := by rfl
theorem sc_answers : FnScope N_answers ["service", "row"] (defScope s_answers) := ⟨rfl, rfl, rfl, by decide +kernel, rfl, by decide +kernel, by decide +kernel⟩
abbrev s_reached : Stmt := top 27
def E_reached : CEnv := ⟨N_reached, [], [], ["seen", "found"], "", [], [], []⟩
theorem cc_reached : cSs (comp E_reached 30) (defScope s_reached) (defBody s_reached) = some ws_reached := by rfl
theorem sc_reached : FnScope N_reached ["rows"] (defScope s_reached) := ⟨rfl, rfl, rfl, by decide +kernel, rfl, by decide +kernel, by decide +kernel⟩
abbrev s_marks_of : Stmt := top 28
def E_marks_of : CEnv := ⟨N_marks_of, [], [], ["order"], "", [], [], []⟩
theorem cc_marks_of : cSs (comp E_marks_of 30) (defScope s_marks_of) (defBody s_marks_of) = some ws_marks_of := by rfl
theorem sc_marks_of : FnScope N_marks_of ["rows", "stands"] (defScope s_marks_of) := ⟨rfl, rfl, rfl, by decide +kernel, rfl, by decide +kernel, by decide +kernel⟩
abbrev s_is_lot : Stmt := top 31
def E_is_lot : CEnv := ⟨N_is_lot, [("is_asks", g_is_asks)], [], [], "", [], [], []⟩
theorem cc_is_lot : cSs (comp E_is_lot 30) (defScope s_is_lot) (defBody s_is_lot) = some ws_is_lot := by rfl
theorem sc_is_lot : FnScope N_is_lot ["service", "value"] (defScope s_is_lot) := ⟨rfl, rfl, rfl, by decide +kernel, rfl, by decide +kernel, by decide +kernel⟩
abbrev s_need_lot : Stmt := top 32
def E_need_lot : CEnv := ⟨N_need_lot, [("is_lot", g_is_lot)], [], [], "", [], [], []⟩
theorem cc_need_lot : cSs (comp E_need_lot 30) (defScope s_need_lot) (defBody s_need_lot) = some ws_need_lot := by rfl
theorem sc_need_lot : FnScope N_need_lot ["service", "value"] (defScope s_need_lot) := ⟨rfl, rfl, rfl, by decide +kernel, rfl, by decide +kernel, by decide +kernel⟩
abbrev s_need_window : Stmt := top 33
def E_need_window : CEnv := ⟨N_need_window, [("is_from", g_is_from)], [("MOST_WINDOW", (.int 40))], [], "", [], [], []⟩
theorem cc_need_window : cSs (comp E_need_window 30) (defScope s_need_window) (defBody s_need_window) = some ws_need_window := by rfl
theorem sc_need_window : FnScope N_need_window ["value"] (defScope s_need_window) := ⟨rfl, rfl, rfl, by decide +kernel, rfl, by decide +kernel, by decide +kernel⟩
abbrev s_need_all : Stmt := top 34
def E_need_all : CEnv := ⟨N_need_all, [("need_service", g_need_service), ("need_lot", g_need_lot), ("need_window", g_need_window)], [], [], "", [], [], []⟩
theorem cc_need_all : cSs (comp E_need_all 30) (defScope s_need_all) (defBody s_need_all) = some ws_need_all := by rfl
theorem sc_need_all : FnScope N_need_all ["service", "lot", "window"] (defScope s_need_all) := ⟨rfl, rfl, rfl, by decide +kernel, rfl, by decide +kernel, by decide +kernel⟩
abbrev s_open_stands : Stmt := top 35
def E_open_stands : CEnv := ⟨N_open_stands, [("reached", g_reached), ("step_of", g_step_of)], [], ["found", "behind"], "", [], [], []⟩
theorem cc_open_stands : cSs (comp E_open_stands 30) (defScope s_open_stands) (defBody s_open_stands) = some ws_open_stands := by rfl
theorem sc_open_stands : FnScope N_open_stands ["service", "ask", "window"] (defScope s_open_stands) := ⟨rfl, rfl, rfl, by decide +kernel, rfl, by decide +kernel, by decide +kernel⟩
abbrev s_does_bear : Stmt := top 36
def E_does_bear : CEnv := ⟨N_does_bear, [("marks_of", g_marks_of), ("reached", g_reached), ("open_stands", g_open_stands), ("led", g_led)], [], [], "", [], [], []⟩
theorem cc_does_bear : cSs (comp E_does_bear 30) (defScope s_does_bear) (defBody s_does_bear) = some ws_does_bear := by rfl
theorem sc_does_bear : FnScope N_does_bear ["service", "ask", "window"] (defScope s_does_bear) := ⟨rfl, rfl, rfl, by decide +kernel, rfl, by decide +kernel, by decide +kernel⟩
abbrev s_does_bear_all : Stmt := top 37
def E_does_bear_all : CEnv := ⟨N_does_bear_all, [("does_bear", g_does_bear)], [], [], "", [], [], []⟩
theorem cc_does_bear_all : cSs (comp E_does_bear_all 30) (defScope s_does_bear_all) (defBody s_does_bear_all) = some ws_does_bear_all := by rfl
theorem sc_does_bear_all : FnScope N_does_bear_all ["service", "lot", "window"] (defScope s_does_bear_all) := ⟨rfl, rfl, rfl, by decide +kernel, rfl, by decide +kernel, by decide +kernel⟩
abbrev s_bears : Stmt := top 38
def E_bears : CEnv := ⟨N_bears, [("need_all", g_need_all), ("does_bear_all", g_does_bear_all)], [], [], "", [], [], []⟩
theorem cc_bears : cSs (comp E_bears 30) (defScope s_bears) (defBody s_bears) = some ws_bears := by rfl
theorem sc_bears : FnScope N_bears ["service", "lot", "window"] (defScope s_bears) := ⟨rfl, rfl, rfl, by decide +kernel, rfl, by decide +kernel, by decide +kernel⟩
abbrev s_borne_of : Stmt := top 39
def E_borne_of : CEnv := ⟨N_borne_of, [("does_bear", g_does_bear)], [], [], "", [], [], []⟩
theorem cc_borne_of : cSs (comp E_borne_of 30) (defScope s_borne_of) (defBody s_borne_of) = some ws_borne_of := by rfl
theorem sc_borne_of : FnScope N_borne_of ["service", "window"] (defScope s_borne_of) := ⟨rfl, rfl, rfl, by decide +kernel, rfl, by decide +kernel, by decide +kernel⟩
abbrev s_borne : Stmt := top 40
def E_borne : CEnv := ⟨N_borne, [("need_service", g_need_service), ("need_window", g_need_window), ("borne_of", g_borne_of)], [], [], "", [], [], []⟩
theorem cc_borne : cSs (comp E_borne 30) (defScope s_borne) (defBody s_borne) = some ws_borne := by rfl
theorem sc_borne : FnScope N_borne ["service", "window"] (defScope s_borne) := ⟨rfl, rfl, rfl, by decide +kernel, rfl, by decide +kernel, by decide +kernel⟩
abbrev s_beside : Stmt := top 42
def E_beside : CEnv := ⟨N_beside, [("need_service", g_need_service), ("step_of", g_step_of)], [("MOST_ASKS", (.int 4)), ("MOST_STANDS", (.int 40))], ["rows", "place", "line", "found"], "", [], [], []⟩
theorem cc_beside : cSs (comp E_beside 30) (defScope s_beside) (defBody s_beside) = some ws_beside := by rfl
theorem sc_beside : FnScope N_beside ["one", "other"] (defScope s_beside) := ⟨rfl, rfl, rfl, by decide +kernel, rfl, by decide +kernel, by decide +kernel⟩
abbrev s_renamed : Stmt := top 43
def E_renamed : CEnv := ⟨N_renamed, [("need_service", g_need_service), ("is_letter", g_is_letter)], [], [], "", [], [], []⟩
theorem cc_renamed : cSs (comp E_renamed 30) (defScope s_renamed) (defBody s_renamed) = some ws_renamed := by rfl
theorem sc_renamed : FnScope N_renamed ["service", "letters"] (defScope s_renamed) := ⟨rfl, rfl, rfl, by decide +kernel, rfl, by decide +kernel, by decide +kernel⟩
abbrev s_law_taken : Stmt := top 45
def E_law_taken : CEnv := ⟨N_law_taken, [], [], ["_law_row_here"], "", [], [], []⟩
theorem cc_law_taken : cSs (comp E_law_taken 30) (defScope s_law_taken) (defBody s_law_taken) = some ws_law_taken := by rfl
theorem sc_law_taken : FnScope N_law_taken ["_law_row_here", "_law_many"] (defScope s_law_taken) := ⟨rfl, rfl, rfl, by decide +kernel, rfl, by decide +kernel, by decide +kernel⟩
abbrev s_law_pick : Stmt := top 46
def E_law_pick : CEnv := ⟨N_law_pick, [("_law_taken", g_law_taken)], [], [], "", [], [], []⟩
theorem cc_law_pick : cSs (comp E_law_pick 30) (defScope s_law_pick) (defBody s_law_pick) = some ws_law_pick := by rfl
theorem sc_law_pick : FnScope N_law_pick ["_law_row_here", "_law_things"] (defScope s_law_pick) := ⟨rfl, rfl, rfl, by decide +kernel, rfl, by decide +kernel, by decide +kernel⟩
abbrev s_law_alike : Stmt := top 47
def E_law_alike (gg : WL) : CEnv := ⟨N_law_alike, [("_law_alike", gg)], [], [], "", [], [], []⟩
theorem cc_law_alike (gg : WL) : cSs (comp (E_law_alike gg) 30) (defScope s_law_alike) (defBody s_law_alike) = some (ws_law_alike gg) := by rfl
theorem sc_law_alike : FnScope N_law_alike ["_law_found", "_law_due"] (defScope s_law_alike) := ⟨rfl, rfl, rfl, by decide +kernel, rfl, by decide +kernel, by decide +kernel⟩
abbrev s_law_service : Stmt := top 48
def E_law_service : CEnv := ⟨N_law_service, [("_law_pick", g_law_pick), ("_law_taken", g_law_taken)], [], ["_law_rows", "_law_line"], "", [], [], []⟩
theorem cc_law_service : cSs (comp E_law_service 30) (defScope s_law_service) (defBody s_law_service) = some ws_law_service := by rfl
theorem sc_law_service : FnScope N_law_service ["_law_row_here", "_law_most"] (defScope s_law_service) := ⟨rfl, rfl, rfl, by decide +kernel, rfl, by decide +kernel, by decide +kernel⟩
abbrev s_law_row : Stmt := top 49
def E_law_row : CEnv := ⟨N_law_row, [("_law_taken", g_law_taken), ("_law_pick", g_law_pick)], [], [], "", [], [], []⟩
theorem cc_law_row : cSs (comp E_law_row 30) (defScope s_law_row) (defBody s_law_row) = some ws_law_row := by rfl
theorem sc_law_row : FnScope N_law_row ["_law_row_here", "_law_asks", "_law_most"] (defScope s_law_row) := ⟨rfl, rfl, rfl, by decide +kernel, rfl, by decide +kernel, by decide +kernel⟩
abbrev s_law_step : Stmt := top 50
def E_law_step : CEnv := ⟨N_law_step, [], [], [], "", [], [], []⟩
theorem cc_law_step : cSs (comp E_law_step 30) (defScope s_law_step) (defBody s_law_step) = some ws_law_step := by rfl
theorem sc_law_step : FnScope N_law_step ["_law_service_here", "_law_one", "_law_ask"] (defScope s_law_step) := ⟨rfl, rfl, rfl, by decide +kernel, rfl, by decide +kernel, by decide +kernel⟩
abbrev s_law_told : Stmt := top 51
def E_law_told : CEnv := ⟨N_law_told, [("_law_step", g_law_step)], [], [], "", [], [], []⟩
theorem cc_law_told : cSs (comp E_law_told 30) (defScope s_law_told) (defBody s_law_told) = some ws_law_told := by rfl
theorem sc_law_told : FnScope N_law_told ["_law_service_here", "_law_one", "_law_text"] (defScope s_law_told) := ⟨rfl, rfl, rfl, by decide +kernel, rfl, by decide +kernel, by decide +kernel⟩
abbrev s_law : Stmt := top 52
def E_law : CEnv := ⟨N_law, [("_law_service", g_law_service), ("renamed", g_renamed), ("is_service", g_is_service), ("_law_row", g_law_row), ("answers", g_answers), ("_law_told", g_law_told), ("_law_alike", g_law_alike), ("beside", g_beside), ("_law_step", g_law_step), ("borne", g_borne), ("_law_taken", g_law_taken), ("bears", g_bears)], [], ["_law_row_here"], "", [], [], []⟩
theorem cc_law : cSs (comp E_law 30) (defScope s_law) (defBody s_law) = some ws_law := by rfl
theorem sc_law : FnScope N_law ["_law_script"] (defScope s_law) := ⟨rfl, rfl, rfl, by decide +kernel, rfl, by decide +kernel, by decide +kernel⟩
section
variable {P : Program} {w : World} {K : PySem.W.Frag} {mg : Str → Option Value} {base : Heap} {k : Nat} {C : Addr}
theorem tp_is_integer {h : Heap} (X : K.In h) (G : h.Ns mainGlobals mg) (D : DefIn K "is_integer" s_is_integer) : Tp K mg "is_integer" s_is_integer ["value"] := D.tp X G fun _ _ _ _ _ _ us hl => match us, hl with | [_], _ => rfl
theorem fe_is_integer (B : ∀ x ∈ bNames, mg x = none) (T : Tp K mg "is_integer" s_is_integer ["value"]) : FE P w K mg base (k + 1) "is_integer" g_is_integer := fe_of (Γ := E_is_integer) T ⟨B, fe_nil, ct_nil, sc_is_integer.nd, .inl rfl, me_nil, ke_nil⟩ sc_is_integer cc_is_integer is_integer_ok
theorem tp_is_from {h : Heap} (X : K.In h) (G : h.Ns mainGlobals mg) (D : DefIn K "is_from" s_is_from) : Tp K mg "is_from" s_is_from ["value", "low", "high"] := D.tp X G fun _ _ _ _ _ _ us hl => match us, hl with | [_, _, _], _ => rfl
theorem fe_is_from (B : ∀ x ∈ bNames, mg x = none) (T : Tp K mg "is_from" s_is_from ["value", "low", "high"]) (f_is_integer : FE P w K mg base k "is_integer" g_is_integer) : FE P w K mg base (k + 1) "is_from" g_is_from := fe_of (Γ := E_is_from) T ⟨B, (fe_cons f_is_integer fe_nil), ct_nil, sc_is_from.nd, .inl rfl, me_nil, ke_nil⟩ sc_is_from cc_is_from is_from_ok
theorem tp_is_letter {h : Heap} (X : K.In h) (G : h.Ns mainGlobals mg) (D : DefIn K "is_letter" s_is_letter) : Tp K mg "is_letter" s_is_letter ["value"] := D.tp X G fun _ _ _ _ _ _ us hl => match us, hl with | [_], _ => rfl
theorem fe_is_letter (B : ∀ x ∈ bNames, mg x = none) (c_SMALL : CtIn K w mg "SMALL" ((.str [97, 98, 99, 100, 101, 102, 103, 104, 105, 106, 107, 108, 109, 110, 111, 112, 113, 114, 115, 116, 117, 118, 119, 120, 121, 122]))) (T : Tp K mg "is_letter" s_is_letter ["value"]) : FE P w K mg base (k + 1) "is_letter" g_is_letter := fe_of (Γ := E_is_letter) T ⟨B, fe_nil, (ct_cons c_SMALL ct_nil), sc_is_letter.nd, .inl rfl, me_nil, ke_nil⟩ sc_is_letter cc_is_letter is_letter_ok
theorem tp_is_asks {h : Heap} (X : K.In h) (G : h.Ns mainGlobals mg) (D : DefIn K "is_asks" s_is_asks) : Tp K mg "is_asks" s_is_asks ["value"] := D.tp X G fun _ _ _ _ _ _ us hl => match us, hl with | [_], _ => rfl
theorem fe_is_asks (B : ∀ x ∈ bNames, mg x = none) (c_MOST_ASKS : CtIn K w mg "MOST_ASKS" ((.int 4))) (c_SMALL : CtIn K w mg "SMALL" ((.str [97, 98, 99, 100, 101, 102, 103, 104, 105, 106, 107, 108, 109, 110, 111, 112, 113, 114, 115, 116, 117, 118, 119, 120, 121, 122]))) (T : Tp K mg "is_asks" s_is_asks ["value"]) : FE P w K mg base (k + 1) "is_asks" g_is_asks := fe_of (Γ := E_is_asks) T ⟨B, fe_nil, (ct_cons c_MOST_ASKS (ct_cons c_SMALL ct_nil)), sc_is_asks.nd, .inl rfl, me_nil, ke_nil⟩ sc_is_asks cc_is_asks is_asks_ok
theorem tp_is_step {h : Heap} (X : K.In h) (G : h.Ns mainGlobals mg) (D : DefIn K "is_step" s_is_step) : Tp K mg "is_step" s_is_step ["size", "value"] := D.tp X G fun _ _ _ _ _ _ us hl => match us, hl with | [_, _], _ => rfl
theorem fe_is_step (B : ∀ x ∈ bNames, mg x = none) (T : Tp K mg "is_step" s_is_step ["size", "value"]) (f_is_from : FE P w K mg base k "is_from" g_is_from) (f_is_letter : FE P w K mg base k "is_letter" g_is_letter) : FE P w K mg base (k + 1) "is_step" g_is_step := fe_of (Γ := E_is_step) T ⟨B, (fe_cons f_is_from (fe_cons f_is_letter fe_nil)), ct_nil, sc_is_step.nd, .inl rfl, me_nil, ke_nil⟩ sc_is_step cc_is_step is_step_ok
theorem tp_is_service {h : Heap} (X : K.In h) (G : h.Ns mainGlobals mg) (D : DefIn K "is_service" s_is_service) : Tp K mg "is_service" s_is_service ["value"] := D.tp X G fun _ _ _ _ _ _ us hl => match us, hl with | [_], _ => rfl
theorem fe_is_service (B : ∀ x ∈ bNames, mg x = none) (c_MOST_STANDS : CtIn K w mg "MOST_STANDS" ((.int 40))) (T : Tp K mg "is_service" s_is_service ["value"]) (f_is_asks : FE P w K mg base k "is_asks" g_is_asks) (f_is_step : FE P w K mg base k "is_step" g_is_step) : FE P w K mg base (k + 1) "is_service" g_is_service := fe_of (Γ := E_is_service) T ⟨B, (fe_cons f_is_asks (fe_cons f_is_step fe_nil)), (ct_cons c_MOST_STANDS ct_nil), sc_is_service.nd, .inl rfl, me_nil, ke_nil⟩ sc_is_service cc_is_service is_service_ok
theorem tp_need_service {h : Heap} (X : K.In h) (G : h.Ns mainGlobals mg) (D : DefIn K "need_service" s_need_service) : Tp K mg "need_service" s_need_service ["value"] := D.tp X G fun _ _ _ _ _ _ us hl => match us, hl with | [_], _ => rfl
theorem fe_need_service (B : ∀ x ∈ bNames, mg x = none) (T : Tp K mg "need_service" s_need_service ["value"]) (f_is_service : FE P w K mg base k "is_service" g_is_service) : FE P w K mg base (k + 1) "need_service" g_need_service := fe_of (Γ := E_need_service) T ⟨B, (fe_cons f_is_service fe_nil), ct_nil, sc_need_service.nd, .inl rfl, me_nil, ke_nil⟩ sc_need_service cc_need_service need_service_ok
theorem tp_is_row {h : Heap} (X : K.In h) (G : h.Ns mainGlobals mg) (D : DefIn K "is_row" s_is_row) : Tp K mg "is_row" s_is_row ["service", "value"] := D.tp X G fun _ _ _ _ _ _ us hl => match us, hl with | [_, _], _ => rfl
theorem fe_is_row (B : ∀ x ∈ bNames, mg x = none) (c_MOST_ROW : CtIn K w mg "MOST_ROW" ((.int 60))) (T : Tp K mg "is_row" s_is_row ["service", "value"]) : FE P w K mg base (k + 1) "is_row" g_is_row := fe_of (Γ := E_is_row) T ⟨B, fe_nil, (ct_cons c_MOST_ROW ct_nil), sc_is_row.nd, .inl rfl, me_nil, ke_nil⟩ sc_is_row cc_is_row is_row_ok
theorem tp_need_row {h : Heap} (X : K.In h) (G : h.Ns mainGlobals mg) (D : DefIn K "need_row" s_need_row) : Tp K mg "need_row" s_need_row ["service", "value"] := D.tp X G fun _ _ _ _ _ _ us hl => match us, hl with | [_, _], _ => rfl
theorem fe_need_row (B : ∀ x ∈ bNames, mg x = none) (T : Tp K mg "need_row" s_need_row ["service", "value"]) (f_is_row : FE P w K mg base k "is_row" g_is_row) : FE P w K mg base (k + 1) "need_row" g_need_row := fe_of (Γ := E_need_row) T ⟨B, (fe_cons f_is_row fe_nil), ct_nil, sc_need_row.nd, .inl rfl, me_nil, ke_nil⟩ sc_need_row cc_need_row need_row_ok
theorem tp_step_of {h : Heap} (X : K.In h) (G : h.Ns mainGlobals mg) (D : DefIn K "step_of" s_step_of) : Tp K mg "step_of" s_step_of ["service", "stand", "ask"] := D.tp X G fun _ _ _ _ _ _ us hl => match us, hl with | [_, _, _], _ => rfl
theorem fe_step_of (B : ∀ x ∈ bNames, mg x = none) (T : Tp K mg "step_of" s_step_of ["service", "stand", "ask"]) : FE P w K mg base (k + 1) "step_of" g_step_of := fe_of (Γ := E_step_of) T ⟨B, fe_nil, ct_nil, sc_step_of.nd, .inl rfl, me_nil, ke_nil⟩ sc_step_of cc_step_of step_of_ok
theorem tp_led {h : Heap} (X : K.In h) (G : h.Ns mainGlobals mg) (D : DefIn K "led" s_led) : Tp K mg "led" s_led ["service", "stand", "row"] := D.tp X G fun _ _ _ _ _ _ us hl => match us, hl with | [_, _, _], _ => rfl
theorem fe_led (B : ∀ x ∈ bNames, mg x = none) (T : Tp K mg "led" s_led ["service", "stand", "row"]) (f_step_of : FE P w K mg base k "step_of" g_step_of) : FE P w K mg base (k + 1) "led" g_led := fe_of (Γ := E_led) T ⟨B, (fe_cons f_step_of fe_nil), ct_nil, sc_led.nd, .inl rfl, me_nil, ke_nil⟩ sc_led cc_led led_ok
theorem tp_answered {h : Heap} (X : K.In h) (G : h.Ns mainGlobals mg) (D : DefIn K "answered" s_answered) : Tp K mg "answered" s_answered ["service", "row"] := D.tp X G fun _ _ _ _ _ _ us hl => match us, hl with | [_, _], _ => rfl
theorem fe_answered (B : ∀ x ∈ bNames, mg x = none) (T : Tp K mg "answered" s_answered ["service", "row"]) (f_step_of : FE P w K mg base k "step_of" g_step_of) : FE P w K mg base (k + 1) "answered" g_answered := fe_of (Γ := E_answered) T ⟨B, (fe_cons f_step_of fe_nil), ct_nil, sc_answered.nd, .inl rfl, me_nil, ke_nil⟩ sc_answered cc_answered answered_ok
theorem tp_answers {h : Heap} (X : K.In h) (G : h.Ns mainGlobals mg) (D : DefIn K "answers" s_answers) : Tp K mg "answers" s_answers ["service", "row"] := D.tp X G fun _ _ _ _ _ _ us hl => match us, hl with | [_, _], _ => rfl
theorem fe_answers (B : ∀ x ∈ bNames, mg x = none) (T : Tp K mg "answers" s_answers ["service", "row"]) (f_need_service : FE P w K mg base k "need_service" g_need_service) (f_need_row : FE P w K mg base k "need_row" g_need_row) (f_answered : FE P w K mg base k "answered" g_answered) : FE P w K mg base (k + 1) "answers" g_answers := fe_of (Γ := E_answers) T ⟨B, (fe_cons f_need_service (fe_cons f_need_row (fe_cons f_answered fe_nil))), ct_nil, sc_answers.nd, .inl rfl, me_nil, ke_nil⟩ sc_answers cc_answers answers_ok
theorem tp_reached {h : Heap} (X : K.In h) (G : h.Ns mainGlobals mg) (D : DefIn K "reached" s_reached) : Tp K mg "reached" s_reached ["rows"] := D.tp X G fun _ _ _ _ _ _ us hl => match us, hl with | [_], _ => rfl
theorem fe_reached (B : ∀ x ∈ bNames, mg x = none) (T : Tp K mg "reached" s_reached ["rows"]) : FE P w K mg base (k + 1) "reached" g_reached := fe_of (Γ := E_reached) T ⟨B, fe_nil, ct_nil, sc_reached.nd, .inl rfl, me_nil, ke_nil⟩ sc_reached cc_reached reached_ok
theorem tp_marks_of {h : Heap} (X : K.In h) (G : h.Ns mainGlobals mg) (D : DefIn K "marks_of" s_marks_of) : Tp K mg "marks_of" s_marks_of ["rows", "stands"] := D.tp X G fun _ _ _ _ _ _ us hl => match us, hl with | [_, _], _ => rfl
theorem fe_marks_of (B : ∀ x ∈ bNames, mg x = none) (T : Tp K mg "marks_of" s_marks_of ["rows", "stands"]) : FE P w K mg base (k + 1) "marks_of" g_marks_of := fe_of (Γ := E_marks_of) T ⟨B, fe_nil, ct_nil, sc_marks_of.nd, .inl rfl, me_nil, ke_nil⟩ sc_marks_of cc_marks_of marks_of_ok
theorem tp_is_lot {h : Heap} (X : K.In h) (G : h.Ns mainGlobals mg) (D : DefIn K "is_lot" s_is_lot) : Tp K mg "is_lot" s_is_lot ["service", "value"] := D.tp X G fun _ _ _ _ _ _ us hl => match us, hl with | [_, _], _ => rfl
theorem fe_is_lot (B : ∀ x ∈ bNames, mg x = none) (T : Tp K mg "is_lot" s_is_lot ["service", "value"]) (f_is_asks : FE P w K mg base k "is_asks" g_is_asks) : FE P w K mg base (k + 1) "is_lot" g_is_lot := fe_of (Γ := E_is_lot) T ⟨B, (fe_cons f_is_asks fe_nil), ct_nil, sc_is_lot.nd, .inl rfl, me_nil, ke_nil⟩ sc_is_lot cc_is_lot is_lot_ok
theorem tp_need_lot {h : Heap} (X : K.In h) (G : h.Ns mainGlobals mg) (D : DefIn K "need_lot" s_need_lot) : Tp K mg "need_lot" s_need_lot ["service", "value"] := D.tp X G fun _ _ _ _ _ _ us hl => match us, hl with | [_, _], _ => rfl
theorem fe_need_lot (B : ∀ x ∈ bNames, mg x = none) (T : Tp K mg "need_lot" s_need_lot ["service", "value"]) (f_is_lot : FE P w K mg base k "is_lot" g_is_lot) : FE P w K mg base (k + 1) "need_lot" g_need_lot := fe_of (Γ := E_need_lot) T ⟨B, (fe_cons f_is_lot fe_nil), ct_nil, sc_need_lot.nd, .inl rfl, me_nil, ke_nil⟩ sc_need_lot cc_need_lot need_lot_ok
theorem tp_need_window {h : Heap} (X : K.In h) (G : h.Ns mainGlobals mg) (D : DefIn K "need_window" s_need_window) : Tp K mg "need_window" s_need_window ["value"] := D.tp X G fun _ _ _ _ _ _ us hl => match us, hl with | [_], _ => rfl
theorem fe_need_window (B : ∀ x ∈ bNames, mg x = none) (c_MOST_WINDOW : CtIn K w mg "MOST_WINDOW" ((.int 40))) (T : Tp K mg "need_window" s_need_window ["value"]) (f_is_from : FE P w K mg base k "is_from" g_is_from) : FE P w K mg base (k + 1) "need_window" g_need_window := fe_of (Γ := E_need_window) T ⟨B, (fe_cons f_is_from fe_nil), (ct_cons c_MOST_WINDOW ct_nil), sc_need_window.nd, .inl rfl, me_nil, ke_nil⟩ sc_need_window cc_need_window need_window_ok
theorem tp_need_all {h : Heap} (X : K.In h) (G : h.Ns mainGlobals mg) (D : DefIn K "need_all" s_need_all) : Tp K mg "need_all" s_need_all ["service", "lot", "window"] := D.tp X G fun _ _ _ _ _ _ us hl => match us, hl with | [_, _, _], _ => rfl
theorem fe_need_all (B : ∀ x ∈ bNames, mg x = none) (T : Tp K mg "need_all" s_need_all ["service", "lot", "window"]) (f_need_service : FE P w K mg base k "need_service" g_need_service) (f_need_lot : FE P w K mg base k "need_lot" g_need_lot) (f_need_window : FE P w K mg base k "need_window" g_need_window) : FE P w K mg base (k + 1) "need_all" g_need_all := fe_of (Γ := E_need_all) T ⟨B, (fe_cons f_need_service (fe_cons f_need_lot (fe_cons f_need_window fe_nil))), ct_nil, sc_need_all.nd, .inl rfl, me_nil, ke_nil⟩ sc_need_all cc_need_all need_all_ok
theorem tp_open_stands {h : Heap} (X : K.In h) (G : h.Ns mainGlobals mg) (D : DefIn K "open_stands" s_open_stands) : Tp K mg "open_stands" s_open_stands ["service", "ask", "window"] := D.tp X G fun _ _ _ _ _ _ us hl => match us, hl with | [_, _, _], _ => rfl
theorem fe_open_stands (B : ∀ x ∈ bNames, mg x = none) (T : Tp K mg "open_stands" s_open_stands ["service", "ask", "window"]) (f_reached : FE P w K mg base k "reached" g_reached) (f_step_of : FE P w K mg base k "step_of" g_step_of) : FE P w K mg base (k + 1) "open_stands" g_open_stands := fe_of (Γ := E_open_stands) T ⟨B, (fe_cons f_reached (fe_cons f_step_of fe_nil)), ct_nil, sc_open_stands.nd, .inl rfl, me_nil, ke_nil⟩ sc_open_stands cc_open_stands open_stands_ok
theorem tp_does_bear {h : Heap} (X : K.In h) (G : h.Ns mainGlobals mg) (D : DefIn K "does_bear" s_does_bear) : Tp K mg "does_bear" s_does_bear ["service", "ask", "window"] := D.tp X G fun _ _ _ _ _ _ us hl => match us, hl with | [_, _, _], _ => rfl
theorem fe_does_bear (B : ∀ x ∈ bNames, mg x = none) (T : Tp K mg "does_bear" s_does_bear ["service", "ask", "window"]) (f_marks_of : FE P w K mg base k "marks_of" g_marks_of) (f_reached : FE P w K mg base k "reached" g_reached) (f_open_stands : FE P w K mg base k "open_stands" g_open_stands) (f_led : FE P w K mg base k "led" g_led) : FE P w K mg base (k + 1) "does_bear" g_does_bear := fe_of (Γ := E_does_bear) T ⟨B, (fe_cons f_marks_of (fe_cons f_reached (fe_cons f_open_stands (fe_cons f_led fe_nil)))), ct_nil, sc_does_bear.nd, .inl rfl, me_nil, ke_nil⟩ sc_does_bear cc_does_bear does_bear_ok
theorem tp_does_bear_all {h : Heap} (X : K.In h) (G : h.Ns mainGlobals mg) (D : DefIn K "does_bear_all" s_does_bear_all) : Tp K mg "does_bear_all" s_does_bear_all ["service", "lot", "window"] := D.tp X G fun _ _ _ _ _ _ us hl => match us, hl with | [_, _, _], _ => rfl
theorem fe_does_bear_all (B : ∀ x ∈ bNames, mg x = none) (T : Tp K mg "does_bear_all" s_does_bear_all ["service", "lot", "window"]) (f_does_bear : FE P w K mg base k "does_bear" g_does_bear) : FE P w K mg base (k + 1) "does_bear_all" g_does_bear_all := fe_of (Γ := E_does_bear_all) T ⟨B, (fe_cons f_does_bear fe_nil), ct_nil, sc_does_bear_all.nd, .inl rfl, me_nil, ke_nil⟩ sc_does_bear_all cc_does_bear_all does_bear_all_ok
theorem tp_bears {h : Heap} (X : K.In h) (G : h.Ns mainGlobals mg) (D : DefIn K "bears" s_bears) : Tp K mg "bears" s_bears ["service", "lot", "window"] := D.tp X G fun _ _ _ _ _ _ us hl => match us, hl with | [_, _, _], _ => rfl
theorem fe_bears (B : ∀ x ∈ bNames, mg x = none) (T : Tp K mg "bears" s_bears ["service", "lot", "window"]) (f_need_all : FE P w K mg base k "need_all" g_need_all) (f_does_bear_all : FE P w K mg base k "does_bear_all" g_does_bear_all) : FE P w K mg base (k + 1) "bears" g_bears := fe_of (Γ := E_bears) T ⟨B, (fe_cons f_need_all (fe_cons f_does_bear_all fe_nil)), ct_nil, sc_bears.nd, .inl rfl, me_nil, ke_nil⟩ sc_bears cc_bears bears_ok
theorem tp_borne_of {h : Heap} (X : K.In h) (G : h.Ns mainGlobals mg) (D : DefIn K "borne_of" s_borne_of) : Tp K mg "borne_of" s_borne_of ["service", "window"] := D.tp X G fun _ _ _ _ _ _ us hl => match us, hl with | [_, _], _ => rfl
theorem fe_borne_of (B : ∀ x ∈ bNames, mg x = none) (T : Tp K mg "borne_of" s_borne_of ["service", "window"]) (f_does_bear : FE P w K mg base k "does_bear" g_does_bear) : FE P w K mg base (k + 1) "borne_of" g_borne_of := fe_of (Γ := E_borne_of) T ⟨B, (fe_cons f_does_bear fe_nil), ct_nil, sc_borne_of.nd, .inl rfl, me_nil, ke_nil⟩ sc_borne_of cc_borne_of borne_of_ok
theorem tp_borne {h : Heap} (X : K.In h) (G : h.Ns mainGlobals mg) (D : DefIn K "borne" s_borne) : Tp K mg "borne" s_borne ["service", "window"] := D.tp X G fun _ _ _ _ _ _ us hl => match us, hl with | [_, _], _ => rfl
theorem fe_borne (B : ∀ x ∈ bNames, mg x = none) (T : Tp K mg "borne" s_borne ["service", "window"]) (f_need_service : FE P w K mg base k "need_service" g_need_service) (f_need_window : FE P w K mg base k "need_window" g_need_window) (f_borne_of : FE P w K mg base k "borne_of" g_borne_of) : FE P w K mg base (k + 1) "borne" g_borne := fe_of (Γ := E_borne) T ⟨B, (fe_cons f_need_service (fe_cons f_need_window (fe_cons f_borne_of fe_nil))), ct_nil, sc_borne.nd, .inl rfl, me_nil, ke_nil⟩ sc_borne cc_borne borne_ok
theorem tp_beside {h : Heap} (X : K.In h) (G : h.Ns mainGlobals mg) (D : DefIn K "beside" s_beside) : Tp K mg "beside" s_beside ["one", "other"] := D.tp X G fun _ _ _ _ _ _ us hl => match us, hl with | [_, _], _ => rfl
theorem fe_beside (B : ∀ x ∈ bNames, mg x = none) (c_MOST_ASKS : CtIn K w mg "MOST_ASKS" ((.int 4))) (c_MOST_STANDS : CtIn K w mg "MOST_STANDS" ((.int 40))) (T : Tp K mg "beside" s_beside ["one", "other"]) (f_need_service : FE P w K mg base k "need_service" g_need_service) (f_step_of : FE P w K mg base k "step_of" g_step_of) : FE P w K mg base (k + 1) "beside" g_beside := fe_of (Γ := E_beside) T ⟨B, (fe_cons f_need_service (fe_cons f_step_of fe_nil)), (ct_cons c_MOST_ASKS (ct_cons c_MOST_STANDS ct_nil)), sc_beside.nd, .inl rfl, me_nil, ke_nil⟩ sc_beside cc_beside beside_ok
theorem tp_renamed {h : Heap} (X : K.In h) (G : h.Ns mainGlobals mg) (D : DefIn K "renamed" s_renamed) : Tp K mg "renamed" s_renamed ["service", "letters"] := D.tp X G fun _ _ _ _ _ _ us hl => match us, hl with | [_, _], _ => rfl
theorem fe_renamed (B : ∀ x ∈ bNames, mg x = none) (T : Tp K mg "renamed" s_renamed ["service", "letters"]) (f_need_service : FE P w K mg base k "need_service" g_need_service) (f_is_letter : FE P w K mg base k "is_letter" g_is_letter) : FE P w K mg base (k + 1) "renamed" g_renamed := fe_of (Γ := E_renamed) T ⟨B, (fe_cons f_need_service (fe_cons f_is_letter fe_nil)), ct_nil, sc_renamed.nd, .inl rfl, me_nil, ke_nil⟩ sc_renamed cc_renamed renamed_ok
theorem tp_law_taken {h : Heap} (X : K.In h) (G : h.Ns mainGlobals mg) (D : DefIn K "_law_taken" s_law_taken) : Tp K mg "_law_taken" s_law_taken ["_law_row_here", "_law_many"] := D.tp X G fun _ _ _ _ _ _ us hl => match us, hl with | [_, _], _ => rfl
theorem fe_law_taken (B : ∀ x ∈ bNames, mg x = none) (T : Tp K mg "_law_taken" s_law_taken ["_law_row_here", "_law_many"]) : FE P w K mg base (k + 1) "_law_taken" g_law_taken := fe_of (Γ := E_law_taken) T ⟨B, fe_nil, ct_nil, sc_law_taken.nd, .inl rfl, me_nil, ke_nil⟩ sc_law_taken cc_law_taken law_taken_ok
theorem tp_law_pick {h : Heap} (X : K.In h) (G : h.Ns mainGlobals mg) (D : DefIn K "_law_pick" s_law_pick) : Tp K mg "_law_pick" s_law_pick ["_law_row_here", "_law_things"] := D.tp X G fun _ _ _ _ _ _ us hl => match us, hl with | [_, _], _ => rfl
theorem fe_law_pick (B : ∀ x ∈ bNames, mg x = none) (T : Tp K mg "_law_pick" s_law_pick ["_law_row_here", "_law_things"]) (f_law_taken : FE P w K mg base k "_law_taken" g_law_taken) : FE P w K mg base (k + 1) "_law_pick" g_law_pick := fe_of (Γ := E_law_pick) T ⟨B, (fe_cons f_law_taken fe_nil), ct_nil, sc_law_pick.nd, .inl rfl, me_nil, ke_nil⟩ sc_law_pick cc_law_pick law_pick_ok
theorem tp_law_alike {h : Heap} (X : K.In h) (G : h.Ns mainGlobals mg) (D : DefIn K "_law_alike" s_law_alike) : Tp K mg "_law_alike" s_law_alike ["_law_found", "_law_due"] := D.tp X G fun _ _ _ _ _ _ us hl => match us, hl with | [_, _], _ => rfl
theorem fe_law_alike0 {gg : WL} (B : ∀ x ∈ bNames, mg x = none) (T : Tp K mg "_law_alike" s_law_alike ["_law_found", "_law_due"]) (fr : FE P w K mg base k "_law_alike" gg) : FE P w K mg base (k + 1) "_law_alike" (g_alk 0) := fe_of (Γ := E_law_alike gg) T ⟨B, (fe_cons fr fe_nil), ct_nil, sc_law_alike.nd, .inl rfl, me_nil, ke_nil⟩ sc_law_alike (cc_law_alike gg) alk_ok0
theorem fe_law_alikeS {n : Nat} (B : ∀ x ∈ bNames, mg x = none) (T : Tp K mg "_law_alike" s_law_alike ["_law_found", "_law_due"]) (fr : FE P w K mg base k "_law_alike" (g_alk n)) : FE P w K mg base (k + 1) "_law_alike" (g_alk (n + 1)) := fe_of (Γ := E_law_alike (g_alk n)) T ⟨B, (fe_cons fr fe_nil), ct_nil, sc_law_alike.nd, .inl rfl, me_nil, ke_nil⟩ sc_law_alike (cc_law_alike (g_alk n)) alk_okS
theorem tp_law_service {h : Heap} (X : K.In h) (G : h.Ns mainGlobals mg) (D : DefIn K "_law_service" s_law_service) : Tp K mg "_law_service" s_law_service ["_law_row_here", "_law_most"] := D.tp X G fun _ _ _ _ _ _ us hl => match us, hl with | [_, _], _ => rfl
theorem fe_law_service (B : ∀ x ∈ bNames, mg x = none) (T : Tp K mg "_law_service" s_law_service ["_law_row_here", "_law_most"]) (f_law_pick : FE P w K mg base k "_law_pick" g_law_pick) (f_law_taken : FE P w K mg base k "_law_taken" g_law_taken) : FE P w K mg base (k + 1) "_law_service" g_law_service := fe_of (Γ := E_law_service) T ⟨B, (fe_cons f_law_pick (fe_cons f_law_taken fe_nil)), ct_nil, sc_law_service.nd, .inl rfl, me_nil, ke_nil⟩ sc_law_service cc_law_service law_service_ok
theorem tp_law_row {h : Heap} (X : K.In h) (G : h.Ns mainGlobals mg) (D : DefIn K "_law_row" s_law_row) : Tp K mg "_law_row" s_law_row ["_law_row_here", "_law_asks", "_law_most"] := D.tp X G fun _ _ _ _ _ _ us hl => match us, hl with | [_, _, _], _ => rfl
theorem fe_law_row (B : ∀ x ∈ bNames, mg x = none) (T : Tp K mg "_law_row" s_law_row ["_law_row_here", "_law_asks", "_law_most"]) (f_law_taken : FE P w K mg base k "_law_taken" g_law_taken) (f_law_pick : FE P w K mg base k "_law_pick" g_law_pick) : FE P w K mg base (k + 1) "_law_row" g_law_row := fe_of (Γ := E_law_row) T ⟨B, (fe_cons f_law_taken (fe_cons f_law_pick fe_nil)), ct_nil, sc_law_row.nd, .inl rfl, me_nil, ke_nil⟩ sc_law_row cc_law_row law_row_ok
theorem tp_law_step {h : Heap} (X : K.In h) (G : h.Ns mainGlobals mg) (D : DefIn K "_law_step" s_law_step) : Tp K mg "_law_step" s_law_step ["_law_service_here", "_law_one", "_law_ask"] := D.tp X G fun _ _ _ _ _ _ us hl => match us, hl with | [_, _, _], _ => rfl
theorem fe_law_step (B : ∀ x ∈ bNames, mg x = none) (T : Tp K mg "_law_step" s_law_step ["_law_service_here", "_law_one", "_law_ask"]) : FE P w K mg base (k + 1) "_law_step" g_law_step := fe_of (Γ := E_law_step) T ⟨B, fe_nil, ct_nil, sc_law_step.nd, .inl rfl, me_nil, ke_nil⟩ sc_law_step cc_law_step law_step_ok
theorem tp_law_told {h : Heap} (X : K.In h) (G : h.Ns mainGlobals mg) (D : DefIn K "_law_told" s_law_told) : Tp K mg "_law_told" s_law_told ["_law_service_here", "_law_one", "_law_text"] := D.tp X G fun _ _ _ _ _ _ us hl => match us, hl with | [_, _, _], _ => rfl
theorem fe_law_told (B : ∀ x ∈ bNames, mg x = none) (T : Tp K mg "_law_told" s_law_told ["_law_service_here", "_law_one", "_law_text"]) (f_law_step : FE P w K mg base k "_law_step" g_law_step) : FE P w K mg base (k + 1) "_law_told" g_law_told := fe_of (Γ := E_law_told) T ⟨B, (fe_cons f_law_step fe_nil), ct_nil, sc_law_told.nd, .inl rfl, me_nil, ke_nil⟩ sc_law_told cc_law_told law_told_ok
theorem tp_law {h : Heap} (X : K.In h) (G : h.Ns mainGlobals mg) (D : DefIn K "law" s_law) : Tp K mg "law" s_law ["_law_script"] := D.tp X G fun _ _ _ _ _ _ us hl => match us, hl with | [_], _ => rfl
end
theorem all_mk {l : PySem.W.OpenLaw} {w : World} {K : PySem.W.Frag} {h : Heap} {mg : Str → Option Value} {fa : Addr} (X : K.In h) (G : h.Ns mainGlobals mg) (hfa : mg "law" = some (.ref fa))
    (D_is_integer : DefIn K "is_integer" s_is_integer)
    (D_is_from : DefIn K "is_from" s_is_from)
    (D_is_letter : DefIn K "is_letter" s_is_letter)
    (D_is_asks : DefIn K "is_asks" s_is_asks)
    (D_is_step : DefIn K "is_step" s_is_step)
    (D_is_service : DefIn K "is_service" s_is_service)
    (D_need_service : DefIn K "need_service" s_need_service)
    (D_is_row : DefIn K "is_row" s_is_row)
    (D_need_row : DefIn K "need_row" s_need_row)
    (D_step_of : DefIn K "step_of" s_step_of)
    (D_led : DefIn K "led" s_led)
    (D_answered : DefIn K "answered" s_answered)
    (D_answers : DefIn K "answers" s_answers)
    (D_reached : DefIn K "reached" s_reached)
    (D_marks_of : DefIn K "marks_of" s_marks_of)
    (D_is_lot : DefIn K "is_lot" s_is_lot)
    (D_need_lot : DefIn K "need_lot" s_need_lot)
    (D_need_window : DefIn K "need_window" s_need_window)
    (D_need_all : DefIn K "need_all" s_need_all)
    (D_open_stands : DefIn K "open_stands" s_open_stands)
    (D_does_bear : DefIn K "does_bear" s_does_bear)
    (D_does_bear_all : DefIn K "does_bear_all" s_does_bear_all)
    (D_bears : DefIn K "bears" s_bears)
    (D_borne_of : DefIn K "borne_of" s_borne_of)
    (D_borne : DefIn K "borne" s_borne)
    (D_beside : DefIn K "beside" s_beside)
    (D_renamed : DefIn K "renamed" s_renamed)
    (D_law_taken : DefIn K "_law_taken" s_law_taken)
    (D_law_pick : DefIn K "_law_pick" s_law_pick)
    (D_law_alike : DefIn K "_law_alike" s_law_alike)
    (D_law_service : DefIn K "_law_service" s_law_service)
    (D_law_row : DefIn K "_law_row" s_law_row)
    (D_law_step : DefIn K "_law_step" s_law_step)
    (D_law_told : DefIn K "_law_told" s_law_told)
    (D_law : DefIn K "law" s_law)
    {t0 : Tok} {u0 : Str} (k0 : PySem.W.nsIn K mainGlobals "SMALL" = some (some (.str u0 t0))) (e0 : u0 = mkS [97, 98, 99, 100, 101, 102, 103, 104, 105, 106, 107, 108, 109, 110, 111, 112, 113, 114, 115, 116, 117, 118, 119, 120, 121, 122])
    {t1 : Tok} (k1 : PySem.W.nsIn K mainGlobals "MOST_ASKS" = some (some (.int 4 t1)))
    {t2 : Tok} (k2 : PySem.W.nsIn K mainGlobals "MOST_STANDS" = some (some (.int 40 t2)))
    {t3 : Tok} (k3 : PySem.W.nsIn K mainGlobals "MOST_ROW" = some (some (.int 60 t3)))
    {t4 : Tok} (k4 : PySem.W.nsIn K mainGlobals "MOST_WINDOW" = some (some (.int 40 t4)))
    (z0 : PySem.W.nsIn K mainGlobals "len" = some none)
    (z1 : PySem.W.nsIn K mainGlobals "isinstance" = some none)
    (z2 : PySem.W.nsIn K mainGlobals "all" = some none)
    (z3 : PySem.W.nsIn K mainGlobals "any" = some none)
    (z4 : PySem.W.nsIn K mainGlobals "tuple" = some none)
    (z5 : PySem.W.nsIn K mainGlobals "list" = some none)
    (z6 : PySem.W.nsIn K mainGlobals "int" = some none)
    (z7 : PySem.W.nsIn K mainGlobals "min" = some none)
    (z8 : PySem.W.nsIn K mainGlobals "max" = some none)
    (z9 : PySem.W.nsIn K mainGlobals "range" = some none)
    (z10 : PySem.W.nsIn K mainGlobals "zip" = some none)
    (z11 : PySem.W.nsIn K mainGlobals "bool" = some none)
    (z12 : PySem.W.nsIn K mainGlobals "str" = some none)
    (z13 : PySem.W.nsIn K mainGlobals "dict" = some none)
    (z14 : PySem.W.nsIn K mainGlobals "enumerate" = some none)
    (z15 : PySem.W.nsIn K mainGlobals "sorted" = some none)
    (z16 : PySem.W.nsIn K mainGlobals "set" = some none)
    : ∃ fd : FuncData, (∀ (s : Shared) (v : Value), BindsTo s fd ⟨[v], []⟩ [("_law_script", v)]) ∧ ∀ base : Heap, K.In base → base.Ns mainGlobals mg → FnOk l.prog w K mg base CX0 8 fa fd ["_law_script"] (liftF (K, w) gLaw) := by
  have B : ∀ x ∈ bNames, mg x = none := by
    intro x hx
    simp only [bNames, List.mem_cons, List.not_mem_nil, or_false] at hx
    rcases hx with rfl | rfl | rfl | rfl | rfl | rfl | rfl | rfl | rfl | rfl | rfl | rfl | rfl | rfl | rfl | rfl | rfl
    · exact PySem.W.mg_none_of X G z0
    · exact PySem.W.mg_none_of X G z1
    · exact PySem.W.mg_none_of X G z2
    · exact PySem.W.mg_none_of X G z3
    · exact PySem.W.mg_none_of X G z4
    · exact PySem.W.mg_none_of X G z5
    · exact PySem.W.mg_none_of X G z6
    · exact PySem.W.mg_none_of X G z7
    · exact PySem.W.mg_none_of X G z8
    · exact PySem.W.mg_none_of X G z9
    · exact PySem.W.mg_none_of X G z10
    · exact PySem.W.mg_none_of X G z11
    · exact PySem.W.mg_none_of X G z12
    · exact PySem.W.mg_none_of X G z13
    · exact PySem.W.mg_none_of X G z14
    · exact PySem.W.mg_none_of X G z15
    · exact PySem.W.mg_none_of X G z16
  have c_SMALL := ct_str (w := w) X G k0 e0 ⟨sl63 (by simp), by simp⟩
  have c_MOST_ASKS := ct_int (w := w) X G k1
  have c_MOST_STANDS := ct_int (w := w) X G k2
  have c_MOST_ROW := ct_int (w := w) X G k3
  have c_MOST_WINDOW := ct_int (w := w) X G k4
  have T_is_integer := tp_is_integer X G D_is_integer
  have T_is_from := tp_is_from X G D_is_from
  have T_is_letter := tp_is_letter X G D_is_letter
  have T_is_asks := tp_is_asks X G D_is_asks
  have T_is_step := tp_is_step X G D_is_step
  have T_is_service := tp_is_service X G D_is_service
  have T_need_service := tp_need_service X G D_need_service
  have T_is_row := tp_is_row X G D_is_row
  have T_need_row := tp_need_row X G D_need_row
  have T_step_of := tp_step_of X G D_step_of
  have T_led := tp_led X G D_led
  have T_answered := tp_answered X G D_answered
  have T_answers := tp_answers X G D_answers
  have T_reached := tp_reached X G D_reached
  have T_marks_of := tp_marks_of X G D_marks_of
  have T_is_lot := tp_is_lot X G D_is_lot
  have T_need_lot := tp_need_lot X G D_need_lot
  have T_need_window := tp_need_window X G D_need_window
  have T_need_all := tp_need_all X G D_need_all
  have T_open_stands := tp_open_stands X G D_open_stands
  have T_does_bear := tp_does_bear X G D_does_bear
  have T_does_bear_all := tp_does_bear_all X G D_does_bear_all
  have T_bears := tp_bears X G D_bears
  have T_borne_of := tp_borne_of X G D_borne_of
  have T_borne := tp_borne X G D_borne
  have T_beside := tp_beside X G D_beside
  have T_renamed := tp_renamed X G D_renamed
  have T_law_taken := tp_law_taken X G D_law_taken
  have T_law_pick := tp_law_pick X G D_law_pick
  have T_law_alike := tp_law_alike X G D_law_alike
  have T_law_service := tp_law_service X G D_law_service
  have T_law_row := tp_law_row X G D_law_row
  have T_law_step := tp_law_step X G D_law_step
  have T_law_told := tp_law_told X G D_law_told
  obtain ⟨f, oc, od, kV, dc, pm, an, cd, ct, sl, a, lk, c, kp⟩ := D_law.ex
  have e := hfa.symm.trans (PySem.W.mg_of X G a)
  cases e
  refine ⟨PySem.W.fnOf "law" "law" (defArgs s_law) (defBody s_law) (defScope s_law) .none kV dc pm an cd ct, fun s v => .of_eq rfl, fun base _ _ => ?_⟩
  have f_law_taken : FE l.prog w K mg base 1 "_law_taken" g_law_taken := fe_law_taken (k := 0) B T_law_taken
  have f_law_pick : FE l.prog w K mg base 2 "_law_pick" g_law_pick := fe_law_pick (k := 1) B T_law_pick f_law_taken
  have f_law_service : FE l.prog w K mg base 3 "_law_service" g_law_service := fe_law_service (k := 2) B T_law_service f_law_pick (f_law_taken.mono (by decide))
  have f_is_asks : FE l.prog w K mg base 1 "is_asks" g_is_asks := fe_is_asks (k := 0) B c_MOST_ASKS c_SMALL T_is_asks
  have f_is_integer : FE l.prog w K mg base 1 "is_integer" g_is_integer := fe_is_integer (k := 0) B T_is_integer
  have f_is_from : FE l.prog w K mg base 2 "is_from" g_is_from := fe_is_from (k := 1) B T_is_from f_is_integer
  have f_is_letter : FE l.prog w K mg base 1 "is_letter" g_is_letter := fe_is_letter (k := 0) B c_SMALL T_is_letter
  have f_is_step : FE l.prog w K mg base 3 "is_step" g_is_step := fe_is_step (k := 2) B T_is_step f_is_from (f_is_letter.mono (by decide))
  have f_is_service : FE l.prog w K mg base 4 "is_service" g_is_service := fe_is_service (k := 3) B c_MOST_STANDS T_is_service (f_is_asks.mono (by decide)) f_is_step
  have f_need_service : FE l.prog w K mg base 5 "need_service" g_need_service := fe_need_service (k := 4) B T_need_service f_is_service
  have f_renamed : FE l.prog w K mg base 6 "renamed" g_renamed := fe_renamed (k := 5) B T_renamed f_need_service (f_is_letter.mono (by decide))
  have f_law_row : FE l.prog w K mg base 3 "_law_row" g_law_row := fe_law_row (k := 2) B T_law_row (f_law_taken.mono (by decide)) f_law_pick
  have f_is_row : FE l.prog w K mg base 1 "is_row" g_is_row := fe_is_row (k := 0) B c_MOST_ROW T_is_row
  have f_need_row : FE l.prog w K mg base 2 "need_row" g_need_row := fe_need_row (k := 1) B T_need_row f_is_row
  have f_step_of : FE l.prog w K mg base 1 "step_of" g_step_of := fe_step_of (k := 0) B T_step_of
  have f_answered : FE l.prog w K mg base 2 "answered" g_answered := fe_answered (k := 1) B T_answered f_step_of
  have f_answers : FE l.prog w K mg base 6 "answers" g_answers := fe_answers (k := 5) B T_answers f_need_service (f_need_row.mono (by decide)) (f_answered.mono (by decide))
  have f_law_step : FE l.prog w K mg base 1 "_law_step" g_law_step := fe_law_step (k := 0) B T_law_step
  have f_law_told : FE l.prog w K mg base 2 "_law_told" g_law_told := fe_law_told (k := 1) B T_law_told f_law_step
  have f_law_aliken : FE l.prog w K mg base 0 "_law_alike" (fun _ _ _ => False) := fe_none T_law_alike
  have f_law_alike0 : FE l.prog w K mg base 1 "_law_alike" (g_alk 0) := fe_law_alike0 B T_law_alike f_law_aliken
  have f_law_alike1 : FE l.prog w K mg base 2 "_law_alike" (g_alk 1) := fe_law_alikeS B T_law_alike f_law_alike0
  have f_law_alike2 : FE l.prog w K mg base 3 "_law_alike" (g_alk 2) := fe_law_alikeS B T_law_alike f_law_alike1
  have f_law_alike3 : FE l.prog w K mg base 4 "_law_alike" (g_alk 3) := fe_law_alikeS B T_law_alike f_law_alike2
  have f_law_alike : FE l.prog w K mg base 5 "_law_alike" g_law_alike := f_law_alike3.mono (by decide)
  have f_beside : FE l.prog w K mg base 6 "beside" g_beside := fe_beside (k := 5) B c_MOST_ASKS c_MOST_STANDS T_beside f_need_service (f_step_of.mono (by decide))
  have f_need_window : FE l.prog w K mg base 3 "need_window" g_need_window := fe_need_window (k := 2) B c_MOST_WINDOW T_need_window f_is_from
  have f_marks_of : FE l.prog w K mg base 1 "marks_of" g_marks_of := fe_marks_of (k := 0) B T_marks_of
  have f_reached : FE l.prog w K mg base 1 "reached" g_reached := fe_reached (k := 0) B T_reached
  have f_open_stands : FE l.prog w K mg base 2 "open_stands" g_open_stands := fe_open_stands (k := 1) B T_open_stands f_reached f_step_of
  have f_led : FE l.prog w K mg base 2 "led" g_led := fe_led (k := 1) B T_led f_step_of
  have f_does_bear : FE l.prog w K mg base 3 "does_bear" g_does_bear := fe_does_bear (k := 2) B T_does_bear (f_marks_of.mono (by decide)) (f_reached.mono (by decide)) f_open_stands f_led
  have f_borne_of : FE l.prog w K mg base 4 "borne_of" g_borne_of := fe_borne_of (k := 3) B T_borne_of f_does_bear
  have f_borne : FE l.prog w K mg base 6 "borne" g_borne := fe_borne (k := 5) B T_borne f_need_service (f_need_window.mono (by decide)) (f_borne_of.mono (by decide))
  have f_is_lot : FE l.prog w K mg base 2 "is_lot" g_is_lot := fe_is_lot (k := 1) B T_is_lot f_is_asks
  have f_need_lot : FE l.prog w K mg base 3 "need_lot" g_need_lot := fe_need_lot (k := 2) B T_need_lot f_is_lot
  have f_need_all : FE l.prog w K mg base 6 "need_all" g_need_all := fe_need_all (k := 5) B T_need_all f_need_service (f_need_lot.mono (by decide)) (f_need_window.mono (by decide))
  have f_does_bear_all : FE l.prog w K mg base 4 "does_bear_all" g_does_bear_all := fe_does_bear_all (k := 3) B T_does_bear_all f_does_bear
  have f_bears : FE l.prog w K mg base 7 "bears" g_bears := fe_bears (k := 6) B T_bears f_need_all (f_does_bear_all.mono (by decide))
  exact def_fn (k := 7) (Γ := E_law) ⟨B, (fe_cons (f_law_service.mono (by decide)) (fe_cons (f_renamed.mono (by decide)) (fe_cons (f_is_service.mono (by decide)) (fe_cons (f_law_row.mono (by decide)) (fe_cons (f_answers.mono (by decide)) (fe_cons (f_law_told.mono (by decide)) (fe_cons (f_law_alike.mono (by decide)) (fe_cons (f_beside.mono (by decide)) (fe_cons (f_law_step.mono (by decide)) (fe_cons (f_borne.mono (by decide)) (fe_cons (f_law_taken.mono (by decide)) (fe_cons f_bears fe_nil)))))))))))), ct_nil, sc_law.nd, .inl rfl, me_nil, ke_nil⟩ (fun_mk lk c kp) sc_law cc_law law_ok
theorem walk {l : PySem.W.OpenLaw} {q : Program} {loose : List Str} {XP : (Str → Option Value) → Heap → Prop} {YP : World → Heap → Prop} {d : DefRec} {K : Params → PySem.W.Frag} (hn : l.most = some 63) (hdf : d.params.defaults = [])
    (hY : ∀ (w : World) (h : Heap), YP w h → (K w.params).In h)
    (F : ∀ (w : World) (mg : Str → Option Value) (fa : Addr) (h : Heap), (K w.params).In h → h.Ns mainGlobals mg → mg d.name = some (.ref fa) →
      ∃ fd : FuncData, (∀ (s : Shared) (u : Value), BindsTo s fd ⟨[u], []⟩ [("_law_script", u)]) ∧ ∀ base : Heap, (K w.params).In base → base.Ns mainGlobals mg → FnOk l.prog w (K w.params) mg base CX0 8 fa fd ["_law_script"] (liftF (K w.params, w) gLaw)) :
    PySem.W.WalkO q loose XP YP l.row.toRowW d [] (fun f vs => PySem.call f vs) :=
  L2.walk_of (n := 63) (k := 8) (x := "_law_script") (CX := fun _ => CX0) (sp := fun w => liftF (K w.params, w) gLaw) hn (by decide) hdf ⟨rfl, by decide, by decide⟩ hY F (fun _ _ a ns hl hO hS => law_sp (fun _ _ _ z => z) hS hO) fun _ _ _ _ _ z => z
end MP
open PySem PySem.W PyProof.Rows
set_option maxRecDepth 100000 in
set_option maxHeartbeats 0 in
theorem PySem.Challenge.cw_oftenasked_k09_together_holds : PySem.Challenge.rw_oftenasked_k09_together.Holds := by
  w_on; o_law; k_head; (case hw => w_witness2)
  k_fill
  refine MP.walk (l := PySem.Challenge.rw_oftenasked_k09_together) rfl rfl (fun w h Y => PySem.W.kIn_of Y) ?F
  case F =>
    intro w mg fa h KX G hmg
    refine' MP.all_mk KX G hmg (MP.DefIn.of ?a0 ?l0 ?c0 ?p0) (MP.DefIn.of ?a1 ?l1 ?c1 ?p1) (MP.DefIn.of ?a2 ?l2 ?c2 ?p2) (MP.DefIn.of ?a3 ?l3 ?c3 ?p3) (MP.DefIn.of ?a4 ?l4 ?c4 ?p4) (MP.DefIn.of ?a5 ?l5 ?c5 ?p5) (MP.DefIn.of ?a6 ?l6 ?c6 ?p6) (MP.DefIn.of ?a7 ?l7 ?c7 ?p7) (MP.DefIn.of ?a8 ?l8 ?c8 ?p8) (MP.DefIn.of ?a9 ?l9 ?c9 ?p9) (MP.DefIn.of ?a10 ?l10 ?c10 ?p10) (MP.DefIn.of ?a11 ?l11 ?c11 ?p11) (MP.DefIn.of ?a12 ?l12 ?c12 ?p12) (MP.DefIn.of ?a13 ?l13 ?c13 ?p13) (MP.DefIn.of ?a14 ?l14 ?c14 ?p14) (MP.DefIn.of ?a15 ?l15 ?c15 ?p15) (MP.DefIn.of ?a16 ?l16 ?c16 ?p16) (MP.DefIn.of ?a17 ?l17 ?c17 ?p17) (MP.DefIn.of ?a18 ?l18 ?c18 ?p18) (MP.DefIn.of ?a19 ?l19 ?c19 ?p19) (MP.DefIn.of ?a20 ?l20 ?c20 ?p20) (MP.DefIn.of ?a21 ?l21 ?c21 ?p21) (MP.DefIn.of ?a22 ?l22 ?c22 ?p22) (MP.DefIn.of ?a23 ?l23 ?c23 ?p23) (MP.DefIn.of ?a24 ?l24 ?c24 ?p24) (MP.DefIn.of ?a25 ?l25 ?c25 ?p25) (MP.DefIn.of ?a26 ?l26 ?c26 ?p26) (MP.DefIn.of ?a27 ?l27 ?c27 ?p27) (MP.DefIn.of ?a28 ?l28 ?c28 ?p28) (MP.DefIn.of ?a29 ?l29 ?c29 ?p29) (MP.DefIn.of ?a30 ?l30 ?c30 ?p30) (MP.DefIn.of ?a31 ?l31 ?c31 ?p31) (MP.DefIn.of ?a32 ?l32 ?c32 ?p32) (MP.DefIn.of ?a33 ?l33 ?c33 ?p33) (MP.DefIn.of ?a34 ?l34 ?c34 ?p34) ?k0 ?e0 ?k1 ?k2 ?k3 ?k4 ?z0 ?z1 ?z2 ?z3 ?z4 ?z5 ?z6 ?z7 ?z8 ?z9 ?z10 ?z11 ?z12 ?z13 ?z14 ?z15 ?z16
    (case a0 => k_is)
    (case l0 => k_is)
    (case c0 => k_is)
    (case p0 => k_is)
    (case a1 => k_is)
    (case l1 => k_is)
    (case c1 => k_is)
    (case p1 => k_is)
    (case a2 => k_is)
    (case l2 => k_is)
    (case c2 => k_is)
    (case p2 => k_is)
    (case a3 => k_is)
    (case l3 => k_is)
    (case c3 => k_is)
    (case p3 => k_is)
    (case a4 => k_is)
    (case l4 => k_is)
    (case c4 => k_is)
    (case p4 => k_is)
    (case a5 => k_is)
    (case l5 => k_is)
    (case c5 => k_is)
    (case p5 => k_is)
    (case a6 => k_is)
    (case l6 => k_is)
    (case c6 => k_is)
    (case p6 => k_is)
    (case a7 => k_is)
    (case l7 => k_is)
    (case c7 => k_is)
    (case p7 => k_is)
    (case a8 => k_is)
    (case l8 => k_is)
    (case c8 => k_is)
    (case p8 => k_is)
    (case a9 => k_is)
    (case l9 => k_is)
    (case c9 => k_is)
    (case p9 => k_is)
    (case a10 => k_is)
    (case l10 => k_is)
    (case c10 => k_is)
    (case p10 => k_is)
    (case a11 => k_is)
    (case l11 => k_is)
    (case c11 => k_is)
    (case p11 => k_is)
    (case a12 => k_is)
    (case l12 => k_is)
    (case c12 => k_is)
    (case p12 => k_is)
    (case a13 => k_is)
    (case l13 => k_is)
    (case c13 => k_is)
    (case p13 => k_is)
    (case a14 => k_is)
    (case l14 => k_is)
    (case c14 => k_is)
    (case p14 => k_is)
    (case a15 => k_is)
    (case l15 => k_is)
    (case c15 => k_is)
    (case p15 => k_is)
    (case a16 => k_is)
    (case l16 => k_is)
    (case c16 => k_is)
    (case p16 => k_is)
    (case a17 => k_is)
    (case l17 => k_is)
    (case c17 => k_is)
    (case p17 => k_is)
    (case a18 => k_is)
    (case l18 => k_is)
    (case c18 => k_is)
    (case p18 => k_is)
    (case a19 => k_is)
    (case l19 => k_is)
    (case c19 => k_is)
    (case p19 => k_is)
    (case a20 => k_is)
    (case l20 => k_is)
    (case c20 => k_is)
    (case p20 => k_is)
    (case a21 => k_is)
    (case l21 => k_is)
    (case c21 => k_is)
    (case p21 => k_is)
    (case a22 => k_is)
    (case l22 => k_is)
    (case c22 => k_is)
    (case p22 => k_is)
    (case a23 => k_is)
    (case l23 => k_is)
    (case c23 => k_is)
    (case p23 => k_is)
    (case a24 => k_is)
    (case l24 => k_is)
    (case c24 => k_is)
    (case p24 => k_is)
    (case a25 => k_is)
    (case l25 => k_is)
    (case c25 => k_is)
    (case p25 => k_is)
    (case a26 => k_is)
    (case l26 => k_is)
    (case c26 => k_is)
    (case p26 => k_is)
    (case a27 => k_is)
    (case l27 => k_is)
    (case c27 => k_is)
    (case p27 => k_is)
    (case a28 => k_is)
    (case l28 => k_is)
    (case c28 => k_is)
    (case p28 => k_is)
    (case a29 => k_is)
    (case l29 => k_is)
    (case c29 => k_is)
    (case p29 => k_is)
    (case a30 => k_is)
    (case l30 => k_is)
    (case c30 => k_is)
    (case p30 => k_is)
    (case a31 => k_is)
    (case l31 => k_is)
    (case c31 => k_is)
    (case p31 => k_is)
    (case a32 => k_is)
    (case l32 => k_is)
    (case c32 => k_is)
    (case p32 => k_is)
    (case a33 => k_is)
    (case l33 => k_is)
    (case c33 => k_is)
    (case p33 => k_is)
    (case a34 => k_is)
    (case l34 => k_is)
    (case c34 => k_is)
    (case p34 => k_is)
    (case k0 => k_is)
    (case e0 => rfl)
    (case k1 => k_is)
    (case k2 => k_is)
    (case k3 => k_is)
    (case k4 => k_is)
    (case z0 => k_is)
    (case z1 => k_is)
    (case z2 => k_is)
    (case z3 => k_is)
    (case z4 => k_is)
    (case z5 => k_is)
    (case z6 => k_is)
    (case z7 => k_is)
    (case z8 => k_is)
    (case z9 => k_is)
    (case z10 => k_is)
    (case z11 => k_is)
    (case z12 => k_is)
    (case z13 => k_is)
    (case z14 => k_is)
    (case z15 => k_is)
    (case z16 => k_is)
#print axioms PySem.Challenge.cw_oftenasked_k09_together_holds

