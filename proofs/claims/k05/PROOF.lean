import PyProof.Rows.All
import Wide.All
import OpenK.AllK
import Wide.FinOn
import HandS.ForMost
import HandS.TupAny
import HandS.IsInst
import HandS.Deep
import HandS.TupLe
import HandS.Zip
import HandS.Codes
import HandS.Wide
import HandS.Conv
import HandS.SortRule
import HandS.SortInts
import HandS.Strs
import HandS.Comp
import KE.GoesMore
import HandS.ClsMeth
import KE.KAssignIn
import HandS.Defaults
import HandS.SetFor
import HandS.HeadHook4
import PySem.Challenge.RW_rightsward_k05_applies_and_reasons
import KE.KStateDown
import HandS.Ends
import HandS.Head0
import HandS.Head1
import HandS.Head2
import HandS.HeadEnd
import HandS.HeadHook1
import HandS.HeadHook2
set_option Elab.async false
set_option linter.all false
set_option maxRecDepth 100000
set_option maxHeartbeats 4000000
/-! DL: a layer of values without addresses over the abstract heap. -/
namespace DL
open PySem L2

inductive Val where
  | non | bl (b : Bool) | int (i : Int) | str (x : Str) | tup (xs : List Val) | loc (n : Nat) | adr (a : Addr) | ty (n : String) | rol (xs : List Val)

/-- what may change: lists, instances -/
inductive Cell where
  | lst (xs : List Val) | obj (C : Addr) (fs : List (Str × Val))

abbrev Store := List Cell
abbrev Slots := List (Option Val)
abbrev DK := Val → Store → Prop

/-- a list that nobody writes: known to the object, or of the module -/
def SqR (K : PySem.W.Frag) (H : Hp) (a : Addr) (xs : List V) : Prop := (∃ o, H a = some (.frz o (.lst xs))) ∨ SqL K (fun _ => none) a xs
theorem SqR.sq {K : PySem.W.Frag} {H : Hp} {a : Addr} {xs : List V} (h : SqR K H a xs) : SqL K H a xs := by
  rcases h with ⟨o, h⟩ | (h | ⟨o, h⟩) | h
  · exact .inl (.inr ⟨o, h⟩)
  · cases h
  · cases h
  · exact .inr h
mutual
def RV (K : PySem.W.Frag) (ρ : List Addr) (H : Hp) : Val → V → Prop
  | .non, x => x = .non
  | .bl b, x => x = .bl b
  | .int i, x => x = .int i
  | .str s, x => x = .str s
  | .loc n, x => ∃ a, ρ[n]? = some a ∧ x = .ref a
  | .adr a, x => x = .ref a
  | .ty n, x => x = .ty n
  | .tup ds, x => ∃ a xs, x = .ref a ∧ SqT K H a xs ∧ xs.length ≤ sizeLine ∧ RVs K ρ H ds xs
  | .rol ds, x => ∃ a xs, x = .ref a ∧ SqR K H a xs ∧ xs.length ≤ sizeLine ∧ RVs K ρ H ds xs
def RVs (K : PySem.W.Frag) (ρ : List Addr) (H : Hp) : List Val → List V → Prop
  | [], xs => xs = []
  | d :: ds, xs => ∃ y ys, xs = y :: ys ∧ RV K ρ H d y ∧ RVs K ρ H ds ys
end

/-- from one heap to a later one: the store's addresses stay, new ones were free, what is not the store's stays -/
structure Step (K : PySem.W.Frag) (ρ ρ' : List Addr) (H H' : Hp) : Prop where
  pre : ∀ (n : Nat) (a : Addr), ρ[n]? = some a → ρ'[n]? = some a
  fresh : ∀ a : Addr, a ∈ ρ' → a ∈ ρ ∨ H a = none
  keep : ∀ (a : Addr) (o : HO), H a = some o → a ∉ ρ → H' a = some o
  tup : ∀ (a : Addr) (xs : List V), SqT K H a xs → SqT K H' a xs
  rol : ∀ (a : Addr) (xs : List V), SqR K H a xs → SqR K H' a xs

theorem Step.refl {K : PySem.W.Frag} {ρ : List Addr} {H : Hp} : Step K ρ ρ H H :=
  ⟨fun _ _ h => h, fun _ h => .inl h, fun _ _ h _ => h, fun _ _ h => h, fun _ _ h => h⟩
theorem Step.trans {K : PySem.W.Frag} {ρ ρ1 ρ2 : List Addr} {H H1 H2 : Hp} (a : Step K ρ ρ1 H H1) (b : Step K ρ1 ρ2 H1 H2) : Step K ρ ρ2 H H2 where
  pre := fun n x h => b.pre n x (a.pre n x h)
  fresh := fun x h => by
    rcases b.fresh x h with h1 | h1
    · exact a.fresh x h1
    · by_cases hx : x ∈ ρ
      · exact .inl hx
      · refine .inr ?_
        cases e : H x with
        | none => rfl
        | some o => rw [a.keep x o e hx] at h1; cases h1
  keep := fun x o h hx => b.keep x o (a.keep x o h hx) fun h1 => by
    rcases a.fresh x h1 with h2 | h2
    · exact hx h2
    · rw [h] at h2; cases h2
  tup := fun x xs h => b.tup x xs (a.tup x xs h)
  rol := fun x xs h => b.rol x xs (a.rol x xs h)

mutual
theorem RV.mono {K : PySem.W.Frag} {ρ ρ' : List Addr} {H H' : Hp} (s : Step K ρ ρ' H H') : ∀ {d : Val} {x : V}, RV K ρ H d x → RV K ρ' H' d x
  | .non, _, h => h
  | .bl _, _, h => h
  | .int _, _, h => h
  | .str _, _, h => h
  | .adr _, _, h => h
  | .ty _, _, h => h
  | .loc n, x, h => by
    obtain ⟨a, h1, h2⟩ := h
    exact ⟨a, s.pre n a h1, h2⟩
  | .tup ds, x, h => by
    obtain ⟨a, xs, h1, h2, h3, h4⟩ := h
    exact ⟨a, xs, h1, s.tup a xs h2, h3, RVs.mono s h4⟩
  | .rol ds, x, h => by
    obtain ⟨a, xs, h1, h2, h3, h4⟩ := h
    exact ⟨a, xs, h1, s.rol a xs h2, h3, RVs.mono s h4⟩
theorem RVs.mono {K : PySem.W.Frag} {ρ ρ' : List Addr} {H H' : Hp} (s : Step K ρ ρ' H H') : ∀ {ds : List Val} {xs : List V}, RVs K ρ H ds xs → RVs K ρ' H' ds xs
  | [], _, h => h
  | d :: ds, xs, h => by
    obtain ⟨y, ys, h1, h2, h3⟩ := h
    exact ⟨y, ys, h1, RV.mono s h2, RVs.mono s h3⟩
end

section
variable {K : PySem.W.Frag} {ρ : List Addr} {H : Hp}
theorem RVs.len : ∀ {ds : List Val} {xs : List V}, RVs K ρ H ds xs → xs.length = ds.length
  | [], xs, h => by
    have e : xs = [] := h
    subst e
    rfl
  | d :: ds, xs, h => by
    obtain ⟨y, ys, rfl, _, h3⟩ := h
    simp only [List.length_cons, RVs.len h3]
theorem RVs.get : ∀ {ds : List Val} {xs : List V} {i : Nat} {d : Val}, RVs K ρ H ds xs → ds[i]? = some d → ∃ x, xs[i]? = some x ∧ RV K ρ H d x
  | [], xs, i, d, h, e => by simp at e
  | d' :: ds, xs, 0, d, h, e => by
    obtain ⟨y, ys, rfl, h2, h3⟩ := h
    simp at e
    subst e
    exact ⟨y, rfl, h2⟩
  | d' :: ds, xs, i + 1, d, h, e => by
    obtain ⟨y, ys, rfl, h2, h3⟩ := h
    obtain ⟨x, e1, r⟩ := RVs.get (i := i) (d := d) h3 (by simpa using e)
    exact ⟨x, by simpa using e1, r⟩
theorem RVs.get' {ds : List Val} {xs : List V} {i : Nat} {x : V} (h : RVs K ρ H ds xs) (e : xs[i]? = some x) : ∃ d, ds[i]? = some d ∧ RV K ρ H d x := by
  have hl := h.len
  have hi : i < ds.length := by
    have := (List.getElem?_eq_some_iff.mp e).1
    omega
  obtain ⟨y, e1, r⟩ := h.get (i := i) (d := ds[i]) (List.getElem?_eq_getElem hi)
  rw [e] at e1
  cases e1
  exact ⟨_, List.getElem?_eq_getElem hi, r⟩
theorem RVs.app : ∀ {ds es : List Val} {xs ys : List V}, RVs K ρ H ds xs → RVs K ρ H es ys → RVs K ρ H (ds ++ es) (xs ++ ys)
  | [], es, xs, ys, h, h' => by
    have e : xs = [] := h
    subst e
    exact h'
  | d :: ds, es, xs, ys, h, h' => by
    obtain ⟨y, zs, rfl, h2, h3⟩ := h
    exact ⟨y, zs ++ ys, rfl, h2, RVs.app h3 h'⟩
theorem RVs.one {d : Val} {x : V} (h : RV K ρ H d x) : RVs K ρ H [d] [x] := ⟨x, [], rfl, h, rfl⟩
theorem RVs.drop : ∀ {ds : List Val} {xs : List V} (n : Nat), RVs K ρ H ds xs → RVs K ρ H (ds.drop n) (xs.drop n)
  | ds, xs, 0, h => h
  | [], xs, n + 1, h => by
    have e : xs = [] := h
    subst e
    exact rfl
  | d :: ds, xs, n + 1, h => by
    obtain ⟨y, zs, rfl, h2, h3⟩ := h
    exact RVs.drop n h3
theorem RVs.take : ∀ {ds : List Val} {xs : List V} (n : Nat), RVs K ρ H ds xs → RVs K ρ H (ds.take n) (xs.take n)
  | ds, xs, 0, h => rfl
  | [], xs, n + 1, h => by
    have e : xs = [] := h
    subst e
    exact rfl
  | d :: ds, xs, n + 1, h => by
    obtain ⟨y, zs, rfl, h2, h3⟩ := h
    exact ⟨y, zs.take n, rfl, h2, RVs.take n h3⟩
theorem RVs.set : ∀ {ds : List Val} {xs : List V} (i : Nat) {d : Val} {x : V}, RVs K ρ H ds xs → RV K ρ H d x → RVs K ρ H (ds.set i d) (xs.set i x)
  | [], xs, i, d, x, h, r => by
    have e : xs = [] := h
    subst e
    exact rfl
  | d' :: ds, xs, 0, d, x, h, r => by
    obtain ⟨y, zs, rfl, h2, h3⟩ := h
    exact ⟨x, zs, rfl, r, h3⟩
  | d' :: ds, xs, i + 1, d, x, h, r => by
    obtain ⟨y, zs, rfl, h2, h3⟩ := h
    exact ⟨y, zs.set i x, rfl, h2, RVs.set i h3 r⟩
theorem RVs.erase : ∀ {ds : List Val} {xs : List V} (i : Nat), RVs K ρ H ds xs → RVs K ρ H (ds.eraseIdx i) (xs.eraseIdx i)
  | [], xs, i, h => by
    have e : xs = [] := h
    subst e
    exact rfl
  | d' :: ds, xs, 0, h => by
    obtain ⟨y, zs, rfl, h2, h3⟩ := h
    exact h3
  | d' :: ds, xs, i + 1, h => by
    obtain ⟨y, zs, rfl, h2, h3⟩ := h
    exact ⟨y, zs.eraseIdx i, rfl, h2, RVs.erase i h3⟩
theorem RVs.ints : ∀ {ns : List Int} {xs : List V}, RVs K ρ H (ns.map Val.int) xs ↔ xs = ns.map V.int
  | [], xs => Iff.rfl
  | n :: ns, xs => by
    constructor
    · rintro ⟨y, ys, rfl, h2, h3⟩
      have e : y = V.int n := h2
      have e2 := RVs.ints.mp h3
      subst e e2
      rfl
    · intro h
      subst h
      exact ⟨.int n, ns.map V.int, rfl, rfl, RVs.ints.mpr rfl⟩
theorem RVs.nil_iff {ds : List Val} {xs : List V} (h : RVs K ρ H ds xs) : xs = [] ↔ ds = [] := by
  have hl := h.len
  constructor
  · intro e
    subst e
    exact List.length_eq_zero_iff.mp hl.symm
  · intro e
    subst e
    exact h
end

/-- a cell stands at its address -/
def RC (K : PySem.W.Frag) (ρ : List Addr) (H : Hp) (a : Addr) : Cell → Prop
  | .lst ds => ∃ xs, H a = some (.lst xs) ∧ xs.length ≤ sizeLine ∧ RVs K ρ H ds xs
  | .obj C fs => ∃ dx xs, H a = some (.ins C dx xs) ∧ xs.map Prod.fst = fs.map Prod.fst ∧ RVs K ρ H (fs.map Prod.snd) (xs.map Prod.snd)

/-- the store as it stands at its addresses -/
structure Rst (K : PySem.W.Frag) (ρ : List Addr) (H : Hp) (st : Store) : Prop where
  len : ρ.length = st.length
  nd : ρ.Nodup
  cells : ∀ (n : Nat) (a : Addr) (c : Cell), ρ[n]? = some a → st[n]? = some c → RC K ρ H a c

structure Ren (K : PySem.W.Frag) (ρ : List Addr) (σ : L2.St) (H : Hp) (env : Slots) : Prop where
  len : σ.length = env.length
  at_ : ∀ (i : Nat) (d : Val), env[i]? = some (some d) → ∃ x : V, σ[i]? = some (some x) ∧ RV K ρ H d x

theorem Ren.mono {K : PySem.W.Frag} {ρ ρ' : List Addr} {σ : L2.St} {H H' : Hp} {env : Slots} (s : Step K ρ ρ' H H') (r : Ren K ρ σ H env) : Ren K ρ' σ H' env :=
  ⟨r.len, fun i d h => let ⟨x, e, q⟩ := r.at_ i d h; ⟨x, e, q.mono s⟩⟩
theorem Ren.set {K : PySem.W.Frag} {ρ : List Addr} {σ : L2.St} {H : Hp} {env : Slots} {i : Nat} {d : Val} {x : V} (r : Ren K ρ σ H env) (h : RV K ρ H d x) : Ren K ρ (σ.set i (some x)) H (env.set i (some d)) where
  len := by simpa using r.len
  at_ := fun j e h1 => by
    by_cases hj : i = j
    · subst hj
      by_cases hi : i < env.length
      · rw [List.getElem?_set_self hi] at h1
        cases h1
        exact ⟨x, List.getElem?_set_self (by rw [r.len]; exact hi), h⟩
      · rw [List.getElem?_eq_none (by rw [List.length_set]; omega)] at h1
        cases h1
    · rw [List.getElem?_set_ne hj] at h1
      obtain ⟨y, e1, q⟩ := r.at_ j e h1
      exact ⟨y, by rw [List.getElem?_set_ne hj]; exact e1, q⟩

/-! ### lifts -/
abbrev WE := Slots → Store → DK → Prop
abbrev WT := Slots → Store → (Bool → Store → Prop) → Prop
abbrev WA := Slots → Store → (List Val → Store → Prop) → Prop
structure DEnds where
  nx : Slots → Store → Prop
  rt : DK
  bk : Slots → Store → Prop := fun _ _ => False
  ct : Slots → Store → Prop := fun _ _ => False
abbrev WS := DEnds → Slots → Store → Prop

/-- what follows a value -/
def AfV (K : PySem.W.Frag) (ρ : List Addr) (H : Hp) (P : DK) (Q : VK) : Prop :=
  ∀ d st', P d st' → ∀ ρ' H' x, Step K ρ ρ' H H' → Rst K ρ' H' st' → RV K ρ' H' d x → Q x H'
def AfB (K : PySem.W.Frag) (ρ : List Addr) (H : Hp) (P : Bool → Store → Prop) (Q : Bool → Hp → Prop) : Prop :=
  ∀ b st', P b st' → ∀ ρ' H', Step K ρ ρ' H H' → Rst K ρ' H' st' → Q b H'
def AfA (K : PySem.W.Frag) (ρ : List Addr) (H : Hp) (P : List Val → Store → Prop) (Q : List V → Hp → Prop) : Prop :=
  ∀ ds st', P ds st' → ∀ ρ' H' xs, Step K ρ ρ' H H' → Rst K ρ' H' st' → RVs K ρ' H' ds xs → Q xs H'
def AfS (K : PySem.W.Frag) (ρ : List Addr) (H : Hp) (P : Slots → Store → Prop) (Q : L2.St → Hp → Prop) : Prop :=
  ∀ env' st', P env' st' → ∀ ρ' σ' H', Step K ρ ρ' H H' → Rst K ρ' H' st' → Ren K ρ' σ' H' env' → Q σ' H'

theorem AfV.go {K : PySem.W.Frag} {ρ ρ1 : List Addr} {H H1 : Hp} {P : DK} {Q : VK} (s : Step K ρ ρ1 H H1) (h : AfV K ρ H P Q) : AfV K ρ1 H1 P Q :=
  fun d st' p ρ' H' x s' r v => h d st' p ρ' H' x (s.trans s') r v
theorem AfB.go {K : PySem.W.Frag} {ρ ρ1 : List Addr} {H H1 : Hp} {P : Bool → Store → Prop} {Q : Bool → Hp → Prop} (s : Step K ρ ρ1 H H1) (h : AfB K ρ H P Q) : AfB K ρ1 H1 P Q :=
  fun d st' p ρ' H' s' r => h d st' p ρ' H' (s.trans s') r
theorem AfA.go {K : PySem.W.Frag} {ρ ρ1 : List Addr} {H H1 : Hp} {P : List Val → Store → Prop} {Q : List V → Hp → Prop} (s : Step K ρ ρ1 H H1) (h : AfA K ρ H P Q) : AfA K ρ1 H1 P Q :=
  fun d st' p ρ' H' x s' r v => h d st' p ρ' H' x (s.trans s') r v
theorem AfS.go {K : PySem.W.Frag} {ρ ρ1 : List Addr} {H H1 : Hp} {P : Slots → Store → Prop} {Q : L2.St → Hp → Prop} (s : Step K ρ ρ1 H H1) (h : AfS K ρ H P Q) : AfS K ρ1 H1 P Q :=
  fun d st' p ρ' σ' H' s' r v => h d st' p ρ' σ' H' (s.trans s') r v
/-- back at the same place -/
theorem AfV.here {K : PySem.W.Frag} {ρ : List Addr} {H : Hp} {P : DK} {Q : VK} {st : Store} {d : Val} {x : V} (h : AfV K ρ H P Q) (p : P d st) (r : Rst K ρ H st) (v : RV K ρ H d x) : Q x H :=
  h d st p ρ H x .refl r v

def liftE (K : PySem.W.Frag) (w : WE) : TE := fun σ H Q => ∃ ρ env st P, Rst K ρ H st ∧ Ren K ρ σ H env ∧ w env st P ∧ AfV K ρ H P Q
def liftT (K : PySem.W.Frag) (w : WT) : TT := fun σ H Q => ∃ ρ env st P, Rst K ρ H st ∧ Ren K ρ σ H env ∧ w env st P ∧ AfB K ρ H P Q
def liftA (K : PySem.W.Frag) (w : WA) : TA := fun σ H Q => ∃ ρ env st P, Rst K ρ H st ∧ Ren K ρ σ H env ∧ w env st P ∧ AfA K ρ H P Q
structure AfD (K : PySem.W.Frag) (ρ : List Addr) (H : Hp) (E : DEnds) (D : Ends) : Prop where
  nx : AfS K ρ H E.nx D.nx
  rt : AfV K ρ H E.rt D.rt
  bk : AfS K ρ H E.bk D.bk
  ct : AfS K ρ H E.ct D.ct
theorem AfD.go {K : PySem.W.Frag} {ρ ρ1 : List Addr} {H H1 : Hp} {E : DEnds} {D : Ends} (s : Step K ρ ρ1 H H1) (h : AfD K ρ H E D) : AfD K ρ1 H1 E D :=
  ⟨h.nx.go s, h.rt.go s, h.bk.go s, h.ct.go s⟩
def liftS (K : PySem.W.Frag) (w : WS) : TS := fun D σ H => ∃ ρ env st E, Rst K ρ H st ∧ Ren K ρ σ H env ∧ w E env st ∧ AfD K ρ H E D

abbrev DE (X : Cx) (e : Expr) (w : WE) : Prop := PE X e (liftE X.K w)
abbrev DT (X : Cx) (e : Expr) (w : WT) : Prop := PT X e (liftT X.K w)
abbrev DW (X : Cx) (e : Expr) (w : WT) : Prop := PW X e (liftT X.K w)
abbrev DA (X : Cx) (es : List Expr) (w : WA) : Prop := PA X es (liftA X.K w)
abbrev DS (X : Cx) (s : Stmt) (w : WS) : Prop := PS X s (liftS X.K w)
abbrev DSs (X : Cx) (ss : List Stmt) (w : WS) : Prop := PSs X ss (liftS X.K w)

theorem peImp {X : Cx} {e : Expr} {t t' : TE} (h : PE X e t) (i : ∀ σ H Q, t' σ H Q → t σ H Q) : PE X e t' := ⟨fun pins s σ H Q I q => h.run pins s σ H Q I (i σ H Q q)⟩
theorem ptImp {X : Cx} {e : Expr} {t t' : TT} (h : PT X e t) (i : ∀ σ H Q, t' σ H Q → t σ H Q) : PT X e t' := ⟨fun pins s σ H Q I q => h.run pins s σ H Q I (i σ H Q q)⟩
theorem pwImp {X : Cx} {e : Expr} {t t' : TT} (h : PW X e t) (i : ∀ σ H Q, t' σ H Q → t σ H Q) : PW X e t' := ⟨fun wh pins s σ H Q I q => h.run wh pins s σ H Q I (i σ H Q q)⟩
theorem paImp {X : Cx} {es : List Expr} {t t' : TA} (h : PA X es t) (i : ∀ σ H Q, t' σ H Q → t σ H Q) : PA X es t' := ⟨fun pos pins s σ H Q I q => h.run pos pins s σ H Q I (i σ H Q q)⟩
theorem psImp {X : Cx} {e : Stmt} {t t' : TS} (h : PS X e t) (i : ∀ D σ H, t' D σ H → t D σ H) : PS X e t' := ⟨fun pins s σ H D I q => h.run pins s σ H D I (i D σ H q)⟩
theorem pssImp {X : Cx} {e : List Stmt} {t t' : TS} (h : PSs X e t) (i : ∀ D σ H, t' D σ H → t D σ H) : PSs X e t' := ⟨fun pins s σ H D I q => h.run pins s σ H D I (i D σ H q)⟩

/-! ### names, constants -/
def wVar (i : Nat) : WE := fun env st Q => match env[i]? with
  | some (some d) => Q d st
  | _ => False
def wC (d : Val) : WE := fun _ st Q => Q d st
section
variable {X : Cx} {a b c : Expr} {wa wb wc : WE} {pos : Pos}
theorem d_var (i : Nat) {x : Str} (hN : X.N[i]? = some x := by rfl) (hv : Vis X.env.scope x := by first | exact Or.inl rfl | exact Or.inr (Or.inl rfl) | exact Or.inr (Or.inr rfl)) (hd : (x == ("__debug__" : Str)) = false := by decide)
    (hcd : (x == ("__classdict__" : Str)) = false := by decide) : DE X (.Name x pos) (wVar i) := by
  refine peImp (pe_var hN hv hd hcd) fun σ H Q h => ?_
  obtain ⟨ρ, env, st, P, R, N, w, k⟩ := h
  unfold wVar at w
  split at w
  · rename_i d e
    obtain ⟨x, e1, r⟩ := N.at_ i d e
    exact ⟨x, e1, k.here w R r⟩
  · exact w.elim
theorem d_c {t : TE} {d : Val} {v : V} (h : PE X a (tC v)) (hr : ∀ K ρ H, RV K ρ H d v) : DE X a (wC d) := by
  refine peImp h fun σ H Q h => ?_
  obtain ⟨ρ, env, st, P, R, N, w, k⟩ := h
  exact k.here w R (hr _ _ _)
theorem d_int {i j pos} : DE X (.Constant (.int i) j pos) (wC (.int i)) := d_c (t := tC (.int i)) pe_int fun _ _ _ => rfl
theorem d_bl {b j pos} : DE X (.Constant (.bool b) j pos) (wC (.bl b)) := d_c (t := tC (.bl b)) pe_bl fun _ _ _ => rfl
theorem d_non {j pos} : DE X (.Constant .none j pos) (wC .non) := d_c (t := tC .non) pe_non fun _ _ _ => rfl
theorem d_str {x j pos} : DE X (.Constant (.str x) j pos) (wC (.str x)) := d_c (t := tC (.str x)) pe_str fun _ _ _ => rfl
/-- a constant of the module -/
theorem d_glob {x : Str} {d : Val} {v : V} {u : Value} {pos : Pos} (hg : Gl X x) (hm : X.mg x = some u) (r : RelV v u) (hr : ∀ ρ H, RV X.K ρ H d v) (hd : (x == ("__debug__" : Str)) = false := by decide) : DE X (.Name x pos) (wC d) := by
  refine peImp (pe_glob hg hm r hd) fun σ H Q h => ?_
  obtain ⟨ρ, env, st, P, R, N, w, k⟩ := h
  exact k.here w R (hr _ _)

/-! ### operators -/
def wBin (o : Val → Val → Store → DK → Prop) (wa wb : WE) : WE := fun env st Q => wa env st fun x st1 => wb env st1 fun y st2 => o x y st2 Q
def wUn (o : Val → Store → DK → Prop) (wa : WE) : WE := fun env st Q => wa env st fun x st1 => o x st1 Q
def liftO (K : PySem.W.Frag) (o : Val → Val → Store → DK → Prop) : R2 := fun x y H Q => ∃ ρ st d e P, Rst K ρ H st ∧ RV K ρ H d x ∧ RV K ρ H e y ∧ o d e st P ∧ AfV K ρ H P Q
def liftU (K : PySem.W.Frag) (o : Val → Store → DK → Prop) : V → Hp → VK → Prop := fun x H Q => ∃ ρ st d P, Rst K ρ H st ∧ RV K ρ H d x ∧ o d st P ∧ AfV K ρ H P Q
def liftC (K : PySem.W.Frag) (o : List Val → Store → DK → Prop) : List V → Hp → VK → Prop := fun xs H Q => ∃ ρ st ds P, Rst K ρ H st ∧ RVs K ρ H ds xs ∧ o ds st P ∧ AfV K ρ H P Q

theorem bin_lift {o : Val → Val → Store → DK → Prop} {σ : L2.St} {H : Hp} {Q : VK} (h : liftE X.K (wBin o wa wb) σ H Q) : tOp (liftO X.K o) (liftE X.K wa) (liftE X.K wb) σ H Q := by
  obtain ⟨ρ, env, st, P, R, N, w, k⟩ := h
  refine ⟨ρ, env, st, _, R, N, w, fun d1 st1 p1 ρ1 H1 x1 s1 R1 r1 => ?_⟩
  refine ⟨ρ1, env, st1, _, R1, N.mono s1, p1, fun d2 st2 p2 ρ2 H2 x2 s2 R2 r2 => ?_⟩
  exact ⟨ρ2, st2, d1, d2, P, R2, r1.mono s2, r2, p2, k.go (s1.trans s2)⟩
theorem d_bin {op : Operator} {o : Val → Val → Store → DK → Prop} (ho : OpR X (binaryOp op) (liftO X.K o)) (ha : DE X a wa) (hb : DE X b wb) : DE X (.BinOp a op b pos) (wBin o wa wb) :=
  peImp (pe_op ho ha hb) fun _ _ _ h => bin_lift h
theorem d_un {op : UnaryOp} {o : Val → Store → DK → Prop} (ho : UnR X (unaryOp op) (liftU X.K o)) (ha : DE X a wa) : DE X (.UnaryOp op a pos) (wUn o wa) := by
  refine peImp (pe_un ho ha) fun σ H Q h => ?_
  obtain ⟨ρ, env, st, P, R, N, w, k⟩ := h
  refine ⟨ρ, env, st, _, R, N, w, fun d1 st1 p1 ρ1 H1 x1 s1 R1 r1 => ?_⟩
  exact ⟨ρ1, st1, d1, P, R1, r1, p1, k.go s1⟩
theorem d_cmp {op : CmpOp} {o : Val → Val → Store → DK → Prop} (ho : OpR X (compareOp op) (liftO X.K o)) (ha : DE X a wa) (hb : DE X b wb) (hm : behindInMarks op b = false) : DE X (.Compare a [op] [b] pos) (wBin o wa wb) :=
  peImp (pe_cmpR ho ha hb hm) fun _ _ _ h => bin_lift h
def wTest (w : WE) : WT := fun env st Q => w env st fun d st1 => match d with
  | .bl b => Q b st1
  | _ => False
theorem test_lift {σ : L2.St} {H : Hp} {Q : Bool → Hp → Prop} {w : WE} (h : liftT X.K (wTest w) σ H Q) : tTest (liftE X.K w) σ H Q := by
  obtain ⟨ρ, env, st, P, R, N, w, k⟩ := h
  refine ⟨ρ, env, st, _, R, N, w, fun d1 st1 p1 ρ1 H1 x1 s1 R1 r1 => ?_⟩
  cases d1 with
  | bl b => exact ⟨b, r1, k b st1 p1 ρ1 H1 s1 R1⟩
  | _ => exact p1.elim
theorem dt_cmp {op : CmpOp} {o : Val → Val → Store → DK → Prop} (ho : OpR X (compareOp op) (liftO X.K o)) (ha : DE X a wa) (hb : DE X b wb) (hm : behindInMarks op b = false) : DT X (.Compare a [op] [b] pos) (wTest (wBin o wa wb)) :=
  ptImp (pt_cmpR ho ha hb hm) fun σ H Q h => by
    have h2 := test_lift h
    obtain ⟨ρ, env, st, P, R, N, w, k⟩ := h2
    exact bin_lift ⟨ρ, env, st, P, R, N, w, k⟩
theorem dt_val {w : WE} (h : DE X a w) (he : ∀ whole, isTrue a X.env whole = (do let v ← whole; standAt a.pos; holding [v] (truthy v)) := by intro _; rfl) : DT X a (wTest w) :=
  ptImp (pt_val h he) fun _ _ _ h => test_lift h
def wChain (o o' : Val → Val → Store → DK → Prop) (wa wb wc : WE) : WE := fun env st Q => wa env st fun x st1 => wb env st1 fun y st2 => o x y st2 fun z st3 => match z with
  | .bl true => wc env st3 fun u st4 => o' y u st4 Q
  | .bl false => Q (.bl false) st3
  | _ => False
end
end DL

set_option Elab.async false
set_option linter.all false
set_option maxRecDepth 100000
set_option maxHeartbeats 4000000
namespace DL
open PySem L2

/-! ### the store -/
section
variable {K : PySem.W.Frag} {ρ ρ' : List Addr} {H H' : Hp} {st : Store} {a p : Addr} {o : HO} {xs : List V}
theorem sqT_new (h : H p = none) (q : SqT K H a xs) : SqT K (upd H p o) a xs := by
  rcases q with (q | ⟨ob, q⟩) | q
  · exact .inl (.inl (by rw [upd_ne (ne_of_none q h)]; exact q))
  · exact .inl (.inr ⟨ob, by rw [upd_ne (ne_of_none q h)]; exact q⟩)
  · exact .inr q
theorem sqR_new (h : H p = none) (q : SqR K H a xs) : SqR K (upd H p o) a xs := by
  rcases q with ⟨ob, q⟩ | q
  · exact .inl ⟨ob, by rw [upd_ne (ne_of_none q h)]; exact q⟩
  · exact .inr q
/-- lists, instances -/
def Chg : HO → Prop
  | .lst _ => True
  | .ins _ _ _ => True
  | _ => False
theorem sqT_chg {u : HO} (h : H p = some u) (hu : Chg u) (q : SqT K H a xs) : SqT K (upd H p o) a xs := by
  rcases q with (q | ⟨ob, q⟩) | q
  · refine .inl (.inl ?_)
    rw [upd_ne (fun e => by subst e; rw [h] at q; cases q; exact hu)]
    exact q
  · refine .inl (.inr ⟨ob, ?_⟩)
    rw [upd_ne (fun e => by subst e; rw [h] at q; cases q; exact hu)]
    exact q
  · exact .inr q
theorem sqR_chg {u : HO} (h : H p = some u) (hu : Chg u) (q : SqR K H a xs) : SqR K (upd H p o) a xs := by
  rcases q with ⟨ob, q⟩ | q
  · refine .inl ⟨ob, ?_⟩
    rw [upd_ne (fun e => by subst e; rw [h] at q; cases q; exact hu)]
    exact q
  · exact .inr q
theorem Step.new (h : H p = none) : Step K ρ ρ H (upd H p o) :=
  ⟨fun _ _ e => e, fun _ e => .inl e, fun x u e _ => by rw [upd_ne (ne_of_none e h)]; exact e, fun x ys q => sqT_new h q, fun x ys q => sqR_new h q⟩
theorem Step.alloc (h : H p = none) : Step K ρ (ρ ++ [p]) H (upd H p o) where
  pre := fun n x e => by
    have hn : n < ρ.length := (List.getElem?_eq_some_iff.mp e).1
    rw [List.getElem?_append_left hn]
    exact e
  fresh := fun x e => by
    rcases List.mem_append.mp e with e | e
    · exact .inl e
    · have e2 : x = p := by simpa using e
      subst e2
      exact .inr h
  keep := fun x u e _ => by rw [upd_ne (ne_of_none e h)]; exact e
  tup := fun x ys q => sqT_new h q
  rol := fun x ys q => sqR_new h q
theorem Step.write {u : HO} (hm : p ∈ ρ) (h : H p = some u) (hu : Chg u) : Step K ρ ρ H (upd H p o) :=
  ⟨fun _ _ e => e, fun _ e => .inl e, fun x v e hx => by rw [upd_ne (fun z => by subst z; exact hx hm)]; exact e, fun x ys q => sqT_chg h hu q, fun x ys q => sqR_chg h hu q⟩

/-- a cell whose own object is kept -/
theorem RC.mono {c : Cell} (s : Step K ρ ρ' H H') (h : H' a = H a) (r : RC K ρ H a c) : RC K ρ' H' a c := by
  cases c with
  | lst ds =>
    obtain ⟨xs, e, l, v⟩ := r
    exact ⟨xs, by rw [h]; exact e, l, v.mono s⟩
  | obj C fs =>
    obtain ⟨dx, xs, e, l, v⟩ := r
    exact ⟨dx, xs, by rw [h]; exact e, l, v.mono s⟩
theorem RC.some_of {c : Cell} (r : RC K ρ H a c) : ∃ u, H a = some u ∧ Chg u := by
  cases c with
  | lst ds =>
    obtain ⟨xs, e, l, v⟩ := r
    exact ⟨_, e, trivial⟩
  | obj C fs =>
    obtain ⟨dx, xs, e, l, v⟩ := r
    exact ⟨_, e, trivial⟩
/-- what is not there is not the store's -/
theorem Rst.out (R : Rst K ρ H st) (h : H p = none) : p ∉ ρ := fun m => by
  obtain ⟨i, hi⟩ := List.mem_iff_getElem?.mp m
  have hl : i < st.length := by rw [← R.len]; exact (List.getElem?_eq_some_iff.mp hi).1
  obtain ⟨u, hu, _⟩ := (R.cells i p _ hi (List.getElem?_eq_getElem hl)).some_of
  rw [h] at hu
  cases hu
/-- a new object beside the store -/
theorem Rst.new (R : Rst K ρ H st) (h : H p = none) : Rst K ρ (upd H p o) st where
  len := R.len
  nd := R.nd
  cells := fun n a c e1 e2 => by
    have r := R.cells n a c e1 e2
    obtain ⟨u, hu, _⟩ := r.some_of
    exact r.mono (Step.new h) (upd_ne (ne_of_none hu h))
/-- a new cell -/
theorem Rst.alloc {c : Cell} (R : Rst K ρ H st) (h : H p = none) (hc : RC K (ρ ++ [p]) (upd H p o) p c) : Rst K (ρ ++ [p]) (upd H p o) (st ++ [c]) where
  len := by simp [R.len]
  nd := List.nodup_append.mpr ⟨R.nd, by simp, fun x hx y hy e => by
    have z : y = p := by simpa using hy
    subst e z
    exact R.out h hx⟩
  cells := fun n a d h1 h3 => by
    by_cases hn : n < ρ.length
    · rw [List.getElem?_append_left hn] at h1
      rw [List.getElem?_append_left (by rw [← R.len]; exact hn)] at h3
      have r := R.cells n a d h1 h3
      obtain ⟨u, hu, _⟩ := r.some_of
      exact r.mono (Step.alloc h) (upd_ne (ne_of_none hu h))
    · rw [List.getElem?_append_right (by omega)] at h1
      rw [List.getElem?_append_right (by rw [← R.len]; omega)] at h3
      have hn0 : n - ρ.length = 0 := by
        have := (List.getElem?_eq_some_iff.mp h1).1
        simp at this
        omega
      rw [hn0] at h1
      rw [← R.len, hn0] at h3
      simp at h1 h3
      subst h1 h3
      exact hc
theorem nodup_at {l : List Addr} (h : l.Nodup) {i j : Nat} {x : Addr} (a : l[i]? = some x) (b : l[j]? = some x) : i = j := by
  obtain ⟨h1, e1⟩ := List.getElem?_eq_some_iff.mp a
  obtain ⟨h2, e2⟩ := List.getElem?_eq_some_iff.mp b
  exact (List.getElem_inj h).mp (e1.trans e2.symm)
/-- a cell is written -/
theorem Rst.write {n : Nat} {c d : Cell} (R : Rst K ρ H st) (hn : ρ[n]? = some a) (hs : st[n]? = some c) (hc : RC K ρ (upd H a o) a d) : Rst K ρ (upd H a o) (st.set n d) where
  len := by simp [R.len]
  nd := R.nd
  cells := fun i x e h1 h3 => by
    obtain ⟨u0, hu0, cu0⟩ := (R.cells n a c hn hs).some_of
    by_cases hi : n = i
    · subst hi
      rw [hn] at h1
      cases h1
      rw [List.getElem?_set_self (List.getElem?_eq_some_iff.mp hs).1] at h3
      cases h3
      exact hc
    · rw [List.getElem?_set_ne hi] at h3
      refine (R.cells i x e h1 h3).mono (Step.write (List.mem_of_getElem? hn) hu0 cu0) (upd_ne fun z => ?_)
      subst z
      exact hi (nodup_at R.nd hn h1)
end
end DL

set_option Elab.async false
set_option linter.all false
set_option maxRecDepth 100000
set_option maxHeartbeats 4000000
namespace DL
open PySem L2

/-! ### data without addresses -/
mutual
def toPy : Val → Option PyData
  | .non => some .none
  | .bl b => some (.bool b)
  | .int i => some (.int i)
  | .str x => some (.str x)
  | .tup xs => (toPys xs).map .tuple
  | _ => none
def toPys : List Val → Option (List PyData)
  | [] => some []
  | d :: ds => match toPy d, toPys ds with
    | some x, some xs => some (x :: xs)
    | _, _ => none
end
mutual
theorem toPy_dp {K : PySem.W.Frag} {ρ : List Addr} {H : Hp} : ∀ {d : Val} {p : PyData} {x : V}, toPy d = some p → RV K ρ H d x → Dp K H x p
  | .non, p, x, e, r => by cases e; have h : x = .non := r; subst h; exact .non
  | .bl b, p, x, e, r => by cases e; have h : x = .bl b := r; subst h; exact .bl b
  | .int i, p, x, e, r => by cases e; have h : x = .int i := r; subst h; exact .int i
  | .str y, p, x, e, r => by cases e; have h : x = .str y := r; subst h; exact .str y
  | .tup ds, p, x, e, r => by
    obtain ⟨a, xs, rfl, h1, h2, h3⟩ := r
    unfold toPy at e
    cases q : toPys ds with
    | none => rw [q] at e; cases e
    | some ps =>
      rw [q] at e
      cases e
      exact .tup h1 (toPys_dp q h3)
  | .loc n, p, x, e, r => by cases e
  | .rol n, p, x, e, r => by cases e
  | .adr n, p, x, e, r => by cases e
  | .ty n, p, x, e, r => by cases e
theorem toPys_dp {K : PySem.W.Frag} {ρ : List Addr} {H : Hp} : ∀ {ds : List Val} {ps : List PyData} {xs : List V}, toPys ds = some ps → RVs K ρ H ds xs → DpAll K H xs ps
  | [], ps, xs, e, r => by cases e; have h : xs = [] := r; subst h; exact .nil
  | d :: ds, ps, xs, e, r => by
    obtain ⟨y, ys, rfl, h1, h2⟩ := r
    unfold toPys at e
    cases q : toPy d with
    | none => rw [q] at e; cases e
    | some p =>
      cases q2 : toPys ds with
      | none => rw [q, q2] at e; cases e
      | some ps2 =>
        rw [q, q2] at e
        cases e
        exact .cons (toPy_dp q h1) (toPys_dp q2 h2)
end
mutual
/-- Python's == on such data -/
def eqd : Val → Val → Bool
  | .non, .non => true
  | .bl a, .bl b => a == b
  | .bl a, .int j => (if a then 1 else 0) == j
  | .int i, .bl b => i == (if b then 1 else 0)
  | .int i, .int j => i == j
  | .str x, .str y => x == y
  | .tup xs, .tup ys => eqds xs ys
  | _, _ => false
def eqds : List Val → List Val → Bool
  | [], [] => true
  | x :: xs, y :: ys => eqd x y && eqds xs ys
  | _, _ => false
end
mutual
theorem eqd_py : ∀ {d e : Val} {p q : PyData}, toPy d = some p → toPy e = some q → eqd d e = PyData.eqv p q
  | .non, e, p, q, h, g => by cases h; cases e <;> first | (cases g; done) | (cases g; rfl) | (unfold toPy at g; cases r : toPys _ <;> rw [r] at g <;> cases g <;> rfl)
  | .bl b, e, p, q, h, g => by cases h; cases e <;> first | (cases g; done) | (cases g; simp [eqd, PyData.eqv]; done) | (unfold toPy at g; cases r : toPys _ <;> rw [r] at g <;> cases g <;> rfl)
  | .int b, e, p, q, h, g => by cases h; cases e <;> first | (cases g; done) | (cases g; simp [eqd, PyData.eqv]; done) | (unfold toPy at g; cases r : toPys _ <;> rw [r] at g <;> cases g <;> rfl)
  | .str b, e, p, q, h, g => by cases h; cases e <;> first | (cases g; done) | (cases g; simp [eqd, PyData.eqv]; done) | (unfold toPy at g; cases r : toPys _ <;> rw [r] at g <;> cases g <;> rfl)
  | .tup ds, e, p, q, h, g => by
    unfold toPy at h
    cases r : toPys ds with
    | none => rw [r] at h; cases h
    | some ps =>
      rw [r] at h
      cases h
      cases e with
      | tup es =>
        unfold toPy at g
        cases r2 : toPys es with
        | none => rw [r2] at g; cases g
        | some qs =>
          rw [r2] at g
          cases g
          show eqds ds es = PyData.eqvAll ps qs
          exact eqds_py r r2
      | non => cases g; rfl
      | bl b => cases g; rfl
      | int b => cases g; rfl
      | str b => cases g; rfl
      | loc n => cases g
      | adr n => cases g
      | ty n => cases g
      | rol n => cases g
  | .loc n, e, p, q, h, g => by cases h
  | .rol n, e, p, q, h, g => by cases h
  | .adr n, e, p, q, h, g => by cases h
  | .ty n, e, p, q, h, g => by cases h
theorem eqds_py : ∀ {ds es : List Val} {ps qs : List PyData}, toPys ds = some ps → toPys es = some qs → eqds ds es = PyData.eqvAll ps qs
  | [], [], ps, qs, h, g => by cases h; cases g; rfl
  | [], e :: es, ps, qs, h, g => by
    cases h
    unfold toPys at g
    cases r : toPy e <;> cases r2 : toPys es <;> rw [r, r2] at g <;> cases g
    rfl
  | d :: ds, [], ps, qs, h, g => by
    cases g
    unfold toPys at h
    cases r : toPy d <;> cases r2 : toPys ds <;> rw [r, r2] at h <;> cases h
    rfl
  | d :: ds, e :: es, ps, qs, h, g => by
    unfold toPys at g h
    cases r : toPy e <;> cases r2 : toPys es <;> rw [r, r2] at g <;> cases g
    cases r3 : toPy d <;> cases r4 : toPys ds <;> rw [r3, r4] at h <;> cases h
    show (eqd d e && eqds ds es) = (PyData.eqv _ _ && PyData.eqvAll _ _)
    rw [eqd_py r3 r, eqds_py r4 r2]
end
/-- data that == may walk -/
def layd (d : Val) : Bool := match toPy d with
  | some p => SeqAt.shaped p
  | none => false
def flat : Val → Bool
  | .non => true
  | .bl _ => true
  | .int _ => true
  | .str _ => true
  | _ => false
def flatAll : List Val → Bool
  | [] => true
  | d :: ds => flat d && flatAll ds
section
variable {K : PySem.W.Frag} {ρ : List Addr} {H : Hp}
theorem flat_v {d : Val} {x : V} (f : flat d = true) (r : RV K ρ H d x) : flatV x = true := by
  cases d with
  | non => have h : x = .non := r; subst h; rfl
  | bl b => have h : x = .bl b := r; subst h; rfl
  | int b => have h : x = .int b := r; subst h; rfl
  | str b => have h : x = .str b := r; subst h; rfl
  | _ => cases f
theorem flat_vs : ∀ {ds : List Val} {xs : List V}, flatAll ds = true → RVs K ρ H ds xs → xs.all flatV = true
  | [], xs, f, r => by have h : xs = [] := r; subst h; rfl
  | d :: ds, xs, f, r => by
    obtain ⟨y, ys, rfl, h1, h2⟩ := r
    obtain ⟨f1, f2⟩ := Bool.and_eq_true_iff.mp (show (flat d && flatAll ds) = true from f)
    rw [List.all_cons, flat_v f1 h1, flat_vs f2 h2]
    rfl
theorem flat_eq {d e : Val} {x y : V} (f : flat d = true) (g : flat e = true) (r : RV K ρ H d x) (r' : RV K ρ H e y) : eqV x y = eqd d e := by
  cases d with
  | non => have h : x = .non := r; subst h; cases e with
    | non => have h : y = .non := r'; subst h; rfl
    | bl b => have h : y = .bl b := r'; subst h; rfl
    | int b => have h : y = .int b := r'; subst h; rfl
    | str b => have h : y = .str b := r'; subst h; rfl
    | _ => cases g
  | bl b => have h : x = .bl b := r; subst h; cases e with
    | non => have h : y = .non := r'; subst h; rfl
    | bl b => have h : y = .bl b := r'; subst h; rfl
    | int b => have h : y = .int b := r'; subst h; rfl
    | str b => have h : y = .str b := r'; subst h; rfl
    | _ => cases g
  | int b => have h : x = .int b := r; subst h; cases e with
    | non => have h : y = .non := r'; subst h; rfl
    | bl b => have h : y = .bl b := r'; subst h; rfl
    | int b => have h : y = .int b := r'; subst h; rfl
    | str b => have h : y = .str b := r'; subst h; rfl
    | _ => cases g
  | str b => have h : x = .str b := r; subst h; cases e with
    | non => have h : y = .non := r'; subst h; rfl
    | bl b => have h : y = .bl b := r'; subst h; rfl
    | int b => have h : y = .int b := r'; subst h; rfl
    | str b => have h : y = .str b := r'; subst h; rfl
    | _ => cases g
  | _ => cases f
/-- x in ds -/
def memd (x : Val) : List Val → Bool
  | [] => false
  | d :: ds => eqd d x || memd x ds
theorem memd_in {e : Val} {y : V} (g : flat e = true) (r' : RV K ρ H e y) : ∀ {ds : List Val} {xs : List V}, flatAll ds = true → RVs K ρ H ds xs → inV y xs = memd e ds
  | [], xs, f, r => by have h : xs = [] := r; subst h; rfl
  | d :: ds, xs, f, r => by
    obtain ⟨z, ys, rfl, h1, h2⟩ := r
    obtain ⟨f1, f2⟩ := Bool.and_eq_true_iff.mp (show (flat d && flatAll ds) = true from f)
    have ih := memd_in g r' f2 h2
    show (eqV z y || inV y ys) = (eqd d e || memd e ds)
    rw [ih, flat_eq f1 g h1 r']
end

/-! ### operators -/
def addV : Val → Val → Store → DK → Prop
  | .int i, .int j, st, Q => Q (.int (i + j)) st
  | .str a, .str b, st, Q => a.length + b.length ≤ sizeLine ∧ Q (.str (a ++ b)) st
  | .tup xs, .tup ys, st, Q => xs.length + ys.length ≤ sizeLine ∧ Q (.tup (xs ++ ys)) st
  | _, _, _, _ => False
def subV : Val → Val → Store → DK → Prop
  | .int i, .int j, st, Q => Q (.int (i - j)) st
  | _, _, _, _ => False
def mulV : Val → Val → Store → DK → Prop
  | .int i, .int j, st, Q => CMul i j ∧ Q (.int (i * j)) st
  | _, _, _, _ => False
def divV : Val → Val → Store → DK → Prop
  | .int i, .int j, st, Q => (0 < j ∧ j < 1073741824) ∧ Q (.int (i / j)) st
  | _, _, _, _ => False
def modV : Val → Val → Store → DK → Prop
  | .int i, .int j, st, Q => 0 < j ∧ Q (.int (i % j)) st
  | _, _, _, _ => False
def powV : Val → Val → Store → DK → Prop
  | .int i, .int j, st, Q => CPow i j ∧ Q (.int (i ^ j.toNat)) st
  | _, _, _, _ => False
def cmpV (f : Int → Int → Bool) : Val → Val → Store → DK → Prop
  | .int i, .int j, st, Q => Q (.bl (f i j)) st
  | _, _, _, _ => False
def intsOf : List Val → Option (List Int)
  | [] => some []
  | .int i :: ds => (intsOf ds).map (i :: ·)
  | _ => none
theorem intsOf_map : ∀ {ds : List Val} {ns : List Int}, intsOf ds = some ns → ds = ns.map Val.int
  | [], ns, h => by cases h; rfl
  | .int i :: ds, ns, h => by
    unfold intsOf at h
    cases q : intsOf ds with
    | none => rw [q] at h; cases h
    | some ms => rw [q] at h; cases h; rw [intsOf_map q]; rfl
  | .non :: ds, ns, h => by cases h
  | .bl _ :: ds, ns, h => by cases h
  | .str _ :: ds, ns, h => by cases h
  | .tup _ :: ds, ns, h => by cases h
  | .loc _ :: ds, ns, h => by cases h
  | .rol _ :: ds, ns, h => by cases h
  | .adr _ :: ds, ns, h => by cases h
  | .ty _ :: ds, ns, h => by cases h
theorem intsOf_ints : ∀ ns : List Int, intsOf (ns.map Val.int) = some ns
  | [] => rfl
  | n :: ns => by
    show (intsOf (ns.map Val.int)).map (n :: ·) = some (n :: ns)
    rw [intsOf_ints ns]
    rfl
def ltT : Option (List Int) → Option (List Int) → Store → DK → Prop
  | some ns, some ms, st, Q => Q (.bl (HT.lexLt ns ms)) st
  | _, _, _, _ => False
/-- ints, and tuples of ints by their order -/
def ltV : Val → Val → Store → DK → Prop
  | .int i, .int j, st, Q => Q (.bl (decide (i < j))) st
  | .tup xs, .tup ys, st, Q => ltT (intsOf xs) (intsOf ys) st Q
  | _, _, _, _ => False
abbrev leV := cmpV fun i j => decide (i ≤ j)
abbrev gtV := cmpV fun i j => decide (j < i)
abbrev geV := cmpV fun i j => decide (j ≤ i)
def scald : Val → Val → Bool
  | .non, .non => true | .non, .int _ => true | .int _, .non => true | .non, .bl _ => true | .bl _, .non => true | .non, .str _ => true | .str _, .non => true
  | .int _, .int _ => true | .bl _, .bl _ => true | .str _, .str _ => true
  | .int _, .str _ => true | .str _, .int _ => true | .bl _, .str _ => true | .str _, .bl _ => true
  | _, _ => false
def eqW (neg : Bool) (x y : Val) (st : Store) (Q : DK) : Prop := (scald x y = true ∨ layd x = true ∧ layd y = true) ∧ Q (.bl (if neg then !eqd x y else eqd x y)) st
/-- the items of a tuple or a list -/
def itemsOf (st : Store) : Val → Option (List Val)
  | .tup ds => some ds
  | .rol ds => some ds
  | .loc n => match st[n]? with
    | some (.lst ds) => some ds
    | _ => none
  | _ => none
def inW (neg : Bool) (x y : Val) (st : Store) (Q : DK) : Prop := match itemsOf st y with
  | some ds => flat x = true ∧ flatAll ds = true ∧ Q (.bl (if neg then !memd x ds else memd x ds)) st
  | none => False

section
variable {X : Cx}
/-- by cases on the kinds of both operands -/
theorem op_lift {f : Value → Value → Sem Value} {o : Val → Val → Store → DK → Prop}
    (h : ∀ (pins : List (Addr × Obj)) (s : Shared) (σ : L2.St) (H : Hp) (x y : V) (v u : Value) (Q : VK), Inv X pins σ H s → RelV x v → RelV y u →
      ∀ ρ st d e P, Rst X.K ρ H st → RV X.K ρ H d x → RV X.K ρ H e y → o d e st P → AfV X.K ρ H P Q → PySem.wpAny (model X.prog X.w) X.A (f v u) (EP X pins σ Q) X.xe s) : OpR X f (liftO X.K o) := by
  intro pins s σ H x y v u Q I rx ry q
  obtain ⟨ρ, st, d, e, P, R, r1, r2, p, k⟩ := q
  exact h pins s σ H x y v u Q I rx ry ρ st d e P R r1 r2 p k
theorem int_lift {f : Value → Value → Sem Value} {C : Int → Int → Prop} {g : Int → Int → V} {gd : Int → Int → Val} {o : Val → Val → Store → DK → Prop} (hg : ∀ K ρ H i j, RV K ρ H (gd i j) (g i j))
    (h : OpR X f (rI C g)) (ho : ∀ d e st P, o d e st P → ∃ i j, d = .int i ∧ e = .int j ∧ C i j ∧ P (gd i j) st) : OpR X f (liftO X.K o) := by
  refine op_lift fun pins s σ H x y v u Q I rx ry ρ st d e P R r1 r2 p k => ?_
  obtain ⟨i, j, rfl, rfl, c, p'⟩ := ho d e st P p
  refine h pins s σ H x y v u Q I rx ry ⟨i, j, r1, r2, c, ?_⟩
  exact k.here p' R (hg _ _ _ _ _)
theorem int_lift0 {f : Value → Value → Sem Value} {g : Int → Int → V} {gd : Int → Int → Val} {o : Val → Val → Store → DK → Prop} (hg : ∀ K ρ H i j, RV K ρ H (gd i j) (g i j))
    (h : OpR X f (rI0 g)) (ho : ∀ d e st P, o d e st P → ∃ i j, d = .int i ∧ e = .int j ∧ P (gd i j) st) : OpR X f (liftO X.K o) := by
  refine op_lift fun pins s σ H x y v u Q I rx ry ρ st d e P R r1 r2 p k => ?_
  obtain ⟨i, j, rfl, rfl, p'⟩ := ho d e st P p
  refine h pins s σ H x y v u Q I rx ry ⟨i, j, r1, r2, ?_⟩
  exact k.here p' R (hg _ _ _ _ _)
theorem do_sub : OpR X (binaryOp .Sub) (liftO X.K subV) := int_lift0 (gd := fun i j => .int (i - j)) (fun _ _ _ _ _ => rfl) op_sub fun d e st P p => by
  cases d <;> cases e <;> first | exact p.elim | exact ⟨_, _, rfl, rfl, p⟩
theorem do_mul : OpR X (binaryOp .Mult) (liftO X.K mulV) := int_lift (gd := fun i j => .int (i * j)) (fun _ _ _ _ _ => rfl) op_mul fun d e st P p => by
  cases d <;> cases e <;> first | exact p.elim | exact ⟨_, _, rfl, rfl, p⟩
theorem do_div : OpR X (binaryOp .FloorDiv) (liftO X.K divV) := int_lift (gd := fun i j => .int (i / j)) (fun _ _ _ _ _ => rfl) op_fdiv fun d e st P p => by
  cases d <;> cases e <;> first | exact p.elim | exact ⟨_, _, rfl, rfl, p⟩
theorem do_mod : OpR X (binaryOp .Mod) (liftO X.K modV) := int_lift (gd := fun i j => .int (i % j)) (fun _ _ _ _ _ => rfl) op_mod fun d e st P p => by
  cases d <;> cases e <;> first | exact p.elim | exact ⟨_, _, rfl, rfl, p⟩
theorem do_pow : OpR X (binaryOp .Pow) (liftO X.K powV) := int_lift (gd := fun i j => .int (i ^ j.toNat)) (fun _ _ _ _ _ => rfl) op_pow fun d e st P p => by
  cases d <;> cases e <;> first | exact p.elim | exact ⟨_, _, rfl, rfl, p⟩
theorem do_le : OpR X (compareOp .LtE) (liftO X.K leV) := int_lift0 (gd := fun i j => .bl (decide (i ≤ j))) (fun _ _ _ _ _ => rfl) op_le fun d e st P p => by
  cases d <;> cases e <;> first | exact p.elim | exact ⟨_, _, rfl, rfl, p⟩
theorem do_gt : OpR X (compareOp .Gt) (liftO X.K gtV) := int_lift0 (gd := fun i j => .bl (decide (j < i))) (fun _ _ _ _ _ => rfl) op_gt fun d e st P p => by
  cases d <;> cases e <;> first | exact p.elim | exact ⟨_, _, rfl, rfl, p⟩
theorem do_ge : OpR X (compareOp .GtE) (liftO X.K geV) := int_lift0 (gd := fun i j => .bl (decide (j ≤ i))) (fun _ _ _ _ _ => rfl) op_ge fun d e st P p => by
  cases d <;> cases e <;> first | exact p.elim | exact ⟨_, _, rfl, rfl, p⟩
theorem do_add : OpR X (binaryOp .Add) (liftO X.K addV) := by
  refine op_lift fun pins s σ H x y v u Q I rx ry ρ st d e P R r1 r2 p k => ?_
  cases d <;> cases e <;> first | exact p.elim | skip
  · have e1 : x = .int _ := r1
    have e2 : y = .int _ := r2
    subst e1 e2
    exact op_add pins s σ H _ _ v u Q I rx ry ⟨_, _, rfl, rfl, k.here p R rfl⟩
  · have e1 : x = .str _ := r1
    have e2 : y = .str _ := r2
    subst e1 e2
    exact op_add_str pins s σ H _ _ v u Q I rx ry ⟨_, _, rfl, rfl, p.1, k.here p.2 R rfl⟩
  · rename_i ds es
    obtain ⟨a, xs, rfl, a1, a2, a3⟩ := r1
    obtain ⟨b, ys, rfl, b1, b2, b3⟩ := r2
    obtain ⟨p1, p2⟩ := p
    have hl : xs.length + ys.length ≤ sizeLine := by rw [a3.len, b3.len]; exact p1
    refine op_catA pins s σ H _ _ v u Q I rx ry ⟨a, b, xs, ys, rfl, rfl, a1, b1, hl, fun e => ?_, fun e1 e2 => ?_, fun e1 e2 q hq => ?_⟩
    · have z : ds = [] := a3.nil_iff.mp e
      subst z
      exact k.here p2 R ⟨b, ys, rfl, b1, b2, b3⟩
    · have z : es = [] := b3.nil_iff.mp e2
      subst z
      rw [List.append_nil] at p2
      exact k.here p2 R ⟨a, xs, rfl, a1, a2, a3⟩
    · refine k _ _ p2 ρ _ _ (Step.new hq) (R.new hq) ⟨q, xs ++ ys, rfl, SqT.of upd_same, by rw [List.length_append]; exact hl, ?_⟩
      exact (a3.mono (Step.new hq)).app (b3.mono (Step.new hq))
theorem do_lt (hu : X.A.units < cLine) : OpR X (compareOp .Lt) (liftO X.K ltV) := by
  refine op_lift fun pins s σ H x y v u Q I rx ry ρ st d e P R r1 r2 p k => ?_
  cases d <;> cases e <;> first | exact p.elim | skip
  · have e1 : x = .int _ := r1
    have e2 : y = .int _ := r2
    subst e1 e2
    exact op_lt pins s σ H _ _ v u Q I rx ry ⟨_, _, rfl, rfl, k.here p R rfl⟩
  · rename_i ds es
    obtain ⟨a, xs, rfl, a1, a2, a3⟩ := r1
    obtain ⟨b, ys, rfl, b1, b2, b3⟩ := r2
    cases q1 : intsOf ds with
    | none =>
      have p' : ltT (intsOf ds) (intsOf es) st P := p
      rw [q1] at p'
      exact p'.elim
    | some ns =>
      cases q2 : intsOf es with
      | none =>
        have p' : ltT (intsOf ds) (intsOf es) st P := p
        rw [q1, q2] at p'
        exact p'.elim
      | some ms =>
        have p' : ltT (intsOf ds) (intsOf es) st P := p
        rw [q1, q2] at p'
        have z1 := intsOf_map q1
        have z2 := intsOf_map q2
        subst z1 z2
        rw [RVs.ints] at a3 b3
        subst a3 b3
        exact op_ltT hu pins s σ H _ _ v u Q I rx ry ⟨a, b, ns, ms, rfl, rfl, a1, b1, k.here (show P (.bl (HT.lexLt ns ms)) st from p') R rfl⟩
theorem scal_of {K : PySem.W.Frag} {ρ : List Addr} {H : Hp} {d e : Val} {x y : V} (h : scald d e = true) (r1 : RV K ρ H d x) (r2 : RV K ρ H e y) : scal x y = true ∧ decide (x = y) = eqd d e := by
  cases d <;> cases e <;> first | (cases h; done) | skip
  all_goals
    (first | (have e1 : x = .non := r1; subst e1) | (have e1 : x = .bl _ := r1; subst e1) | (have e1 : x = .int _ := r1; subst e1) | (have e1 : x = .str _ := r1; subst e1))
    (first | (have e2 : y = .non := r2; subst e2) | (have e2 : y = .bl _ := r2; subst e2) | (have e2 : y = .int _ := r2; subst e2) | (have e2 : y = .str _ := r2; subst e2))
    refine ⟨rfl, ?_⟩
    first
      | rfl
      | exact dec_int
      | exact dec_bl
      | exact dec_str
      | (rw [decide_eq_false (fun z => by cases z)]; rfl)
theorem do_eq (hu : X.A.units + 64 < cLine) : OpR X (compareOp .Eq) (liftO X.K (eqW false)) := by
  refine op_lift fun pins s σ H x y v u Q I rx ry ρ st d e P R r1 r2 p k => ?_
  obtain ⟨c, p⟩ := p
  rcases c with c | ⟨c1, c2⟩
  · obtain ⟨s1, s2⟩ := scal_of c r1 r2
    refine op_eq pins s σ H _ _ v u Q I rx ry ⟨s1, ?_⟩
    rw [s2]
    exact k.here p R rfl
  · unfold layd at c1 c2
    cases q1 : toPy d with
    | none => rw [q1] at c1; cases c1
    | some p1 =>
      cases q2 : toPy e with
      | none => rw [q2] at c2; cases c2
      | some p2 =>
        rw [q1] at c1
        rw [q2] at c2
        refine op_eqD hu pins s σ H _ _ v u Q I rx ry ⟨p1, p2, toPy_dp q1 r1, toPy_dp q2 r2, c1, c2, ?_⟩
        rw [← eqd_py q1 q2]
        exact k.here p R rfl
theorem do_ne (hu : X.A.units + 64 < cLine) : OpR X (compareOp .NotEq) (liftO X.K (eqW true)) := by
  refine op_lift fun pins s σ H x y v u Q I rx ry ρ st d e P R r1 r2 p k => ?_
  obtain ⟨c, p⟩ := p
  rcases c with c | ⟨c1, c2⟩
  · obtain ⟨s1, s2⟩ := scal_of c r1 r2
    refine op_ne pins s σ H _ _ v u Q I rx ry ⟨s1, ?_⟩
    rw [s2]
    exact k.here p R rfl
  · unfold layd at c1 c2
    cases q1 : toPy d with
    | none => rw [q1] at c1; cases c1
    | some p1 =>
      cases q2 : toPy e with
      | none => rw [q2] at c2; cases c2
      | some p2 =>
        rw [q1] at c1
        rw [q2] at c2
        refine op_neD hu pins s σ H _ _ v u Q I rx ry ⟨p1, p2, toPy_dp q1 r1, toPy_dp q2 r2, c1, c2, ?_⟩
        rw [← eqd_py q1 q2]
        exact k.here p R rfl
/-- the items behind a value -/
theorem items_rd {K : PySem.W.Frag} {ρ : List Addr} {H : Hp} {st : Store} {d : Val} {x : V} {ds : List Val} (R : Rst K ρ H st) (r : RV K ρ H d x) (h : itemsOf st d = some ds) :
    ∃ a xs, x = .ref a ∧ (SqL K H a xs ∨ SqT K H a xs) ∧ RVs K ρ H ds xs ∧ xs.length ≤ sizeLine := by
  cases d with
  | tup es =>
    cases h
    obtain ⟨a, xs, rfl, a1, a2, a3⟩ := r
    exact ⟨a, xs, rfl, .inr a1, a3, a2⟩
  | rol es =>
    cases h
    obtain ⟨a, xs, rfl, a1, a2, a3⟩ := r
    exact ⟨a, xs, rfl, .inl a1.sq, a3, a2⟩
  | loc n =>
    obtain ⟨a, ha, rfl⟩ := r
    unfold itemsOf at h
    simp only at h
    split at h
    · rename_i es e
      cases h
      obtain ⟨xs, q1, q2, q3⟩ := R.cells n a _ ha e
      exact ⟨a, xs, rfl, .inl (SqL.of q1), q3, q2⟩
    · cases h
  | _ => cases h
theorem do_in : OpR X (compareOp .In) (liftO X.K (inW false)) := by
  refine op_lift fun pins s σ H x y v u Q I rx ry ρ st d e P R r1 r2 p k => ?_
  unfold inW at p
  split at p
  · rename_i ds q
    obtain ⟨p1, p2, p3⟩ := p
    obtain ⟨a, xs, rfl, h1, h2, _⟩ := items_rd R r2 q
    refine op_in_seq pins s σ H _ _ v u Q I rx ry ⟨a, xs, rfl, h1, flat_v p1 r1, flat_vs p2 h2, ?_⟩
    rw [memd_in p1 r1 p2 h2]
    exact k.here p3 R rfl
  · exact p.elim
theorem do_notIn : OpR X (compareOp .NotIn) (liftO X.K (inW true)) := by
  refine op_lift fun pins s σ H x y v u Q I rx ry ρ st d e P R r1 r2 p k => ?_
  unfold inW at p
  split at p
  · rename_i ds q
    obtain ⟨p1, p2, p3⟩ := p
    obtain ⟨a, xs, rfl, h1, h2, _⟩ := items_rd R r2 q
    refine op_notIn_seq pins s σ H _ _ v u Q I rx ry ⟨a, xs, rfl, h1, flat_v p1 r1, flat_vs p2 h2, ?_⟩
    rw [memd_in p1 r1 p2 h2]
    exact k.here p3 R rfl
  · exact p.elim
def negV : Val → Store → DK → Prop
  | .int i, st, Q => Q (.int (-i)) st
  | _, _, _ => False
theorem do_neg : UnR X (unaryOp .USub) (liftU X.K negV) := by
  intro pins s σ H x v Q I rx q
  obtain ⟨ρ, st, d, P, R, r, p, k⟩ := q
  cases d <;> first | exact p.elim | skip
  have e : x = .int _ := r
  subst e
  exact un_neg pins s σ H _ v Q I rx ⟨_, rfl, k.here p R rfl⟩
end
end DL

set_option Elab.async false
set_option linter.all false
set_option maxRecDepth 100000
set_option maxHeartbeats 4000000
namespace DL
open PySem L2

/-! ### tests -/
def wAnd (w1 w2 : WT) : WT := fun env st Q => w1 env st fun b st1 => match b with
  | true => w2 env st1 Q
  | false => Q false st1
def wOr (w1 w2 : WT) : WT := fun env st Q => w1 env st fun b st1 => match b with
  | true => Q true st1
  | false => w2 env st1 Q
def wNot (w : WT) : WT := fun env st Q => w env st fun b st1 => Q (!b) st1
def wAndV (wa wb : WE) : WE := fun env st Q => wa env st fun d st1 => match d with
  | .bl true => wb env st1 Q
  | .bl false => Q (.bl false) st1
  | _ => False
def wOrV (wa wb : WE) : WE := fun env st Q => wa env st fun d st1 => match d with
  | .bl true => Q (.bl true) st1
  | .bl false => wb env st1 Q
  | _ => False
def wNotV (wa : WE) : WE := fun env st Q => wa env st fun d st1 => match d with
  | .bl b => Q (.bl (!b)) st1
  | _ => False
def wIf (wt : WT) (wa wb : WE) : WE := fun env st Q => wt env st fun b st1 => match b with
  | true => wa env st1 Q
  | false => wb env st1 Q
section
variable {X : Cx} {a b c : Expr} {wa wb wc : WE} {w1 w2 : WT} {pos : Pos} {rest : List Expr} {σ : L2.St} {H : Hp}
theorem dw_and1 (ha : DT X a w1) : DW X (.BoolOp .And [a] pos) w1 := pw_and1 ha
theorem dw_or1 (ha : DT X a w1) : DW X (.BoolOp .Or [a] pos) w1 := pw_or1 ha
theorem dw_and (ha : DT X a w1) (hb : DW X (.BoolOp .And (b :: rest) pos) w2) : DW X (.BoolOp .And (a :: b :: rest) pos) (wAnd w1 w2) := by
  refine pwImp (pw_and ha hb) fun σ H Q h => ?_
  obtain ⟨ρ, env, st, P, R, N, w, k⟩ := h
  refine ⟨ρ, env, st, _, R, N, w, fun d1 st1 p1 ρ1 H1 s1 R1 => ?_⟩
  cases d1 with
  | true => exact ⟨ρ1, env, st1, P, R1, N.mono s1, p1, k.go s1⟩
  | false => exact k _ _ p1 _ _ s1 R1
theorem dw_or (ha : DT X a w1) (hb : DW X (.BoolOp .Or (b :: rest) pos) w2) : DW X (.BoolOp .Or (a :: b :: rest) pos) (wOr w1 w2) := by
  refine pwImp (pw_or ha hb) fun σ H Q h => ?_
  obtain ⟨ρ, env, st, P, R, N, w, k⟩ := h
  refine ⟨ρ, env, st, _, R, N, w, fun d1 st1 p1 ρ1 H1 s1 R1 => ?_⟩
  cases d1 with
  | false => exact ⟨ρ1, env, st1, P, R1, N.mono s1, p1, k.go s1⟩
  | true => exact k _ _ p1 _ _ s1 R1
theorem dt_w (h : DW X a w1) : DT X a w1 := PW.pt h
theorem dt_not (ha : DT X a w1) : DT X (.UnaryOp .Not a pos) (wNot w1) := by
  refine ptImp (pt_not ha) fun σ H Q h => ?_
  obtain ⟨ρ, env, st, P, R, N, w, k⟩ := h
  exact ⟨ρ, env, st, _, R, N, w, fun d1 st1 p1 ρ1 H1 s1 R1 => k _ _ p1 _ _ s1 R1⟩
theorem d_one {op} (ha : DE X a wa) : DE X (.BoolOp op [a] pos) wa := pe_one ha
theorem d_and (ha : DE X a wa) (hb : DE X (.BoolOp .And (b :: rest) pos) wb) : DE X (.BoolOp .And (a :: b :: rest) pos) (wAndV wa wb) := by
  refine peImp (pe_and ha hb) fun σ H Q h => ?_
  obtain ⟨ρ, env, st, P, R, N, w, k⟩ := h
  refine ⟨ρ, env, st, _, R, N, w, fun d1 st1 p1 ρ1 H1 x1 s1 R1 r1 => ?_⟩
  cases d1 <;> first | exact p1.elim | skip
  rename_i q
  refine ⟨q, r1, ?_⟩
  cases q with
  | true => exact iteT ⟨ρ1, env, st1, P, R1, N.mono s1, p1, k.go s1⟩
  | false => exact iteF (k _ _ p1 _ _ _ s1 R1 rfl)
theorem d_or (ha : DE X a wa) (hb : DE X (.BoolOp .Or (b :: rest) pos) wb) : DE X (.BoolOp .Or (a :: b :: rest) pos) (wOrV wa wb) := by
  refine peImp (pe_or ha hb) fun σ H Q h => ?_
  obtain ⟨ρ, env, st, P, R, N, w, k⟩ := h
  refine ⟨ρ, env, st, _, R, N, w, fun d1 st1 p1 ρ1 H1 x1 s1 R1 r1 => ?_⟩
  cases d1 <;> first | exact p1.elim | skip
  rename_i q
  refine ⟨q, r1, ?_⟩
  cases q with
  | false => exact iteF ⟨ρ1, env, st1, P, R1, N.mono s1, p1, k.go s1⟩
  | true => exact iteT (k _ _ p1 _ _ _ s1 R1 rfl)
theorem d_not (ha : DE X a wa) : DE X (.UnaryOp .Not a pos) (wNotV wa) := by
  refine peImp (pe_not ha) fun σ H Q h => ?_
  obtain ⟨ρ, env, st, P, R, N, w, k⟩ := h
  refine ⟨ρ, env, st, _, R, N, w, fun d1 st1 p1 ρ1 H1 x1 s1 R1 r1 => ?_⟩
  cases d1 <;> first | exact p1.elim | skip
  rename_i q
  exact ⟨q, r1, k _ _ p1 _ _ _ s1 R1 rfl⟩
theorem d_ifExp (hc : DT X c w1) (ha : DE X a wa) (hb : DE X b wb) : DE X (.IfExp c a b pos) (wIf w1 wa wb) := by
  refine peImp (pe_ifExp hc ha hb) fun σ H Q h => ?_
  obtain ⟨ρ, env, st, P, R, N, w, k⟩ := h
  refine ⟨ρ, env, st, _, R, N, w, fun d1 st1 p1 ρ1 H1 s1 R1 => ?_⟩
  cases d1 with
  | true => exact iteT ⟨ρ1, env, st1, P, R1, N.mono s1, p1, k.go s1⟩
  | false => exact iteF ⟨ρ1, env, st1, P, R1, N.mono s1, p1, k.go s1⟩
theorem chain_lift {o o' : Val → Val → Store → DK → Prop} {Q : VK} (h : liftE X.K (wChain o o' wa wb wc) σ H Q) : tChain (liftO X.K o) (liftO X.K o') (liftE X.K wa) (liftE X.K wb) (liftE X.K wc) σ H Q := by
  obtain ⟨ρ, env, st, P, R, N, w, k⟩ := h
  refine ⟨ρ, env, st, _, R, N, w, fun d1 st1 p1 ρ1 H1 x1 s1 R1 r1 => ?_⟩
  refine ⟨ρ1, env, st1, _, R1, N.mono s1, p1, fun d2 st2 p2 ρ2 H2 x2 s2 R2 r2 => ?_⟩
  refine ⟨ρ2, st2, d1, d2, _, R2, r1.mono s2, r2, p2, fun d3 st3 p3 ρ3 H3 x3 s3 R3 r3 => ?_⟩
  cases d3 <;> first | exact p3.elim | skip
  rename_i q
  refine ⟨q, r3, ?_⟩
  have s13 := (s1.trans s2).trans s3
  cases q with
  | false => exact iteF (k _ _ p3 _ _ _ s13 R3 rfl)
  | true =>
    refine iteT ⟨ρ3, env, st3, _, R3, N.mono s13, p3, fun d4 st4 p4 ρ4 H4 x4 s4 R4 r4 => ?_⟩
    exact ⟨ρ4, st4, d2, d4, P, R4, r2.mono (s3.trans s4), r4, p4, k.go (s13.trans s4)⟩
theorem d_chain {op op' : CmpOp} {o o' : Val → Val → Store → DK → Prop} (ho : OpR X (compareOp op) (liftO X.K o)) (ho' : OpR X (compareOp op') (liftO X.K o')) (ha : DE X a wa) (hb : DE X b wb) (hc : DE X c wc)
    (hm : lastMarks [op, op'] [b, c] = false := by with_unfolding_all rfl) : DE X (.Compare a [op, op'] [b, c] pos) (wChain o o' wa wb wc) :=
  peImp (pe_chain ho ho' ha hb hc hm) fun _ _ _ h => chain_lift h
theorem dt_chain {op op' : CmpOp} {o o' : Val → Val → Store → DK → Prop} (ho : OpR X (compareOp op) (liftO X.K o)) (ho' : OpR X (compareOp op') (liftO X.K o')) (ha : DE X a wa) (hb : DE X b wb) (hc : DE X c wc)
    (hm : lastMarks [op, op'] [b, c] = false := by with_unfolding_all rfl) : DT X (.Compare a [op, op'] [b, c] pos) (wTest (wChain o o' wa wb wc)) :=
  ptImp (pt_chain ho ho' ha hb hc hm) fun σ H Q h => by
    obtain ⟨ρ, env, st, P, R, N, w, k⟩ := test_lift h
    exact chain_lift ⟨ρ, env, st, P, R, N, w, k⟩
end

/-! ### argument lists, tuples -/
def wNil : WA := fun _ st Q => Q [] st
def wCons (wa : WE) (wr : WA) : WA := fun env st Q => wa env st fun d st1 => wr env st1 fun ds st2 => Q (d :: ds) st2
def wTup (w : WA) : WE := fun env st Q => w env st fun ds st1 => ds.length ≤ sizeLine ∧ Q (.tup ds) st1
def wCB (o : List Val → Store → DK → Prop) (w : WA) : WE := fun env st Q => w env st fun ds st1 => o ds st1 Q
section
variable {X : Cx} {e : Expr} {es : List Expr} {we : WE} {w : WA} {pos : Pos}
theorem da_nil : DA X [] wNil := paImp pa_nil fun σ H Q h => by
  obtain ⟨ρ, env, st, P, R, N, w, k⟩ := h
  exact k [] st w ρ H [] .refl R rfl
theorem da_cons (ha : DE X e we) (hr : DA X es w) (hs : starEach (e :: es) X.env = (false, eval e X.env) :: starEach es X.env := by rfl) : DA X (e :: es) (wCons we w) := paImp (pa_cons ha hr hs) fun σ H Q h => by
  obtain ⟨ρ, env, st, P, R, N, w, k⟩ := h
  refine ⟨ρ, env, st, _, R, N, w, fun d1 st1 p1 ρ1 H1 x1 s1 R1 r1 => ?_⟩
  refine ⟨ρ1, env, st1, _, R1, N.mono s1, p1, fun d2 st2 p2 ρ2 H2 x2 s2 R2 r2 => ?_⟩
  exact k _ _ p2 _ _ _ (s1.trans s2) R2 ⟨x1, x2, rfl, r1.mono s2, r2⟩
theorem tup_new {K : PySem.W.Frag} {ρ : List Addr} {H : Hp} {st : Store} {ds : List Val} {xs : List V} {P : DK} {Q : VK} (R : Rst K ρ H st) (r : RVs K ρ H ds xs) (hl : xs.length ≤ sizeLine) (p : P (.tup ds) st) (k : AfV K ρ H P Q) :
    ∀ q, H q = none → Q (.ref q) (upd H q (.tup xs)) := fun q hq =>
  k _ _ p ρ _ _ (Step.new hq) (R.new hq) ⟨q, xs, rfl, SqT.of upd_same, hl, r.mono (Step.new hq)⟩
theorem d_tup {x1} (h : DA X es w) : DE X (.Tuple es x1 pos) (wTup w) := peImp (pe_tup h) fun σ H Q h => by
  obtain ⟨ρ, env, st, P, R, N, w, k⟩ := h
  refine ⟨ρ, env, st, _, R, N, w, fun d1 st1 p1 ρ1 H1 x1 s1 R1 r1 => ?_⟩
  have hl : x1.length ≤ sizeLine := by rw [r1.len]; exact p1.1
  exact ⟨hl, tup_new R1 r1 hl p1.2 (k.go s1)⟩
/-- calls of built-ins by name -/
theorem cb_lift {K : PySem.W.Frag} {o : List Val → Store → DK → Prop} {w : WA} {σ : L2.St} {H : Hp} {Q : VK} (h : liftE K (wCB o w) σ H Q) : tCB (liftC K o) (liftA K w) σ H Q := by
  obtain ⟨ρ, env, st, P, R, N, w, k⟩ := h
  refine ⟨ρ, env, st, _, R, N, w, fun d1 st1 p1 ρ1 H1 x1 s1 R1 r1 => ?_⟩
  exact ⟨ρ1, st1, d1, P, R1, r1, p1, k.go s1⟩
theorem d_callB {x : Str} {id : String} {o : List Val → Store → DK → Prop} {p : Pos} (hc : CallR X (.builtin id) (liftC X.K o)) (hg : Gl X x) (hm : X.mg x = none) (hv : bootBuiltins x = some (.builtin id)) (ha : DA X (e :: es) w) (hn : x ≠ "__name__" := by decide) (hdb : (x == ("__debug__" : Str)) = false := by decide)
    (he : starEach (e :: es) X.env = (false, eval e X.env) :: starEach es X.env := by rfl) (hpl : (backTo pos (starEach es X.env)).any (·.1) = false := by rfl) : DE X (.Call (.Name x p) (e :: es) [] pos) (wCB o w) :=
  peImp (pe_callB hc hg hm hv ha hn hdb he hpl) fun _ _ _ h => cb_lift h
theorem d_callTy {x : Str} {T : String} {o : List Val → Store → DK → Prop} {p : Pos} (hc : CallR X (.type T) (liftC X.K o)) (hg : Gl X x) (hm : X.mg x = none) (hv : bootBuiltins x = some (.type T)) (ha : DA X (e :: es) w) (hn : x ≠ "__name__" := by decide) (hdb : (x == ("__debug__" : Str)) = false := by decide)
    (he : starEach (e :: es) X.env = (false, eval e X.env) :: starEach es X.env := by rfl) (hpl : (backTo pos (starEach es X.env)).any (·.1) = false := by rfl) : DE X (.Call (.Name x p) (e :: es) [] pos) (wCB o w) :=
  peImp (pe_callTy hc hg hm hv ha hn hdb he hpl) fun _ _ _ h => cb_lift h
end

/-! ### defs -/
/-- what a def does, by values -/
abbrev DSp := List Val → Store → DK → Prop
/-- its promise -/
def spD (K : PySem.W.Frag) (s : DSp) : Sp := fun vs H Q _ => ∃ ρ st ds P, Rst K ρ H st ∧ RVs K ρ H ds vs ∧ s ds st P ∧ AfV K ρ H P Q
abbrev DCal (P : Program) (w : World) (K : PySem.W.Frag) (mg : Str → Option Value) (base : Heap) (k : Nat) (x : Str) (s : DSp) : Prop := C8.Cal P w K mg base k x (spD K s) []
section
variable {X : Cx} {k j : Nat} {x : Str} {s : DSp} {p pos : Pos} {e : Expr} {es : List Expr} {w : WA}
theorem d_call (c : DCal X.prog X.w X.K X.mg X.base k x s) (hr : Room j X.A) (hk : k ≤ j) (hg : Gl X x) (ha : DA X (e :: es) w)
    (hdb : (x == ("__debug__" : Str)) = false := by decide) (he : starEach (e :: es) X.env = (false, eval e X.env) :: starEach es X.env := by rfl) (hpl : (backTo pos (starEach es X.env)).any (·.1) = false := by rfl) :
    DE X (.Call (.Name x p) (e :: es) [] pos) (wCB s w) :=
  peImp (C8.pe_c c hr hk hg ha hdb he hpl) fun σ H Q h => by
    obtain ⟨ρ, env, st, P, R, N, w, kk⟩ := h
    refine ⟨ρ, env, st, _, R, N, w, fun d1 st1 p1 ρ1 H1 x1 s1 R1 r1 => ?_⟩
    show spD X.K s (x1 ++ []) H1 Q C8.E0
    rw [List.append_nil]
    exact ⟨ρ1, st1, d1, P, R1, r1, p1, kk.go s1⟩
end

/-! ### places: t[i], slices -/
def ixV : Val → Val → Store → DK → Prop
  | x, .int i, st, Q => match itemsOf st x with
    | some ds => match atI ds i with
      | some d => Q d st
      | none => False
    | none => match x with
      | .str z => z.length ≤ sizeLine ∧ match atI z.cps.toList i with
        | some c => Q (.str ⟨#[c]⟩) st
        | none => False
      | _ => False
  | _, _, _, _ => False
def cutD (xs : List Val) (lo hi : Option Int) : List Val := (xs.drop (HT.sIx xs.length 0 lo)).take (HT.sIx xs.length xs.length hi - HT.sIx xs.length 0 lo)
def WO := Slots → Store → (Option Int → Store → Prop) → Prop
def AfO (K : PySem.W.Frag) (ρ : List Addr) (H : Hp) (P : Option Int → Store → Prop) (Q : Option Int → Hp → Prop) : Prop :=
  ∀ o st', P o st' → ∀ ρ' H', Step K ρ ρ' H H' → Rst K ρ' H' st' → Q o H'
def liftO1 (K : PySem.W.Frag) (w : WO) : TO := fun σ H Q => ∃ ρ env st P, Rst K ρ H st ∧ Ren K ρ σ H env ∧ w env st P ∧ AfO K ρ H P Q
abbrev DO (X : Cx) (e : Option Expr) (w : WO) : Prop := PO X e (liftO1 X.K w)
def wNo : WO := fun _ st Q => Q none st
def wPart (we : WE) : WO := fun env st Q => we env st fun d st1 => match d with
  | .int i => Q (some i) st1
  | _ => False
def slV (lo hi : Option Int) : Val → Store → DK → Prop
  | .tup ds, st, Q => Q (.tup (cutD ds lo hi)) st
  | .str z, st, Q => z.length ≤ sizeLine ∧ Q (.str (PySem.Txt.slice z lo hi)) st
  | _, _, _ => False
def wSl (we : WE) (wl wh : WO) : WE := fun env st Q => we env st fun x st1 => wl env st1 fun lo st2 => wh env st2 fun hi st3 => slV lo hi x st3 Q
section
variable {X : Cx} {a b : Expr} {wa wb : WE} {pos p2 : Pos}
theorem RVs.atI {K : PySem.W.Frag} {ρ : List Addr} {H : Hp} {ds : List Val} {xs : List V} {i : Int} {d : Val} (r : RVs K ρ H ds xs) (h : atI ds i = some d) : ∃ x, L2.atI xs i = some x ∧ RV K ρ H d x := by
  unfold L2.atI at h ⊢
  rw [r.len]
  cases q : ixN ds.length i with
  | none => rw [q] at h; cases h
  | some j =>
    rw [q] at h
    exact r.get h
theorem do_ix : IxR X (liftO X.K ixV) := by
  intro value slice pins s σ H x y v u Q I rx ry q hsub
  obtain ⟨ρ, st, d, e, P, R, r1, r2, p, k⟩ := q
  cases e <;> first | exact p.elim | skip
  rename_i i
  have e2 : y = .int i := r2
  subst e2
  cases q1 : itemsOf st d with
  | some ds =>
    simp only [ixV, q1] at p
    cases q2 : atI ds i with
    | none => simp only [q2] at p
    | some d' =>
      simp only [q2] at p
      obtain ⟨a, xs, rfl, h1, h2, _⟩ := items_rd R r1 q1
      obtain ⟨z, e3, r3⟩ := h2.atI q2
      rcases h1 with h1 | h1
      · refine ix_list value slice pins s σ H _ _ v u Q I rx ry ⟨a, xs, i, z, rfl, rfl, h1, e3, k.here p R r3⟩ hsub
      · refine ix_tup value slice pins s σ H _ _ v u Q I rx ry ⟨a, xs, i, z, rfl, rfl, h1, e3, k.here p R r3⟩ hsub
  | none =>
    simp only [ixV, q1] at p
    cases d with
    | str z =>
      obtain ⟨p1, p2⟩ := p
      cases q2 : atI z.cps.toList i with
      | none => rw [q2] at p2; exact p2.elim
      | some c =>
        rw [q2] at p2
        have e1 : x = .str z := r1
        subst e1
        refine ix_str value slice pins s σ H _ _ v u Q I rx ry ⟨z, i, c, rfl, rfl, p1, q2, k.here p2 R rfl⟩ hsub
    | _ => exact p.elim
theorem d_ix (ha : DE X a wa) (hb : DE X b wb) (hs : PlainIx b := by exact fun _ _ => rfl) : DE X (.Subscript a b pos) (wBin ixV wa wb) :=
  peImp (pe_ix do_ix ha hb hs) fun _ _ _ h => bin_lift h
theorem do_no : DO X none wNo := ⟨fun pins s σ H Q I h => by
  obtain ⟨ρ, env, st, P, R, N, w, k⟩ := h
  exact po_none.run pins s σ H Q I (k none st w ρ H .refl R)⟩
theorem do_some (h : DE X a wa) : DO X (some a) (wPart wa) := ⟨fun pins s σ H Q I hh => by
  refine (po_some h).run pins s σ H Q I ?_
  obtain ⟨ρ, env, st, P, R, N, w, k⟩ := hh
  refine ⟨ρ, env, st, _, R, N, w, fun d1 st1 p1 ρ1 H1 x1 s1 R1 r1 => ?_⟩
  cases d1 <;> first | exact p1.elim | skip
  rename_i i
  exact ⟨i, r1, k _ _ p1 _ _ s1 R1⟩⟩
theorem cut_rv {K : PySem.W.Frag} {ρ : List Addr} {H : Hp} {ds : List Val} {xs : List V} (r : RVs K ρ H ds xs) (lo hi : Option Int) : RVs K ρ H (cutD ds lo hi) (cutV xs lo hi) := by
  unfold cutD cutV
  rw [r.len]
  exact (r.drop _).take _
def liftSl (K : PySem.W.Frag) : V → Option Int → Option Int → Hp → VK → Prop := fun x lo hi H Q => ∃ ρ st d P, Rst K ρ H st ∧ RV K ρ H d x ∧ slV lo hi d st P ∧ AfV K ρ H P Q
theorem do_sl : SlR X (liftSl X.K) := by
  intro pins s σ H x v vl vu lo hi sl Q I rx hs pl pu q
  obtain ⟨ρ, st, d, P, R, r, p, k⟩ := q
  cases d with
  | tup ds =>
    obtain ⟨a, xs, rfl, a1, a2, a3⟩ := r
    refine sl_tupA pins s σ H _ v vl vu lo hi sl Q I rx hs pl pu ⟨a, xs, rfl, a1, fun e => ?_, fun e q hq => ?_⟩
    · refine k.here p R ⟨a, xs, rfl, a1, a2, ?_⟩
      have z : cutD ds lo hi = ds := by
        unfold cutD
        rw [← a3.len, e.1, e.2, List.drop_zero, Nat.sub_zero, a3.len, List.take_length]
      rw [z]
      exact a3
    · exact k _ _ p ρ _ _ (Step.new hq) (R.new hq) ⟨q, _, rfl, SqT.of upd_same, Nat.le_trans (cutV_length xs lo hi) a2, (cut_rv a3 lo hi).mono (Step.new hq)⟩
  | str z =>
    have e1 : x = .str z := r
    subst e1
    exact C8.sl_txt pins s σ H _ v vl vu lo hi sl Q I rx hs pl pu ⟨z, rfl, p.1, k.here p.2 R rfl⟩
  | _ => exact p.elim
theorem sl_lift {wl wh : WO} {σ : L2.St} {H : Hp} {Q : VK} (h : liftE X.K (wSl wa wl wh) σ H Q) : tSl (liftSl X.K) (liftE X.K wa) (liftO1 X.K wl) (liftO1 X.K wh) σ H Q := by
  obtain ⟨ρ, env, st, P, R, N, w, k⟩ := h
  refine ⟨ρ, env, st, _, R, N, w, fun d1 st1 p1 ρ1 H1 x1 s1 R1 r1 => ?_⟩
  refine ⟨ρ1, env, st1, _, R1, N.mono s1, p1, fun o2 st2 p2 ρ2 H2 s2 R2 => ?_⟩
  refine ⟨ρ2, env, st2, _, R2, N.mono (s1.trans s2), p2, fun o3 st3 p3 ρ3 H3 s3 R3 => ?_⟩
  exact ⟨ρ3, st3, d1, P, R3, r1.mono (s2.trans s3), p3, k.go ((s1.trans s2).trans s3)⟩
theorem d_slice {lo hi : Option Expr} {wl wh : WO} (ha : DE X a wa) (hl : DO X lo wl) (hu : DO X hi wh) : DE X (.Subscript a (.Slice lo hi none p2) pos) (wSl wa wl wh) :=
  peImp (pe_slice do_sl ha hl hu) fun _ _ _ h => sl_lift h
end
end DL

set_option Elab.async false
set_option linter.all false
set_option maxRecDepth 100000
set_option maxHeartbeats 4000000
namespace DL
open PySem L2

/-! ### expressions whose value is a list: a new one, or a cell -/
inductive LVal where
  | new (ds : List Val) | at_ (n : Nat)
def RL (K : PySem.W.Frag) (ρ : List Addr) (H : Hp) : LVal → Addr → Prop
  | .new ds, D => D ∉ ρ ∧ ∃ ys, H D = some (.lst ys) ∧ ys.length ≤ sizeLine ∧ RVs K ρ H ds ys
  | .at_ n, D => ρ[n]? = some D
/-- a new one was not there at the start -/
def NewAt (H : Hp) : LVal → Addr → Prop
  | .new _, D => H D = none
  | .at_ _, _ => True
abbrev WL := Slots → Store → (LVal → Store → Prop) → Prop
def AfL (K : PySem.W.Frag) (ρ : List Addr) (H : Hp) (P : LVal → Store → Prop) (Q : VK) : Prop :=
  ∀ l st', P l st' → ∀ ρ' H' D, Step K ρ ρ' H H' → Rst K ρ' H' st' → RL K ρ' H' l D → NewAt H l D → Q (.ref D) H'
def liftL (K : PySem.W.Frag) (w : WL) : TE := fun σ H Q => ∃ ρ env st P, Rst K ρ H st ∧ Ren K ρ σ H env ∧ w env st P ∧ AfL K ρ H P Q
abbrev DLs (X : Cx) (e : Expr) (w : WL) : Prop := PE X e (liftL X.K w)
def lvItems (st : Store) : LVal → Option (List Val)
  | .new ds => some ds
  | .at_ n => itemsOf st (.loc n)
def lvLst (st : Store) : LVal → Option (List Val)
  | .new ds => some ds
  | .at_ n => match st[n]? with
    | some (.lst ds) => some ds
    | _ => none
section
variable {K : PySem.W.Frag} {ρ ρ' : List Addr} {H H' : Hp} {st : Store} {l : LVal} {D : Addr} {ds : List Val}
theorem NewAt.back (s : Step K ρ ρ' H H') {ρ'' : List Addr} {H'' : Hp} (s2 : Step K ρ' ρ'' H' H'') (r : RL K ρ'' H'' l D) (n : NewAt H' l D) : NewAt H l D := by
  cases l with
  | new ds =>
    have n' : H' D = none := n
    obtain ⟨hD, _⟩ := r
    show H D = none
    cases e : H D with
    | none => rfl
    | some o =>
      have h1 : D ∉ ρ := fun m => hD (by
        obtain ⟨i, hi⟩ := List.mem_iff_getElem?.mp m
        exact List.mem_of_getElem? (s2.pre i D (s.pre i D hi)))
      rw [s.keep D o e h1] at n'
      cases n'
  | at_ n => trivial
theorem AfL.go {P : LVal → Store → Prop} {Q : VK} (s : Step K ρ ρ' H H') (h : AfL K ρ H P Q) : AfL K ρ' H' P Q :=
  fun l st' p ρ2 H2 D s' r v n => h l st' p ρ2 H2 D (s.trans s') r v (n.back s s' v)
theorem RL.mono (s : Step K ρ ρ' H H') (r : RL K ρ H l D) : RL K ρ' H' l D := by
  cases l with
  | new ds =>
    obtain ⟨h1, ys, h2, h3, h4⟩ := r
    refine ⟨fun m => ?_, ys, s.keep D _ h2 h1, h3, h4.mono s⟩
    rcases s.fresh D m with q | q
    · exact h1 q
    · rw [h2] at q; cases q
  | at_ n => exact s.pre n D r
theorem RL.read (R : Rst K ρ H st) (r : RL K ρ H l D) (h : lvItems st l = some ds) : ∃ ys, SqL K H D ys ∧ RVs K ρ H ds ys ∧ ys.length ≤ sizeLine := by
  cases l with
  | new es =>
    cases h
    obtain ⟨h1, ys, h2, h3, h4⟩ := r
    exact ⟨ys, SqL.of h2, h4, h3⟩
  | at_ n =>
    have h' : itemsOf st (.loc n) = some ds := h
    unfold itemsOf at h'
    simp only at h'
    split at h'
    · rename_i es e
      cases h'
      obtain ⟨xs, q1, q2, q3⟩ := R.cells n D _ r e
      exact ⟨xs, SqL.of q1, q3, q2⟩
    · cases h'
theorem RL.readL (R : Rst K ρ H st) (r : RL K ρ H l D) (h : lvLst st l = some ds) : ∃ ys, H D = some (.lst ys) ∧ RVs K ρ H ds ys ∧ ys.length ≤ sizeLine := by
  cases l with
  | new es =>
    cases h
    obtain ⟨h1, ys, h2, h3, h4⟩ := r
    exact ⟨ys, h2, h4, h3⟩
  | at_ n =>
    unfold lvLst at h
    simp only at h
    split at h
    · rename_i es e
      cases h
      obtain ⟨xs, q1, q2, q3⟩ := R.cells n D _ r e
      exact ⟨xs, q1, q3, q2⟩
    · cases h
mutual
theorem rv_pre (pre : ∀ (n : Nat) (a : Addr), ρ[n]? = some a → ρ'[n]? = some a) : ∀ {d : Val} {x : V}, RV K ρ H d x → RV K ρ' H d x
  | .non, _, h => h
  | .bl _, _, h => h
  | .int _, _, h => h
  | .str _, _, h => h
  | .adr _, _, h => h
  | .ty _, _, h => h
  | .loc n, x, h => by
    obtain ⟨a, h1, h2⟩ := h
    exact ⟨a, pre n a h1, h2⟩
  | .tup ds, x, h => by
    obtain ⟨a, xs, h1, h2, h3, h4⟩ := h
    exact ⟨a, xs, h1, h2, h3, rvs_pre pre h4⟩
  | .rol ds, x, h => by
    obtain ⟨a, xs, h1, h2, h3, h4⟩ := h
    exact ⟨a, xs, h1, h2, h3, rvs_pre pre h4⟩
theorem rvs_pre (pre : ∀ (n : Nat) (a : Addr), ρ[n]? = some a → ρ'[n]? = some a) : ∀ {ds : List Val} {xs : List V}, RVs K ρ H ds xs → RVs K ρ' H ds xs
  | [], _, h => h
  | d :: ds, xs, h => by
    obtain ⟨y, ys, h1, h2, h3⟩ := h
    exact ⟨y, ys, h1, rv_pre pre h2, rvs_pre pre h3⟩
end
theorem rc_pre {a : Addr} {c : Cell} (pre : ∀ (n : Nat) (a : Addr), ρ[n]? = some a → ρ'[n]? = some a) (r : RC K ρ H a c) : RC K ρ' H a c := by
  cases c with
  | lst ds =>
    obtain ⟨xs, e, l, v⟩ := r
    exact ⟨xs, e, l, rvs_pre pre v⟩
  | obj C fs =>
    obtain ⟨dx, xs, e, l, v⟩ := r
    exact ⟨dx, xs, e, l, rvs_pre pre v⟩
/-- a new list becomes a cell -/
theorem Rst.adopt {ys : List V} (R : Rst K ρ H st) (hD : D ∉ ρ) (h : H D = some (.lst ys)) (hl : ys.length ≤ sizeLine) (r : RVs K ρ H ds ys) : Rst K (ρ ++ [D]) H (st ++ [.lst ds]) := by
  have inL : ∀ {n a c}, (ρ ++ [D])[n]? = some a → (st ++ [Cell.lst ds])[n]? = some c → (n < ρ.length ∧ ρ[n]? = some a ∧ st[n]? = some c) ∨ (n = ρ.length ∧ a = D ∧ c = .lst ds) := fun {n a c} h1 h3 => by
    by_cases hn : n < ρ.length
    · rw [List.getElem?_append_left hn] at h1
      rw [List.getElem?_append_left (by rw [← R.len]; exact hn)] at h3
      exact .inl ⟨hn, h1, h3⟩
    · rw [List.getElem?_append_right (by omega)] at h1
      rw [List.getElem?_append_right (by rw [← R.len]; omega)] at h3
      have hn0 : n - ρ.length = 0 := by
        have := (List.getElem?_eq_some_iff.mp h1).1
        simp at this
        omega
      rw [hn0] at h1
      rw [← R.len, hn0] at h3
      simp at h1 h3
      exact .inr ⟨by omega, h1.symm, h3.symm⟩
  have pre : ∀ (n : Nat) (a : Addr), ρ[n]? = some a → (ρ ++ [D])[n]? = some a := fun n a e => by
    rw [List.getElem?_append_left (List.getElem?_eq_some_iff.mp e).1]
    exact e
  exact {
    len := by simp [R.len]
    nd := List.nodup_append.mpr ⟨R.nd, by simp, fun x hx y hy e => by
      have z : y = D := by simpa using hy
      subst e z
      exact hD hx⟩
    cells := fun n a c h1 h3 => by
      rcases inL h1 h3 with ⟨l1, a1, b1⟩ | ⟨l1, a1, b1⟩
      · exact rc_pre pre (R.cells n a c a1 b1)
      · subst a1 b1
        exact ⟨ys, h, hl, rvs_pre pre r⟩ }
/-- from the start of an evaluation to a heap in which its new list is a cell -/
theorem Step.adopt (s : Step K ρ ρ' H H') (n : H D = none) : Step K ρ (ρ' ++ [D]) H H' where
  pre := fun i a e => by
    have e1 := s.pre i a e
    rw [List.getElem?_append_left (List.getElem?_eq_some_iff.mp e1).1]
    exact e1
  fresh := fun a m => by
    rcases List.mem_append.mp m with m | m
    · exact s.fresh a m
    · have z : a = D := by simpa using m
      subst z
      exact .inr n
  keep := s.keep
  tup := s.tup
  rol := s.rol
end

def wLoc (we : WE) : WL := fun env st Q => we env st fun d st1 => match d with
  | .loc n => Q (.at_ n) st1
  | _ => False
/-- as a value: a new cell -/
def wNew (w : WL) : WE := fun env st Q => w env st fun l st1 => match l with
  | .new ds => Q (.loc st1.length) (st1 ++ [.lst ds])
  | .at_ n => Q (.loc n) st1
def wLst (w : WA) : WL := fun env st Q => w env st fun ds st1 => ds.length ≤ sizeLine ∧ Q (.new ds) st1
def wCL (o : List Val → Store → DK → Prop) (w : WL) : WE := fun env st Q => w env st fun l st1 => match lvItems st1 l with
  | some ds => o ds st1 Q
  | none => False
def wCatL (wa wb : WL) : WL := fun env st Q => wa env st fun l st1 => wb env st1 fun m st2 => match lvLst st2 l, lvLst st2 m with
  | some ds, some es => ds.length + es.length ≤ sizeLine ∧ Q (.new (ds ++ es)) st2
  | _, _ => False
def wSlL (wa : WL) (wl wh : WO) : WL := fun env st Q => wa env st fun l st1 => wl env st1 fun lo st2 => wh env st2 fun hi st3 => match lvItems st3 l with
  | some ds => Q (.new (cutD ds lo hi)) st3
  | none => False
def wListOf (we : WE) : WL := fun env st Q => we env st fun d st1 => match itemsOf st1 d with
  | some ds => Q (.new ds) st1
  | none => False
/-- .. of a list-valued expression -/
def wListOfL (w : WL) : WL := fun env st Q => w env st fun l st1 => match lvItems st1 l with
  | some ds => Q (.new ds) st1
  | none => False
section
variable {X : Cx} {a b e : Expr} {es : List Expr} {we : WE} {w wl : WL} {wa : WA} {pos p p2 : Pos} {σ : L2.St} {H : Hp}
theorem dl_of (h : DE X e we) : DLs X e (wLoc we) := peImp h fun σ H Q h => by
  obtain ⟨ρ, env, st, P, R, N, w, k⟩ := h
  refine ⟨ρ, env, st, _, R, N, w, fun d1 st1 p1 ρ1 H1 x1 s1 R1 r1 => ?_⟩
  cases d1 <;> first | exact p1.elim | skip
  obtain ⟨a, h1, rfl⟩ := r1
  exact k _ _ p1 ρ1 H1 a s1 R1 h1 trivial
theorem d_new (h : DLs X e w) : DE X e (wNew w) := peImp h fun σ H Q h => by
  obtain ⟨ρ, env, st, P, R, N, w, k⟩ := h
  refine ⟨ρ, env, st, _, R, N, w, fun l st1 p1 ρ1 H1 D s1 R1 r1 n1 => ?_⟩
  cases l with
  | new ds =>
    obtain ⟨h1, ys, h2, h3, h4⟩ := r1
    refine k _ _ p1 _ H1 _ (s1.adopt n1) (R1.adopt h1 h2 h3 h4) ⟨D, ?_, rfl⟩
    rw [← R1.len, List.getElem?_append_right (Nat.le_refl _), Nat.sub_self]
    rfl
  | at_ n => exact k _ _ p1 ρ1 H1 _ s1 R1 ⟨D, r1, rfl⟩
theorem new_lst {K : PySem.W.Frag} {ρ : List Addr} {H : Hp} {st : Store} {ds : List Val} {xs : List V} {P : LVal → Store → Prop} {Q : VK} (R : Rst K ρ H st) (r : RVs K ρ H ds xs) (hl : xs.length ≤ sizeLine) (p : P (.new ds) st) (k : AfL K ρ H P Q) :
    ∀ q, H q = none → Q (.ref q) (upd H q (.lst xs)) := fun q hq =>
  k _ _ p ρ _ q (Step.new hq) (R.new hq) ⟨R.out hq, xs, upd_same, hl, r.mono (Step.new hq)⟩ hq
end
end DL

set_option Elab.async false
set_option linter.all false
set_option maxRecDepth 100000
set_option maxHeartbeats 4000000
namespace DL
open PySem L2

section
variable {X : Cx} {a b e : Expr} {es : List Expr} {we : WE} {w wl wm : WL} {wa : WA} {pos p p2 : Pos} {σ : L2.St} {H : Hp}
theorem dl_lst (h : DA X es wa) : DLs X (.List es pos) (wLst wa) := peImp (pe_lst h) fun σ H Q h => by
  obtain ⟨ρ, env, st, P, R, N, w, k⟩ := h
  refine ⟨ρ, env, st, _, R, N, w, fun d1 st1 p1 ρ1 H1 x1 s1 R1 r1 => ?_⟩
  have hl : x1.length ≤ sizeLine := by rw [r1.len]; exact p1.1
  exact ⟨hl, new_lst R1 r1 hl p1.2 (k.go s1)⟩
/-- an operator on two lists -/
def liftLL (K : PySem.W.Frag) (o : LVal → LVal → Store → (LVal → Store → Prop) → Prop) : R2 := fun x y H Q => ∃ ρ st l m D E P, x = .ref D ∧ y = .ref E ∧ Rst K ρ H st ∧ RL K ρ H l D ∧ RL K ρ H m E ∧ o l m st P ∧ AfL K ρ H P Q
def catW (l m : LVal) (st : Store) (Q : LVal → Store → Prop) : Prop := match lvLst st l, lvLst st m with
  | some ds, some es => ds.length + es.length ≤ sizeLine ∧ Q (.new (ds ++ es)) st
  | _, _ => False
theorem do_catL : OpR X (binaryOp .Add) (liftLL X.K catW) := by
  intro pins s σ H x y v u Q I rx ry q
  obtain ⟨ρ, st, l, m, D, E, P, rfl, rfl, R, r1, r2, p, k⟩ := q
  unfold catW at p
  split at p
  · rename_i ds es q1 q2
    obtain ⟨ys, h1, h2, h3⟩ := r1.readL R q1
    obtain ⟨zs, g1, g2, g3⟩ := r2.readL R q2
    have hl : ys.length + zs.length ≤ sizeLine := by rw [h2.len, g2.len]; exact p.1
    exact op_cat pins s σ H _ _ v u Q I rx ry ⟨D, E, ys, zs, rfl, rfl, h1, g1, hl, new_lst R (h2.app g2) (by rw [List.length_append]; exact hl) p.2 k⟩
  · exact p.elim
def wBinL (o : LVal → LVal → Store → (LVal → Store → Prop) → Prop) (wa wb : WL) : WL := fun env st Q => wa env st fun l st1 => wb env st1 fun m st2 => o l m st2 Q
theorem dl_cat (ha : DLs X a wl) (hb : DLs X b wm) : DLs X (.BinOp a .Add b pos) (wBinL catW wl wm) := peImp (pe_op do_catL ha hb) fun σ H Q h => by
  obtain ⟨ρ, env, st, P, R, N, w, k⟩ := h
  refine ⟨ρ, env, st, _, R, N, w, fun l1 st1 p1 ρ1 H1 D1 s1 R1 r1 n1 => ?_⟩
  refine ⟨ρ1, env, st1, _, R1, N.mono s1, p1, fun l2 st2 p2 ρ2 H2 D2 s2 R2 r2 n2 => ?_⟩
  exact ⟨ρ2, st2, l1, l2, D1, D2, P, rfl, rfl, R2, r1.mono s2, r2, p2, k.go (s1.trans s2)⟩
/-- slices of lists -/
def slW (lo hi : Option Int) (l : LVal) (st : Store) (Q : LVal → Store → Prop) : Prop := match lvItems st l with
  | some ds => Q (.new (cutD ds lo hi)) st
  | none => False
def liftSlL (K : PySem.W.Frag) : V → Option Int → Option Int → Hp → VK → Prop := fun x lo hi H Q => ∃ ρ st l D P, x = .ref D ∧ Rst K ρ H st ∧ RL K ρ H l D ∧ slW lo hi l st P ∧ AfL K ρ H P Q
theorem do_slL : SlR X (liftSlL X.K) := by
  intro pins s σ H x v vl vu lo hi sl Q I rx hs pl pu q
  obtain ⟨ρ, st, l, D, P, rfl, R, r, p, k⟩ := q
  unfold slW at p
  split at p
  · rename_i ds q1
    obtain ⟨ys, h1, h2, h3⟩ := r.read R q1
    exact sl_list pins s σ H _ v vl vu lo hi sl Q I rx hs pl pu ⟨D, ys, rfl, h1, new_lst R (cut_rv h2 lo hi) (Nat.le_trans (cutV_length _ _ _) h3) p k⟩
  · exact p.elim
def wSlLs (w : WL) (wl wh : WO) : WL := fun env st Q => w env st fun l st1 => wl env st1 fun lo st2 => wh env st2 fun hi st3 => slW lo hi l st3 Q
theorem dl_slice {lo hi : Option Expr} {wlo whi : WO} (ha : DLs X a w) (hl : DO X lo wlo) (hu : DO X hi whi) : DLs X (.Subscript a (.Slice lo hi none p2) pos) (wSlLs w wlo whi) :=
  peImp (pe_slice do_slL ha hl hu) fun σ H Q h => by
    obtain ⟨ρ, env, st, P, R, N, w, k⟩ := h
    refine ⟨ρ, env, st, _, R, N, w, fun l1 st1 p1 ρ1 H1 D1 s1 R1 r1 n1 => ?_⟩
    refine ⟨ρ1, env, st1, _, R1, N.mono s1, p1, fun o2 st2 p2 ρ2 H2 s2 R2 => ?_⟩
    refine ⟨ρ2, env, st2, _, R2, N.mono (s1.trans s2), p2, fun o3 st3 p3 ρ3 H3 s3 R3 => ?_⟩
    exact ⟨ρ3, st3, l1, D1, P, rfl, R3, r1.mono (s2.trans s3), p3, k.go ((s1.trans s2).trans s3)⟩
/-- list(x) -/
def liftCN (K : PySem.W.Frag) (o : List Val → Store → (LVal → Store → Prop) → Prop) : List V → Hp → VK → Prop := fun xs H Q => ∃ ρ st ds P, Rst K ρ H st ∧ RVs K ρ H ds xs ∧ o ds st P ∧ AfL K ρ H P Q
def wCBL (o : List Val → Store → (LVal → Store → Prop) → Prop) (w : WA) : WL := fun env st Q => w env st fun ds st1 => o ds st1 Q
theorem cbl_lift {K : PySem.W.Frag} {o : List Val → Store → (LVal → Store → Prop) → Prop} {w : WA} {Q : VK} (h : liftL K (wCBL o w) σ H Q) : tCB (liftCN K o) (liftA K w) σ H Q := by
  obtain ⟨ρ, env, st, P, R, N, w, k⟩ := h
  refine ⟨ρ, env, st, _, R, N, w, fun d1 st1 p1 ρ1 H1 x1 s1 R1 r1 => ?_⟩
  exact ⟨ρ1, st1, d1, P, R1, r1, p1, k.go s1⟩
theorem dl_callTy {x : Str} {T : String} {o : List Val → Store → (LVal → Store → Prop) → Prop} (hc : CallR X (.type T) (liftCN X.K o)) (hg : Gl X x) (hm : X.mg x = none) (hv : bootBuiltins x = some (.type T)) (ha : DA X (e :: es) wa) (hn : x ≠ "__name__" := by decide) (hdb : (x == ("__debug__" : Str)) = false := by decide)
    (he : starEach (e :: es) X.env = (false, eval e X.env) :: starEach es X.env := by rfl) (hpl : (backTo pos (starEach es X.env)).any (·.1) = false := by rfl) : DLs X (.Call (.Name x p) (e :: es) [] pos) (wCBL o wa) :=
  peImp (pe_callTy hc hg hm hv ha hn hdb he hpl) fun _ _ _ h => cbl_lift h
def listW : List Val → Store → (LVal → Store → Prop) → Prop
  | [d], st, Q => match itemsOf st d with
    | some ds => Q (.new ds) st
    | none => False
  | _, _, _ => False
theorem one_of {K : PySem.W.Frag} {ρ : List Addr} {H : Hp} {d : Val} {xs : List V} (r : RVs K ρ H [d] xs) : ∃ x, xs = [x] ∧ RV K ρ H d x := by
  obtain ⟨y, ys, rfl, h, h2⟩ := r
  have z : ys = [] := h2
  subst z
  exact ⟨y, rfl, h⟩
theorem two_of {K : PySem.W.Frag} {ρ : List Addr} {H : Hp} {d e : Val} {xs : List V} (r : RVs K ρ H [d, e] xs) : ∃ x y, xs = [x, y] ∧ RV K ρ H d x ∧ RV K ρ H e y := by
  obtain ⟨y, ys, rfl, h, h2⟩ := r
  obtain ⟨z, rfl, h3⟩ := one_of h2
  exact ⟨y, z, rfl, h, h3⟩
theorem dc_list : CallR X (.type "list") (liftCN X.K listW) := by
  intro pins s σ H xs us Q I r q
  obtain ⟨ρ, st, ds, P, R, rv, p, k⟩ := q
  match ds, p, rv with
  | [d], p, rv =>
    obtain ⟨x, rfl, r1⟩ := one_of rv
    cases q1 : itemsOf st d with
    | none => simp only [listW, q1] at p
    | some es =>
      simp only [listW, q1] at p
      obtain ⟨a, ys, rfl, h1, h2, h3⟩ := items_rd R r1 q1
      exact call_list_of pins s σ H _ us Q I r ⟨a, ys, rfl, h1, new_lst R h2 h3 p k⟩
/-! ### built-ins of a list -/
def liftCL (K : PySem.W.Frag) (o : List Val → Store → DK → Prop) : List V → Hp → VK → Prop := fun xs H Q => ∃ D ρ st l ds P, xs = [.ref D] ∧ Rst K ρ H st ∧ RL K ρ H l D ∧ lvItems st l = some ds ∧ o ds st P ∧ AfV K ρ H P Q
theorem cl_lift {K : PySem.W.Frag} {o : List Val → Store → DK → Prop} {Q : VK} (h : liftE K (wCL o w) σ H Q) : tCB (liftCL K o) (tCons (liftL K w) tNil) σ H Q := by
  obtain ⟨ρ, env, st, P, R, N, w, k⟩ := h
  refine ⟨ρ, env, st, _, R, N, w, fun l1 st1 p1 ρ1 H1 D1 s1 R1 r1 n1 => ?_⟩
  cases q1 : lvItems st1 l1 with
  | none => simp only [q1] at p1
  | some ds =>
    simp only [q1] at p1
    exact ⟨D1, ρ1, st1, l1, ds, P, rfl, R1, r1, q1, p1, k.go s1⟩
theorem d_callBL {x : Str} {id : String} {o : List Val → Store → DK → Prop} (hc : CallR X (.builtin id) (liftCL X.K o)) (hg : Gl X x) (hm : X.mg x = none) (hv : bootBuiltins x = some (.builtin id)) (ha : DLs X e w) (hn : x ≠ "__name__" := by decide) (hdb : (x == ("__debug__" : Str)) = false := by decide)
    (he : starEach [e] X.env = (false, eval e X.env) :: starEach [] X.env := by rfl) (hpl : (backTo pos (starEach [] X.env)).any (·.1) = false := by rfl) : DE X (.Call (.Name x p) [e] [] pos) (wCL o w) :=
  peImp (pe_callB hc hg hm hv (pa_cons ha pa_nil he) hn hdb he hpl) fun _ _ _ h => cl_lift h
theorem d_callTyL {x : Str} {T : String} {o : List Val → Store → DK → Prop} (hc : CallR X (.type T) (liftCL X.K o)) (hg : Gl X x) (hm : X.mg x = none) (hv : bootBuiltins x = some (.type T)) (ha : DLs X e w) (hn : x ≠ "__name__" := by decide) (hdb : (x == ("__debug__" : Str)) = false := by decide)
    (he : starEach [e] X.env = (false, eval e X.env) :: starEach [] X.env := by rfl) (hpl : (backTo pos (starEach [] X.env)).any (·.1) = false := by rfl) : DE X (.Call (.Name x p) [e] [] pos) (wCL o w) :=
  peImp (pe_callTy hc hg hm hv (pa_cons ha pa_nil he) hn hdb he hpl) fun _ _ _ h => cl_lift h
def tupW (ds : List Val) (st : Store) (Q : DK) : Prop := Q (.tup ds) st
theorem dc_tupleL : CallR X (.type "tuple") (liftCL X.K tupW) := by
  intro pins s σ H xs us Q I r q
  obtain ⟨D, ρ, st, l, ds, P, rfl, R, rl, q1, p, k⟩ := q
  obtain ⟨ys, h1, h2, h3⟩ := rl.read R q1
  exact call_tuple_of pins s σ H _ us Q I r ⟨D, ys, rfl, .inl ⟨h1, tup_new R h2 h3 p k⟩⟩
def lenW (ds : List Val) (st : Store) (Q : DK) : Prop := Q (.int ds.length) st
theorem dc_lenL : CallR X (.builtin "len") (liftCL X.K lenW) := by
  intro pins s σ H xs us Q I r q
  obtain ⟨D, ρ, st, l, ds, P, rfl, R, rl, q1, p, k⟩ := q
  obtain ⟨ys, h1, h2, h3⟩ := rl.read R q1
  refine call_len_seq pins s σ H _ us Q I r ⟨D, ys, rfl, .inl h1, ?_⟩
  rw [h2.len]
  exact k.here p R rfl
def blsOf : List Val → Option (List Bool)
  | [] => some []
  | .bl b :: ds => (blsOf ds).map (b :: ·)
  | _ => none
theorem blsOf_rv {K : PySem.W.Frag} {ρ : List Addr} {H : Hp} : ∀ {ds : List Val} {bs : List Bool} {xs : List V}, blsOf ds = some bs → RVs K ρ H ds xs → xs = bs.map V.bl
  | [], bs, xs, h, r => by cases h; exact r
  | .bl b :: ds, bs, xs, h, r => by
    unfold blsOf at h
    cases q : blsOf ds with
    | none => rw [q] at h; cases h
    | some cs =>
      rw [q] at h
      cases h
      obtain ⟨y, ys, rfl, h1, h2⟩ := r
      have z : y = .bl b := h1
      subst z
      rw [blsOf_rv q h2]
      rfl
  | .non :: ds, bs, xs, h, r => by cases h
  | .int _ :: ds, bs, xs, h, r => by cases h
  | .str _ :: ds, bs, xs, h, r => by cases h
  | .tup _ :: ds, bs, xs, h, r => by cases h
  | .loc _ :: ds, bs, xs, h, r => by cases h
  | .adr _ :: ds, bs, xs, h, r => by cases h
  | .ty _ :: ds, bs, xs, h, r => by cases h
  | .rol _ :: ds, bs, xs, h, r => by cases h
def allW (ds : List Val) (st : Store) (Q : DK) : Prop := match blsOf ds with
  | some bs => Q (.bl (bs.all id)) st
  | none => False
def anyW (ds : List Val) (st : Store) (Q : DK) : Prop := match blsOf ds with
  | some bs => Q (.bl (bs.any id)) st
  | none => False
theorem dc_all (hc : X.calm = true) : CallR X (.builtin "all") (liftCL X.K allW) := by
  intro pins s σ H xs us Q I r q
  obtain ⟨D, ρ, st, l, ds, P, rfl, R, rl, q1, p, k⟩ := q
  obtain ⟨ys, h1, h2, h3⟩ := rl.read R q1
  unfold allW at p
  split at p
  · rename_i bs qb
    have z := blsOf_rv qb h2
    subst z
    exact cr_all hc pins s σ H _ us Q I r ⟨D, bs, rfl, h1, k.here p R rfl⟩
  · exact p.elim
theorem dc_any (hc : X.calm = true) : CallR X (.builtin "any") (liftCL X.K anyW) := by
  intro pins s σ H xs us Q I r q
  obtain ⟨D, ρ, st, l, ds, P, rfl, R, rl, q1, p, k⟩ := q
  obtain ⟨ys, h1, h2, h3⟩ := rl.read R q1
  unfold anyW at p
  split at p
  · rename_i bs qb
    have z := blsOf_rv qb h2
    subst z
    exact cr_any hc pins s σ H _ us Q I r ⟨D, bs, rfl, h1, k.here p R rfl⟩
  · exact p.elim
/-! ### built-ins of values -/
def lenV : List Val → Store → DK → Prop
  | [d], st, Q => match itemsOf st d with
    | some ds => Q (.int ds.length) st
    | none => match d with
      | .str z => z.length ≤ sizeLine ∧ Q (.int z.length) st
      | _ => False
  | _, _, _ => False
theorem dc_len : CallR X (.builtin "len") (liftC X.K lenV) := by
  intro pins s σ H xs us Q I r q
  obtain ⟨ρ, st, ds, P, R, rv, p, k⟩ := q
  match ds, p, rv with
  | [d], p, rv =>
    obtain ⟨x, rfl, r1⟩ := one_of rv
    cases q1 : itemsOf st d with
    | some es =>
      simp only [lenV, q1] at p
      obtain ⟨a, ys, rfl, h1, h2, h3⟩ := items_rd R r1 q1
      refine call_len_seq pins s σ H _ us Q I r ⟨a, ys, rfl, h1, ?_⟩
      rw [h2.len]
      exact k.here p R rfl
    | none =>
      simp only [lenV, q1] at p
      cases d with
      | str z =>
        have e1 : x = .str z := r1
        subst e1
        exact call_len_str pins s σ H _ us Q I r ⟨z, rfl, p.1, k.here p.2 R rfl⟩
      | _ => exact p.elim
def tupV : List Val → Store → DK → Prop
  | [d], st, Q => match itemsOf st d with
    | some ds => Q (.tup ds) st
    | none => False
  | _, _, _ => False
theorem dc_tuple : CallR X (.type "tuple") (liftC X.K tupV) := by
  intro pins s σ H xs us Q I r q
  obtain ⟨ρ, st, ds, P, R, rv, p, k⟩ := q
  match ds, p, rv with
  | [d], p, rv =>
    obtain ⟨x, rfl, r1⟩ := one_of rv
    cases q1 : itemsOf st d with
    | none => simp only [tupV, q1] at p
    | some es =>
      simp only [tupV, q1] at p
      obtain ⟨a, ys, rfl, h1, h2, h3⟩ := items_rd R r1 q1
      refine call_tuple_of pins s σ H _ us Q I r ⟨a, ys, rfl, ?_⟩
      rcases h1 with h1 | h1
      · exact .inl ⟨h1, tup_new R h2 h3 p k⟩
      · exact .inr ⟨h1, k.here p R ⟨a, ys, rfl, h1, h3, h2⟩⟩
def intV : List Val → Store → DK → Prop
  | [.int i], st, Q => Q (.int i) st
  | [.bl b], st, Q => Q (.int (if b = true then 1 else 0)) st
  | _, _, _ => False
theorem dc_int : CallR X (.type "int") (liftC X.K intV) := by
  intro pins s σ H xs us Q I r q
  obtain ⟨ρ, st, ds, P, R, rv, p, k⟩ := q
  match ds, p, rv with
  | [.int i], p, rv =>
    obtain ⟨x, rfl, r1⟩ := one_of rv
    have z : x = .int i := r1
    subst z
    exact call_int1 pins s σ H _ us Q I r (.inl ⟨i, rfl, k.here p R rfl⟩)
  | [.bl b], p, rv =>
    obtain ⟨x, rfl, r1⟩ := one_of rv
    have z : x = .bl b := r1
    subst z
    exact call_int1 pins s σ H _ us Q I r (.inr ⟨b, rfl, k.here p R rfl⟩)
def maxV : List Val → Store → DK → Prop
  | [.int i, .int j], st, Q => Q (.int (if j > i then j else i)) st
  | _, _, _ => False
def minV : List Val → Store → DK → Prop
  | [.int i, .int j], st, Q => Q (.int (if j < i then j else i)) st
  | _, _, _ => False
theorem dc_max (hc : X.calm = true) : CallR X (.builtin "max") (liftC X.K maxV) := by
  intro pins s σ H xs us Q I r q
  obtain ⟨ρ, st, ds, P, R, rv, p, k⟩ := q
  match ds, p, rv with
  | [.int i, .int j], p, rv =>
    obtain ⟨x, y, rfl, r1, r2⟩ := two_of rv
    have z : x = .int i := r1
    have z2 : y = .int j := r2
    subst z z2
    exact call_max2 hc pins s σ H _ us Q I r ⟨i, j, rfl, k.here p R rfl⟩
theorem dc_min (hc : X.calm = true) : CallR X (.builtin "min") (liftC X.K minV) := by
  intro pins s σ H xs us Q I r q
  obtain ⟨ρ, st, ds, P, R, rv, p, k⟩ := q
  match ds, p, rv with
  | [.int i, .int j], p, rv =>
    obtain ⟨x, y, rfl, r1, r2⟩ := two_of rv
    have z : x = .int i := r1
    have z2 : y = .int j := r2
    subst z z2
    exact call_min2 hc pins s σ H _ us Q I r ⟨i, j, rfl, k.here p R rfl⟩
end
/-! ### isinstance of the built-in kinds -/
/-- the kind of a value, as the interpreter names it -/
def tyName (st : Store) : Val → Option String
  | .non => some "NoneType"
  | .bl _ => some "bool"
  | .int _ => some "int"
  | .str _ => some "str"
  | .tup _ => some "tuple"
  | .rol _ => some "list"
  | .loc n => match st[n]? with
    | some (.lst _) => some "list"
    | _ => none
  | _ => none
def isaV : List Val → Store → DK → Prop
  | [d, .ty T], st, Q => match tyName st d with
    | some S => match kitB S T with
      | some b => Q (.bl b) st
      | none => False
    | none => False
  | _, _, _ => False
section
variable {X : Cx}
theorem tyx_of {K : PySem.W.Frag} {ρ : List Addr} {H : Hp} {st : Store} {d : Val} {x : V} {S : String} (R : Rst K ρ H st) (r : RV K ρ H d x) (h : tyName st d = some S) : TyX K H x (.type S) := by
  cases d with
  | non => cases h; have z : x = .non := r; subst z; exact .base .non
  | bl b => cases h; have z : x = .bl b := r; subst z; exact .base (.bl b)
  | int b => cases h; have z : x = .int b := r; subst z; exact .base (.int b)
  | str b => cases h; have z : x = .str b := r; subst z; exact .base (.str b)
  | tup ds =>
    cases h
    obtain ⟨a, xs, rfl, h1, h2, h3⟩ := r
    rcases h1 with (h1 | ⟨o, h1⟩) | ⟨o, its, n, h1, h4, _⟩
    · exact .base (.tup h1)
    · exact .fTuple h1
    · exact .kTuple h1 h4
  | rol ds =>
    cases h
    obtain ⟨a, xs, rfl, h1, h2, h3⟩ := r
    rcases h1 with ⟨o, h1⟩ | (h1 | ⟨o, h1⟩) | ⟨o, its, n, h1, h4, _⟩
    · exact .base (.frz h1)
    · cases h1
    · cases h1
    · exact .kList h1 h4
  | loc n =>
    obtain ⟨a, ha, rfl⟩ := r
    unfold tyName at h
    simp only at h
    split at h
    · rename_i ds e
      cases h
      obtain ⟨xs, q1, q2, q3⟩ := R.cells n a _ ha e
      exact .base (.lst q1)
    · cases h
  | _ => cases h
theorem dc_isa : CallR X (.builtin "isinstance") (liftC X.K isaV) := by
  intro pins s σ H xs us Q I r q
  obtain ⟨ρ, st, ds, P, R, rv, p, k⟩ := q
  match ds, p, rv with
  | [d, .ty T], p, rv =>
    obtain ⟨x, y, rfl, r1, r2⟩ := two_of rv
    have z2 : y = .ty T := r2
    subst z2
    cases q1 : tyName st d with
    | none => simp only [isaV, q1] at p
    | some S =>
      cases q2 : kitB S T with
      | none => simp only [isaV, q1, q2] at p
      | some b =>
        simp only [isaV, q1, q2] at p
        exact call_isi pins s σ H _ us Q I r ⟨x, .ty T, .type S, .type T, b, rfl, .ty T, tyx_of R r1 q1, kit_ty q2, k.here p R rfl⟩
theorem d_ty {x : Str} {T : String} {pos : Pos} (hg : Gl X x) (hm : X.mg x = none) (hv : bootBuiltins x = some (.type T)) (hn : x ≠ "__name__" := by decide) (hd : (x == ("__debug__" : Str)) = false := by decide) : DE X (.Name x pos) (wC (.ty T)) :=
  d_c (t := tC (.ty T)) (v := .ty T) (pe_bltn hg hm hv rfl hn hd) fun _ _ _ => rfl
end
end DL

set_option Elab.async false
set_option linter.all false
set_option maxRecDepth 100000
set_option maxHeartbeats 4000000
namespace DL
open PySem L2

/-! ### targets -/
abbrev DTg := Val → Slots → Option Slots
/-- nothing but the slots js changed -/
def Agr (js : List Nat) (σ σ' : L2.St) : Prop := σ'.length = σ.length ∧ ∀ j, j ∉ js → σ'[j]? = σ[j]?
def liftG (K : PySem.W.Frag) (js : List Nat) (g : DTg) : TG := fun v σ H Q => ∃ ρ env d env', Ren K ρ σ H env ∧ RV K ρ H d v ∧ g d env = some env' ∧
  ∀ σ', Ren K ρ σ' H env' → Agr js σ σ' → Q σ' H
def liftGs (K : PySem.W.Frag) (js : List Nat) (g : List Val → Slots → Option Slots) : TGs := fun v σ H Q => ∃ ρ env d env', Ren K ρ σ H env ∧ RVs K ρ H d v ∧ g d env = some env' ∧
  ∀ σ', Ren K ρ σ' H env' → Agr js σ σ' → Q σ' H
abbrev DG (X : Cx) (tg : Expr) (js : List Nat) (g : DTg) : Prop := PG X tg (liftG X.K js g)
abbrev DGs (X : Cx) (tg : List Expr) (js : List Nat) (g : List Val → Slots → Option Slots) : Prop := PGs X tg (liftGs X.K js g)
theorem pgImp {X : Cx} {e : Expr} {t t' : TG} (h : PG X e t) (i : ∀ v σ H Q, t' v σ H Q → t v σ H Q) : PG X e t' := ⟨fun pins s σ H v u Q I r q => h.run pins s σ H v u Q I r (i v σ H Q q)⟩
theorem pgsImp {X : Cx} {e : List Expr} {t t' : TGs} (h : PGs X e t) (i : ∀ v σ H Q, t' v σ H Q → t v σ H Q) : PGs X e t' := ⟨fun pins s σ H v u Q I r q => h.run pins s σ H v u Q I r (i v σ H Q q)⟩
def gN (i : Nat) : DTg := fun d env => some (env.set i (some d))
def gsNil : List Val → Slots → Option Slots
  | [], env => some env
  | _ :: _, _ => none
def gsCons (g : DTg) (gs : List Val → Slots → Option Slots) : List Val → Slots → Option Slots
  | [], _ => none
  | d :: ds, env => match g d env with
    | some env1 => gs ds env1
    | none => none
def gT (n : Nat) (gs : List Val → Slots → Option Slots) : DTg := fun d env => match d with
  | .tup ds => if ds.length = n then gs ds env else none
  | _ => none
section
variable {X : Cx} {pos : Pos}
theorem dg_name (i : Nat) {x : Str} (hN : X.N.Nodup) (hi : X.N[i]? = some x) (hx : Loc X.env.scope x) (hf : X.fn x = true ∨ X.env.scope.names.lookup x = some .local := by first | exact .inl rfl | exact .inr rfl | assumption) : DG X (.Name x pos) [i] (gN i) :=
  pgImp (pg_name hN hi hx hf) fun v σ H Q h => by
    obtain ⟨ρ, env, d, env', N, r, e, q⟩ := h
    cases e
    exact q _ (N.set r) ⟨List.length_set, fun j hj => List.getElem?_set_ne fun z => hj (by simp [z])⟩
theorem dgs_nil : DGs X [] [] gsNil := pgsImp pgs_nil fun v σ H Q h => by
  obtain ⟨ρ, env, d, env', N, r, e, q⟩ := h
  cases d with
  | nil =>
    cases e
    have z : v = [] := r
    exact ⟨z, q σ N ⟨rfl, fun _ _ => rfl⟩⟩
  | cons d ds => cases e
theorem dgs_cons {e : Expr} {es : List Expr} {js ks : List Nat} {g : DTg} {gs : List Val → Slots → Option Slots} (h1 : DG X e js g) (h2 : DGs X es ks gs)
    (hs : (assignEach (e :: es) X.env).map (·.2) = assign e X.env :: (assignEach es X.env).map (·.2) := by rfl) : DGs X (e :: es) (js ++ ks) (gsCons g gs) := pgsImp (pgs_cons h1 h2 hs) fun v σ H Q h => by
  obtain ⟨ρ, env, d, env', N, r, e, q⟩ := h
  cases d with
  | nil => cases e
  | cons d ds =>
    obtain ⟨y, ys, rfl, r1, r2⟩ := r
    cases q1 : g d env with
    | none => simp only [gsCons, q1] at e; cases e
    | some env1 =>
      simp only [gsCons, q1] at e
      refine ⟨y, ys, rfl, ρ, env, d, env1, N, r1, q1, fun σ1 N1 a1 => ?_⟩
      refine ⟨ρ, env1, ds, env', N1, r2, e, fun σ2 N2 a2 => q σ2 N2 ⟨a2.1.trans a1.1, fun j hj => ?_⟩⟩
      rw [a2.2 j fun m => hj (List.mem_append_right _ m), a1.2 j fun m => hj (List.mem_append_left _ m)]
theorem dg_tup {es : List Expr} {k : Nat} {js : List Nat} {gs : List Val → Slots → Option Slots} (n : Nat) (hc : X.calm = true) (h : DGs X es js gs)
    (hn : (assignEach es X.env).length = n := by rfl) (hst : (assignEach es X.env).findIdx? (·.1) = none := by rfl) : DG X (.Tuple es k pos) js (gT n gs) := pgImp (pg_tup hc h hn hst) fun v σ H Q h => by
  obtain ⟨ρ, env, d, env', N, r, e, q⟩ := h
  cases d <;> first | (cases e; done) | skip
  rename_i ds
  obtain ⟨a, xs, rfl, h1, h2, h3⟩ := r
  unfold gT at e
  simp only at e
  split at e
  · rename_i hl
    exact ⟨a, xs, rfl, h1, by rw [h3.len]; exact hl, ρ, env, ds, env', N, h3, e, q⟩
  · cases e
end

/-! ### iteration -/
structure ItD (K : PySem.W.Frag) (ρ0 : List Addr) (H0 : Hp) (J : It) (ds : List Val) (ok : Store → Prop) : Prop where
  len : ds.length ≤ sizeLine
  go : ∀ ρ H st (i : Nat) d, Step K ρ0 ρ H0 H → Rst K ρ H st → ok st → ds[i]? = some d → J.go i H
  yld : ∀ ρ H st (i : Nat) d, Step K ρ0 ρ H0 H → Rst K ρ H st → ok st → ds[i]? = some d → ∀ x H', J.yld i H x H' → Step K ρ ρ H H' ∧ Rst K ρ H' st ∧ RV K ρ H' d x
  stop : ∀ ρ H st, Step K ρ0 ρ H0 H → Rst K ρ H st → ok st → J.stop ds.length H
abbrev WI := Slots → Store → (List Val → (Store → Prop) → Store → Prop) → Prop
def AfI (K : PySem.W.Frag) (ρ : List Addr) (H : Hp) (P : List Val → (Store → Prop) → Store → Prop) (R : It → Hp → Prop) : Prop :=
  ∀ ds ok st', P ds ok st' → ∀ ρ' H' J, Step K ρ ρ' H H' → Rst K ρ' H' st' → ItD K ρ' H' J ds ok → ok st' → R J H'
def liftI (K : PySem.W.Frag) (w : WI) : TI := fun σ H R => ∃ ρ env st P, Rst K ρ H st ∧ Ren K ρ σ H env ∧ w env st P ∧ AfI K ρ H P R
abbrev DI (X : Cx) (tg e : Expr) (w : WI) : Prop := PI X tg e (liftI X.K w)
theorem piImp {X : Cx} {tg e : Expr} {t t' : TI} (h : PI X tg e t) (i : ∀ σ H R, t' σ H R → t σ H R) : PI X tg e t' := ⟨fun pins s σ H R I q => h.run pins s σ H R I (i σ H R q)⟩

def iSeq (K : PySem.W.Frag) (tl : TE) : TI := fun σ H R => tl σ H fun x H1 => (∃ a xs, x = .ref a ∧ SqL K H1 a xs ∧ R (Itl K a) H1) ∨ (∃ a xs, x = .ref a ∧ SqT K H1 a xs ∧ R (Itt K a) H1) ∨ (∃ z, x = .str z ∧ R (Its z) H1)
theorem pi_seq {X : Cx} {tg l : Expr} {tl : TE} (hl : PE X l tl) : PI X tg l (iSeq X.K tl) := by
  refine ⟨fun pins s σ H R I h => thn (hl.run pins s σ H _ I h) fun v s1 ⟨x, H1, I1, r1, q1⟩ => ?_⟩
  rcases q1 with ⟨a, xs, e, hq, q⟩ | ⟨a, xs, e, hq, q⟩ | ⟨z, e, q⟩
  · subst e
    cases r1
    obtain ⟨its, rv, p, hz⟩ := I1.list hq
    exact wpAny_pyIter_list p.isList (pi_one (tk := s1.toks) I1 _ (turn_list a _) ⟨_, Heap.get?_push_size _ rfl, rfl, rfl⟩ q)
  · subst e
    cases r1
    obtain ⟨its, rv, p, hz⟩ := I1.tuple hq
    exact wpAny_pyIter_tuple (show s1.heap.IsTuple a its.toArray from p) (pi_one (tk := s1.toks) I1 _ (turn_tuple a _) ⟨_, Heap.get?_push_size _ rfl, rfl, rfl⟩ q)
  · subst e
    obtain ⟨t, rfl⟩ := r1
    cases ha : z.cps.all (· < 128)
    · exact wpAny_pyIter_wide ha (pi_one (tk := s1.toks) I1 _ (turn_str _ z t "str_iterator" (.inr rfl)) ⟨_, Heap.get?_push_size _ rfl, rfl, rfl⟩ q)
    · exact wpAny_pyIter_ascii ha (pi_one (tk := s1.toks) I1 _ (turn_str _ z t "str_ascii_iterator" (.inl rfl)) ⟨_, Heap.get?_push_size _ rfl, rfl, rfl⟩ q)

section
variable {K : PySem.W.Frag} {ρ : List Addr} {H : Hp} {st : Store} {a : Addr} {ds : List Val} {xs : List V} {ok : Store → Prop}
/-- two readings of one list or tuple are one: what the abstract heap says of an address is said once -/
def OneL (K : PySem.W.Frag) (H : Hp) (a : Addr) (xs : List V) : Prop := ∀ ys, SqL K H a ys → ys = xs
def OneT (K : PySem.W.Frag) (H : Hp) (a : Addr) (xs : List V) : Prop := ∀ ys, SqT K H a ys → ys = xs

theorem itd_list (hl : ds.length ≤ sizeLine) (rd : ∀ ρ' H' st', Step K ρ ρ' H H' → Rst K ρ' H' st' → ok st' → ∃ ys, SqL K H' a ys ∧ RVs K ρ' H' ds ys) : ItD K ρ H (Itl K a) ds ok where
  len := hl
  go := fun ρ' H' st' i d s R o e => by
    obtain ⟨ys, h1, h2⟩ := rd ρ' H' st' s R o
    obtain ⟨x, e1, _⟩ := h2.get e
    exact ⟨ys, x, h1, e1⟩
  yld := fun ρ' H' st' i d s R o e x H2 y => by
    obtain ⟨ys, h1, h2⟩ := rd ρ' H' st' s R o
    obtain ⟨z, e1, r⟩ := h2.get e
    obtain ⟨rfl, y⟩ := y
    have e2 := y ys h1
    rw [e1] at e2
    cases e2
    exact ⟨.refl, R, r⟩
  stop := fun ρ' H' st' s R o => by
    obtain ⟨ys, h1, h2⟩ := rd ρ' H' st' s R o
    exact ⟨ys, h1, Nat.le_of_eq h2.len⟩
theorem itd_tup (hl : ds.length ≤ sizeLine) (rd : ∀ ρ' H' st', Step K ρ ρ' H H' → Rst K ρ' H' st' → ok st' → ∃ ys, SqT K H' a ys ∧ RVs K ρ' H' ds ys) : ItD K ρ H (Itt K a) ds ok where
  len := hl
  go := fun ρ' H' st' i d s R o e => by
    obtain ⟨ys, h1, h2⟩ := rd ρ' H' st' s R o
    obtain ⟨x, e1, _⟩ := h2.get e
    exact ⟨ys, x, h1, e1⟩
  yld := fun ρ' H' st' i d s R o e x H2 y => by
    obtain ⟨ys, h1, h2⟩ := rd ρ' H' st' s R o
    obtain ⟨z, e1, r⟩ := h2.get e
    obtain ⟨rfl, y⟩ := y
    have e2 := y ys h1
    rw [e1] at e2
    cases e2
    exact ⟨.refl, R, r⟩
  stop := fun ρ' H' st' s R o => by
    obtain ⟨ys, h1, h2⟩ := rd ρ' H' st' s R o
    exact ⟨ys, h1, Nat.le_of_eq h2.len⟩
/-- what is walked in a value -/
theorem rd_of {d : Val} {x : V} (R : Rst K ρ H st) (r : RV K ρ H d x) (h : itemsOf st d = some ds) : ∃ a, x = .ref a ∧ ds.length ≤ sizeLine ∧
    ((∃ xs, SqL K H a xs) ∧ (∀ ρ' H' st', Step K ρ ρ' H H' → Rst K ρ' H' st' → itemsOf st' d = some ds → ∃ ys, SqL K H' a ys ∧ RVs K ρ' H' ds ys) ∨
     (∃ xs, SqT K H a xs) ∧ (∀ ρ' H' st', Step K ρ ρ' H H' → Rst K ρ' H' st' → itemsOf st' d = some ds → ∃ ys, SqT K H' a ys ∧ RVs K ρ' H' ds ys)) := by
  cases d <;> first | (cases h; done) | skip
  · rename_i es
    cases h
    obtain ⟨a, xs, rfl, h1, h2, h3⟩ := r
    exact ⟨a, rfl, by rw [← h3.len]; exact h2, .inr ⟨⟨xs, h1⟩, fun ρ' H' st' s R' _ => ⟨xs, s.tup a xs h1, h3.mono s⟩⟩⟩
  · rename_i n
    obtain ⟨a, ha, rfl⟩ := r
    have rd : ∀ ρ' H' st', Step K ρ ρ' H H' → Rst K ρ' H' st' → itemsOf st' (.loc n) = some ds → ∃ ys, SqL K H' a ys ∧ RVs K ρ' H' ds ys ∧ ys.length ≤ sizeLine := fun ρ' H' st' s R' e => by
      obtain ⟨ys, q1, q2, q3⟩ := RL.read (l := .at_ n) (D := a) R' (s.pre n a ha) e
      exact ⟨ys, q1, q2, q3⟩
    obtain ⟨ys, q1, q2, q3⟩ := rd ρ H st .refl R h
    exact ⟨a, rfl, by rw [← q2.len]; exact q3, .inl ⟨⟨ys, q1⟩, fun ρ' H' st' s R' e => let ⟨zs, z1, z2, _⟩ := rd ρ' H' st' s R' e; ⟨zs, z1, z2⟩⟩⟩
  · rename_i es
    cases h
    obtain ⟨a, xs, rfl, h1, h2, h3⟩ := r
    exact ⟨a, rfl, by rw [← h3.len]; exact h2, .inl ⟨⟨xs, h1.sq⟩, fun ρ' H' st' s R' _ => ⟨xs, (s.rol a xs h1).sq, h3.mono s⟩⟩⟩
end
/-- the one-letter texts -/
def chrs (z : Str) : List Val := z.cps.toList.map fun c => .str ⟨#[c]⟩
def wIt (we : WE) : WI := fun env st R => we env st fun d st1 => match itemsOf st1 d with
  | some ds => R ds (fun st => itemsOf st d = some ds) st1
  | none => match d with
    | .str z => z.length ≤ sizeLine ∧ R (chrs z) (fun _ => True) st1
    | _ => False
def wItL (w : WL) : WI := fun env st R => w env st fun l st1 => match lvItems st1 l with
  | some ds => R ds (fun st => lvItems st l = some ds) st1
  | none => False
/-- lo, lo + 1, .. (n of them) -/
def upTo (lo : Int) (n : Nat) : List Val := (List.range n).map fun (i : Nat) => Val.int (lo + (i : Int))
theorem upTo_len (lo : Int) (n : Nat) : (upTo lo n).length = n := by simp [upTo]
theorem upTo_get {lo : Int} {n i : Nat} {d : Val} (h : (upTo lo n)[i]? = some d) : i < n ∧ d = .int (lo + (i : Int)) := by
  unfold upTo at h
  rw [List.getElem?_map] at h
  by_cases hi : i < n
  · rw [List.getElem?_range hi] at h
    cases h
    exact ⟨hi, rfl⟩
  · rw [List.getElem?_eq_none (by simpa using Nat.le_of_not_lt hi)] at h
    cases h
def rg1V : List Val → Store → (List Val → (Store → Prop) → Store → Prop) → Prop
  | [.int j], st, R => j ≤ sizeLine ∧ -(2 ^ 62) ≤ j ∧ R (upTo 0 j.toNat) (fun _ => True) st
  | _, _, _ => False
def rg2V : List Val → Store → (List Val → (Store → Prop) → Store → Prop) → Prop
  | [.int i, .int j], st, R => (-(2 ^ 62) ≤ i ∧ i < 2 ^ 62 ∧ -(2 ^ 62) ≤ j ∧ j < 2 ^ 62 ∧ j - i ≤ sizeLine) ∧ R (upTo i (j - i).toNat) (fun _ => True) st
  | _, _, _ => False
def wIA (o : List Val → Store → (List Val → (Store → Prop) → Store → Prop) → Prop) (w : WA) : WI := fun env st R => w env st fun ds st1 => o ds st1 R
section
variable {X : Cx} {tg e e2 : Expr} {we : WE} {w : WL} {wa : WA} {p pos tpos : Pos}
theorem di_of (h : DE X e we) : DI X tg e (wIt we) := piImp (pi_seq h) fun σ H R h => by
  obtain ⟨ρ, env, st, P, R0, N, w, k⟩ := h
  refine ⟨ρ, env, st, _, R0, N, w, fun d1 st1 p1 ρ1 H1 x1 s1 R1 r1 => ?_⟩
  cases q : itemsOf st1 d1 with
  | some ds =>
    simp only [q] at p1
    obtain ⟨a, rfl, hl, ⟨⟨xs, h1⟩, rd⟩ | ⟨⟨xs, h1⟩, rd⟩⟩ := rd_of R1 r1 q
    · exact .inl ⟨a, xs, rfl, h1, k _ _ _ p1 ρ1 H1 _ s1 R1 (itd_list hl rd) q⟩
    · exact .inr (.inl ⟨a, xs, rfl, h1, k _ _ _ p1 ρ1 H1 _ s1 R1 (itd_tup hl rd) q⟩)
  | none =>
    simp only [q] at p1
    cases d1 <;> first | exact p1.elim | skip
    rename_i z
    have e1 : x1 = .str z := r1
    subst e1
    refine .inr (.inr ⟨z, rfl, k _ _ _ p1.2 ρ1 H1 _ s1 R1 ?_ trivial⟩)
    have hz : (chrs z).length = z.cps.size := by simp [chrs]
    exact {
      len := by rw [hz]; exact p1.1
      go := fun ρ' H' st' i d s R' o e => by
        have := (List.getElem?_eq_some_iff.mp e).1
        rw [hz] at this
        exact this
      yld := fun ρ' H' st' i d s R' o e x H2 y => by
        obtain ⟨rfl, c, hc, rfl⟩ := y
        refine ⟨.refl, R', ?_⟩
        unfold chrs at e
        rw [List.getElem?_map, Array.getElem?_toList, hc] at e
        cases e
        exact rfl
      stop := fun ρ' H' st' s R' o => by rw [hz]; exact Nat.le_refl _ }
theorem di_new (h : DLs X e w) : DI X tg e (wItL w) := piImp (pi_list h) fun σ H R h => by
  obtain ⟨ρ, env, st, P, R0, N, w, k⟩ := h
  refine ⟨ρ, env, st, _, R0, N, w, fun l1 st1 p1 ρ1 H1 D1 s1 R1 r1 n1 => ?_⟩
  cases q : lvItems st1 l1 with
  | none => simp only [q] at p1
  | some ds =>
    simp only [q] at p1
    obtain ⟨ys, h1, h2, h3⟩ := r1.read R1 q
    refine ⟨D1, rfl, ⟨ys, h1⟩, k _ _ _ p1 ρ1 H1 _ s1 R1 (itd_list (by rw [← h2.len]; exact h3) fun ρ' H' st' s R' o => ?_) q⟩
    obtain ⟨zs, z1, z2, _⟩ := (r1.mono s).read R' o
    exact ⟨zs, z1, z2⟩
theorem itd_upTo {K : PySem.W.Frag} {ρ : List Addr} {H : Hp} {lo : Int} {n : Nat} (hl : n ≤ sizeLine) : ItD K ρ H (Itr lo n) (upTo lo n) (fun _ => True) where
  len := by rw [upTo_len]; exact hl
  go := fun ρ' H' st' i d s R' o e => (upTo_get e).1
  yld := fun ρ' H' st' i d s R' o e x H2 y => by
    obtain ⟨rfl, rfl⟩ := y
    obtain ⟨h1, rfl⟩ := upTo_get e
    exact ⟨.refl, R', rfl⟩
  stop := fun ρ' H' st' s R' o => by
    show n ≤ (upTo lo n).length
    rw [upTo_len]
    exact Nat.le_refl _
theorem di_range1 (hg : Gl X "range") (hm : X.mg "range" = none) (ha : DA X [e] wa) (hs : starEach [e] X.env = [(false, eval e X.env)] := by rfl) : DI X tg (.Call (.Name "range" p) [e] [] pos) (wIA rg1V wa) := piImp (pi_range1 hg hm ha hs) fun σ H R h => by
  obtain ⟨ρ, env, st, P, R0, N, w, k⟩ := h
  refine ⟨ρ, env, st, _, R0, N, w, fun ds st1 p1 ρ1 H1 xs s1 R1 r1 => ?_⟩
  have p1 : rg1V ds st1 P := p1
  match ds, p1, r1 with
  | [.int j], p1, r1 =>
    obtain ⟨x, rfl, r2⟩ := one_of r1
    have z : x = .int j := r2
    subst z
    have hz : sizeLine = 2 ^ 24 := rfl
    obtain ⟨a1, a2, p1⟩ := p1
    exact ⟨j, rfl, a2, by omega, k _ _ _ p1 ρ1 H1 _ s1 R1 (itd_upTo (by omega)) trivial⟩
theorem di_range2 (hg : Gl X "range") (hm : X.mg "range" = none) (ha : DA X [e, e2] wa) (hs : starEach [e, e2] X.env = [(false, eval e X.env), (false, eval e2 X.env)] := by rfl) (hs2 : starEach [e2] X.env = [(false, eval e2 X.env)] := by rfl) :
    DI X tg (.Call (.Name "range" p) [e, e2] [] pos) (wIA rg2V wa) := piImp (pi_range2 hg hm ha hs hs2) fun σ H R h => by
  obtain ⟨ρ, env, st, P, R0, N, w, k⟩ := h
  refine ⟨ρ, env, st, _, R0, N, w, fun ds st1 p1 ρ1 H1 xs s1 R1 r1 => ?_⟩
  have p1 : rg2V ds st1 P := p1
  match ds, p1, r1 with
  | [.int i, .int j], p1, r1 =>
    obtain ⟨x, y, rfl, r2, r3⟩ := two_of r1
    have z : x = .int i := r2
    have z2 : y = .int j := r3
    subst z z2
    have hz : sizeLine = 2 ^ 24 := rfl
    obtain ⟨⟨a1, a2, a3, a4, a5⟩, p1⟩ := p1
    exact ⟨i, j, rfl, ⟨a1, a2, a3, a4⟩, k _ _ _ p1 ρ1 H1 _ s1 R1 (itd_upTo (by omega)) trivial⟩
end
end DL

set_option Elab.async false
set_option linter.all false
set_option maxRecDepth 100000
set_option maxHeartbeats 4000000
namespace DL
open PySem L2 PySem.Spec PyProof.Rows

/-! ### enumerate over a tuple -/
set_option maxHeartbeats 8000000 in
theorem meets_enum1 {v : Value} {o : Obj} {H : Heap → Prop} (B : Begins v o H) :
    Meets (Builtin.«enumerate.__new__» ⟨[.type "enumerate", v], []⟩) (fun _ R s => H s.heap ∧
      R (.ok (.ret (.ref (s.heap.push o).objs.size))) { s with heap := (s.heap.push o).push { cls := .type "enumerate", data := .fields #[.none, .bool false, .ref s.heap.objs.size, rawInt 0, .none, .none] } }) :=
  .of_wp fun prog w A R s h => by
    obtain ⟨hp, g, d, tk, os⟩ := s; obtain ⟨h1, h⟩ := h
    have hsub := sub_enumerate
    have q1 : ∀ {A' : Around} {E : Value → Shared → Prop} {Q : Value → Shared → Prop}, Q (.ref hp.objs.size) ⟨hp.push o, g, d, tk, os⟩ → wpAny (model prog w) A' (pyIter v) Q E ⟨hp, g, d, tk, os⟩ :=
      fun q => B.iter prog w _ _ ⟨hp, g, d, tk, os⟩ _ h1 q
    wp_walk using q1
    refine wpAny_stack_any fun st => wpAny_pure ?_
    split
    · rename_i c _ _ _ _ _
      cases (c == Value.type "enumerate")
      · wp_walk using q1
        exact ⟨_, rfl, h⟩
      · wp_walk using q1
        exact ⟨_, rfl, h⟩
    · wp_walk using q1
      exact ⟨_, rfl, h⟩
theorem call_enum1 {prog : Program} {w : World} {A : Around} {E : Value → Shared → Prop} {s : Shared} {v : Value} {o : Obj} {H : Heap → Prop} {Q : Value → Shared → Prop} (B : Begins v o H) (h1 : H s.heap)
    (h : ∀ h', IsEnum h' (s.heap.objs.size + 1) s.heap.objs.size 0 .none → h'.get? s.heap.objs.size = some o → h'.objs.size = s.heap.objs.size + 2 →
      (∀ b o, s.heap.get? b = some o → h'.get? b = some o) → Q (.ref (s.heap.objs.size + 1)) { s with heap := h' }) :
    wpAny (model prog w) A (call (.type "enumerate") [v]) Q E s := by
  refine callType_new F.called_enumerate (by decide) (F.typeCall_enumerate_1 _) (F.newCall_enumerate_1 _) (fun obj => F.args_object_init_2 obj _) F.entry_enumerate_new (meets_enum1 B) ⟨h1, ?_⟩
  have hz : (s.heap.push o).objs.size = s.heap.objs.size + 1 := Heap.size_push ..
  show _ ∧ _
  rw [hz]
  have he : IsEnum ((s.heap.push o).push { cls := .type "enumerate", data := .fields #[.none, .bool false, .ref s.heap.objs.size, rawInt 0, .none, .none] }) (s.heap.objs.size + 1) s.heap.objs.size 0 .none := by
    have := Heap.get?_push_size (s.heap.push o) (o := { cls := .type "enumerate", data := .fields #[.none, .bool false, .ref s.heap.objs.size, rawInt 0, .none, .none] }) rfl
    rw [hz] at this; exact this
  refine ⟨⟨_, he, rfl⟩, h _ he (Heap.get?_push_of_some _ (Heap.get?_push_size _ B.free)) (by rw [Heap.size_push, hz]) fun b o x => Heap.get?_push_of_some _ (Heap.get?_push_of_some _ x)⟩

def IteT (K : PySem.W.Frag) (a : Addr) : It :=
  ⟨fun i H => ∃ (xs : List V) (x : V), SqT K H a xs ∧ xs[i]? = some x, fun i H v H' => ∃ T x, v = .ref T ∧ H T = none ∧ H' = upd H T (.tup [.int (i : Nat), x]) ∧ ∀ xs, SqT K H a xs → xs[i]? = some x, fun i H => ∃ xs : List V, SqT K H a xs ∧ xs.length ≤ i⟩
theorem turn_enumT {P : Program} {w : World} {K : PySem.W.Frag} {elts : List Expr} {kk : Nat} {tpos : Pos} (a e it : Addr) :
    Turn P w K (.Tuple elts kk tpos) (IteT K a) [e, it] e (fun i h => (∃ old, IsEnum h e it ((i : Nat) : Int) old) ∧ h.IsTupleIter it a i ∧ e ≠ it) where
  mem := by simp
  obj := fun i h st b hb => by
    obtain ⟨⟨old, he⟩, ⟨o, ho, hc, hd⟩, _⟩ := st
    have e' : b = e ∨ b = it := by simpa using hb
    rcases e' with z | z
    · rw [z]; exact ⟨_, he, fun v q => nomatch q⟩
    · rw [z]; exact ⟨o, ho, fun v q => by rw [hd] at q; cases q⟩
  keep := fun i h h' st k => let ⟨⟨old, he⟩, hi, hne⟩ := st; ⟨⟨old, k e (by simp) _ he⟩, hi.at fun o q => k it (by simp) o q, hne⟩
  item := by
    intro X hP hw hK hc i pins s σ H E I hf st hg
    subst hP hw hK
    obtain ⟨⟨old, he⟩, hit, hne⟩ := st
    obtain ⟨xs, x, hq, hx⟩ := hg
    obtain ⟨its, rv, p, hz⟩ := I.tuple hq
    obtain ⟨u, hu, ru⟩ := rv.get hx
    have hel : e < s.heap.objs.size := Heap.lt_size he
    obtain ⟨oi, hoi, hci, hdi⟩ := id hit
    obtain ⟨oa, hoa, hca, hda⟩ := id p
    have hae : a ≠ e := fun z => by
      rw [z, he] at hoa
      cases hoa
      exact absurd hca (by simp)
    have hai : a ≠ it := fun z => by
      rw [z, hoi] at hoa
      cases hoa
      rw [hci] at hca
      exact absurd hca (by simp)
    have hil : it < s.heap.objs.size := Heap.lt_size hoi
    have hlen : i < its.toArray.size := by
      have := (List.getElem?_eq_some_iff.mp hu).1
      simpa using this
    refine wpAny_pyNext_enum_itemD (Draws.tuple (prog := X.prog) (w := X.w) (A := X.A.in1) (I.ok.hd hc) it a hai its.toArray) he ⟨hit, p⟩ hlen hne (by simp [hne, Ne.symm hae]) fun y h' tk hy ho st' hT hsz hk => ?_
    have ey : y = u := by
      have z : its.toArray[i]? = some u := by simpa using hu
      rw [z] at hy
      exact (Option.some.inj hy).symm
    subst ey
    refine ⟨_, rfl, wpAny_letOwnedTupleGo_enum (s := { s with heap := h', toks := tk + 1 }) ho fun h'' he' sb => ?_⟩
    have hT2 : h''.get? s.heap.objs.size = some { cls := .type "tuple", data := .seq #[.int i tk, y] } := (sb.2 _ (Nat.ne_of_gt hel)).trans hT
    have new : ObjOk X.prog X.w (upd H s.heap.objs.size (.tup [.int (i : Nat), x])) h'' s.heap.objs.size (.tup [.int (i : Nat), x]) :=
      ⟨by show 2 ≤ sizeLine; decide, [.int i tk, y], .cons ⟨_, rfl⟩ (.cons ru .nil), ⟨_, hT2, rfl, _, rfl⟩⟩
    have I1 : Inv X pins σ (upd H s.heap.objs.size (.tup [.int (i : Nat), x])) { s with heap := h'', toks := tk + 1 } :=
      I.turnedNew (ch := [e, it]) (fun b ob hb q => (sb.2 b (fun z => hb (by simp [z]))).trans (hk b ob (fun z => hb (by simp [z])) (fun z => hb (by simp [z])) q)) hf (Nat.le_refl _) new
    refine ⟨.ref s.heap.objs.size, _, I1, rfl, ⟨_, x, rfl, I.hok.fresh (Nat.le_refl _), rfl, fun ys hy => by rw [I.tuple_inj hy hq]; exact hx⟩, ⟨⟨y, ?_⟩, st'.1.at fun o q => (sb.2 it (Ne.symm hne)).trans q, hne⟩, fun b hb => ?_⟩
    · have e1 : ((i + 1 : Nat) : Int) = (i : Int) + 1 := by omega
      rw [e1]; exact he'
    · have hb' : b < s.heap.objs.size := by
        have e' : b = e ∨ b = it := by simpa using hb
        rcases e' with z | z
        · rw [z]; exact hel
        · rw [z]; exact hil
      rw [upd_ne (Nat.ne_of_lt hb')]
      exact (hf b hb).1
  done := by
    intro X hP hw hK hc i pins s σ H E I hf st hg
    subst hP hw hK
    obtain ⟨⟨old, he⟩, hit, hne⟩ := st
    obtain ⟨xs, hq, hx⟩ := hg
    obtain ⟨its, rv, p, hz⟩ := I.tuple hq
    obtain ⟨f0, f1, f2, f3, f4, f5⟩ := hf it (by simp)
    have hl := rv.length
    obtain ⟨oi, hoi, hci, hdi⟩ := id hit
    obtain ⟨oa, hoa, hca, hda⟩ := id p
    have hai : a ≠ it := fun z => by
      rw [z, hoi] at hoa
      cases hoa
      rw [hci] at hca
      exact absurd hca (by simp)
    have D : Draws X.prog X.w X.A.in1 it [it, a] i (fun _ _ => True) (fun j h => j = i ∧ h.IsTupleIter it a i ∧ h.IsTuple a its.toArray) :=
      { live := fun _ _ st => let ⟨o, ho, _⟩ := st.2.1; ⟨o, ho⟩
        frame := fun _ _ _ st hk => ⟨st.1, st.2.1.at fun o e => hk it (by simp) o e, st.2.2.at fun o e => hk a (by simp) o e⟩
        item := fun j s' Q E' hj st' hQ => absurd st'.1 (Nat.ne_of_lt hj)
        done := fun s' Q E' st' hE => wpAny_nextOf_tuple_end (I.ok.hd hc) st'.2.1 st'.2.2 (by simp; omega) hE }
    exact wpAny_pyNext_enum_endD D he ⟨rfl, hit, p⟩ fun h' eb => ⟨rfl, I.turned (t' := s.toks) (fun b o hb q => eb b o hb q) f0 f1 f3 f4 f5⟩
  self := fun A i s Q E st h => let ⟨⟨_, he⟩, _⟩ := st; wpAny_pyIter_enum he h
def iEnA (K : PySem.W.Frag) (ta : TA) : TI := fun σ H R => ta σ H fun vs H1 => ∃ a xs, vs = [.ref a] ∧ ((SqL K H1 a xs ∧ R (Ite K a) H1) ∨ (SqT K H1 a xs ∧ R (IteT K a) H1))
theorem pi_enA {X : Cx} {e : Expr} {ta : TA} {p pos tpos : Pos} {elts : List Expr} {kk : Nat} (hg : Gl X "enumerate") (hm : X.mg "enumerate" = none) (ha : PA X [e] ta) (hs : starEach [e] X.env = [(false, eval e X.env)] := by rfl) :
    PI X (.Tuple elts kk tpos) (.Call (.Name "enumerate" p) [e] [] pos) (iEnA X.K ta) := by
  refine ⟨fun pins s σ H R I h => ?_⟩
  refine Call_ (ld_blt I hg hm boot_enumerate (PyProof.Rows.callWith_type1 (thn (ha.run pos pins s σ H _ I h) fun us s1 ⟨vs, H1, I1, r1, q1⟩ => ?_) hs rfl))
  obtain ⟨a, xs, ex, q1⟩ := q1
  subst ex
  cases r1 with
  | cons r rr =>
    cases rr
    cases r
    have fp2 : ∀ b ∈ [s1.heap.objs.size + 1, s1.heap.objs.size], FpOk X pins H1 b := fun b hb => by
      have e' : b = s1.heap.objs.size + 1 ∨ b = s1.heap.objs.size := by simpa using hb
      have hle : s1.heap.objs.size ≤ b := by
        rcases e' with z | z
        · rw [z]; exact Nat.le_add_right _ _
        · rw [z]; exact Nat.le_refl _
      exact I1.fpOk hle (I1.hok.fresh hle)
    rcases q1 with ⟨hq, q⟩ | ⟨hq, q⟩
    · obtain ⟨its, rv, p', hz⟩ := I1.list hq
      refine call_enumerate_list p'.isList fun h' he hit hsz hk => wpAny_pyIter_enum he ?_
      have I2 : Inv X pins σ H1 { s1 with heap := h' } := I1.kept (t' := s1.toks) hk
      exact ⟨s1.heap.objs.size + 1, [s1.heap.objs.size + 1, s1.heap.objs.size], _, _, H1, rfl, I2, turn_enum a (s1.heap.objs.size + 1) s1.heap.objs.size, ⟨⟨.none, he⟩, hit, Nat.succ_ne_self _⟩, fp2, q⟩
    · obtain ⟨its, rv, p', hz⟩ := I1.tuple hq
      refine call_enum1 (begins_tuple a its.toArray) p' fun h' he hit hsz hk => wpAny_pyIter_enum he ?_
      have I2 : Inv X pins σ H1 { s1 with heap := h' } := I1.kept (t' := s1.toks) hk
      exact ⟨s1.heap.objs.size + 1, [s1.heap.objs.size + 1, s1.heap.objs.size], _, _, H1, rfl, I2, turn_enumT a (s1.heap.objs.size + 1) s1.heap.objs.size, ⟨⟨.none, he⟩, ⟨_, hit, rfl, rfl⟩, Nat.succ_ne_self _⟩, fp2, q⟩

/-! ### enumerate, zip: by values -/
def enumD : Nat → List Val → List Val
  | _, [] => []
  | k, d :: ds => .tup [.int (k : Int), d] :: enumD (k + 1) ds
theorem enumD_len : ∀ (k : Nat) (ds : List Val), (enumD k ds).length = ds.length
  | _, [] => rfl
  | k, d :: ds => by unfold enumD; rw [List.length_cons, List.length_cons, enumD_len]
theorem enumD_get : ∀ {k : Nat} {ds : List Val} {i : Nat} {d : Val}, (enumD k ds)[i]? = some d → ∃ e, ds[i]? = some e ∧ d = .tup [.int ((k + i : Nat) : Int), e]
  | _, [], _, _, h => by simp [enumD] at h
  | k, e :: ds, 0, d, h => by
    simp [enumD] at h
    exact ⟨e, rfl, h.symm⟩
  | k, e :: ds, i + 1, d, h => by
    simp only [enumD, List.getElem?_cons_succ] at h
    obtain ⟨f, h1, h2⟩ := enumD_get h
    refine ⟨f, by simpa using h1, ?_⟩
    rw [h2, show k + 1 + i = k + (i + 1) from by omega]
def zipD : List Val → List Val → List Val
  | d :: ds, e :: es => .tup [d, e] :: zipD ds es
  | _, _ => []
theorem zipD_len : ∀ (ds es : List Val), (zipD ds es).length = min ds.length es.length
  | [], _ => by simp [zipD]
  | _ :: _, [] => by simp [zipD]
  | d :: ds, e :: es => by simp only [zipD, List.length_cons, zipD_len]; omega
theorem zipD_get : ∀ {ds es : List Val} {i : Nat} {d : Val}, (zipD ds es)[i]? = some d → ∃ e f, ds[i]? = some e ∧ es[i]? = some f ∧ d = .tup [e, f]
  | [], _, _, _, h => by simp [zipD] at h
  | _ :: _, [], _, _, h => by simp [zipD] at h
  | a :: ds, b :: es, 0, d, h => by
    simp [zipD] at h
    exact ⟨a, b, rfl, rfl, h.symm⟩
  | a :: ds, b :: es, i + 1, d, h => by
    simp only [zipD, List.getElem?_cons_succ] at h
    obtain ⟨e, f, h1, h2, h3⟩ := zipD_get h
    exact ⟨e, f, by simpa using h1, by simpa using h2, h3⟩
def enV : List Val → Store → (List Val → (Store → Prop) → Store → Prop) → Prop
  | [d], st, R => match itemsOf st d with
    | some ds => R (enumD 0 ds) (fun st => itemsOf st d = some ds) st
    | none => False
  | _, _, _ => False
def isTup : Val → Bool
  | .tup _ => true
  | _ => false
def zipV : List Val → Store → (List Val → (Store → Prop) → Store → Prop) → Prop
  | [d, e], st, R => isTup d = isTup e ∧ match itemsOf st d, itemsOf st e with
    | some ds, some es => R (zipD ds es) (fun st => itemsOf st d = some ds ∧ itemsOf st e = some es) st
    | _, _ => False
  | _, _, _ => False
section
variable {K : PySem.W.Frag} {ρ : List Addr} {H : Hp} {st : Store} {ds : List Val} {d : Val} {x : V}
theorem rd_tup (r : RV K ρ H d x) (ht : isTup d = true) (h : itemsOf st d = some ds) : ∃ a xs, x = .ref a ∧ ds.length ≤ sizeLine ∧ SqT K H a xs ∧ RVs K ρ H ds xs := by
  cases d <;> first | (cases ht; done) | skip
  cases h
  obtain ⟨a, xs, rfl, h1, h2, h3⟩ := r
  exact ⟨a, xs, rfl, by rw [← h3.len]; exact h2, h1, h3⟩
theorem rd_lst (R : Rst K ρ H st) (r : RV K ρ H d x) (ht : isTup d = false) (h : itemsOf st d = some ds) : ∃ a xs, x = .ref a ∧ ds.length ≤ sizeLine ∧ SqL K H a xs ∧ RVs K ρ H ds xs := by
  cases d <;> first | (cases ht; done) | (cases h; done) | skip
  · rename_i n
    obtain ⟨a, ha, rfl⟩ := r
    obtain ⟨ys, q1, q2, q3⟩ := RL.read (l := .at_ n) (D := a) R ha h
    exact ⟨a, ys, rfl, by rw [← q2.len]; exact q3, q1, q2⟩
  · cases h
    obtain ⟨a, xs, rfl, h1, h2, h3⟩ := r
    exact ⟨a, xs, rfl, by rw [← h3.len]; exact h2, h1.sq, h3⟩
theorem pair_new {a b : Val} {y z : V} {T : Addr} (R : Rst K ρ H st) (r1 : RV K ρ H a y) (r2 : RV K ρ H b z) (hT : H T = none) : Step K ρ ρ H (upd H T (.tup [y, z])) ∧ Rst K ρ (upd H T (.tup [y, z])) st ∧ RV K ρ (upd H T (.tup [y, z])) (.tup [a, b]) (.ref T) :=
  ⟨Step.new hT, R.new hT, T, [y, z], rfl, SqT.of upd_same, by show 2 ≤ sizeLine; decide, y, [z], rfl, r1.mono (Step.new hT), z, [], rfl, r2.mono (Step.new hT), rfl⟩
end
section
variable {X : Cx} {e e2 : Expr} {wa : WA} {p pos tpos : Pos} {elts : List Expr} {kk : Nat}
theorem di_enum (hg : Gl X "enumerate") (hm : X.mg "enumerate" = none) (ha : DA X [e] wa) (hs : starEach [e] X.env = [(false, eval e X.env)] := by rfl) : DI X (.Tuple elts kk tpos) (.Call (.Name "enumerate" p) [e] [] pos) (wIA enV wa) := piImp (pi_enA hg hm ha hs) fun σ H R h => by
  obtain ⟨ρ, env, st, P, R0, N, w, k⟩ := h
  refine ⟨ρ, env, st, _, R0, N, w, fun ds st1 p1 ρ1 H1 xs s1 R1 r1 => ?_⟩
  have p1 : enV ds st1 P := p1
  match ds, p1, r1 with
  | [d], p1, r1 =>
    obtain ⟨x, rfl, r2⟩ := one_of r1
    cases q : itemsOf st1 d with
    | none => simp only [enV, q] at p1
    | some es =>
      simp only [enV, q] at p1
      cases ht : isTup d with
      | true =>
        obtain ⟨a, ys, rfl, hl, h1, h2⟩ := rd_tup (st := st1) r2 ht q
        refine ⟨a, ys, rfl, .inr ⟨h1, k _ _ _ p1 ρ1 H1 _ s1 R1 ⟨by rw [enumD_len]; exact hl, ?_, ?_, ?_⟩ q⟩⟩
        · intro ρ' H' st' i f s R' o ef
          obtain ⟨g, g1, _⟩ := enumD_get ef
          obtain ⟨z, z1, _⟩ := h2.get g1
          exact ⟨ys, z, s.tup _ _ h1, z1⟩
        · intro ρ' H' st' i f s R' o ef v H2 y
          obtain ⟨g, g1, rfl⟩ := enumD_get ef
          obtain ⟨z, z1, z2⟩ := h2.get g1
          obtain ⟨T, z', rfl, hT, rfl, y5⟩ := y
          have e5 := y5 _ (s.tup _ _ h1)
          rw [z1] at e5
          cases e5
          exact pair_new R' (by rw [Nat.zero_add]; rfl) (z2.mono s) hT
        · intro ρ' H' st' s R' o
          rw [enumD_len]
          exact ⟨ys, s.tup _ _ h1, Nat.le_of_eq h2.len⟩
      | false =>
        obtain ⟨a, ys, rfl, hl, h1, h2⟩ := rd_lst R1 r2 ht q
        have rd : ∀ ρ' H' st', Step X.K ρ1 ρ' H1 H' → Rst X.K ρ' H' st' → itemsOf st' d = some es → ∃ ys, SqL X.K H' a ys ∧ RVs X.K ρ' H' es ys := fun ρ' H' st' s R' o => by
          obtain ⟨a', zs, ea, _, z1, z2⟩ := rd_lst R' (r2.mono s) ht o
          cases ea
          exact ⟨zs, z1, z2⟩
        refine ⟨a, ys, rfl, .inl ⟨h1, k _ _ _ p1 ρ1 H1 _ s1 R1 ⟨by rw [enumD_len]; exact hl, ?_, ?_, ?_⟩ q⟩⟩
        · intro ρ' H' st' i f s R' o ef
          obtain ⟨zs, z1, z2⟩ := rd ρ' H' st' s R' o
          obtain ⟨g, g1, _⟩ := enumD_get ef
          obtain ⟨z, z3, _⟩ := z2.get g1
          exact ⟨zs, z, z1, z3⟩
        · intro ρ' H' st' i f s R' o ef v H2 y
          obtain ⟨zs, z1, z2⟩ := rd ρ' H' st' s R' o
          obtain ⟨g, g1, rfl⟩ := enumD_get ef
          obtain ⟨z, z3, z4⟩ := z2.get g1
          obtain ⟨T, z', rfl, hT, rfl, y5⟩ := y
          have e5 := y5 _ z1
          rw [z3] at e5
          cases e5
          exact pair_new R' (by rw [Nat.zero_add]; rfl) z4 hT
        · intro ρ' H' st' s R' o
          obtain ⟨zs, z1, z2⟩ := rd ρ' H' st' s R' o
          rw [enumD_len]
          exact ⟨zs, z1, Nat.le_of_eq z2.len⟩
theorem di_zip (hg : Gl X "zip") (hm : X.mg "zip" = none) (ha : DA X [e, e2] wa) (hs : starEach [e, e2] X.env = (false, eval e X.env) :: starEach [e2] X.env := by rfl) (hpl : (backTo pos (starEach [e2] X.env)).any (·.1) = false := by rfl) :
    DI X (.Tuple elts kk tpos) (.Call (.Name "zip" p) [e, e2] [] pos) (wIA zipV wa) := piImp (RZ.pi_zipA hg hm ha hs hpl) fun σ H R h => by
  obtain ⟨ρ, env, st, P, R0, N, w, k⟩ := h
  refine ⟨ρ, env, st, _, R0, N, w, fun ds st1 p1 ρ1 H1 xs s1 R1 r1 => ?_⟩
  have p1 : zipV ds st1 P := p1
  match ds, p1, r1 with
  | [d, d2], p1, r1 =>
    obtain ⟨x, x2, rfl, r2, r3⟩ := two_of r1
    obtain ⟨ht, p1⟩ := p1
    cases q : itemsOf st1 d with
    | none => simp only [q] at p1
    | some es =>
    cases q2 : itemsOf st1 d2 with
    | none => simp only [q, q2] at p1
    | some fs =>
      simp only [q, q2] at p1
      cases ht1 : isTup d with
      | true =>
        rw [ht1] at ht
        obtain ⟨a, ys, rfl, hl, h1, h2⟩ := rd_tup (st := st1) r2 ht1 q
        obtain ⟨b, zs, rfl, hl2, g1, g2⟩ := rd_tup (st := st1) r3 ht.symm q2
        refine ⟨a, b, ys, zs, rfl, .inr ⟨h1, g1, k _ _ _ p1 ρ1 H1 _ s1 R1 ⟨by rw [zipD_len]; omega, ?_, ?_, ?_⟩ ⟨q, q2⟩⟩⟩
        · intro ρ' H' st' i f s R' o ef
          obtain ⟨u, v, u1, v1, _⟩ := zipD_get ef
          obtain ⟨u2, u3, _⟩ := h2.get u1
          obtain ⟨v2, v3, _⟩ := g2.get v1
          exact ⟨ys, zs, u2, v2, s.tup _ _ h1, s.tup _ _ g1, u3, v3⟩
        · intro ρ' H' st' i f s R' o ef w H2 y
          obtain ⟨u, v, u1, v1, rfl⟩ := zipD_get ef
          obtain ⟨u2, u3, u4⟩ := h2.get u1
          obtain ⟨v2, v3, v4⟩ := g2.get v1
          obtain ⟨T, u', v', rfl, hT, rfl, y5, y6⟩ := y
          have e5 := y5 _ (s.tup _ _ h1)
          have e6 := y6 _ (s.tup _ _ g1)
          rw [u3] at e5
          rw [v3] at e6
          cases e5
          cases e6
          exact pair_new R' (u4.mono s) (v4.mono s) hT
        · intro ρ' H' st' s R' o
          refine ⟨ys, zs, s.tup _ _ h1, s.tup _ _ g1, ?_⟩
          have l1 := h2.len
          have l2 := g2.len
          rw [zipD_len]
          omega
      | false =>
        rw [ht1] at ht
        obtain ⟨a, ys, rfl, hl, h1, h2⟩ := rd_lst R1 r2 ht1 q
        obtain ⟨b, zs, rfl, hl2, g1, g2⟩ := rd_lst R1 r3 ht.symm q2
        have rd : ∀ ρ' H' st', Step X.K ρ1 ρ' H1 H' → Rst X.K ρ' H' st' → (itemsOf st' d = some es ∧ itemsOf st' d2 = some fs) → ∃ ys zs, SqL X.K H' a ys ∧ RVs X.K ρ' H' es ys ∧ SqL X.K H' b zs ∧ RVs X.K ρ' H' fs zs := fun ρ' H' st' s R' o => by
          obtain ⟨a', zs, ea, _, z1, z2⟩ := rd_lst R' (r2.mono s) ht1 o.1
          obtain ⟨b', zs', eb, _, z3, z4⟩ := rd_lst R' (r3.mono s) ht.symm o.2
          cases ea
          cases eb
          exact ⟨zs, zs', z1, z2, z3, z4⟩
        refine ⟨a, b, ys, zs, rfl, .inl ⟨h1, g1, k _ _ _ p1 ρ1 H1 _ s1 R1 ⟨by rw [zipD_len]; omega, ?_, ?_, ?_⟩ ⟨q, q2⟩⟩⟩
        · intro ρ' H' st' i f s R' o ef
          obtain ⟨ys, zs, h1, h2, g1, g2⟩ := rd ρ' H' st' s R' o
          obtain ⟨u, v, u1, v1, _⟩ := zipD_get ef
          obtain ⟨u2, u3, _⟩ := h2.get u1
          obtain ⟨v2, v3, _⟩ := g2.get v1
          exact ⟨ys, zs, u2, v2, h1, g1, u3, v3⟩
        · intro ρ' H' st' i f s R' o ef w H2 y
          obtain ⟨ys, zs, h1, h2, g1, g2⟩ := rd ρ' H' st' s R' o
          obtain ⟨u, v, u1, v1, rfl⟩ := zipD_get ef
          obtain ⟨u2, u3, u4⟩ := h2.get u1
          obtain ⟨v2, v3, v4⟩ := g2.get v1
          obtain ⟨T, u', v', rfl, hT, rfl, y5, y6⟩ := y
          have e5 := y5 _ h1
          have e6 := y6 _ g1
          rw [u3] at e5
          rw [v3] at e6
          cases e5
          cases e6
          exact pair_new R' u4 v4 hT
        · intro ρ' H' st' s R' o
          obtain ⟨ys, zs, h1, h2, g1, g2⟩ := rd ρ' H' st' s R' o
          refine ⟨ys, zs, h1, g1, ?_⟩
          have l1 := h2.len
          have l2 := g2.len
          rw [zipD_len]
          omega
end
end DL

set_option Elab.async false
set_option linter.all false
set_option maxRecDepth 100000
set_option maxHeartbeats 4000000
namespace DL
open PySem L2

section
variable {K : PySem.W.Frag} {ρ ρ' : List Addr} {H H' : Hp} {st : Store} {D : Addr} {o u : HO}
mutual
theorem rv_gen (pre : ∀ (n : Nat) (a : Addr), ρ[n]? = some a → ρ'[n]? = some a) (tp : ∀ a xs, SqT K H a xs → SqT K H' a xs) (rl : ∀ a xs, SqR K H a xs → SqR K H' a xs) : ∀ {d : Val} {x : V}, RV K ρ H d x → RV K ρ' H' d x
  | .non, _, h => h
  | .bl _, _, h => h
  | .int _, _, h => h
  | .str _, _, h => h
  | .adr _, _, h => h
  | .ty _, _, h => h
  | .loc n, x, h => by
    obtain ⟨a, h1, h2⟩ := h
    exact ⟨a, pre n a h1, h2⟩
  | .tup ds, x, h => by
    obtain ⟨a, xs, h1, h2, h3, h4⟩ := h
    exact ⟨a, xs, h1, tp a xs h2, h3, rvs_gen pre tp rl h4⟩
  | .rol ds, x, h => by
    obtain ⟨a, xs, h1, h2, h3, h4⟩ := h
    exact ⟨a, xs, h1, rl a xs h2, h3, rvs_gen pre tp rl h4⟩
theorem rvs_gen (pre : ∀ (n : Nat) (a : Addr), ρ[n]? = some a → ρ'[n]? = some a) (tp : ∀ a xs, SqT K H a xs → SqT K H' a xs) (rl : ∀ a xs, SqR K H a xs → SqR K H' a xs) : ∀ {ds : List Val} {xs : List V}, RVs K ρ H ds xs → RVs K ρ' H' ds xs
  | [], _, h => h
  | d :: ds, xs, h => by
    obtain ⟨y, ys, h1, h2, h3⟩ := h
    exact ⟨y, ys, h1, rv_gen pre tp rl h2, rvs_gen pre tp rl h3⟩
end
/-- a list beside the store is written -/
theorem Step.poke (s : Step K ρ ρ' H H') (hn : H D = none) (h : H' D = some u) (hu : Chg u) : Step K ρ ρ' H (upd H' D o) where
  pre := s.pre
  fresh := s.fresh
  keep := fun a p e m => by rw [upd_ne (ne_of_none e hn)]; exact s.keep a p e m
  tup := fun a xs q => sqT_chg h hu (s.tup a xs q)
  rol := fun a xs q => sqR_chg h hu (s.rol a xs q)
theorem RVs.poke {ds : List Val} {xs : List V} (r : RVs K ρ H ds xs) (h : H D = some u) (hu : Chg u) : RVs K ρ (upd H D o) ds xs := rvs_gen (fun _ _ e => e) (fun _ _ q => sqT_chg h hu q) (fun _ _ q => sqR_chg h hu q) r
theorem Rst.poke (R : Rst K ρ H st) (hD : D ∉ ρ) (h : H D = some u) (hu : Chg u) : Rst K ρ (upd H D o) st where
  len := R.len
  nd := R.nd
  cells := fun n a c e1 e2 => by
    have ne : a ≠ D := fun z => hD (by subst z; exact List.mem_of_getElem? e1)
    cases c with
    | lst ds =>
      obtain ⟨xs, q1, q2, q3⟩ := R.cells n a _ e1 e2
      exact ⟨xs, by rw [upd_ne ne]; exact q1, q2, q3.poke h hu⟩
    | obj C fs =>
      obtain ⟨dx, xs, q1, q2, q3⟩ := R.cells n a _ e1 e2
      exact ⟨dx, xs, by rw [upd_ne ne]; exact q1, q2, q3.poke h hu⟩
end

/-! ### comprehensions -/
def wipeD (env : Slots) : List Nat → Slots
  | [] => env
  | v :: vs => (wipeD env vs).set v none
theorem wipe_in {σ : L2.St} {i : Nat} : ∀ {vs : List Nat}, i ∈ vs → (wipe σ vs)[i]? = if i < σ.length then some none else none
  | v :: vs, h => by
    unfold wipe
    by_cases hi : v = i
    · subst hi
      by_cases hl : v < σ.length
      · rw [if_pos hl, List.getElem?_set_self (by rw [wipe_length]; exact hl)]
      · rw [if_neg hl, List.getElem?_eq_none (by rw [List.length_set, wipe_length]; omega)]
    · rw [List.getElem?_set_ne hi]
      exact wipe_in (by
        rcases List.mem_cons.mp h with z | z
        · exact absurd z.symm hi
        · exact z)
theorem wipe_agr {σ σ2 : L2.St} {vs js : List Nat} (a : Agr js (wipe σ vs) σ2) (hj : ∀ j ∈ js, j ∈ vs) : wipe σ2 vs = wipe σ vs := by
  apply List.ext_getElem?
  intro i
  have hl : σ2.length = σ.length := a.1.trans (wipe_length σ vs)
  by_cases hi : i ∈ vs
  · rw [wipe_in hi, wipe_in hi, hl]
  · rw [wipe_out hi, a.2 i fun m => hi (hj i m)]
theorem Ren.wipe {K : PySem.W.Frag} {ρ : List Addr} {σ : L2.St} {H : Hp} {env : Slots} (N : Ren K ρ σ H env) : ∀ vs, Ren K ρ (L2.wipe σ vs) H (wipeD env vs)
  | [] => N
  | v :: vs => by
    have N1 := N.wipe vs
    refine ⟨by unfold L2.wipe wipeD; rw [List.length_set, List.length_set, N1.len], fun i d h => ?_⟩
    unfold wipeD at h
    unfold L2.wipe
    by_cases hi : v = i
    · subst hi
      by_cases hl : v < (wipeD env vs).length
      · rw [List.getElem?_set_self hl] at h; cases h
      · rw [List.getElem?_eq_none (by rw [List.length_set]; omega)] at h; cases h
    · rw [List.getElem?_set_ne hi] at h ⊢
      exact N1.at_ i d h
abbrev DTs (X : Cx) (cs : List Expr) (w : WT) : Prop := PTs X cs (liftT X.K w)
def wYes : WT := fun _ st Q => Q true st
def lcD (g : DTg) (wt : WT) (we : WE) (ok : Store → Prop) (env0 : Slots) : List Val → List Val → Store → (List Val → Store → Prop) → Prop
  | [], acc, st, Q => Q acc st
  | d :: ds, acc, st, Q => ∃ env, g d env0 = some env ∧ wt env st fun b st1 => match b with
    | true => we env st1 fun y st2 => ok st2 ∧ lcD g wt we ok env0 ds (acc ++ [y]) st2 Q
    | false => ok st1 ∧ lcD g wt we ok env0 ds acc st1 Q
def wLc (wi : WI) (g : DTg) (wt : WT) (we : WE) (vs : List Nat) : WL := fun env st Q => wi env st fun ds ok st1 => lcD g wt we ok (wipeD env vs) ds [] st1 fun acc st2 => Q (.new acc) st2
section
variable {K : PySem.W.Frag} {wi : WI} {g : DTg} {wt : WT} {we : WE} {w : WL} {vs js : List Nat} {σ : L2.St} {H : Hp} {Q : VK}
theorem lc_lift (hj : ∀ j ∈ js, j ∈ vs) (h : liftL K (wLc wi g wt we vs) σ H Q) : tLc (liftI K wi) (liftG K js g) (liftT K wt) (liftE K we) vs σ H Q := by
  obtain ⟨ρ, env, st, P, R0, N, w, k⟩ := h
  refine ⟨ρ, env, st, _, R0, N, w, fun ds ok st1 p1 ρ1 H1 J s1 R1 T o1 D hD => ?_⟩
  let Z : Nat → Hp → Prop := fun i H2 => ∃ acc ρ2 st2 ys, Step K ρ1 ρ2 H1 H2 ∧ Rst K ρ2 H2 st2 ∧ ok st2 ∧ lcD g wt we ok (wipeD env vs) (ds.drop i) acc st2 (fun acc st2 => P (.new acc) st2) ∧ H2 D = some (.lst ys) ∧ RVs K ρ2 H2 acc ys ∧ acc.length ≤ i ∧ D ∉ ρ2
  refine ⟨fun i m H2 => m = ds.length - i ∧ i ≤ ds.length ∧ Z i H2, ⟨ds.length, rfl, Nat.zero_le _, [], ρ1, st1, [], Step.new hD, R1.new hD, o1, p1, upd_same, rfl, Nat.le_refl _, R1.out hD⟩, ?_⟩
  rintro i m H2 ⟨rfl, hi, acc, ρ2, st2, ys, s2, R2, o2, p2, d2, r2, l2, n2⟩
  by_cases hlt : i < ds.length
  · refine .inr ⟨T.go ρ2 H2 st2 i ds[i] s2 R2 o2 (List.getElem?_eq_getElem hlt), Z (i + 1), fun H' z => ⟨ds.length - (i + 1), by omega, rfl, hlt, z⟩, fun x H3 y => ?_⟩
    obtain ⟨s3, R3, rx⟩ := T.yld ρ2 H2 st2 i ds[i] s2 R2 o2 (List.getElem?_eq_getElem hlt) x H3 y
    rw [List.drop_eq_getElem_cons hlt] at p2
    obtain ⟨env1, ge, p2⟩ := p2
    have N3 : Ren K ρ2 (wipe σ vs) H3 (wipeD env vs) := (N.mono ((s1.trans s2).trans s3)).wipe vs
    refine ⟨ρ2, wipeD env vs, ds[i], env1, N3, rx, ge, fun σ4 N4 a4 => ⟨wipe_agr a4 hj, ?_⟩⟩
    refine ⟨ρ2, env1, st2, _, R3, N4, p2, fun b st5 p5 ρ5 H5 s5 R5 => ?_⟩
    cases b with
    | false =>
      simp only [Bool.false_eq_true, if_false]
      have s35 := s3.trans s5
      refine ⟨acc, ρ5, st5, ys, s2.trans s35, R5, p5.1, p5.2, s35.keep D _ d2 n2, r2.mono s35, Nat.le_succ_of_le l2, fun m => ?_⟩
      rcases s35.fresh D m with q | q
      · exact n2 q
      · rw [d2] at q; cases q
    | true =>
      simp only [if_true]
      refine ⟨ρ5, env1, st5, _, R5, N4.mono s5, p5, fun y6 st6 p6 ρ6 H6 x6 s6 R6 r6 => ?_⟩
      have s36 := (s3.trans s5).trans s6
      have d6 := s36.keep D _ d2 n2
      have n6 : D ∉ ρ6 := fun m => by
        rcases s36.fresh D m with q | q
        · exact n2 q
        · rw [d2] at q; cases q
      have hl := T.len
      have hyl := r2.len
      refine ⟨ys, d6, by omega, acc ++ [y6], ρ6, st6, ys ++ [x6], (s2.trans s36).poke hD d6 trivial, R6.poke n6 d6 trivial, p6.1, p6.2, upd_same, ((r2.mono s36).app (.one r6)).poke d6 trivial, ?_, n6⟩
      rw [List.length_append]
      exact Nat.succ_le_succ l2
  · have e : i = ds.length := by omega
    subst e
    rw [List.drop_length] at p2
    refine .inl ⟨T.stop ρ2 H2 st2 s2 R2 o2, k (.new acc) st2 p2 ρ2 H2 D (s1.trans s2) R2 ⟨n2, ys, d2, ?_, r2⟩ ?_⟩
    · rw [r2.len]; exact Nat.le_trans l2 T.len
    · show H D = none
      cases e : H D with
      | none => rfl
      | some o =>
        have hn : D ∉ ρ := fun m => R1.out hD (by
          obtain ⟨j, hj⟩ := List.mem_iff_getElem?.mp m
          exact List.mem_of_getElem? (s1.pre j D hj))
        rw [s1.keep D o e hn] at hD
        cases hD
theorem new_lift (h : liftE K (wNew w) σ H Q) : liftL K w σ H Q := by
  obtain ⟨ρ, env, st, P, R, N, w, k⟩ := h
  refine ⟨ρ, env, st, _, R, N, w, fun l st1 p1 ρ1 H1 D s1 R1 r1 n1 => ?_⟩
  cases l with
  | new ds =>
    obtain ⟨h1, ys, h2, h3, h4⟩ := r1
    refine k _ _ p1 _ H1 _ (s1.adopt n1) (R1.adopt h1 h2 h3 h4) ⟨D, ?_, rfl⟩
    rw [← R1.len, List.getElem?_append_right (Nat.le_refl _), Nat.sub_self]
    rfl
  | at_ n => exact k _ _ p1 ρ1 H1 _ s1 R1 ⟨D, r1, rfl⟩
theorem liftE_mono {w : WE} {Q' : VK} (h : liftE K w σ H Q) (i : ∀ x H1, Q x H1 → Q' x H1) : liftE K w σ H Q' := by
  obtain ⟨ρ, env, st, P, R, N, w, k⟩ := h
  exact ⟨ρ, env, st, P, R, N, w, fun d st' p ρ' H' x s r v => i _ _ (k d st' p ρ' H' x s r v)⟩
theorem gn_lift {i : Nat} {v : V} {QQ : L2.St → Hp → Prop} (h : liftG K [i] (gN i) v σ H QQ) : gName i v σ H QQ := by
  obtain ⟨ρ, env, d, env', N, r, e, q⟩ := h
  cases e
  exact q _ (N.set r) ⟨List.length_set, fun j hj => List.getElem?_set_ne fun z => hj (by simp [z])⟩
end
def wAsg (we : WE) (g : DTg) : WS := fun E env st => we env st fun d st1 => match g d env with
  | some env1 => E.nx env1 st1
  | none => False
theorem asg_lift {K : PySem.W.Frag} {we : WE} {g : DTg} {js : List Nat} {D : Ends} {σ : L2.St} {H : Hp} (h : liftS K (wAsg we g) D σ H) : liftE K we σ H fun x H1 => liftG K js g x σ H1 D.nx := by
  obtain ⟨ρ, env, st, E, R, N, w, k⟩ := h
  refine ⟨ρ, env, st, _, R, N, w, fun d1 st1 p1 ρ1 H1 x1 s1 R1 r1 => ?_⟩
  cases q : g d1 env with
  | none => simp only [q] at p1
  | some env1 =>
    simp only [q] at p1
    exact ⟨ρ1, env, d1, env1, N.mono s1, r1, q, fun σ2 N2 a2 => k.nx env1 st1 p1 ρ1 σ2 H1 s1 R1 N2⟩
section
variable {X : Cx} {elt tg iter : Expr} {ifs : List Expr} {scope : Scope} {own : List (Str × Nat)} {pos spos py : Pos} {wi : WI} {js : List Nat} {g : DTg} {wt : WT} {we : WE} {y : Str} {i : Nat}
theorem dts_nil : DTs X [] wYes := ⟨fun pins s σ H Q I h => by
  obtain ⟨ρ, env, st, P, R, N, w, k⟩ := h
  exact pts_nil.run pins s σ H Q I (k true st w ρ H .refl R)⟩
theorem dts_one {c : Expr} (h : DT X c wt) : DTs X [c] wt := pts_one h
theorem dl_lc (hc : X.calm = true) (hN : X.N.Nodup) (hi : DI X tg iter wi) (ok : BlkOk X.N X.env.scope scope own)
    (hg : ∀ (s : Shared) (H : Hp) (C : Addr) (cl : List (Str × Addr)) (fp : List Addr), DG (X.blk s H scope (compEnvC scope cl C X.env) fp) tg js g) (ht : ∀ (s : Shared) (H : Hp) (C : Addr) (cl : List (Str × Addr)) (fp : List Addr), DTs (X.blk s H scope (compEnvC scope cl C X.env) fp) ifs wt)
    (he : ∀ (s : Shared) (H : Hp) (C : Addr) (cl : List (Str × Addr)) (fp : List Addr), DE (X.blk s H scope (compEnvC scope cl C X.env) fp) elt we) (hj : ∀ j ∈ js, j ∈ own.map (·.2) := by decide) (hs : ∀ x, foldedSetIterable iter X.env x = pure x := by intro _; rfl) :
    DLs X (.ListComp elt [⟨tg, iter, ifs, 0⟩] scope pos) (wLc wi g wt we (own.map (·.2))) :=
  peImp (pe_lc hc hN hi ok hg ht he hs) fun _ _ _ h => lc_lift hj h
theorem ds_setLc (hc : X.calm = true) (hN : X.N.Nodup) (hy : X.N[i]? = some y) (hyl : X.env.scope.names.lookup y = some .local)
    (hsw : swapsWith (.ListComp elt [⟨tg, iter, ifs, 0⟩] scope pos) (some (.Name y py)) spos.line X.env = pure true) (hi : DI X tg iter wi) (ok : BlkOk X.N X.env.scope scope own)
    (hg : ∀ (s : Shared) (H : Hp) (C : Addr) (cl : List (Str × Addr)) (fp : List Addr), DG (X.blk s H scope (compEnvC scope cl C X.env) fp) tg js g) (ht : ∀ (s : Shared) (H : Hp) (C : Addr) (cl : List (Str × Addr)) (fp : List Addr), DTs (X.blk s H scope (compEnvC scope cl C X.env) fp) ifs wt)
    (he : ∀ (s : Shared) (H : Hp) (C : Addr) (cl : List (Str × Addr)) (fp : List Addr), DE (X.blk s H scope (compEnvC scope cl C X.env) fp) elt we) (hj : ∀ j ∈ js, j ∈ own.map (·.2) := by decide) (hs : ∀ x, foldedSetIterable iter X.env x = pure x := by intro _; rfl) :
    DS X (.Assign [.Name y py] (.ListComp elt [⟨tg, iter, ifs, 0⟩] scope pos) spos) (wAsg (wNew (wLc wi g wt we (own.map (·.2)))) (gN i)) :=
  psImp (ps_setLc hc hN hy hyl hsw hi ok hg ht he hs) fun D σ H h => lc_lift hj (new_lift (liftE_mono (asg_lift (js := [i]) h) fun _ _ q => gn_lift q))
end
end DL

set_option Elab.async false
set_option linter.all false
set_option maxRecDepth 100000
set_option maxHeartbeats 4000000
namespace DL
open PySem L2 ClX

/-! ### statements -/
def wNext : WS := fun E env st => E.nx env st
def wBrk : WS := fun E env st => E.bk env st
def wCnt : WS := fun E env st => E.ct env st
def wNev : WS := fun _ _ _ => False
def wSeq (t u : WS) : WS := fun E env st => t { E with nx := fun env' st' => u E env' st' } env st
/-- with a word between -/
def wMid (t u : WS) : WS := fun E env st => ∃ M : Slots → Store → Prop, t { E with nx := M } env st ∧ ∀ env' st', M env' st' → u E env' st'
def wDrop (we : WE) : WS := fun E env st => we env st fun _ st1 => E.nx env st1
def wRet (we : WE) : WS := fun E env st => we env st E.rt
def wRetN : WS := fun E _ st => E.rt .non st
def wIfS (wt : WT) (t u : WS) : WS := fun E env st => wt env st fun b st1 => match b with
  | true => t E env st1
  | false => u E env st1
def wWhile (wt : WT) (body : WS) : WS := fun E env st => ∃ W : Nat → Slots → Store → Prop, (∃ m, W m env st) ∧ ∀ m env st, W m env st → wt env st fun b st1 => match b with
  | true => body { E with nx := fun e s => ∃ m', m' < m ∧ W m' e s, ct := fun e s => ∃ m', m' < m ∧ W m' e s, bk := E.nx } env st1
  | false => E.nx env st1
def forD (g : DTg) (body : WS) (ok : Store → Prop) (E : DEnds) : List Val → Slots → Store → Prop
  | [], env, st => E.nx env st
  | d :: ds, env, st => ∃ env1, g d env = some env1 ∧ body { E with nx := fun e s => ok s ∧ forD g body ok E ds e s, ct := fun e s => ok s ∧ forD g body ok E ds e s, bk := E.nx } env1 st
def wFor (wi : WI) (g : DTg) (body : WS) : WS := fun E env st => wi env st fun ds ok st1 => forD g body ok E ds env st1
section
variable {X : Cx} {st : Stmt} {rest : List Stmt} {t u : WS} {e c : Expr} {we : WE} {wt : WT} {pos : Pos}
theorem dss_nil : DSs X [] wNext := pssImp pss_nil fun D σ H h => by
  obtain ⟨ρ, env, st, E, R, N, w, k⟩ := h
  exact k.nx env st w ρ σ H .refl R N
theorem dss_cons (h1 : DS X st t) (h2 : DSs X rest u) : DSs X (st :: rest) (wSeq t u) := pssImp (pss_cons h1 h2) fun D σ H h => by
  obtain ⟨ρ, env, st, E, R, N, w, k⟩ := h
  exact ⟨ρ, env, st, _, R, N, w, ⟨fun env' st' p ρ' σ' H' s R' N' => ⟨ρ', env', st', E, R', N', p, k.go s⟩, k.rt, k.bk, k.ct⟩⟩
theorem dss_mid (h1 : DS X st t) (h2 : DSs X rest u) : DSs X (st :: rest) (wMid t u) := pssImp (pss_cons h1 h2) fun D σ H h => by
  obtain ⟨ρ, env, st, E, R, N, ⟨M, w, w2⟩, k⟩ := h
  exact ⟨ρ, env, st, _, R, N, w, ⟨fun env' st' p ρ' σ' H' s R' N' => ⟨ρ', env', st', E, R', N', w2 _ _ p, k.go s⟩, k.rt, k.bk, k.ct⟩⟩
theorem dss_one (h1 : DS X st t) : DSs X [st] t := pss_one h1
theorem ds_pass : DS X (.Pass pos) wNext := psImp ps_pass fun D σ H h => by
  obtain ⟨ρ, env, st, E, R, N, w, k⟩ := h
  exact k.nx env st w ρ σ H .refl R N
theorem ds_doc {x j pos'} : DS X (.Expr (.Constant (.str x) j pos) pos') wNext := psImp ps_doc fun D σ H h => by
  obtain ⟨ρ, env, st, E, R, N, w, k⟩ := h
  exact k.nx env st w ρ σ H .refl R N
theorem ds_break : DS X (.Break pos) wBrk := psImp ps_break fun D σ H h => by
  obtain ⟨ρ, env, st, E, R, N, w, k⟩ := h
  exact k.bk env st w ρ σ H .refl R N
theorem ds_continue : DS X (.Continue pos) wCnt := psImp ps_continue fun D σ H h => by
  obtain ⟨ρ, env, st, E, R, N, w, k⟩ := h
  exact k.ct env st w ρ σ H .refl R N
theorem ds_never : DS X st wNev := psImp ps_never fun D σ H h => by
  obtain ⟨ρ, env, st, E, R, N, w, k⟩ := h
  exact w.elim
theorem dss_never {sts : List Stmt} : DSs X sts wNev := pssImp pss_never fun D σ H h => by
  obtain ⟨ρ, env, st, E, R, N, w, k⟩ := h
  exact w.elim
theorem ds_expr (he : DE X e we) (hs : swapsWith e none pos.line X.env = pure false := by rfl) : DS X (.Expr e pos) (wDrop we) := psImp (ps_expr he hs) fun D σ H h => by
  obtain ⟨ρ, env, st, E, R, N, w, k⟩ := h
  exact ⟨ρ, env, st, _, R, N, w, fun d st' p ρ' H' x s R' r => k.nx env st' p ρ' σ H' s R' (N.mono s)⟩
theorem ds_ret (he : DE X e we) : DS X (.Return (some e) pos) (wRet we) := psImp (ps_ret he) fun D σ H h => by
  obtain ⟨ρ, env, st, E, R, N, w, k⟩ := h
  exact ⟨ρ, env, st, _, R, N, w, k.rt⟩
theorem ds_retN : DS X (.Return none pos) wRetN := psImp ps_retN fun D σ H h => by
  obtain ⟨ρ, env, st, E, R, N, w, k⟩ := h
  exact k.rt .non st w ρ H .non .refl R rfl
theorem ds_if {a b : List Stmt} (hc : DT X c wt) (ha : DSs X a t) (hb : DSs X b u) : DS X (.If c a b pos) (wIfS wt t u) := psImp (ps_if hc ha hb) fun D σ H h => by
  obtain ⟨ρ, env, st, E, R, N, w, k⟩ := h
  refine ⟨ρ, env, st, _, R, N, w, fun d1 st1 p1 ρ1 H1 s1 R1 => ?_⟩
  cases d1 with
  | true => exact iteT ⟨ρ1, env, st1, E, R1, N.mono s1, p1, k.go s1⟩
  | false => exact iteF ⟨ρ1, env, st1, E, R1, N.mono s1, p1, k.go s1⟩
theorem ds_while {body : List Stmt} (hp : PassesOwn (model X.prog X.w) X.A X.env X.xe) (hc : DT X c wt) (hb : DSs X body t) : DS X (.While c body [] pos) (wWhile wt t) := psImp (ps_while hp hc hb) fun D σ H h => by
  obtain ⟨ρ, env, st, E, R, N, ⟨W, ⟨m0, w0⟩, turn⟩, k⟩ := h
  refine ⟨fun m σ' H' => ∃ ρ' env' st', Step X.K ρ ρ' H H' ∧ Rst X.K ρ' H' st' ∧ Ren X.K ρ' σ' H' env' ∧ W m env' st', ⟨m0, ρ, env, st, .refl, R, N, w0⟩, ?_⟩
  rintro m σ1 H1 ⟨ρ1, env1, st1, s1, R1, N1, w1⟩
  refine ⟨ρ1, env1, st1, _, R1, N1, turn m env1 st1 w1, fun b st2 p2 ρ2 H2 s2 R2 => ?_⟩
  cases b with
  | false => exact iteF (k.nx env1 st2 p2 ρ2 σ1 H2 (s1.trans s2) R2 (N1.mono s2))
  | true =>
    refine iteT ⟨fun σ' H' => ∃ m', m' < m ∧ ∃ ρ' env' st', Step X.K ρ ρ' H H' ∧ Rst X.K ρ' H' st' ∧ Ren X.K ρ' σ' H' env' ∧ W m' env' st', fun σ' H' z => z, ?_⟩
    refine ⟨ρ2, env1, st2, _, R2, N1.mono s2, p2, ⟨?_, k.rt.go (s1.trans s2), k.nx.go (s1.trans s2), ?_⟩⟩
    · rintro env' st' ⟨m', hm, w'⟩ ρ' σ' H' s' R' N'
      exact ⟨m', hm, ρ', env', st', (s1.trans s2).trans s', R', N', w'⟩
    · rintro env' st' ⟨m', hm, w'⟩ ρ' σ' H' s' R' N'
      exact ⟨m', hm, ρ', env', st', (s1.trans s2).trans s', R', N', w'⟩
theorem ds_for {tg iter : Expr} {body : List Stmt} {wi : WI} {g : DTg} {js : List Nat} (hp : PassesOwn (model X.prog X.w) X.A X.env X.xe) (hc : X.calm = true) (hi : DI X tg iter wi) (hg : DG X tg js g) (hb : DSs X body t)
    (hs : ∀ x, foldedSetIterable iter X.env x = pure x := by intro _; rfl) : DS X (.For tg iter body [] pos) (wFor wi g t) := psImp (ps_for hp hc hi hg hb hs) fun D σ H h => by
  obtain ⟨ρ, env, st, E, R, N, w, k⟩ := h
  refine ⟨ρ, env, st, _, R, N, w, fun ds ok st1 p1 ρ1 H1 J s1 R1 T o1 => ?_⟩
  let Z : Nat → L2.St → Hp → Prop := fun i σ2 H2 => ∃ ρ2 env2 st2, Step X.K ρ1 ρ2 H1 H2 ∧ Rst X.K ρ2 H2 st2 ∧ Ren X.K ρ2 σ2 H2 env2 ∧ ok st2 ∧ forD g t ok E (ds.drop i) env2 st2
  refine ⟨fun i m σ2 H2 => m = ds.length - i ∧ i ≤ ds.length ∧ Z i σ2 H2, ⟨ds.length, rfl, Nat.zero_le _, ρ1, env, st1, .refl, R1, N.mono s1, o1, p1⟩, ?_⟩
  rintro i m σ2 H2 ⟨rfl, hi, ρ2, env2, st2, s2, R2, N2, o2, p2⟩
  by_cases hlt : i < ds.length
  · refine .inr ⟨T.go ρ2 H2 st2 i ds[i] s2 R2 o2 (List.getElem?_eq_getElem hlt), Z (i + 1), fun σ' H' z => ⟨ds.length - (i + 1), by omega, rfl, hlt, z⟩, fun x H3 y => ?_⟩
    obtain ⟨s3, R3, rx⟩ := T.yld ρ2 H2 st2 i ds[i] s2 R2 o2 (List.getElem?_eq_getElem hlt) x H3 y
    rw [List.drop_eq_getElem_cons hlt] at p2
    obtain ⟨env3, ge, p2⟩ := p2
    refine ⟨ρ2, env2, ds[i], env3, N2.mono s3, rx, ge, fun σ4 N4 a4 => ?_⟩
    have s13 := s2.trans s3
    have s03 := s1.trans s13
    refine ⟨ρ2, env3, st2, _, R3, N4, p2, ⟨?_, k.rt.go s03, k.nx.go s03, ?_⟩⟩
    · rintro env' st' ⟨o', p'⟩ ρ' σ' H' s' R' N'
      exact ⟨ρ', env', st', s13.trans s', R', N', o', p'⟩
    · rintro env' st' ⟨o', p'⟩ ρ' σ' H' s' R' N'
      exact ⟨ρ', env', st', s13.trans s', R', N', o', p'⟩
  · have e : i = ds.length := by omega
    subst e
    rw [List.drop_length] at p2
    exact .inl ⟨T.stop ρ2 H2 st2 s2 R2 o2, k.nx env2 st2 p2 ρ2 σ2 H2 (s1.trans s2) R2 N2⟩
end

/-! ### assignments -/
abbrev WTg := Val → Slots → Store → (Slots → Store → Prop) → Prop
def liftG2 (K : PySem.W.Frag) (w : WTg) : TG := fun v σ H Q => ∃ ρ env st d P, Rst K ρ H st ∧ Ren K ρ σ H env ∧ RV K ρ H d v ∧ w d env st P ∧ AfS K ρ H P Q
def liftG2s (K : PySem.W.Frag) (w : List Val → Slots → Store → (Slots → Store → Prop) → Prop) : TGs := fun v σ H Q => ∃ ρ env st d P, Rst K ρ H st ∧ Ren K ρ σ H env ∧ RVs K ρ H d v ∧ w d env st P ∧ AfS K ρ H P Q
abbrev DG2 (X : Cx) (tg : Expr) (w : WTg) : Prop := PG X tg (liftG2 X.K w)
abbrev DG2s (X : Cx) (tg : List Expr) (w : List Val → Slots → Store → (Slots → Store → Prop) → Prop) : Prop := PGs X tg (liftG2s X.K w)
def wAsg2 (we : WE) (w : WTg) : WS := fun E env st => we env st fun d st1 => w d env st1 E.nx
def g2of (g : DTg) : WTg := fun d env st P => match g d env with
  | some env1 => P env1 st
  | none => False
def g2nil : List Val → Slots → Store → (Slots → Store → Prop) → Prop
  | [], env, st, P => P env st
  | _ :: _, _, _, _ => False
def g2cons (w : WTg) (ws : List Val → Slots → Store → (Slots → Store → Prop) → Prop) : List Val → Slots → Store → (Slots → Store → Prop) → Prop
  | [], _, _, _ => False
  | d :: ds, env, st, P => w d env st fun env1 st1 => ws ds env1 st1 P
def g2tup (n : Nat) (ws : List Val → Slots → Store → (Slots → Store → Prop) → Prop) : WTg := fun d env st P => match d with
  | .tup ds => ds.length = n ∧ ws ds env st P
  | _ => False
def setL (o i d : Val) (st : Store) (Q : Store → Prop) : Prop := match o, i with
  | .loc n, .int k => match st[n]? with
    | some (.lst ds) => match ixN ds.length k with
      | some j => Q (st.set n (.lst (ds.set j d)))
      | none => False
    | _ => False
  | _, _ => False
def g2sub (wo wi : WE) : WTg := fun d env st P => wo env st fun o st1 => wi env st1 fun i st2 => setL o i d st2 fun st3 => P env st3
def putD (f : Str) (v : Val) : List (Str × Val) → List (Str × Val)
  | [] => [(f, v)]
  | (g, x) :: r => if g = f then (g, v) :: r else (g, x) :: putD f v r
def setF (C : Addr) (f : Str) (o d : Val) (st : Store) (Q : Store → Prop) : Prop := match o with
  | .loc n => match st[n]? with
    | some (.obj C' fs) => C' = C ∧ fs.length < 1000 ∧ Q (st.set n (.obj C (putD f d fs)))
    | _ => False
  | _ => False
def g2fld (C : Addr) (f : Str) (wo : WE) : WTg := fun d env st P => wo env st fun o st1 => setF C f o d st1 fun st2 => P env st2
section
variable {K : PySem.W.Frag} {ρ : List Addr} {H : Hp} {st : Store} {n : Nat} {a C : Addr}
theorem lst_write {c : Cell} {ds : List Val} {ys : List V} (R : Rst K ρ H st) (hn : ρ[n]? = some a) (hs : st[n]? = some c) (r : RVs K ρ H ds ys) (hl : ys.length ≤ sizeLine) :
    Step K ρ ρ H (upd H a (.lst ys)) ∧ Rst K ρ (upd H a (.lst ys)) (st.set n (.lst ds)) := by
  obtain ⟨u, hu, cu⟩ := (R.cells n a c hn hs).some_of
  have s : Step K ρ ρ H (upd H a (.lst ys)) := Step.write (List.mem_of_getElem? hn) hu cu
  exact ⟨s, R.write hn hs ⟨ys, upd_same, hl, r.mono s⟩⟩
theorem Rst.lst {ds : List Val} (R : Rst K ρ H st) (hn : ρ[n]? = some a) (hs : st[n]? = some (.lst ds)) : ∃ ys, H a = some (.lst ys) ∧ ys.length ≤ sizeLine ∧ RVs K ρ H ds ys := R.cells n a _ hn hs
theorem putD_fst (f : Str) (v : Val) (y : V) : ∀ (fs : List (Str × Val)) (xs : List (Str × V)), xs.map Prod.fst = fs.map Prod.fst → (putF f y xs).map Prod.fst = (putD f v fs).map Prod.fst
  | [], [], _ => rfl
  | (g, x) :: fs, (g', x') :: xs, h => by
    simp only [List.map_cons, List.cons.injEq] at h
    obtain ⟨rfl, h⟩ := h
    unfold putF putD
    by_cases e : g' = f
    · rw [if_pos e, if_pos e]; simp [h]
    · rw [if_neg e, if_neg e]; simp [putD_fst f v y fs xs h]
  | [], _ :: _, h => by simp at h
  | _ :: _, [], h => by simp at h
theorem putD_snd {f : Str} {v : Val} {y : V} (r : RV K ρ H v y) : ∀ (fs : List (Str × Val)) (xs : List (Str × V)), xs.map Prod.fst = fs.map Prod.fst → RVs K ρ H (fs.map Prod.snd) (xs.map Prod.snd) → RVs K ρ H ((putD f v fs).map Prod.snd) ((putF f y xs).map Prod.snd)
  | [], [], _, _ => .one r
  | (g, x) :: fs, (g', x') :: xs, h, q => by
    simp only [List.map_cons, List.cons.injEq] at h
    obtain ⟨rfl, h⟩ := h
    obtain ⟨z, zs, e, q1, q2⟩ := q
    cases e
    unfold putF putD
    by_cases e : g' = f
    · rw [if_pos e, if_pos e]
      exact ⟨y, _, rfl, r, q2⟩
    · rw [if_neg e, if_neg e]
      exact ⟨x', _, rfl, q1, putD_snd r fs xs h q2⟩
  | [], _ :: _, h, _ => by simp at h
  | _ :: _, [], h, _ => by simp at h
theorem lookD : ∀ (fs : List (Str × Val)) (xs : List (Str × V)) (f : Str) (v : Val), xs.map Prod.fst = fs.map Prod.fst → RVs K ρ H (fs.map Prod.snd) (xs.map Prod.snd) → fs.lookup f = some v → ∃ y, xs.lookup f = some y ∧ RV K ρ H v y
  | [], [], f, v, _, _, h => by simp at h
  | (g, x) :: fs, (g', x') :: xs, f, v, h, q, hl => by
    simp only [List.map_cons, List.cons.injEq] at h
    obtain ⟨rfl, h⟩ := h
    obtain ⟨z, zs, e, q1, q2⟩ := q
    cases e
    rw [List.lookup_cons] at hl ⊢
    cases e : f == g' with
    | true =>
      rw [e] at hl
      cases hl
      exact ⟨x', rfl, q1⟩
    | false =>
      rw [e] at hl
      exact lookD fs xs f v h q2 hl
  | [], _ :: _, f, v, h, _, _ => by simp at h
  | _ :: _, [], f, v, h, _, _ => by simp at h
theorem obj_write {fs fs' : List (Str × Val)} {ys : List (Str × V)} {dx : Addr} {c : Cell} (R : Rst K ρ H st) (hn : ρ[n]? = some a) (hs : st[n]? = some c) (e : ys.map Prod.fst = fs'.map Prod.fst) (r : RVs K ρ H (fs'.map Prod.snd) (ys.map Prod.snd)) :
    Step K ρ ρ H (upd H a (.ins C dx ys)) ∧ Rst K ρ (upd H a (.ins C dx ys)) (st.set n (.obj C fs')) := by
  obtain ⟨u, hu, cu⟩ := (R.cells n a c hn hs).some_of
  have s : Step K ρ ρ H (upd H a (.ins C dx ys)) := Step.write (List.mem_of_getElem? hn) hu cu
  exact ⟨s, R.write hn hs ⟨dx, ys, upd_same, e, r.mono s⟩⟩
end
section
variable {X : Cx} {e o i : Expr} {we wo wi : WE} {pos pos' : Pos}
theorem ds_set {k : Nat} {x : Str} (hN : X.N.Nodup) (hi : X.N[k]? = some x) (hx : Loc X.env.scope x) (he : DE X e we) (hs : swapsWith e (some (.Name x pos')) pos.line X.env = pure false := by rfl) (hf : X.fn x = true ∨ X.env.scope.names.lookup x = some .local := by first | exact .inl rfl | exact .inr rfl | assumption) :
    DS X (.Assign [.Name x pos'] e pos) (wAsg we (gN k)) := psImp (ps_set hN hi hx he hs hf) fun D σ H h => liftE_mono (asg_lift (js := [k]) h) fun _ _ q => gn_lift q
theorem dg2_of {tg : Expr} {js : List Nat} {g : DTg} (h : DG X tg js g) : DG2 X tg (g2of g) := pgImp h fun v σ H Q h => by
  obtain ⟨ρ, env, st, d, P, R, N, r, w, k⟩ := h
  unfold g2of at w
  split at w
  · rename_i env1 e
    exact ⟨ρ, env, d, env1, N, r, e, fun σ' N' _ => k env1 st w ρ σ' H .refl R N'⟩
  · exact w.elim
theorem dg2s_nil : DG2s X [] g2nil := pgsImp pgs_nil fun v σ H Q h => by
  obtain ⟨ρ, env, st, d, P, R, N, r, w, k⟩ := h
  cases d with
  | nil =>
    have z : v = [] := r
    exact ⟨z, k env st w ρ σ H .refl R N⟩
  | cons d ds => exact w.elim
theorem dg2s_cons {e : Expr} {es : List Expr} {w : WTg} {ws : List Val → Slots → Store → (Slots → Store → Prop) → Prop} (h1 : DG2 X e w) (h2 : DG2s X es ws)
    (hs : (assignEach (e :: es) X.env).map (·.2) = assign e X.env :: (assignEach es X.env).map (·.2) := by rfl) : DG2s X (e :: es) (g2cons w ws) := pgsImp (pgs_cons h1 h2 hs) fun v σ H Q h => by
  obtain ⟨ρ, env, st, d, P, R, N, r, w, k⟩ := h
  cases d with
  | nil => exact w.elim
  | cons d ds =>
    obtain ⟨y, ys, rfl, r1, r2⟩ := r
    refine ⟨y, ys, rfl, ρ, env, st, d, _, R, N, r1, w, fun env1 st1 p1 ρ1 σ1 H1 s1 R1 N1 => ?_⟩
    exact ⟨ρ1, env1, st1, ds, P, R1, N1, r2.mono s1, p1, k.go s1⟩
theorem dg2_tup {es : List Expr} {k : Nat} {ws : List Val → Slots → Store → (Slots → Store → Prop) → Prop} (n : Nat) (hc : X.calm = true) (h : DG2s X es ws)
    (hn : (assignEach es X.env).length = n := by rfl) (hst : (assignEach es X.env).findIdx? (·.1) = none := by rfl) : DG2 X (.Tuple es k pos) (g2tup n ws) := pgImp (pg_tup hc h hn hst) fun v σ H Q h => by
  obtain ⟨ρ, env, st, d, P, R, N, r, w, k⟩ := h
  cases d <;> first | exact w.elim | skip
  rename_i ds
  obtain ⟨a, xs, rfl, h1, h2, h3⟩ := r
  exact ⟨a, xs, rfl, h1, by rw [h3.len]; exact w.1, ρ, env, st, ds, P, R, N, h3, w.2, k⟩
def liftSet (K : PySem.W.Frag) : TSet := fun x y z H Q => ∃ ρ st o i d P, Rst K ρ H st ∧ RV K ρ H o x ∧ RV K ρ H i y ∧ RV K ρ H d z ∧ setL o i d st P ∧ ∀ st', P st' → ∀ ρ' H', Step K ρ ρ' H H' → Rst K ρ' H' st' → Q H'
theorem dset_list : PSet X (liftSet X.K) := by
  intro pins s σ H o i v ov iv u Q I ro ri rv h
  obtain ⟨ρ, st, od, idx, d, P, R, r1, r2, r3, w, k⟩ := h
  cases od <;> first | exact w.elim | skip
  cases idx <;> first | exact w.elim | skip
  rename_i n j
  obtain ⟨a, ha, rfl⟩ := r1
  have e2 : i = .int j := r2
  subst e2
  unfold setL at w
  simp only at w
  split at w
  · rename_i ds hs
    split at w
    · rename_i m hm
      obtain ⟨ys, h1, h2, h3⟩ := R.lst ha hs
      obtain ⟨s2, R2⟩ := lst_write R ha hs (h3.set m r3) (by rw [List.length_set]; exact h2)
      exact set_list pins s σ H _ _ v ov iv u Q I ro ri rv ⟨a, ys, j, m, rfl, rfl, h1, by rw [h3.len]; exact hm, k _ w ρ _ s2 R2⟩
    · exact w.elim
  · exact w.elim
theorem dg2_sub (ho : DE X o wo) (hi : DE X i wi) (ha : ∀ v, assign (.Subscript o i pos) X.env v = (do
      let ov ← holding [v] (eval o X.env)
      let iv ← holding [v, ov] (eval i X.env)
      standAt pos
      holding [v, ov, iv] (setItem ov iv v)
      release [v, ov, iv] []) := by intro _; rfl) : DG2 X (.Subscript o i pos) (g2sub wo wi) := pgImp (pg_sub ho hi dset_list ha) fun v σ H Q h => by
  obtain ⟨ρ, env, st, d, P, R, N, r, w, k⟩ := h
  refine ⟨ρ, env, st, _, R, N, w, fun d1 st1 p1 ρ1 H1 x1 s1 R1 r1 => ?_⟩
  refine ⟨ρ1, env, st1, _, R1, N.mono s1, p1, fun d2 st2 p2 ρ2 H2 x2 s2 R2 r2 => ?_⟩
  have s12 := s1.trans s2
  exact ⟨ρ2, st2, d1, d2, d, _, R2, r1.mono s2, r2, r.mono s12, p2, fun st3 p3 ρ3 H3 s3 R3 => k env st3 p3 ρ3 σ H3 (s12.trans s3) R3 (N.mono (s12.trans s3))⟩
theorem dg2_fld {C : Addr} {f : Str} (cl : Cls X.K C) (na : NoAttr X.K C f) (ho : DE X o wo) : DG2 X (.Attribute o f pos) (g2fld C f wo) := by
  refine ⟨fun pins s σ H v u Q I rv h => ?_⟩
  obtain ⟨ρ, env, st, d, P, R, N, r, w, k⟩ := h
  refine PySem.W.kas_attr (thn (ho.run pins s σ H (fun x H1 => ∃ a dx fs, x = .ref a ∧ H1 a = some (.ins C dx fs) ∧ fs.length < 1000 ∧ Q σ (upd H1 a (.ins C dx (putF f v fs)))) I ⟨ρ, env, st, _, R, N, w, fun d1 st1 p1 ρ1 H1 x1 s1 R1 r1 => ?_⟩) fun ov s1 ⟨x, H1, I1, r1, a, dx, fs, e1, e2, e3, q⟩ => ?_)
  · cases d1 <;> first | exact p1.elim | skip
    rename_i n
    obtain ⟨a, ha, rfl⟩ := r1
    unfold setF at p1
    simp only at p1
    split at p1
    · rename_i C' fs hs
      obtain ⟨rfl, hl, p1⟩ := p1
      obtain ⟨dx, xs, g1, g2, g3⟩ := R1.cells n a _ ha hs
      have hl2 : xs.length = fs.length := by
        have := congrArg List.length g2
        simpa using this
      obtain ⟨s2, R2⟩ := obj_write (fs := fs) (C := C') (dx := dx) R1 ha hs (putD_fst f d v fs xs g2) (putD_snd (r.mono s1) fs xs g2 g3)
      exact ⟨a, dx, xs, rfl, g1, by omega, k env _ p1 ρ1 σ _ (s1.trans s2) R2 (N.mono (s1.trans s2))⟩
    · exact p1.elim
  · subst e1
    obtain rfl : ov = Value.ref a := r1
    exact setattr_ok I1 e2 cl na e3 rv fun s3 I3 => ⟨σ, _, I3, q⟩
theorem ds_asg {tg : Expr} {w : WTg} (he : DE X e we) (hg : DG2 X tg w) (hs : swapsWithSole [tg] e pos.line X.env = pure false := by rfl) (hw : swappedStores [tg] e X.env = pure none := by rfl)
    (h1 : (assignEach [tg] X.env).map (·.2) = [assign tg X.env] := by rfl) : DS X (.Assign [tg] e pos) (wAsg2 we w) := psImp (ps_asg he hg hs hw h1) fun D σ H h => by
  obtain ⟨ρ, env, st, E, R, N, w, k⟩ := h
  refine ⟨ρ, env, st, _, R, N, w, fun d1 st1 p1 ρ1 H1 x1 s1 R1 r1 => ?_⟩
  exact ⟨ρ1, env, st1, d1, E.nx, R1, N.mono s1, r1, p1, k.nx.go s1⟩
end

/-! ### augmented -/
def wAug (k : Nat) (we : WE) (o : Val → Val → Store → DK → Prop) : WS := fun E env st => match env[k]? with
  | some (some d) => we env st fun y st1 => o d y st1 fun z st2 => E.nx (env.set k (some z)) st2
  | _ => False
def liftIp (K : PySem.W.Frag) (o : Val → Val → Store → DK → Prop) : TIp := liftO K o
theorem ds_aug {X : Cx} {k : Nat} {x : Str} {e : Expr} {we : WE} {op : Operator} {o : Val → Val → Store → DK → Prop} {pos pos' : Pos} (hN : X.N.Nodup) (hi : X.N[k]? = some x) (hx : Loc X.env.scope x) (he : DE X e we) (ho : PIp X op (liftIp X.K o)) (hf : X.fn x = true ∨ X.env.scope.names.lookup x = some .local := by first | exact .inl rfl | exact .inr rfl | assumption) :
    DS X (.AugAssign (.Name x pos') op e pos) (wAug k we o) := psImp (ps_aug hN hi hx he ho hf) fun D σ H h => by
  obtain ⟨ρ, env, st, E, R, N, w, kk⟩ := h
  unfold wAug at w
  split at w
  · rename_i d ed
    obtain ⟨v, ev, rv⟩ := N.at_ k d ed
    refine ⟨v, ev, ρ, env, st, _, R, N, w, fun d1 st1 p1 ρ1 H1 x1 s1 R1 r1 => ?_⟩
    refine ⟨ρ1, st1, d, d1, _, R1, rv.mono s1, r1, p1, fun d2 st2 p2 ρ2 H2 x2 s2 R2 r2 => ?_⟩
    exact kk.nx _ st2 p2 ρ2 _ H2 (s1.trans s2) R2 ((N.mono (s1.trans s2)).set r2)
  · exact w.elim
/-- ints only -/
def augI (f : Int → Int → Int) : Val → Val → Store → DK → Prop
  | .int i, .int j, st, Q => Q (.int (f i j)) st
  | _, _, _, _ => False
theorem aug_lift {X : Cx} {op : Operator} {f : Int → Int → Int} (h : PIp X op (ipI f)) : PIp X op (liftIp X.K (augI f)) := by
  intro pins s σ H x y v u Q I r1 r2 q
  obtain ⟨ρ, st, d, e, P, R, q1, q2, w, k⟩ := q
  cases d <;> first | exact w.elim | skip
  cases e <;> first | exact w.elim | skip
  rename_i i j
  have e1 : x = .int i := q1
  have e2 : y = .int j := q2
  subst e1 e2
  exact h pins s σ H _ _ v u Q I r1 r2 ⟨i, j, rfl, rfl, k.here w R rfl⟩

/-! ### methods of a list; attributes -/
def isLst (st : Store) (n : Nat) : Bool := match st[n]? with
  | some (.lst _) => true
  | _ => false
def wMt (o : Nat → List Val → List Val → Store → DK → Prop) (wo : WE) (wa : WA) : WE := fun env st Q => wo env st fun d st1 => match d with
  | .loc n => isLst st1 n = true ∧ wa env st1 fun args st2 => match st2[n]? with
    | some (.lst ds) => o n ds args st2 Q
    | _ => False
  | _ => False
def liftM (K : PySem.W.Frag) (o : Nat → List Val → List Val → Store → DK → Prop) : V → List V → Hp → VK → Prop := fun x xs H Q => ∃ ρ st n ds args a P, x = .ref a ∧ Rst K ρ H st ∧ ρ[n]? = some a ∧ st[n]? = some (.lst ds) ∧ RVs K ρ H args xs ∧ o n ds args st P ∧ AfV K ρ H P Q
def appV : Nat → List Val → List Val → Store → DK → Prop
  | n, ds, [d], st, Q => ds.length < sizeLine ∧ Q .non (st.set n (.lst (ds ++ [d])))
  | _, _, _, _, _ => False
def popV : Nat → List Val → List Val → Store → DK → Prop
  | n, ds, [], st, Q => match ds[ds.length - 1]? with
    | some d => Q d (st.set n (.lst ds.dropLast))
    | none => False
  | _, _, _, _, _ => False
def popAtV : Nat → List Val → List Val → Store → DK → Prop
  | n, ds, [.int i], st, Q => -(2 ^ 63) ≤ i ∧ i < 2 ^ 63 ∧ match ixN ds.length i with
    | some k => match ds[k]? with
      | some d => Q d (st.set n (.lst (ds.eraseIdx k)))
      | none => False
    | none => False
  | _, _, _, _, _ => False
section
variable {X : Cx} {e o : Expr} {es : List Expr} {we wo : WE} {wa : WA} {pos apos cpos : Pos}
theorem isLst_ty {K : PySem.W.Frag} {ρ : List Addr} {H : Hp} {st : Store} {n : Nat} {a : Addr} (R : Rst K ρ H st) (ha : ρ[n]? = some a) (h : isLst st n = true) : tyV K "list" (.ref a) H := by
  unfold isLst at h
  split at h
  · rename_i ds hs
    obtain ⟨ys, h1, _⟩ := R.lst ha hs
    exact .inl ⟨rfl, ys, SqL.of h1⟩
  · cases h
theorem mt_lift {oo : Nat → List Val → List Val → Store → DK → Prop} {σ : L2.St} {H : Hp} {Q : VK} (h : liftE X.K (wMt oo wo wa) σ H Q) : tBM X.K "list" (liftM X.K oo) (liftE X.K wo) (liftA X.K wa) σ H Q := by
  obtain ⟨ρ, env, st, P, R, N, w, k⟩ := h
  refine ⟨ρ, env, st, _, R, N, w, fun d1 st1 p1 ρ1 H1 x1 s1 R1 r1 => ?_⟩
  cases d1 <;> first | exact p1.elim | skip
  rename_i n
  obtain ⟨a, ha, rfl⟩ := r1
  refine ⟨isLst_ty R1 ha p1.1, ρ1, env, st1, _, R1, N.mono s1, p1.2, fun args st2 p2 ρ2 H2 xs s2 R2 r2 => ?_⟩
  cases q : st2[n]? with
  | none => simp only [q] at p2
  | some c =>
    cases c with
    | obj C fs => simp only [q] at p2
    | lst ds =>
      simp only [q] at p2
      exact ⟨ρ2, st2, n, ds, args, a, P, rfl, R2, s2.pre n a ha, q, r2, p2, k.go (s1.trans s2)⟩
theorem dm_append : MtR X "list.append" (liftM X.K appV) := by
  intro pins s σ H x xs v us Q I rx rv h
  obtain ⟨ρ, st, n, ds, args, a, P, rfl, R, ha, hs, r, w, k⟩ := h
  match args, w, r with
  | [d], w, r =>
    obtain ⟨y, rfl, ry⟩ := one_of r
    obtain ⟨ys, h1, h2, h3⟩ := R.lst ha hs
    have hl := h3.len
    have hl2 : (ys ++ [y]).length ≤ sizeLine := by
      rw [List.length_append, hl]
      exact w.1
    obtain ⟨s2, R2⟩ := lst_write R ha hs (h3.app (.one ry)) hl2
    exact mt_append pins s σ H _ _ v us Q I rx rv ⟨a, ys, y, rfl, rfl, h1, by rw [hl]; exact w.1, k _ _ w.2 ρ _ _ s2 R2 rfl⟩
theorem dm_pop : MtR X "list.pop" (liftM X.K popV) := by
  intro pins s σ H x xs v us Q I rx rv h
  obtain ⟨ρ, st, n, ds, args, a, P, rfl, R, ha, hs, r, w, k⟩ := h
  match args, w, r with
  | [], w, r =>
    have z : xs = [] := r
    subst z
    obtain ⟨ys, h1, h2, h3⟩ := R.lst ha hs
    cases q : ds[ds.length - 1]? with
    | none => simp only [popV, q] at w
    | some d =>
      simp only [popV, q] at w
      obtain ⟨y, e1, ry⟩ := h3.get q
      have hd : RVs X.K ρ H ds.dropLast ys.dropLast := by
        rw [List.dropLast_eq_take, List.dropLast_eq_take, h3.len]
        exact h3.take _
      obtain ⟨s2, R2⟩ := lst_write R ha hs hd (by rw [List.length_dropLast]; omega)
      exact mt_pop pins s σ H _ _ v us Q I rx rv ⟨a, ys, y, rfl, rfl, h1, by rw [h3.len]; exact e1, k _ _ w ρ _ _ s2 R2 (ry.mono s2)⟩
theorem dm_popAt : MtR X "list.pop" (liftM X.K popAtV) := by
  intro pins s σ H x xs v us Q I rx rv h
  obtain ⟨ρ, st, n, ds, args, a, P, rfl, R, ha, hs, r, w, k⟩ := h
  match args, w, r with
  | [.int i], w, r =>
    obtain ⟨z, rfl, rz⟩ := one_of r
    have ez : z = .int i := rz
    subst ez
    obtain ⟨w1, w2, w⟩ := w
    obtain ⟨ys, h1, h2, h3⟩ := R.lst ha hs
    cases q : ixN ds.length i with
    | none => simp only [q] at w
    | some m =>
      cases q2 : ds[m]? with
      | none => simp only [q, q2] at w
      | some d =>
        simp only [q, q2] at w
        obtain ⟨y, e1, ry⟩ := h3.get q2
        obtain ⟨s2, R2⟩ := lst_write R ha hs (h3.erase m) (Nat.le_trans (List.length_eraseIdx_le ys m) h2)
        exact mt_popAt pins s σ H _ _ v us Q I rx rv ⟨a, ys, i, m, y, rfl, rfl, h1, w1, w2, by rw [h3.len]; exact (ixN_seq q).1, e1, k _ _ w ρ _ _ s2 R2 (ry.mono s2)⟩
theorem d_mt {name : Str} {id : String} {oo : Nat → List Val → List Val → Store → DK → Prop} (slot : Slot "list" name id) (hty : typeOf (.builtin id) = pure (.type "method_descriptor")) (hm : MtR X id (liftM X.K oo)) (ho : DE X o wo) (ha : DA X (e :: es) wa)
    (hbase : attributeBase o name X.env (eval o X.env) = eval o X.env := by rfl)
    (hfew : ((backTo cpos (starEach (e :: es) X.env)).all (fun x => !x.1) && (backToKw cpos (keywordEach [] X.env)).all (fun x => x.1.isSome)
      && decide ((e :: es).length + ([] : List Keyword).length + (if ([] : List Keyword).isEmpty then 0 else 1) < 30)) = true := by rfl)
    (hline : (apos.endLine == cpos.line) = true := by rfl) (hs : starEach (e :: es) X.env = (false, eval e X.env) :: starEach es X.env := by rfl) (hplain : (backTo cpos (starEach es X.env)).any (·.1) = false := by rfl) :
    DE X (.Call (.Attribute o name apos) (e :: es) [] cpos) (wMt oo wo wa) :=
  peImp (pe_bm PySem.F.plainAttrs_list slot hty hm ho ha hbase hfew hline hs hplain) fun σ H Q h => mt_lift h
theorem d_mt0 {name : Str} {id : String} {oo : Nat → List Val → List Val → Store → DK → Prop} (slot : Slot "list" name id) (hty : typeOf (.builtin id) = pure (.type "method_descriptor")) (hm : MtR X id (liftM X.K oo)) (ho : DE X o wo)
    (hbase : attributeBase o name X.env (eval o X.env) = eval o X.env := by rfl) (hline : (apos.endLine == cpos.line) = true := by rfl) : DE X (.Call (.Attribute o name apos) [] [] cpos) (wMt oo wo wNil) :=
  peImp (pe_bm0 PySem.F.plainAttrs_list slot hty hm ho hbase hline) fun σ H Q h => by
    obtain ⟨ρ, env, st, P, R, N, w, k⟩ := h
    refine ⟨ρ, env, st, _, R, N, w, fun d1 st1 p1 ρ1 H1 x1 s1 R1 r1 => ?_⟩
    cases d1 <;> first | exact p1.elim | skip
    rename_i n
    obtain ⟨a, ha, rfl⟩ := r1
    refine ⟨isLst_ty R1 ha p1.1, ?_⟩
    have p2 := p1.2
    unfold wNil at p2
    cases q : st1[n]? with
    | none => simp only [q] at p2
    | some c =>
      cases c with
      | obj C fs => simp only [q] at p2
      | lst ds =>
        simp only [q] at p2
        exact ⟨ρ1, st1, n, ds, [], a, P, rfl, R1, ha, q, rfl, p2, k.go s1⟩
def fldV (C : Addr) (f : Str) (d : Val) (st : Store) (Q : DK) : Prop := match d with
  | .loc n => match st[n]? with
    | some (.obj C' fs) => C' = C ∧ match fs.lookup f with
      | some v => Q v st
      | none => False
    | _ => False
  | _ => False
theorem d_fld {C : Addr} {f : Str} (cl : Cls X.K C) (na : NoAttr X.K C f) (he : DE X e we) (hb : attributeBase e f X.env (eval e X.env) = eval e X.env := by rfl) : DE X (.Attribute e f pos) (wUn (fldV C f) we) :=
  peImp (pe_fld he hb) fun σ H Q h => by
    obtain ⟨ρ, env, st, P, R, N, w, k⟩ := h
    refine ⟨ρ, env, st, _, R, N, w, fun d1 st1 p1 ρ1 H1 x1 s1 R1 r1 => ?_⟩
    cases d1 <;> first | exact p1.elim | skip
    rename_i n
    obtain ⟨a, ha, rfl⟩ := r1
    unfold fldV at p1
    simp only at p1
    split at p1
    · rename_i C' fs hs
      obtain ⟨rfl, p1⟩ := p1
      obtain ⟨dx, xs, g1, g2, g3⟩ := R1.cells n a _ ha hs
      cases q : fs.lookup f with
      | none => simp only [q] at p1
      | some v =>
        simp only [q] at p1
        obtain ⟨y, y1, y2⟩ := lookD fs xs f v g2 g3 q
        exact ⟨a, C', dx, xs, y, rfl, g1, cl, na, y1, k _ _ p1 ρ1 H1 y s1 R1 y2⟩
    · exact p1.elim
/-- C.f, C a class of the text -/
theorem d_cval {C : Addr} {mc : Value} {f : Str} {d : Val} {v : V} {u : Value} {x : Str} {p : Pos} (hg : Gl X x) (hm : X.mg x = some (.ref C)) (rd : CRead X.K C mc) (cv : CVal X.K C mc f v u) (hr : ∀ ρ H, RV X.K ρ H d v) (hd : (x == ("__debug__" : Str)) = false := by decide)
    (hb : attributeBase (.Name x p) f X.env (eval (.Name x p) X.env) = eval (.Name x p) X.env := by rfl) : DE X (.Attribute (.Name x p) f pos) (wC d) :=
  peImp (pe_cval (pe_glob hg hm (v := .ref C) rfl hd) hb) fun σ H Q h => by
    obtain ⟨ρ, env, st, P, R, N, w, k⟩ := h
    exact ⟨C, mc, v, u, rfl, rd, cv, k.here w R (hr _ _)⟩
end
end DL

set_option Elab.async false
set_option linter.all false
set_option maxRecDepth 100000
set_option maxHeartbeats 4000000
namespace DL
open PySem L2 PyProof.Rows

/-! ### back from a def: what the caller does not know is dropped -/
mutual
def clV (n : Nat) : Val → Bool
  | .loc m => decide (m < n)
  | .tup ds => clVs n ds
  | .rol ds => clVs n ds
  | _ => true
def clVs (n : Nat) : List Val → Bool
  | [] => true
  | d :: ds => clV n d && clVs n ds
end
def clC (n : Nat) : Cell → Bool
  | .lst ds => clVs n ds
  | .obj _ fs => clVs n (fs.map Prod.snd)
@[irreducible] def Back (st0 : Store) (P : DK) : DK := fun d st' =>
  st0.length ≤ st'.length ∧ (∀ n c, n < st0.length → st'[n]? = some c → st0[n]? = some c ∨ clC st0.length c = true) ∧
  ((clV st0.length d = true ∧ P d (st'.take st0.length)) ∨
   (∃ n ds, d = .loc n ∧ st0.length ≤ n ∧ st'[n]? = some (.lst ds) ∧ clVs st0.length ds = true ∧ P (.loc st0.length) (st'.take st0.length ++ [.lst ds])))
section
variable {K : PySem.W.Frag} {ρ ρ1 : List Addr} {H : Hp}
mutual
theorem rv_cl (h : ∀ n, n < ρ.length → ρ1[n]? = ρ[n]?) : ∀ {d : Val} {x : V}, RV K ρ1 H d x → clV ρ.length d = true → RV K ρ H d x
  | .non, _, r, _ => r
  | .bl _, _, r, _ => r
  | .int _, _, r, _ => r
  | .str _, _, r, _ => r
  | .adr _, _, r, _ => r
  | .ty _, _, r, _ => r
  | .loc n, x, r, c => by
    obtain ⟨a, h1, h2⟩ := r
    have c : n < ρ.length := of_decide_eq_true c
    exact ⟨a, by rw [← h n c]; exact h1, h2⟩
  | .tup ds, x, r, c => by
    obtain ⟨a, xs, h1, h2, h3, h4⟩ := r
    exact ⟨a, xs, h1, h2, h3, rvs_cl h h4 c⟩
  | .rol ds, x, r, c => by
    obtain ⟨a, xs, h1, h2, h3, h4⟩ := r
    exact ⟨a, xs, h1, h2, h3, rvs_cl h h4 c⟩
theorem rvs_cl (h : ∀ n, n < ρ.length → ρ1[n]? = ρ[n]?) : ∀ {ds : List Val} {xs : List V}, RVs K ρ1 H ds xs → clVs ρ.length ds = true → RVs K ρ H ds xs
  | [], _, r, _ => r
  | d :: ds, xs, r, c => by
    obtain ⟨y, ys, h1, h2, h3⟩ := r
    have c : (clV ρ.length d && clVs ρ.length ds) = true := c
    rw [Bool.and_eq_true] at c
    exact ⟨y, ys, h1, rv_cl h h2 c.1, rvs_cl h h3 c.2⟩
end
mutual
theorem cl_rv : ∀ {d : Val} {x : V}, RV K ρ H d x → clV ρ.length d = true
  | .non, _, r => rfl
  | .bl _, _, r => rfl
  | .int _, _, r => rfl
  | .str _, _, r => rfl
  | .adr _, _, r => rfl
  | .ty _, _, r => rfl
  | .loc n, x, r => by
    obtain ⟨a, h1, h2⟩ := r
    exact decide_eq_true (List.getElem?_eq_some_iff.mp h1).1
  | .tup ds, x, r => by
    obtain ⟨a, xs, h1, h2, h3, h4⟩ := r
    exact cl_rvs h4
  | .rol ds, x, r => by
    obtain ⟨a, xs, h1, h2, h3, h4⟩ := r
    exact cl_rvs h4
theorem cl_rvs : ∀ {ds : List Val} {xs : List V}, RVs K ρ H ds xs → clVs ρ.length ds = true
  | [], _, _ => rfl
  | d :: ds, xs, r => by
    obtain ⟨y, ys, h1, h2, h3⟩ := r
    show (clV ρ.length d && clVs ρ.length ds) = true
    rw [cl_rv h2, cl_rvs h3]
    rfl
end
theorem back_ok {H1 : Hp} {st0 st' : Store} {P : DK} {Q : VK} {d : Val} {x : V} (R : Rst K ρ H st0) (k : AfV K ρ H P Q) (s : Step K ρ ρ1 H H1) (R1 : Rst K ρ1 H1 st') (r : RV K ρ1 H1 d x) (b : Back st0 P d st') : Q x H1 := by
  unfold Back at b
  obtain ⟨b1, b2, b3⟩ := b
  have hl : ρ.length = st0.length := R.len
  have pre : ∀ n, n < ρ.length → ρ1[n]? = ρ[n]? := fun n hn => by
    rw [List.getElem?_eq_getElem hn]
    exact s.pre n _ (List.getElem?_eq_getElem hn)
  have s0 : Step K ρ ρ H H1 := ⟨fun _ _ e => e, fun _ m => .inl m, s.keep, s.tup, s.rol⟩
  have cl : ∀ n c, n < ρ.length → st'[n]? = some c → clC ρ.length c = true := fun n c hn hc => by
    rcases b2 n c (by omega) hc with e | e
    · have hr := R.cells n ρ[n] c (List.getElem?_eq_getElem hn) e
      cases c with
      | lst ds =>
        obtain ⟨xs, _, _, q⟩ := hr
        exact cl_rvs q
      | obj C fs =>
        obtain ⟨_, xs, _, _, q⟩ := hr
        exact cl_rvs q
    · rw [hl]; exact e
  have R0 : Rst K ρ H1 (st'.take st0.length) := {
    len := by rw [List.length_take]; omega
    nd := R.nd
    cells := fun n a c e1 e2 => by
      have hn : n < ρ.length := (List.getElem?_eq_some_iff.mp e1).1
      rw [List.getElem?_take, if_pos (by omega)] at e2
      have c1 := cl n c hn e2
      have q := R1.cells n a c (s.pre n a e1) e2
      cases c with
      | lst ds =>
        obtain ⟨xs, q1, q2, q3⟩ := q
        exact ⟨xs, q1, q2, rvs_cl pre q3 c1⟩
      | obj C fs =>
        obtain ⟨dx, xs, q1, q2, q3⟩ := q
        exact ⟨dx, xs, q1, q2, rvs_cl pre q3 c1⟩ }
  rcases b3 with ⟨c, p⟩ | ⟨n, ds, rfl, hn, hs, c, p⟩
  · exact k d _ p ρ H1 x s0 R0 (rv_cl pre r (by rw [hl]; exact c))
  · obtain ⟨a, ha, rfl⟩ := r
    obtain ⟨ys, q1, q2, q3⟩ := R1.cells n a _ ha hs
    have na : a ∉ ρ := fun m => by
      obtain ⟨j, hj⟩ := List.mem_iff_getElem?.mp m
      have hjl := (List.getElem?_eq_some_iff.mp hj).1
      have := nodup_at R1.nd ha (s.pre j a hj)
      omega
    have hn0 : H a = none := by
      rcases s.fresh a (List.mem_of_getElem? ha) with z | z
      · exact absurd z na
      · exact z
    refine k (.loc st0.length) _ p (ρ ++ [a]) H1 _ (s0.adopt hn0) (R0.adopt na q1 q2 (rvs_cl pre q3 (by rw [hl]; exact c))) ⟨a, ?_, rfl⟩
    rw [← hl, List.getElem?_append_right (Nat.le_refl _), Nat.sub_self]
    rfl
end
def startD (N : List Str) (ds : List Val) : Slots := ds.map some ++ List.replicate (N.length - ds.length) none
theorem start_ren {K : PySem.W.Frag} {ρ : List Addr} {H : Hp} {N : List Str} {ds : List Val} {vs : List V} (r : RVs K ρ H ds vs) : Ren K ρ (L2.start N vs) H (startD N ds) where
  len := by simp [L2.start, startD, r.len]
  at_ := fun i d h => by
    unfold startD at h
    unfold L2.start
    by_cases hi : i < ds.length
    · rw [List.getElem?_append_left (by simpa using hi), List.getElem?_map] at h
      cases e : ds[i]? with
      | none => rw [e] at h; cases h
      | some d' =>
        rw [e] at h
        cases h
        obtain ⟨x, e1, rx⟩ := r.get e
        exact ⟨x, by rw [List.getElem?_append_left (by simpa [r.len] using hi), List.getElem?_map, e1]; rfl, rx⟩
    · rw [List.getElem?_append_right (by simpa using hi)] at h
      rw [List.getElem?_replicate] at h
      split at h <;> cases h
def defE (st : Store) (P : DK) : DEnds := { nx := fun _ st' => Back st P .non st', rt := Back st P }
section
variable {P : Program} {w : World} {K : PySem.W.Frag} {mg : Str → Option Value} {base : Heap} {x qual : Str} {params : Arguments} {body : List Stmt} {scope : Scope} {f : Addr} {fd : FuncData} {N ps : List Str} {k : Nat} {s : DSp} {t : WS}
/-- a def keeps its promise -/
theorem dfn (F : FunD K x qual params body scope [] [] f fd) (S : FnScope N ps scope) (len : ∀ ds st P, s ds st P → ds.length = ps.length)
    (hb : ∀ (cdv : Value) (A : Around) (outer : List Env) (sh : Shared) (H : Hp) (E : XK), Room k (A.deeper (envOfC qual scope sh.heap.objs.size f cdv)) → DSs (cxOf C8.CX0 P w K mg base N qual scope f cdv A outer sh H E).nox body t)
    (vc : ∀ ds st P, s ds st P → t (defE st P) (startD N ds) st) : FnOk P w K mg base C8.CX0 (k + 1) f fd ps (spD K s) := by
  refine F.ok S (fun vs H Q E h => ?_) fun cdv A outer sh H vs Q E hr h => ⟨liftS K t, PSs.nox (hb cdv A outer sh H E hr), ?_⟩
  · obtain ⟨ρ, st, ds, P, R, rv, p, k⟩ := h
    rw [rv.len]
    exact len ds st P p
  · obtain ⟨ρ, st, ds, P, R, rv, p, k⟩ := h
    refine ⟨ρ, startD N ds, st, defE st P, R, start_ren rv, vc ds st P p, ⟨?_, ?_, fun _ _ z => z.elim, fun _ _ z => z.elim⟩⟩
    · intro env' st' b ρ' σ' H' s' R' _
      exact back_ok R k s' R' (d := .non) (x := .non) rfl b
    · intro d st' b ρ' H' x s' R' r
      exact back_ok R k s' R' r b
theorem dcal (F : FunD K x x params body scope [] [] f fd) (gm : mg x = some (.ref f)) (b : Binds K fd ps []) (S : FnScope N ps scope) (len : ∀ ds st P, s ds st P → ds.length = ps.length)
    (hb : ∀ (cdv : Value) (A : Around) (outer : List Env) (sh : Shared) (H : Hp) (E : XK), Room k (A.deeper (envOfC x scope sh.heap.objs.size f cdv)) → DSs (cxOf C8.CX0 P w K mg base N x scope f cdv A outer sh H E).nox body t)
    (vc : ∀ ds st P, s ds st P → t (defE st P) (startD N ds) st) : DCal P w K mg base (k + 1) x s :=
  ⟨f, fd, ps, [], dfn F S len hb vc, gm, F.kp, b, .nil⟩
theorem dcalAt (F : FunD K x x params body scope [] [] f fd) (b : Binds K fd ps []) (S : FnScope N ps scope) (len : ∀ ds st P, s ds st P → ds.length = ps.length)
    (hb : ∀ (cdv : Value) (A : Around) (outer : List Env) (sh : Shared) (H : Hp) (E : XK), Room k (A.deeper (envOfC x scope sh.heap.objs.size f cdv)) → DSs (cxOf C8.CX0 P w K mg base N x scope f cdv A outer sh H E).nox body t)
    (vc : ∀ ds st P, s ds st P → t (defE st P) (startD N ds) st) : C8.CalAt P w K mg base (k + 1) f (spD K s) :=
  ⟨fd, ps, dfn F S len hb vc, F.kp, b⟩
theorem cal_mono {s' : DSp} (c : DCal P w K mg base k x s) (h : ∀ ds st P, s' ds st P → s ds st P) : DCal P w K mg base k x s' := by
  obtain ⟨f, fd, ps, ds, F, gm, kp, b, d⟩ := c.ex
  refine ⟨f, fd, ps, ds, ?_, gm, kp, b, d⟩
  exact F.imp (fun vs H Q E h1 => by
    obtain ⟨ρ, st, ds, P, R, rv, p, k⟩ := h1
    exact ⟨ρ, st, ds, P, R, rv, h _ _ _ p, k⟩)
end

/-- a module's constant, by value -/
def GV (K : PySem.W.Frag) (mg : Str → Option Value) (x : Str) (d : Val) : Prop := ∃ v u, mg x = some u ∧ RelV v u ∧ ∀ ρ H, RV K ρ H d v
theorem d_gv {X : Cx} {x : Str} {d : Val} {pos : Pos} (hg : Gl X x) (h : GV X.K X.mg x d) (hd : (x == ("__debug__" : Str)) = false := by decide) : DE X (.Name x pos) (wC d) := by
  obtain ⟨v, u, hm, r, hr⟩ := h
  exact d_glob hg hm r hr hd
/-! ### calls of a local name; objects; ranges as lists, tuples -/
/-- a call of the def that the value is; tbl: which defs -/
def wCallA (tbl : Addr → DSp → Prop) (we : WE) (w : WA) : WE := fun env st Q => we env st fun d st1 => match d with
  | .adr f => ∃ s, tbl f s ∧ w env st1 fun ds st2 => s ds st2 Q
  | _ => False
/-- C(..): sI the promise of C.__init__ -/
def wMk (C : Addr) (sI : DSp) (w : WA) : WE := fun env st Q => w env st fun ds st1 => sI (.loc st1.length :: ds) (st1 ++ [.obj C []]) fun d st2 => d = .non ∧ Q (.loc st1.length) st2
def rgW : List Val → Store → (LVal → Store → Prop) → Prop
  | [.int j], st, Q => j ≤ sizeLine ∧ -(2 ^ 62) ≤ j ∧ Q (.new (upTo 0 j.toNat)) st
  | [.int i, .int j], st, Q => (-(2 ^ 62) ≤ i ∧ i < 2 ^ 62 ∧ -(2 ^ 62) ≤ j ∧ j < 2 ^ 62 ∧ j - i ≤ sizeLine) ∧ Q (.new (upTo i (j - i).toNat)) st
  | _, _, _ => False
def rgT : List Val → Store → DK → Prop
  | [.int j], st, Q => j ≤ sizeLine ∧ -(2 ^ 62) ≤ j ∧ Q (.tup (upTo 0 j.toNat)) st
  | [.int i, .int j], st, Q => (-(2 ^ 62) ≤ i ∧ i < 2 ^ 62 ∧ -(2 ^ 62) ≤ j ∧ j < 2 ^ 62 ∧ j - i ≤ sizeLine) ∧ Q (.tup (upTo i (j - i).toNat)) st
  | _, _, _ => False
theorem RVs.upTo {K : PySem.W.Frag} {ρ : List Addr} {H : Hp} (a b : Int) : RVs K ρ H (DL.upTo a (b - a).toNat) (rgV a b) := by
  have e1 : DL.upTo a (b - a).toNat = ((List.range (b - a).toNat).map fun (i : Nat) => a + (i : Int)).map Val.int := by simp [DL.upTo, List.map_map, Function.comp_def]
  have e2 : rgV a b = ((List.range (b - a).toNat).map fun (i : Nat) => a + (i : Int)).map V.int := by simp [rgV, List.map_map, Function.comp_def]
  rw [e1]
  exact RVs.ints.mpr e2
section
variable {X : Cx} {j : Nat} {x : Str} {p p2 pos : Pos} {e e2 : Expr} {es : List Expr} {wa : WA} {we : WE} {i : Nat}
theorem d_callA {tbl : Addr → DSp → Prop} (c : ∀ f s, tbl f s → ∃ k, k ≤ j ∧ C8.CalAt X.prog X.w X.K X.mg X.base k f (spD X.K s)) (hr : Room j X.A) (hN : X.N[i]? = some x) (hv : Vis X.env.scope x) (ha : DA X (e :: es) wa)
    (hd : (x == ("__debug__" : Str)) = false := by decide) (hcd : (x == ("__classdict__" : Str)) = false := by decide)
    (he : starEach (e :: es) X.env = (false, eval e X.env) :: starEach es X.env := by rfl) (hpl : (backTo pos (starEach es X.env)).any (·.1) = false := by rfl) :
    DE X (.Call (.Name x p) (e :: es) [] pos) (wCallA tbl (wVar i) wa) := by
  refine ⟨fun pins s σ H Q I h => ?_⟩
  obtain ⟨ρ, env, st, P, R, N, w, k⟩ := h
  unfold wCallA wVar at w
  split at w
  · rename_i d ed
    obtain ⟨v, ev, rv⟩ := N.at_ i d ed
    split at w
    · rename_i f
      have z : v = .ref f := rv
      subst z
      obtain ⟨sp, esp, w⟩ := w
      obtain ⟨k0, hk0, c0⟩ := c f sp esp
      have pe := C8.pe_cv (e := e) (es := es) (x := x) (i := i) (p := p) (pos := pos) (t := liftA X.K wa) c0 c0 hr hk0 hk0 hN hv ha hd hcd he hpl
      refine pe.run pins s σ H Q I (.inl ⟨ev, ρ, env, st, _, R, N, w, fun ds st1 p1 ρ1 H1 xs s1 R1 r1 => ?_⟩)
      exact ⟨ρ1, st1, ds, P, R1, r1, p1, k.go s1⟩
    · exact w.elim
  · exact w.elim
theorem d_mk {C : Addr} {k : Nat} {sI : DSp} (c : C8.Mak X.prog X.w X.K X.mg X.base k x C (spD X.K sI) []) (hr : Room j X.A) (hk : k + 1 ≤ j) (hg : Gl X x) (ha : DA X (e :: es) wa)
    (hdb : (x == ("__debug__" : Str)) = false := by decide) (he : starEach (e :: es) X.env = (false, eval e X.env) :: starEach es X.env := by rfl) (hpl : (backTo pos (starEach es X.env)).any (·.1) = false := by rfl) :
    DE X (.Call (.Name x p) (e :: es) [] pos) (wMk C sI wa) :=
  peImp (C8.pe_mk c hr hk hg ha hdb he hpl) fun σ H Q h => by
    obtain ⟨ρ, env, st, P, R, N, w, kk⟩ := h
    refine ⟨ρ, env, st, _, R, N, w, fun ds st1 p1 ρ1 H1 xs s1 R1 r1 a dx ha hdx hne => ?_⟩
    rw [List.append_nil]
    have sA : Step X.K ρ1 ρ1 H1 (upd H1 dx (.own a)) := Step.new hdx
    have RA : Rst X.K ρ1 (upd H1 dx (.own a)) st1 := R1.new hdx
    have ha2 : upd H1 dx (.own a) a = none := by rw [upd_ne (Ne.symm hne)]; exact ha
    have sB : Step X.K ρ1 (ρ1 ++ [a]) (upd H1 dx (.own a)) (upd (upd H1 dx (.own a)) a (.ins C dx [])) := Step.alloc ha2
    have RB : Rst X.K (ρ1 ++ [a]) (upd (upd H1 dx (.own a)) a (.ins C dx [])) (st1 ++ [.obj C []]) := RA.alloc ha2 ⟨dx, [], upd_same, rfl, rfl⟩
    have sAB := sA.trans sB
    have la : (ρ1 ++ [a])[st1.length]? = some a := by
      rw [← R1.len, List.getElem?_append_right (Nat.le_refl _), Nat.sub_self]
      rfl
    refine ⟨ρ1 ++ [a], st1 ++ [.obj C []], .loc st1.length :: ds, _, RB, ⟨_, xs, rfl, ⟨a, la, rfl⟩, r1.mono sAB⟩, p1, fun d st2 p2 ρ2 H2 y s2 R2 r2 => ?_⟩
    obtain ⟨rfl, p2⟩ := p2
    exact ⟨r2, kk _ _ p2 ρ2 H2 _ ((s1.trans sAB).trans s2) R2 ⟨a, s2.pre _ _ la, rfl⟩⟩
def liftRg (K : PySem.W.Frag) (w : WA) : L2.St → Hp → (Int → Int → Hp → Prop) → Prop := fun σ H Q => ∃ ρ env st P, Rst K ρ H st ∧ Ren K ρ σ H env ∧ w env st P ∧ ∀ ds st', P ds st' → ∀ ρ' H', Step K ρ ρ' H H' → Rst K ρ' H' st' → ∃ i j, (ds = [.int i, .int j] ∨ (i = 0 ∧ ds = [.int j])) ∧ Q i j H'
theorem prg1 (hg : Gl X "range") (hm : X.mg "range" = none) (ha : DE X e we) (na : starEach [e] X.env = (false, eval e X.env) :: starEach [] X.env := by rfl) : PRg X (.Call (.Name "range" p) [e] [] pos) (liftRg X.K (wCons we wNil)) :=
  fun pins s σ H Q I h => prg_1 hg hm ha na pins s σ H Q I (by
    obtain ⟨ρ, env, st, P, R, N, w, k⟩ := h
    refine ⟨ρ, env, st, _, R, N, w, fun d st1 p1 ρ1 H1 x s1 R1 r1 => ?_⟩
    obtain ⟨i, j, e1, q⟩ := k _ _ p1 ρ1 H1 s1 R1
    rcases e1 with e1 | ⟨rfl, e1⟩
    · cases e1
    · cases e1
      exact ⟨j, r1, q⟩)
theorem prg2 (hg : Gl X "range") (hm : X.mg "range" = none) {wb : WE} (ha : DE X e we) (hb : DE X e2 wb) (na : starEach [e, e2] X.env = (false, eval e X.env) :: starEach [e2] X.env := by rfl)
    (nb : starEach [e2] X.env = (false, eval e2 X.env) :: starEach [] X.env := by rfl) (hp : (backTo pos (starEach [e2] X.env)).any (·.1) = false := by rfl) : PRg X (.Call (.Name "range" p) [e, e2] [] pos) (liftRg X.K (wCons we (wCons wb wNil))) :=
  fun pins s σ H Q I h => prg_2 hg hm ha hb na nb hp pins s σ H Q I (by
    obtain ⟨ρ, env, st, P, R, N, w, k⟩ := h
    refine ⟨ρ, env, st, _, R, N, w, fun d st1 p1 ρ1 H1 x s1 R1 r1 => ?_⟩
    refine ⟨ρ1, env, st1, _, R1, N.mono s1, p1, fun d2 st2 p2 ρ2 H2 x2 s2 R2 r2 => ?_⟩
    obtain ⟨i, j, e1, q⟩ := k _ _ p2 ρ2 H2 (s1.trans s2) R2
    rcases e1 with e1 | ⟨rfl, e1⟩
    · cases e1
      exact ⟨i, j, r1, r2, q⟩
    · cases e1)
theorem rgOk {i j : Int} (h : -(2 ^ 62) ≤ i ∧ i < 2 ^ 62 ∧ -(2 ^ 62) ≤ j ∧ j < 2 ^ 62 ∧ j - i ≤ sizeLine) : RgOk i j := by
  have hz : sizeLine = 2 ^ 24 := rfl
  unfold RgOk
  omega
theorem dl_listRg {r : Expr} {w : WA} (hc : X.calm = true) (hg : Gl X "list") (hm : X.mg "list" = none) (he : PRg X r (liftRg X.K w)) (na : starEach [r] X.env = (false, eval r X.env) :: starEach [] X.env := by rfl) : DLs X (.Call (.Name "list" p) [r] [] pos) (wCBL rgW w) :=
  peImp (pe_listRg hc hg hm he na) fun σ H Q h => by
    obtain ⟨ρ, env, st, P, R, N, w, k⟩ := h
    refine ⟨ρ, env, st, _, R, N, w, fun ds st1 p1 ρ1 H1 s1 R1 => ?_⟩
    have hz : sizeLine = 2 ^ 24 := rfl
    have p1 : rgW ds st1 P := p1
    match ds, p1 with
    | [.int j], p1 =>
      obtain ⟨a1, a2, p1⟩ := p1
      refine ⟨0, j, .inr ⟨rfl, rfl⟩, rgOk ⟨by omega, by omega, a2, by omega, by omega⟩, ?_⟩
      have q := new_lst (K := X.K) R1 (RVs.upTo (0 : Int) j) (by rw [rgV_length]; omega) (P := P) (by rw [Int.sub_zero]; exact p1) (k.go s1)
      exact q
    | [.int i, .int j], p1 =>
      obtain ⟨a1, p1⟩ := p1
      exact ⟨i, j, .inl rfl, rgOk a1, new_lst R1 (RVs.upTo i j) (by rw [rgV_length]; omega) p1 (k.go s1)⟩
theorem d_tupRg {r : Expr} {w : WA} (hc : X.calm = true) (hg : Gl X "tuple") (hm : X.mg "tuple" = none) (he : PRg X r (liftRg X.K w)) (na : starEach [r] X.env = (false, eval r X.env) :: starEach [] X.env := by rfl) : DE X (.Call (.Name "tuple" p) [r] [] pos) (wCB rgT w) :=
  peImp (pe_tupRg hc hg hm he na) fun σ H Q h => by
    obtain ⟨ρ, env, st, P, R, N, w, k⟩ := h
    refine ⟨ρ, env, st, _, R, N, w, fun ds st1 p1 ρ1 H1 s1 R1 => ?_⟩
    have hz : sizeLine = 2 ^ 24 := rfl
    have p1 : rgT ds st1 P := p1
    match ds, p1 with
    | [.int j], p1 =>
      obtain ⟨a1, a2, p1⟩ := p1
      refine ⟨0, j, .inr ⟨rfl, rfl⟩, rgOk ⟨by omega, by omega, a2, by omega, by omega⟩, ?_⟩
      exact tup_new (K := X.K) R1 (RVs.upTo (0 : Int) j) (by rw [rgV_length]; omega) (P := P) (by rw [Int.sub_zero]; exact p1) (k.go s1)
    | [.int i, .int j], p1 =>
      obtain ⟨a1, p1⟩ := p1
      exact ⟨i, j, .inl rfl, rgOk a1, tup_new R1 (RVs.upTo i j) (by rw [rgV_length]; omega) p1 (k.go s1)⟩
end
end DL

set_option Elab.async false
set_option linter.all false
set_option maxRecDepth 100000
set_option maxHeartbeats 4000000
namespace DL
open PySem L2 PySem.Spec PyProof.Rows

/-! ### x in [..] -/
def wInL (neg : Bool) (wa : WE) (wl : WL) : WE := fun env st Q => wa env st fun x st1 => wl env st1 fun l st2 => match lvItems st2 l with
  | some ds => flat x = true ∧ flatAll ds = true ∧ Q (.bl (if neg then !memd x ds else memd x ds)) st2
  | none => False
def liftInL (K : PySem.W.Frag) (neg : Bool) : R2 := fun x y H Q => ∃ ρ st d l D ds P, y = .ref D ∧ Rst K ρ H st ∧ RV K ρ H d x ∧ RL K ρ H l D ∧ lvItems st l = some ds ∧ flat d = true ∧ flatAll ds = true ∧ P (.bl (if neg then !memd d ds else memd d ds)) st ∧ AfV K ρ H P Q
section
variable {X : Cx} {a b e : Expr} {wa we : WE} {wl : WL} {pos : Pos}
theorem do_inL : OpR X (compareOp .In) (liftInL X.K false) := by
  intro pins s σ H x y v u Q I rx ry q
  obtain ⟨ρ, st, d, l, D, ds, P, rfl, R, r1, rl, q1, p1, p2, p3, k⟩ := q
  obtain ⟨ys, h1, h2, _⟩ := rl.read R q1
  refine op_in_seq pins s σ H _ _ v u Q I rx ry ⟨D, ys, rfl, .inl h1, flat_v p1 r1, flat_vs p2 h2, ?_⟩
  rw [memd_in p1 r1 p2 h2]
  exact k.here p3 R rfl
theorem do_notInL : OpR X (compareOp .NotIn) (liftInL X.K true) := by
  intro pins s σ H x y v u Q I rx ry q
  obtain ⟨ρ, st, d, l, D, ds, P, rfl, R, r1, rl, q1, p1, p2, p3, k⟩ := q
  obtain ⟨ys, h1, h2, _⟩ := rl.read R q1
  refine op_notIn_seq pins s σ H _ _ v u Q I rx ry ⟨D, ys, rfl, .inl h1, flat_v p1 r1, flat_vs p2 h2, ?_⟩
  rw [memd_in p1 r1 p2 h2]
  exact k.here p3 R rfl
theorem inL_lift {neg : Bool} {σ : L2.St} {H : Hp} {Q : VK} (h : liftE X.K (wInL neg wa wl) σ H Q) : tOp (liftInL X.K neg) (liftE X.K wa) (liftL X.K wl) σ H Q := by
  obtain ⟨ρ, env, st, P, R, N, w, k⟩ := h
  refine ⟨ρ, env, st, _, R, N, w, fun d1 st1 p1 ρ1 H1 x1 s1 R1 r1 => ?_⟩
  refine ⟨ρ1, env, st1, _, R1, N.mono s1, p1, fun l2 st2 p2 ρ2 H2 D s2 R2 r2 n2 => ?_⟩
  cases q : lvItems st2 l2 with
  | none => simp only [q] at p2
  | some ds =>
    simp only [q] at p2
    exact ⟨ρ2, st2, d1, l2, D, ds, P, rfl, R2, r1.mono s2, r2, q, p2.1, p2.2.1, p2.2.2, k.go (s1.trans s2)⟩
theorem d_inL (ha : DE X a wa) (hb : DLs X b wl) (hm : behindInMarks .In b = false) : DE X (.Compare a [.In] [b] pos) (wInL false wa wl) := peImp (pe_cmpR do_inL ha hb hm) fun _ _ _ h => inL_lift h
theorem dt_inL (ha : DE X a wa) (hb : DLs X b wl) (hm : behindInMarks .In b = false) : DT X (.Compare a [.In] [b] pos) (wTest (wInL false wa wl)) :=
  ptImp (pt_cmpR do_inL ha hb hm) fun σ H Q h => by
    obtain ⟨ρ, env, st, P, R, N, w, k⟩ := test_lift h
    exact inL_lift ⟨ρ, env, st, P, R, N, w, k⟩
theorem d_notInL (ha : DE X a wa) (hb : DLs X b wl) (hm : behindInMarks .NotIn b = false) : DE X (.Compare a [.NotIn] [b] pos) (wInL true wa wl) := peImp (pe_cmpR do_notInL ha hb hm) fun _ _ _ h => inL_lift h
theorem dt_notInL (ha : DE X a wa) (hb : DLs X b wl) (hm : behindInMarks .NotIn b = false) : DT X (.Compare a [.NotIn] [b] pos) (wTest (wInL true wa wl)) :=
  ptImp (pt_cmpR do_notInL ha hb hm) fun σ H Q h => by
    obtain ⟨ρ, env, st, P, R, N, w, k⟩ := test_lift h
    exact inL_lift ⟨ρ, env, st, P, R, N, w, k⟩
end

/-! ### t > u, tuples of ints -/
def gtI (ns ms : List Int) : Bool := Ob.lexAt (fun j => decide (ns.getD j 0 = ms.getD j 0)) (fun j => decide (ms.getD j 0 < ns.getD j 0)) (decide (ns.length > ms.length)) 0 (min ns.length ms.length)
def gtT : Val → Val → Store → DK → Prop
  | .tup xs, .tup ys, st, Q => match intsOf xs, intsOf ys with
    | some ns, some ms => Q (.bl (gtI ns ms)) st
    | _, _ => False
  | _, _, _, _ => False
theorem do_gtT {X : Cx} (hu : X.A.units < cLine) : OpR X (compareOp .Gt) (liftO X.K gtT) := by
  refine op_lift fun pins s σ H x y v u Q I rx ry ρ st d e P R r1 r2 p k => ?_
  cases d <;> first | exact p.elim | skip
  cases e <;> first | exact p.elim | skip
  rename_i xs ys
  unfold gtT at p
  simp only at p
  split at p
  · rename_i ns ms q1 q2
    obtain ⟨a, us, rfl, ha, _, hx⟩ := r1
    obtain ⟨b, vs, rfl, hb, _, hy⟩ := r2
    have e1 := intsOf_map q1
    have e2 := intsOf_map q2
    subst e1 e2
    have z1 := RVs.ints.mp hx
    have z2 := RVs.ints.mp hy
    subst z1 z2
    cases rx
    cases ry
    obtain ⟨its, r1, p1, _⟩ := I.tuple ha
    obtain ⟨its2, r2, p2, _⟩ := I.tuple hb
    have i1 : IntsAre its ns := Vals.ints r1
    have i2 : IntsAre its2 ms := Vals.ints r2
    have l1 : its.toArray.size = ns.length := by rw [List.size_toArray]; exact i1.length
    have l2 : its2.toArray.size = ms.length := by rw [List.size_toArray]; exact i2.length
    have at1 : ∀ j (h1 : j < its.toArray.size), ∃ t, its.toArray[j] = .int (ns.getD j 0) t := fun j h1 => PyProof.Rows.IntsAre.int_at i1 _ _ (by simp at h1; simp [h1])
    have at2 : ∀ j (h1 : j < its2.toArray.size), ∃ t, its2.toArray[j] = .int (ms.getD j 0) t := fun j h1 => PyProof.Rows.IntsAre.int_at i2 _ _ (by simp at h1; simp [h1])
    have T := Ob.RcOp.tuples_gt (A := X.A) (s := s) (e := fun j => decide (ns.getD j 0 = ms.getD j 0)) (r := fun j => decide (ms.getD j 0 < ns.getD j 0)) p1 p2 hu (fun j h1 h2 => by
      obtain ⟨t, et⟩ := at1 j h1
      obtain ⟨t', et'⟩ := at2 j h2
      rw [et, et']
      have z : (ns.getD j 0 == ms.getD j 0) = decide (ns.getD j 0 = ms.getD j 0) := by
        by_cases q : ns.getD j 0 = ms.getD j 0
        · rw [decide_eq_true q]; exact beq_iff_eq.mpr q
        · rw [decide_eq_false q]; exact beq_eq_false_iff_ne.mpr q
      rw [← z]
      exact SeqAt.EqAt.int_int _ _ _ _) (fun j h1 h2 _ => by
      obtain ⟨t, et⟩ := at1 j h1
      obtain ⟨t', et'⟩ := at2 j h2
      rw [et, et']
      exact Ob.RcOp.gt_int _ _ _ _)
    rw [l1, l2] at T
    exact T X.prog X.w X.xe (EP X pins σ Q) ⟨.bl _, H, I, rfl, k.here p R rfl⟩
  · exact p.elim

/-! ### sorted: pairs of ints, ints -/
def pairD (p : Int × Int) : Val := .tup [.int p.1, .int p.2]
def leP (p q : Int × Int) : Prop := p.1 < q.1 ∨ (p.1 = q.1 ∧ p.2 ≤ q.2)
def rSPT (K : PySem.W.Frag) : List V → Hp → VK → Prop := fun vs H Q => ∃ (a : Addr) (xs : List V) (k : V → Int × Int), vs = [V.ref a] ∧ SqL K H a xs ∧ (∀ x ∈ xs, ∃ t, x = V.ref t ∧ SqT K H t [.int (k x).1, .int (k x).2]) ∧
  ∀ ys p, SrtO.Srtd (ltP k) ys → SrtO.Stb (ltP k) ys xs → H p = none → Q (.ref p) (upd H p (.lst ys))
theorem cr_spt {X : Cx} : CallR X (.builtin "sorted") (rSPT X.K) := by
  intro pins s σ H vs us Q I r h
  obtain ⟨a, xs, k, rfl, hs, hx, q⟩ := h
  obtain ⟨its, rv, hl, hz⟩ := I.list hs
  obtain ⟨u, rfl, ru⟩ := vals1 r
  obtain rfl : u = Value.ref a := ru
  obtain ⟨e1, e2⟩ := refs_back rv fun x m => by
    obtain ⟨t, e, _⟩ := hx x m
    exact ⟨t, e⟩
  refine SrtO.sorted_pairsO (k := fun u => k (backV u)) hl.isList (by rw [← rv.length]; exact hz) (fun v hv => ?_) fun h' d out h1 h2 kp hd hn => ?_
  · obtain ⟨t, rfl⟩ := e2 v hv
    have hm : V.ref t ∈ xs := by rw [e1]; exact List.mem_map.mpr ⟨_, hv, rfl⟩
    obtain ⟨t', e, ht⟩ := hx _ hm
    cases e
    obtain ⟨its2, r2, ⟨o, ho, hc, n, hd⟩, _⟩ := I.tuple ht
    obtain ⟨u1, u2, rfl, ri, rj⟩ := vals2 r2
    obtain ⟨t1, rfl⟩ := ri
    obtain ⟨t2, rfl⟩ := rj
    exact ⟨t, o, t1, t2, n, rfl, ho, hc, hd⟩
  · have h3 : ∀ u ∈ out, ∃ a, u = Value.ref a := fun u hu => e2 u (h2.perm.mem_iff.mp hu)
    obtain ⟨n, hn⟩ := hn
    have hb : SrtO.Stb (ltP k) (out.map backV) xs := by
      rw [e1]
      exact SrtO.Stb.map (ltP_swo k) backV h2
    refine ⟨.ref d, upd H d (.lst (out.map backV)), I.laid (t' := s.toks) kp hd ⟨?_, out, n, vals_back h3, hn⟩, rfl, q _ d (SrtO.srtd_map h1) hb (I.hok.fresh hd)⟩
    rw [hb.len]
    exact hz
def srtW (ds : List Val) (st : Store) (Q : LVal → Store → Prop) : Prop :=
  (∃ ns, ds = ns.map Val.int ∧ ∀ ns' : List Int, ns'.Perm ns → ns'.Pairwise (· ≤ ·) → Q (.new (ns'.map Val.int)) st) ∨
  (∃ ps : List (Int × Int), ds = ps.map pairD ∧ ∀ ps' : List (Int × Int), ps'.Perm ps → ps'.Pairwise leP → Q (.new (ps'.map pairD)) st)
def wCLL (o : List Val → Store → (LVal → Store → Prop) → Prop) (w : WL) : WL := fun env st Q => w env st fun l st1 => match lvItems st1 l with
  | some ds => o ds st1 Q
  | none => False
def liftCLL (K : PySem.W.Frag) (o : List Val → Store → (LVal → Store → Prop) → Prop) : List V → Hp → VK → Prop := fun xs H Q => ∃ D ρ st l ds P, xs = [.ref D] ∧ Rst K ρ H st ∧ RL K ρ H l D ∧ lvItems st l = some ds ∧ o ds st P ∧ AfL K ρ H P Q
theorem cll_lift {K : PySem.W.Frag} {w : WL} {o : List Val → Store → (LVal → Store → Prop) → Prop} {σ : L2.St} {H : Hp} {Q : VK} (h : liftL K (wCLL o w) σ H Q) : tCB (liftCLL K o) (tCons (liftL K w) tNil) σ H Q := by
  obtain ⟨ρ, env, st, P, R, N, w, k⟩ := h
  refine ⟨ρ, env, st, _, R, N, w, fun l1 st1 p1 ρ1 H1 D1 s1 R1 r1 n1 => ?_⟩
  cases q1 : lvItems st1 l1 with
  | none => simp only [q1] at p1
  | some ds =>
    simp only [q1] at p1
    exact ⟨D1, ρ1, st1, l1, ds, P, rfl, R1, r1, q1, p1, k.go s1⟩
theorem rvs_pairs {K : PySem.W.Frag} {ρ : List Addr} {H : Hp} {k : V → Int × Int} : ∀ {ys : List V}, (∀ y ∈ ys, ∃ t, y = V.ref t ∧ SqT K H t [.int (k y).1, .int (k y).2]) → RVs K ρ H ((ys.map k).map pairD) ys
  | [], _ => rfl
  | y :: ys, h => by
    obtain ⟨t, e, hq⟩ := h y List.mem_cons_self
    refine ⟨y, ys, rfl, ⟨t, _, e, hq, by show 2 ≤ sizeLine; decide, _, _, rfl, rfl, _, _, rfl, rfl, rfl⟩, rvs_pairs fun z hz => h z (List.mem_cons_of_mem _ hz)⟩
theorem pairs_rvs {K : PySem.W.Frag} {ρ : List Addr} {H : Hp} : ∀ {ps : List (Int × Int)} {ys : List V}, RVs K ρ H (ps.map pairD) ys → ∀ y ∈ ys, ∃ p : Int × Int, ∃ t, y = V.ref t ∧ SqT K H t [.int p.1, .int p.2]
  | [], ys, h, y, m => by
    have e : ys = [] := h
    subst e
    cases m
  | p :: ps, ys, h, y, m => by
    obtain ⟨z, zs, rfl, h1, h2⟩ := h
    rcases List.mem_cons.mp m with rfl | m
    · obtain ⟨t, xs, rfl, q1, q2, q3⟩ := h1
      obtain ⟨u, v, rfl, e1, e2⟩ := two_of q3
      have e1 : u = .int p.1 := e1
      have e2 : v = .int p.2 := e2
      subst e1 e2
      exact ⟨p, t, rfl, q1⟩
    · exact pairs_rvs h2 y m
theorem map_pairs {K : PySem.W.Frag} {ρ : List Addr} {H : Hp} {k : V → Int × Int} (inj : ∀ t (xs ys : List V), SqT K H t xs → SqT K H t ys → xs = ys) : ∀ {ps : List (Int × Int)} {ys : List V}, RVs K ρ H (ps.map pairD) ys → (∀ y ∈ ys, ∃ t, y = V.ref t ∧ SqT K H t [.int (k y).1, .int (k y).2]) → ys.map k = ps
  | [], ys, h, _ => by
    have e : ys = [] := h
    subst e
    rfl
  | p :: ps, ys, h, g => by
    obtain ⟨z, zs, rfl, h1, h2⟩ := h
    obtain ⟨t, xs, rfl, q1, q2, q3⟩ := h1
    obtain ⟨u, v, rfl, e1, e2⟩ := two_of q3
    have e1 : u = .int p.1 := e1
    have e2 : v = .int p.2 := e2
    subst e1 e2
    obtain ⟨t', e, hq⟩ := g _ List.mem_cons_self
    cases e
    have z := inj t _ _ hq q1
    simp only [List.cons.injEq, V.int.injEq, and_true] at z
    rw [List.map_cons, map_pairs inj h2 fun y hy => g y (List.mem_cons_of_mem _ hy)]
    congr 1
    exact Prod.ext z.1 z.2
theorem dc_sorted {X : Cx} : CallR X (.builtin "sorted") (liftCLL X.K srtW) := by
  intro pins s σ H xs us Q I r q
  obtain ⟨D, ρ, st, l, ds, P, rfl, R, rl, q1, p, k⟩ := q
  obtain ⟨ys, h1, h2, h3⟩ := rl.read R q1
  rcases p with ⟨ns, rfl, p⟩ | ⟨ps, rfl, p⟩
  · have z := RVs.ints.mp h2
    subst z
    refine cr_sortedI pins s σ H _ us Q I r ⟨D, ns, rfl, h1, fun ns' q hp hs hq => ?_⟩
    exact new_lst R (RVs.ints.mpr rfl) (by rw [List.length_map, hp.length_eq]; simpa using h3) (p ns' hp hs) k q hq
  · have ex := pairs_rvs h2
    classical
    let k0 : V → Int × Int := fun x => if h : ∃ p : Int × Int, ∃ t, x = V.ref t ∧ SqT X.K H t [.int p.1, .int p.2] then h.choose else (0, 0)
    have hk : ∀ y ∈ ys, ∃ t, y = V.ref t ∧ SqT X.K H t [.int (k0 y).1, .int (k0 y).2] := fun y hy => by
      have h := ex y hy
      have e : k0 y = h.choose := dif_pos h
      rw [e]
      exact h.choose_spec
    refine cr_spt pins s σ H _ us Q I r ⟨D, ys, k0, rfl, h1, hk, fun zs q hs hb hq => ?_⟩
    have hz : ∀ y ∈ zs, ∃ t, y = V.ref t ∧ SqT X.K H t [.int (k0 y).1, .int (k0 y).2] := fun y hy => hk y (hb.perm.mem_iff.mp hy)
    have hps : ys.map k0 = ps := map_pairs (fun t a b h g => I.tuple_inj h g) h2 hk
    refine new_lst R (rvs_pairs hz) (by rw [hb.len]; exact h3) (p (zs.map k0) ?_ ?_) k q hq
    · rw [← hps]
      exact hb.perm.map k0
    · refine List.pairwise_map.mpr (hs.imp fun {x y} h => ?_)
      have h : SrtO.lexB (k0 y) (k0 x) = false := h
      have h2 := SrtO.lexB_no.mp h
      unfold leP
      omega
theorem dl_callBL {X : Cx} {x : Str} {id : String} {e : Expr} {w : WL} {o : List Val → Store → (LVal → Store → Prop) → Prop} {p pos : Pos} (hc : CallR X (.builtin id) (liftCLL X.K o)) (hg : Gl X x) (hm : X.mg x = none) (hv : bootBuiltins x = some (.builtin id)) (ha : DLs X e w) (hn : x ≠ "__name__" := by decide) (hdb : (x == ("__debug__" : Str)) = false := by decide)
    (he : starEach [e] X.env = (false, eval e X.env) :: starEach [] X.env := by rfl) (hpl : (backTo pos (starEach [] X.env)).any (·.1) = false := by rfl) : DLs X (.Call (.Name x p) [e] [] pos) (wCLL o w) :=
  peImp (pe_callB hc hg hm hv (pa_cons ha pa_nil he) hn hdb he hpl) fun _ _ _ h => cll_lift h
end DL

set_option Elab.async false
set_option linter.all false
set_option maxRecDepth 100000
set_option maxHeartbeats 4000000
namespace DL
open PySem L2 PySem.Spec PyProof.Rows

/-! ### sorted(set(xs)), xs a list of ints -/
abbrev nSet (w : World) : Obj := { cls := .type "set", dict := none, data := .set #[] 0 (.fresh 0 0 (!w.params.followText "set-order")) }
section
variable {P : Program} {w : World} {A : Around} {E : Value → Shared → Prop} {s : Shared}
set_option maxHeartbeats 3200000 in
theorem set_of_list {l : Addr} {items : Array Value} (ns : List Int) {Q : Value → Shared → Prop} (hh : A.handled = none) (hl : s.heap.IsList l items) (hit : IntsAre items.toList ns) (hb : ns.length + 1 < scanBound)
    (h : ∀ (h' : Heap) (tk c : Nat), SetR w h' s.heap.objs.size (fun j => decide (j ∈ ns)) c → c ≤ ns.length → (∀ b o, s.heap.get? b = some o → h'.get? b = some o) → Q (.ref s.heap.objs.size) { s with heap := h', toks := tk }) :
    wpAny (model P w) A (call (.type "set") [.ref l]) Q E s := by
  have hisz : items.size = ns.length := by
    have q := IntsAre.length hit
    rw [Array.length_toList] at q
    exact q
  obtain ⟨c, tl, hmro⟩ := F.called_set.mro
  have hmade := F.called_set.made
  have hsub := F.called_set.sub
  refine wpAny_call (codeAny_of_tree ?_)
  show wpAny _ _ (callAny (.type "set") _) _ _ _
  refine wpAny_pure ⟨Code.quiet_builtin _ (by decide +kernel), codeAny_builtin F.entry_type_call ?_⟩
  rw [Around.under_plain (weight_type_call_type "set" [.ref l] []) rfl]
  have h1 := F.called_set.notType
  have h2 := F.called_set.canCreate
  have hct := F.typeCall_set_1 (.ref l)
  repeat (any_goals (first | assumption | wp_step))
  refine codeAny_mono (code_set_led1 (.ref l) (E := E) (Q₁ := fun obj s₁ => obj = .ref s.heap.objs.size ∧ s₁ = { s with heap := s.heap.push { cls := .type "set", dict := none, data := .set #[] 0 (.fresh 0 0 (!w.params.followText "set-order")) } }) ⟨rfl, rfl⟩) fun r s₁ hr => ?_
  cases r with
  | error e => exact hr
  | ok fl =>
    cases fl with
    | ret obj =>
      obtain ⟨rfl, rfl⟩ := hr
      have hS : (s.heap.push (nSet w)).get? s.heap.objs.size = some (nSet w) := Heap.get?_push_size _ rfl
      have hT : Shared.TypeIs { s with heap := s.heap.push (nSet w) } (.ref s.heap.objs.size) "set" := ⟨_, hS, rfl⟩
      have hli := F.called_set.init.lookup
      have hbi := F.called_set.init.bind (.ref s.heap.objs.size)
      repeat (any_goals (first | assumption | wp_step))
      refine codeAny_mono (codeAny_call_builtin (R := wants (fun r s₂ => r = .none ∧ ∃ h' tk c, s₂ = { s with heap := h', toks := tk } ∧ SetR w h' s.heap.objs.size (fun j => decide (j ∈ ns)) c ∧ c ≤ ns.length ∧
          (∀ b o, s.heap.get? b = some o → h'.get? b = some o)) E) F.called_set.init.plain F.entry_set_init (check_set_init_1 hT ?_)) fun r₂ s₂ hr₂ => ?_
      · obtain ⟨⟨ocls, odict, odata, oslots⟩, hol, hcl, nl, hdl⟩ := id hl
        simp only at hcl hdl
        subst hcl hdl
        have hol' : (s.heap.push (nSet w)).get? l = some { cls := .type "list", dict := odict, data := .seq items nl, slots := oslots } := Heap.get?_push_of_some _ hol
        have hsls := F.sub_list_set
        have hslf := F.sub_list_frozenset
        have hne : (Value.type "list" == Value.type "dict") = false := by decide
        have hl1 : (s.heap.push (nSet w)).IsList l items := ⟨_, hol', rfl, nl, rfl⟩
        unfold Builtin.«set.__init__» noKeywords Builtin.Frozenset.updateFrom
        generalize hPI : pyIter = PI
        wp_walk
        subst hPI
        refine wpAny_pyIter_list hl1 ?_
        refine wpAny_bind (wpAny_runValue ?_)
        have hlS : l < s.heap.objs.size := Heap.lt_size hol
        have hh3 : A.in1.in1.in1.handled = none := by simp [hh]
        have hz : (s.heap.push (nSet w)).objs.size = s.heap.objs.size + 1 := Heap.size_push ..
        have hneI : l ≠ (s.heap.push (nSet w)).objs.size := by
          rw [hz]; exact Nat.ne_of_lt (Nat.lt_succ_of_lt hlS)
        have hSf : s.heap.objs.size ∉ [(s.heap.push (nSet w)).objs.size, l] := by
          rw [hz]
          simp only [List.mem_cons, List.not_mem_nil, or_false, not_or]
          exact ⟨Nat.ne_of_lt (Nat.lt_succ_self _), Nat.ne_of_gt hlS⟩
        have hval : ∀ (i : Nat) (v : Value), items[i]? = some v → ∃ k t, ns[i]? = some k ∧ v = .int k t := fun i v hv => by
          have hi : i < ns.length := by rw [← hisz]; exact (Array.getElem?_eq_some_iff.mp hv).1
          obtain ⟨t, e⟩ := PyProof.Rows.IntsAre.int_at hit i v (by rw [Array.getElem?_toList]; exact hv)
          refine ⟨ns[i], t, List.getElem?_eq_getElem hi, ?_⟩
          rw [e, List.getD_eq_getElem?_getD, List.getElem?_eq_getElem hi] <;> rfl
        refine set_update_ints ((Walks.list hh3 _ l hneI items).toS) s.heap.objs.size hSf ns hisz hb hval (items.size - 0) 0 _ (by omega) (Nat.zero_le _)
          ⟨⟨_, Heap.get?_push_size _ rfl, rfl, rfl⟩, hl1.push _⟩ ?hS0 ?hR
        case hS0 =>
          refine ⟨0, Nat.le_refl 0, setR_new_at ?_⟩
          exact Heap.get?_push_of_some _ hS
        case hR =>
          rintro ⟨h', g2, d', tk', os'⟩ c' hm hc' hS'
          have eg : g2 = s.gens := hm.gens
          have ed : d' = s.drawn := hm.drawn
          have eo : os' = s.os := hm.os
          subst eg ed eo
          show wpAny _ _ _ _ _ _
          refine wpAny_pure ?_
          show wpAny _ _ (ret Value.none) _ _ _
          rw [hisz] at hc'
          refine wpAny_pure ⟨rfl, h', tk', c', rfl, hS', hc', fun b o e => ?_⟩
          have hb0 : b < s.heap.objs.size := Heap.lt_size e
          refine hm.heap b o ?_ (Heap.get?_push_of_some _ (Heap.get?_push_of_some _ e))
          simp only [List.mem_cons, List.not_mem_nil, or_false, not_or]
          exact ⟨Nat.ne_of_lt hb0, by rw [hz]; exact Nat.ne_of_lt (Nat.lt_succ_of_lt hb0)⟩
      · cases r₂ with
        | error e => exact hr₂
        | ok fl₂ =>
          cases fl₂ with
          | ret r =>
            obtain ⟨rfl, h', tk, c', rfl, hS', hc', hk'⟩ := hr₂
            repeat (any_goals (first | assumption | wp_step))
            exact h _ _ _ hS' hc' hk'
          | _ => exact hr₂.elim
    | _ => exact hr.elim
end
def wSortSet (w : WL) : WL := fun env st Q => w env st fun l st1 => match lvItems st1 l with
  | some ds => ∃ ns : List Int, ds = ns.map Val.int ∧ ns.length < 63 ∧ ∀ ns' : List Int, ns'.Pairwise (· < ·) → (∀ k : Int, k ∈ ns' ↔ k ∈ ns) → Q (.new (ns'.map Val.int)) st1
  | none => False
theorem dl_sortSet {X : Cx} {a : Expr} {w : WL} {p p2 q pos : Pos} (hg : Gl X "sorted") (hm : X.mg "sorted" = none) (hg2 : Gl X "set") (hm2 : X.mg "set" = none) (ha : DLs X a w) (hc : X.calm = true := by rfl)
    (na : starEach [a] X.env = (false, eval a X.env) :: starEach [] X.env := by rfl) : DLs X (.Call (.Name "sorted" p) [.Call (.Name "set" p2) [a] [] q] [] pos) (wSortSet w) := by
  refine ⟨fun pins s σ H Q I h => ?_⟩
  obtain ⟨ρ, env, st, P, R, N, w, k⟩ := h
  refine Call_ (ld_blt I hg hm boot_sorted ?_)
  refine PyProof.Rows.callWith_builtin1 (PyProof.Rows.args_cons ?_ rfl) rfl rfl
  refine Call_ (ld_blt I hg2 hm2 boot_set ?_)
  refine PyProof.Rows.callWith_type1 (PyProof.Rows.args_cons (thn (ha.run pins s σ H (fun x H1 => ∃ D, x = .ref D ∧ ∃ ns : List Int, SqL X.K H1 D (ns.map V.int) ∧ ns.length < 63 ∧
      ∀ ns' : List Int, ns'.length ≤ ns.length → ns'.Pairwise (· < ·) → (∀ k : Int, k ∈ ns' ↔ k ∈ ns) → ∀ q, H1 q = none → Q (.ref q) (upd H1 q (.lst (ns'.map V.int)))) I ⟨ρ, env, st, _, R, N, w, fun l1 st1 p1 ρ1 H1 D1 s1 R1 r1 n1 => ?_⟩) fun v s1 ⟨x, H1, I1, r1, q1⟩ => PyProof.Rows.args_nil ?_) na) na rfl
  · cases q1 : lvItems st1 l1 with
    | none => simp only [q1] at p1
    | some ds =>
      simp only [q1] at p1
      obtain ⟨ns, rfl, hl, p1⟩ := p1
      obtain ⟨ys, h1, h2, h3⟩ := r1.read R1 q1
      have z := RVs.ints.mp h2
      subst z
      refine ⟨D1, rfl, ns, h1, hl, fun ns' hs hp hm => new_lst R1 (RVs.ints.mpr rfl) ?_ (p1 ns' hp hm) (k.go s1)⟩
      rw [List.length_map]
      have : sizeLine = 2 ^ 24 := rfl
      omega
  · obtain ⟨D, rfl, ns, hq, hl, q⟩ := q1
    cases r1
    obtain ⟨its, rv, pl, hz⟩ := I1.list hq
    refine set_of_list (P := X.prog) (w := X.w) ns (I1.ok.hd hc) pl.isList (by simpa using intsAre_of rv) (by unfold scanBound; omega) fun h' tk c hS hcl hk => ?_
    have I2 : Inv X pins σ H1 { s1 with heap := h', toks := tk } := I1.kept hk
    refine PyProof.Rows.args_nil ?_
    refine sorted_set (s := { s1 with heap := h', toks := tk }) hS (I1.ok.hd hc) (by omega) fun s' p out c2 ms kk g o hp hg2 hi hs hm hl2 => ?_
    have hn : H1 p = none := I2.hok.fresh hp
    have hlen : (ms.map V.int).length ≤ sizeLine := by
      have : sizeLine = 2 ^ 24 := rfl
      rw [List.length_map, hl2]
      omega
    have J : Inv X pins σ (upd H1 p (.lst (ms.map V.int))) { ({ s1 with heap := h', toks := tk } : Shared) with heap := s'.heap, gens := s'.gens, drawn := s'.drawn, toks := s'.toks } :=
      I2.call (ch := []) (Un.laid kk hp hn) (I2.hok.laid kk hp ⟨hlen, out.toList, c2, vals_of_ints hi, hg2⟩) (by rw [g]; exact I2.bare) (fun _ z => nomatch z)
    have e : s' = { ({ s1 with heap := h', toks := tk } : Shared) with heap := s'.heap, gens := s'.gens, drawn := s'.drawn, toks := s'.toks } := by
      cases s'
      cases o
      rfl
    rw [e]
    exact ⟨.ref p, _, J, rfl, q ms (by omega) hs (fun z => by rw [hm]; exact decide_eq_true_iff) p hn⟩
end DL

set_option Elab.async false
set_option linter.all false
set_option maxRecDepth 100000
set_option maxHeartbeats 4000000
namespace DL
open PySem L2
/-! ### by values alone -/
def tI (ns : List Int) : Val := .tup (ns.map Val.int)
/-- back to the caller: nothing of the caller's changed -/
theorem back_same {st0 : Store} {P : DK} {d : Val} (g : Store) (c : clV st0.length d = true) (p : P d st0) : Back st0 P d (st0 ++ g) := by
  unfold Back
  refine ⟨by rw [List.length_append]; omega, fun n c hn e => .inl ?_, .inl ⟨c, ?_⟩⟩
  · rw [List.getElem?_append_left hn] at e
    exact e
  · rw [List.take_append_of_le_length (Nat.le_refl _), List.take_length]
    exact p
theorem back0 {st0 : Store} {P : DK} {d : Val} (c : clV st0.length d = true) (p : P d st0) : Back st0 P d st0 := by
  have q := back_same [] c p
  rw [List.append_nil] at q
  exact q
theorem forD_ind {g : DTg} {body : WS} {ok : Store → Prop} {E : DEnds} (I : Nat → Slots → Store → Prop) {ds : List Val} (hok : ∀ i e s, I i e s → ok s)
    (step : ∀ (i : Nat) (d : Val) env st, ds[i]? = some d → I i env st → ∀ N : Slots → Store → Prop, (∀ e s, I (i + 1) e s → N e s) → ∃ env1, g d env = some env1 ∧ body { E with nx := N, ct := N, bk := E.nx } env1 st)
    (fin : ∀ e s, I ds.length e s → E.nx e s) : ∀ {env st}, I 0 env st → forD g body ok E ds env st := by
  have key : ∀ (k i : Nat) (env : Slots) (st : Store), ds.length - i = k → i ≤ ds.length → I i env st → forD g body ok E (ds.drop i) env st := by
    intro k
    induction k with
    | zero =>
      intro i env st hk hi h
      have e : i = ds.length := by omega
      subst e
      rw [List.drop_length]
      exact fin _ _ h
    | succ k ih =>
      intro i env st hk hi h
      have hlt : i < ds.length := by omega
      rw [List.drop_eq_getElem_cons hlt]
      exact step i ds[i] env st (List.getElem?_eq_getElem hlt) h _ fun e s q => ⟨hok _ _ _ q, ih (i + 1) e s (by omega) hlt q⟩
  intro env st h
  exact key ds.length 0 env st rfl (Nat.zero_le _) h
theorem lcD_ind {g : DTg} {wt : WT} {we : WE} {ok : Store → Prop} {env0 : Slots} {Q : List Val → Store → Prop} (I : Nat → List Val → Store → Prop) {ds : List Val} (hok : ∀ i a s, I i a s → ok s)
    (step : ∀ (i : Nat) (d : Val) acc st, ds[i]? = some d → I i acc st → ∀ N : List Val → Store → Prop, (∀ a s, I (i + 1) a s → N a s) → ∃ env, g d env0 = some env ∧ wt env st fun b st1 => match b with
      | true => we env st1 fun y st2 => N (acc ++ [y]) st2
      | false => N acc st1)
    (fin : ∀ a s, I ds.length a s → Q a s) : ∀ {st}, I 0 [] st → lcD g wt we ok env0 ds [] st Q := by
  have key : ∀ (k i : Nat) (acc : List Val) (st : Store), ds.length - i = k → i ≤ ds.length → I i acc st → lcD g wt we ok env0 (ds.drop i) acc st Q := by
    intro k
    induction k with
    | zero =>
      intro i acc st hk hi h
      have e : i = ds.length := by omega
      subst e
      rw [List.drop_length]
      exact fin _ _ h
    | succ k ih =>
      intro i acc st hk hi h
      have hlt : i < ds.length := by omega
      rw [List.drop_eq_getElem_cons hlt]
      obtain ⟨env, ge, w⟩ := step i ds[i] acc st (List.getElem?_eq_getElem hlt) h (fun a s => ok s ∧ lcD g wt we ok env0 (ds.drop (i + 1)) a s Q) fun a s q => ⟨hok _ _ _ q, ih (i + 1) a s (by omega) hlt q⟩
      refine ⟨env, ge, ?_⟩
      exact w
  intro st h
  exact key ds.length 0 [] st rfl (Nat.zero_le _) h
/-! ### the store's end -/
section
variable {A : Store} {c d : Cell} {L : List Cell} {ds : List Val} {k : Nat}
theorem look0 : (A ++ c :: L)[A.length]? = some c := by rw [List.getElem?_append_right (Nat.le_refl _), Nat.sub_self]; rfl
theorem lookK : (A ++ L)[A.length + k]? = L[k]? := by rw [List.getElem?_append_right (Nat.le_add_right _ _), Nat.add_sub_cancel_left]
theorem lookA {n : Nat} (h : n < A.length) : (A ++ L)[n]? = A[n]? := List.getElem?_append_left h
theorem set0 : (A ++ c :: L).set A.length d = A ++ d :: L := by rw [List.set_append_right _ _ (Nat.le_refl _), Nat.sub_self]; rfl
theorem setK : (A ++ L).set (A.length + k) d = A ++ L.set k d := by rw [List.set_append_right _ _ (Nat.le_add_right _ _), Nat.add_sub_cancel_left]
theorem setA {n : Nat} (h : n < A.length) : (A ++ L).set n d = A.set n d ++ L := List.set_append_left _ _ h
theorem isLst0 : isLst (A ++ .lst ds :: L) A.length = true := by unfold isLst; rw [look0]
theorem isLstK (h : L[k]? = some (.lst ds)) : isLst (A ++ L) (A.length + k) = true := by unfold isLst; rw [lookK, h]
theorem isLst_of {st : Store} {n : Nat} (h : st[n]? = some (.lst ds)) : isLst st n = true := by unfold isLst; rw [h]
end
/-! ### rows of ints, of texts -/
theorem flatAll_ints : ∀ ns : List Int, flatAll (ns.map Val.int) = true
  | [] => rfl
  | n :: ns => by
    show (flat (.int n) && flatAll (ns.map Val.int)) = true
    rw [flatAll_ints ns]
    rfl
theorem memd_ints (x : Int) : ∀ ns : List Int, memd (.int x) (ns.map Val.int) = decide (x ∈ ns)
  | [] => by simp [memd]
  | n :: ns => by
    show (eqd (.int n) (.int x) || memd (.int x) (ns.map Val.int)) = _
    rw [memd_ints x ns]
    show (decide (n = x) || _) = _
    by_cases h : n = x
    · subst h; simp
    · have h2 : x ≠ n := fun e => h e.symm
      simp [h, h2]
theorem clVs_ints (k : Nat) : ∀ ns : List Int, clVs k (ns.map Val.int) = true
  | [] => rfl
  | n :: ns => by
    show (clV k (.int n) && clVs k (ns.map Val.int)) = true
    rw [clVs_ints k ns]
    rfl
theorem clVs_strs (k : Nat) : ∀ ns : List Str, clVs k (ns.map Val.str) = true
  | [] => rfl
  | n :: ns => by
    show (clV k (.str n) && clVs k (ns.map Val.str)) = true
    rw [clVs_strs k ns]
    rfl
/-- x in a row of ints -/
theorem in_ints {st : Store} {Q : DK} {x : Int} {ns : List Int} (h : Q (.bl (decide (x ∈ ns))) st) : inW false (.int x) (tI ns) st Q := by
  refine ⟨rfl, flatAll_ints ns, ?_⟩
  show Q (.bl (memd (.int x) (ns.map Val.int))) st
  rw [memd_ints]
  exact h
theorem notIn_ints {st : Store} {Q : DK} {x : Int} {ns : List Int} (h : Q (.bl (!decide (x ∈ ns))) st) : inW true (.int x) (tI ns) st Q := by
  refine ⟨rfl, flatAll_ints ns, ?_⟩
  show Q (.bl (!memd (.int x) (ns.map Val.int))) st
  rw [memd_ints]
  exact h
theorem eqI {st : Store} {Q : DK} {x y : Int} (h : Q (.bl (decide (x = y))) st) : eqW false (.int x) (.int y) st Q := ⟨.inl rfl, h⟩
theorem neI {st : Store} {Q : DK} {x y : Int} (h : Q (.bl (!decide (x = y))) st) : eqW true (.int x) (.int y) st Q := ⟨.inl rfl, h⟩
theorem eqS {st : Store} {Q : DK} {x y : Str} (h : Q (.bl (decide (x = y))) st) : eqW false (.str x) (.str y) st Q := ⟨.inl rfl, h⟩
theorem neS {st : Store} {Q : DK} {x y : Str} (h : Q (.bl (!decide (x = y))) st) : eqW true (.str x) (.str y) st Q := ⟨.inl rfl, h⟩
/-- x[i] -/
theorem ixT {st : Store} {Q : DK} {ds : List Val} {i : Int} {d : Val} (h : atI ds i = some d) (q : Q d st) : ixV (.tup ds) (.int i) st Q := by
  unfold ixV
  show match atI ds i with | some d => Q d st | none => False
  rw [h]
  exact q
theorem ixL {st : Store} {Q : DK} {ds : List Val} {n : Nat} {i : Int} {d : Val} (hs : st[n]? = some (.lst ds)) (h : atI ds i = some d) (q : Q d st) : ixV (.loc n) (.int i) st Q := by
  unfold ixV itemsOf
  simp only [hs, h]
  exact q
theorem atI_nat {α : Type} {xs : List α} {i : Int} {d : α} (h0 : 0 ≤ i) (h : xs[i.toNat]? = some d) : atI xs i = some d := by
  have hl := (List.getElem?_eq_some_iff.mp h).1
  unfold atI ixN
  rw [if_pos h0, if_pos (by omega)]
  exact h
theorem fld {st : Store} {Q : DK} {C : Addr} {f : Str} {n : Nat} {fs : List (Str × Val)} {v : Val} (hs : st[n]? = some (.obj C fs)) (hl : fs.lookup f = some v) (q : Q v st) : fldV C f (.loc n) st Q := by
  unfold fldV
  simp only [hs, hl]
  exact ⟨trivial, q⟩
theorem app0 {A : Store} {L : List Cell} {ds : List Val} {Q : DK} {d : Val} (hl : ds.length < sizeLine) (q : Q .non (A ++ .lst (ds ++ [d]) :: L)) : appV A.length ds [d] (A ++ .lst ds :: L) Q := by
  refine ⟨hl, ?_⟩
  rw [set0]
  exact q
end DL

set_option Elab.async false
set_option linter.all false
set_option maxRecDepth 100000
set_option maxHeartbeats 4000000
namespace K05
open PySem L2 DL PyProof.Rows ClX
def top (i : Nat) : Stmt := PySem.Challenge.pw_rightsward_k05_applies_and_reasons.main.body.getD i (.Pass ⟨0, 0, 0, 0⟩)
def strD (l : List Str) : Val := .tup (l.map .str)
def vPARTS : Val := strD ["numbers", "nodes", "teams", "marks", "kinds", "roles", "parted", "lots", "doors", "glass", "cases", "homes"]
def prs (l : List (Int × Int)) : Val := .tup (l.map pairD)
def vNR : Val := prs [(1, 4), (1, 2), (1, 3), (1, 4), (1, 8), (1, 4), (1, 6)]
def vCR : Val := prs [(1, 8), (1, 3), (0, 3), (1, 3), (0, 6), (0, 3), (0, 2), (0, 2), (0, 3), (0, 2)]
def eNames : List Str := ["node_form", "team_form", "mark_form", "kind_form", "role_form", "parted_form", "lot_form", "door_entry_form", "glass_form", "case_form", "home_form"]
def vEF (K : PySem.W.Frag) : Val := .tup (eNames.map fun x => .adr (He.ga K x))

structure Txt (K : PySem.W.Frag) (mg : Str → Option Value) (C : Addr) : Prop where
  fr_all : mg "all" = none
  fr_any : mg "any" = none
  fr_bool : mg "bool" = none
  fr_enumerate : mg "enumerate" = none
  fr_int : mg "int" = none
  fr_isinstance : mg "isinstance" = none
  fr_len : mg "len" = none
  fr_list : mg "list" = none
  fr_max : mg "max" = none
  fr_min : mg "min" = none
  fr_range : mg "range" = none
  fr_set : mg "set" = none
  fr_sorted : mg "sorted" = none
  fr_str : mg "str" = none
  fr_tuple : mg "tuple" = none
  fr_zip : mg "zip" = none
  gv_CASES : GV K mg "CASES" (.int 10)
  gv_COUNT_RANGES : GV K mg "COUNT_RANGES" vCR
  gv_DOORS : GV K mg "DOORS" (.int 8)
  gv_ENTRY_FORMS : GV K mg "ENTRY_FORMS" (vEF K)
  gv_FIRST_ORDINARY : GV K mg "FIRST_ORDINARY" (.int 9)
  gv_GLASS : GV K mg "GLASS" (.int 9)
  gv_HOMES : GV K mg "HOMES" (.int 11)
  gv_KINDS : GV K mg "KINDS" (.int 4)
  gv_LAST_VERB : GV K mg "LAST_VERB" (.int 12)
  gv_LOTS : GV K mg "LOTS" (.int 7)
  gv_MARKS : GV K mg "MARKS" (.int 3)
  gv_MOST_CLAUSES : GV K mg "MOST_CLAUSES" (.int 3)
  gv_MOST_DEPTH : GV K mg "MOST_DEPTH" (.int 2)
  gv_MOST_LIFE : GV K mg "MOST_LIFE" (.int 6)
  gv_MOST_PASSES : GV K mg "MOST_PASSES" (.int 3)
  gv_MOST_RANK : GV K mg "MOST_RANK" (.int 3)
  gv_MOST_STEPS : GV K mg "MOST_STEPS" (.int 3)
  gv_NODES : GV K mg "NODES" (.int 1)
  gv_NUMBERS : GV K mg "NUMBERS" (.int 0)
  gv_NUMBER_RANGES : GV K mg "NUMBER_RANGES" vNR
  gv_PARTED : GV K mg "PARTED" (.int 6)
  gv_PARTS : GV K mg "PARTS" vPARTS
  gv_ROLES : GV K mg "ROLES" (.int 5)
  gv_TEAMS : GV K mg "TEAMS" (.int 2)
  cl : Cls K C
  mg_Book : mg "Book" = some (.ref C)
  rd : CRead K C (.type "type")
  na_age : NoAttr K C "age"
  na_cases : NoAttr K C "cases"
  na_doors : NoAttr K C "doors"
  na_frame : NoAttr K C "frame"
  na_glass_age : NoAttr K C "glass_age"
  na_glass_life : NoAttr K C "glass_life"
  na_glass_rows : NoAttr K C "glass_rows"
  na_homes : NoAttr K C "homes"
  na_hours : NoAttr K C "hours"
  na_kinds : NoAttr K C "kinds"
  na_look_time : NoAttr K C "look_time"
  na_lots : NoAttr K C "lots"
  na_marks : NoAttr K C "marks"
  na_parents : NoAttr K C "parents"
  na_parted : NoAttr K C "parted"
  na_places : NoAttr K C "places"
  na_points : NoAttr K C "points"
  na_roles : NoAttr K C "roles"
  na_rules : NoAttr K C "rules"
  na_teams : NoAttr K C "teams"
  cv_Book_MOST_RULES : ∃ u, CVal K C (.type "type") "MOST_RULES" (V.int 12) u
section
variable {P : Program} {w : World} {K : PySem.W.Frag} {mg : Str → Option Value} {base : Heap} {C : Addr} {f : Addr} {cdv : Value} {A : Around} {outer : List Env} {sh : Shared} {H : Hp} {E : XK} {j : Nat}
/-! under -/
abbrev st_under : Stmt := (top 2)
abbrev N_under : List Str := ["parents", "low", "high", "node"]
theorem sc_under : FnScope N_under ["parents", "low", "high"] (defScope st_under) := C8.fnScope_by (by decide +kernel)
theorem e_under (a0 a1 a2 : Val) : startD N_under [a0, a1, a2] = [some a0, some a1, some a2, none] := rfl
@[irreducible] def w_under : WS :=
  (wSeq (wAsg (wVar 1) (gN 3))
  (wSeq (wWhile (wTest (wBin gtV (wVar 3) (wVar 2))) (wAsg (wBin ixV (wVar 0) (wVar 3)) (gN 3)))
  (wRet (wBin (eqW false) (wVar 3) (wVar 2)))))
theorem b_under (T : Txt K mg C) (hr : Room j (A.deeper (envOfC "under" (defScope st_under) sh.heap.objs.size f cdv))) :
    DSs (cxOf C8.CX0 P w K mg base N_under "under" (defScope st_under) f cdv A outer sh H E).nox (defBody st_under) (w_under ) := by
  have hN := sc_under.nd
  have hu := hr.units
  have hu0 := hr.units0
  unfold w_under
  exact (dss_cons (ds_set (k := 3) hN rfl (by first | exact .inl rfl | exact .inr rfl) (d_var 1))
  (dss_cons (ds_while PassesOwn.never (dt_cmp do_gt (d_var 3) (d_var 2) rfl) (dss_one (ds_set (k := 3) hN rfl (by first | exact .inl rfl | exact .inr rfl) (d_ix (d_var 0) (d_var 3)))))
  (dss_one (ds_ret (d_cmp (do_eq hu) (d_var 3) (d_var 2) rfl)))))
/-! scope_of -/
abbrev st_scope_of : Stmt := (top 4)
abbrev N_scope_of : List Str := ["book", "rules", "item", "word", "number"]
theorem sc_scope_of : FnScope N_scope_of ["book", "rules", "item"] (defScope st_scope_of) := C8.fnScope_by (by decide +kernel)
theorem e_scope_of (a0 a1 a2 : Val) : startD N_scope_of [a0, a1, a2] = [some a0, some a1, some a2, none, none] := rfl
@[irreducible] def w_scope_of (C : Addr) : WS :=
  (wSeq (wAsg2 (wVar 2) (g2of (gT 2 (gsCons (gN 3) (gsCons (gN 4) gsNil)))))
  (wSeq (wIfS (wTest (wBin (eqW false) (wVar 3) (wC (.str "rule")))) (wRet (wSl (wBin ixV (wVar 1) (wVar 4)) (wPart (wC (.int 2))) wNo)) wNext)
  (wRet (wSl (wBin ixV (wUn (fldV C "doors") (wVar 0)) (wVar 4)) (wPart (wC (.int 1))) (wPart (wC (.int 7)))))))
theorem b_scope_of (T : Txt K mg C) (hr : Room j (A.deeper (envOfC "scope_of" (defScope st_scope_of) sh.heap.objs.size f cdv))) :
    DSs (cxOf C8.CX0 P w K mg base N_scope_of "scope_of" (defScope st_scope_of) f cdv A outer sh H E).nox (defBody st_scope_of) (w_scope_of C ) := by
  have hN := sc_scope_of.nd
  have hu := hr.units
  have hu0 := hr.units0
  unfold w_scope_of
  exact (dss_cons (ds_asg (d_var 2) (dg2_of (dg_tup 2 rfl (dgs_cons (dg_name 3 hN rfl (by first | exact .inl rfl | exact .inr rfl)) (dgs_cons (dg_name 4 hN rfl (by first | exact .inl rfl | exact .inr rfl)) dgs_nil)))))
  (dss_cons (ds_if (dt_cmp (do_eq hu) (d_var 3) d_str rfl) (dss_one (ds_ret (d_slice (d_ix (d_var 1) (d_var 4)) (do_some d_int) do_no))) dss_nil)
  (dss_one (ds_ret (d_slice (d_ix (d_fld T.cl T.na_doors (d_var 0)) (d_var 4)) (do_some d_int) (do_some d_int))))))
/-! covers -/
abbrev st_covers : Stmt := (top 5)
abbrev N_covers : List Str := ["book", "scope", "roles", "asking", "role", "verbs", "node", "deep", "hours", "places", "verb", "asked", "hour", "place"]
theorem sc_covers : FnScope N_covers ["book", "scope", "roles", "asking"] (defScope st_covers) := C8.fnScope_by (by decide +kernel)
theorem e_covers (a0 a1 a2 a3 : Val) : startD N_covers [a0, a1, a2, a3] = [some a0, some a1, some a2, some a3, none, none, none, none, none, none, none, none, none, none] := rfl
@[irreducible] def w_covers (C : Addr) (s_under : DSp) : WS :=
  (wSeq (wAsg2 (wVar 1) (g2of (gT 6 (gsCons (gN 4) (gsCons (gN 5) (gsCons (gN 6) (gsCons (gN 7) (gsCons (gN 8) (gsCons (gN 9) gsNil)))))))))
  (wSeq (wAsg2 (wVar 3) (g2of (gT 4 (gsCons (gN 10) (gsCons (gN 11) (gsCons (gN 12) (gsCons (gN 13) gsNil)))))))
  (wSeq (wIfS (wOr (wTest (wBin (inW true) (wVar 10) (wVar 5))) (wOr (wTest (wBin (inW true) (wVar 12) (wVar 8))) (wTest (wBin (inW true) (wVar 13) (wVar 9))))) (wRet (wC (.bl false))) wNext)
  (wSeq (wIfS (wAnd (wTest (wBin (eqW true) (wVar 4) (wUn negV (wC (.int 1))))) (wTest (wBin (inW true) (wVar 4) (wVar 2)))) (wRet (wC (.bl false))) wNext)
  (wRet (wOrV (wBin (eqW false) (wVar 6) (wVar 11)) (wAndV (wBin (eqW false) (wVar 7) (wC (.int 1))) (wCB s_under (wCons (wUn (fldV C "parents") (wVar 0)) (wCons (wVar 11) (wCons (wVar 6) wNil)))))))))))
theorem b_covers {s_under : DSp} (T : Txt K mg C) (c_under : DCal P w K mg base j "under" s_under) (hr : Room j (A.deeper (envOfC "covers" (defScope st_covers) sh.heap.objs.size f cdv))) :
    DSs (cxOf C8.CX0 P w K mg base N_covers "covers" (defScope st_covers) f cdv A outer sh H E).nox (defBody st_covers) (w_covers C s_under) := by
  have hN := sc_covers.nd
  have hu := hr.units
  have hu0 := hr.units0
  unfold w_covers
  exact (dss_cons (ds_asg (d_var 1) (dg2_of (dg_tup 6 rfl (dgs_cons (dg_name 4 hN rfl (by first | exact .inl rfl | exact .inr rfl)) (dgs_cons (dg_name 5 hN rfl (by first | exact .inl rfl | exact .inr rfl)) (dgs_cons (dg_name 6 hN rfl (by first | exact .inl rfl | exact .inr rfl)) (dgs_cons (dg_name 7 hN rfl (by first | exact .inl rfl | exact .inr rfl)) (dgs_cons (dg_name 8 hN rfl (by first | exact .inl rfl | exact .inr rfl)) (dgs_cons (dg_name 9 hN rfl (by first | exact .inl rfl | exact .inr rfl)) dgs_nil)))))))))
  (dss_cons (ds_asg (d_var 3) (dg2_of (dg_tup 4 rfl (dgs_cons (dg_name 10 hN rfl (by first | exact .inl rfl | exact .inr rfl)) (dgs_cons (dg_name 11 hN rfl (by first | exact .inl rfl | exact .inr rfl)) (dgs_cons (dg_name 12 hN rfl (by first | exact .inl rfl | exact .inr rfl)) (dgs_cons (dg_name 13 hN rfl (by first | exact .inl rfl | exact .inr rfl)) dgs_nil)))))))
  (dss_cons (ds_if (dt_w (dw_or (dt_cmp do_notIn (d_var 10) (d_var 5) rfl) (dw_or (dt_cmp do_notIn (d_var 12) (d_var 8) rfl) (dw_or1 (dt_cmp do_notIn (d_var 13) (d_var 9) rfl))))) (dss_one (ds_ret d_bl)) dss_nil)
  (dss_cons (ds_if (dt_w (dw_and (dt_cmp (do_ne hu) (d_var 4) (d_un do_neg d_int) rfl) (dw_and1 (dt_cmp do_notIn (d_var 4) (d_var 2) rfl)))) (dss_one (ds_ret d_bl)) dss_nil)
  (dss_one (ds_ret (d_or (d_cmp (do_eq hu) (d_var 6) (d_var 11) rfl) (d_one (d_and (d_cmp (do_eq hu) (d_var 7) d_int rfl) (d_one (d_call c_under hr (Nat.le_refl _) rfl (da_cons (d_fld T.cl T.na_parents (d_var 0)) (da_cons (d_var 11) (da_cons (d_var 6) da_nil))))))))))))))
/-! applies -/
abbrev st_applies : Stmt := (top 6)
abbrev N_applies : List Str := ["book", "rules", "side", "item", "asking", "roles", "lots", "doors", "word", "number", "lot"]
theorem sc_applies : FnScope N_applies ["book", "rules", "side", "item", "asking"] (defScope st_applies) := C8.fnScope_by (by decide +kernel)
theorem e_applies (a0 a1 a2 a3 a4 : Val) : startD N_applies [a0, a1, a2, a3, a4] = [some a0, some a1, some a2, some a3, some a4, none, none, none, none, none, none] := rfl
@[irreducible] def w_applies (C : Addr) (s_covers s_scope_of s_under : DSp) : WS :=
  (wSeq (wAsg2 (wVar 2) (g2of (gT 3 (gsCons (gN 5) (gsCons (gN 6) (gsCons (gN 7) gsNil))))))
  (wSeq (wAsg2 (wVar 3) (g2of (gT 2 (gsCons (gN 8) (gsCons (gN 9) gsNil)))))
  (wSeq (wIfS (wTest (wBin (eqW false) (wVar 8) (wC (.str "lot")))) (wSeq (wAsg (wBin ixV (wUn (fldV C "lots") (wVar 0)) (wVar 9)) (gN 10))
  (wRet (wAndV (wBin (inW false) (wVar 9) (wVar 6)) (wAndV (wBin (inW false) (wBin ixV (wVar 4) (wC (.int 0))) (wBin ixV (wVar 10) (wC (.int 1)))) (wCB s_under (wCons (wUn (fldV C "parents") (wVar 0)) (wCons (wBin ixV (wVar 4) (wC (.int 1))) (wCons (wBin ixV (wVar 10) (wC (.int 0))) wNil)))))))) wNext)
  (wSeq (wIfS (wAnd (wTest (wBin (eqW false) (wVar 8) (wC (.str "door")))) (wTest (wBin (inW true) (wVar 9) (wVar 7)))) (wRet (wC (.bl false))) wNext)
  (wRet (wCB s_covers (wCons (wVar 0) (wCons (wCB s_scope_of (wCons (wVar 0) (wCons (wVar 1) (wCons (wVar 3) wNil)))) (wCons (wVar 5) (wCons (wVar 4) wNil))))))))))
theorem b_applies {s_covers s_scope_of s_under : DSp} (T : Txt K mg C) (c_covers : DCal P w K mg base j "covers" s_covers) (c_scope_of : DCal P w K mg base j "scope_of" s_scope_of) (c_under : DCal P w K mg base j "under" s_under) (hr : Room j (A.deeper (envOfC "applies" (defScope st_applies) sh.heap.objs.size f cdv))) :
    DSs (cxOf C8.CX0 P w K mg base N_applies "applies" (defScope st_applies) f cdv A outer sh H E).nox (defBody st_applies) (w_applies C s_covers s_scope_of s_under) := by
  have hN := sc_applies.nd
  have hu := hr.units
  have hu0 := hr.units0
  unfold w_applies
  exact (dss_cons (ds_asg (d_var 2) (dg2_of (dg_tup 3 rfl (dgs_cons (dg_name 5 hN rfl (by first | exact .inl rfl | exact .inr rfl)) (dgs_cons (dg_name 6 hN rfl (by first | exact .inl rfl | exact .inr rfl)) (dgs_cons (dg_name 7 hN rfl (by first | exact .inl rfl | exact .inr rfl)) dgs_nil))))))
  (dss_cons (ds_asg (d_var 3) (dg2_of (dg_tup 2 rfl (dgs_cons (dg_name 8 hN rfl (by first | exact .inl rfl | exact .inr rfl)) (dgs_cons (dg_name 9 hN rfl (by first | exact .inl rfl | exact .inr rfl)) dgs_nil)))))
  (dss_cons (ds_if (dt_cmp (do_eq hu) (d_var 8) d_str rfl) (dss_cons (ds_set (k := 10) hN rfl (by first | exact .inl rfl | exact .inr rfl) (d_ix (d_fld T.cl T.na_lots (d_var 0)) (d_var 9)))
  (dss_one (ds_ret (d_and (d_cmp do_in (d_var 9) (d_var 6) rfl) (d_and (d_cmp do_in (d_ix (d_var 4) d_int) (d_ix (d_var 10) d_int) rfl) (d_one (d_call c_under hr (Nat.le_refl _) rfl (da_cons (d_fld T.cl T.na_parents (d_var 0)) (da_cons (d_ix (d_var 4) d_int) (da_cons (d_ix (d_var 10) d_int) da_nil)))))))))) dss_nil)
  (dss_cons (ds_if (dt_w (dw_and (dt_cmp (do_eq hu) (d_var 8) d_str rfl) (dw_and1 (dt_cmp do_notIn (d_var 9) (d_var 7) rfl)))) (dss_one (ds_ret d_bl)) dss_nil)
  (dss_one (ds_ret (d_call c_covers hr (Nat.le_refl _) rfl (da_cons (d_var 0) (da_cons (d_call c_scope_of hr (Nat.le_refl _) rfl (da_cons (d_var 0) (da_cons (d_var 1) (da_cons (d_var 3) da_nil)))) (da_cons (d_var 5) (da_cons (d_var 4) da_nil)))))))))))
/-! scope_reasons -/
abbrev st_scope_reasons : Stmt := (top 8)
abbrev N_scope_reasons : List Str := ["book", "scope", "roles", "asking", "role", "verbs", "node", "deep", "hours", "places", "verb", "asked", "hour", "place", "found"]
theorem sc_scope_reasons : FnScope N_scope_reasons ["book", "scope", "roles", "asking"] (defScope st_scope_reasons) := C8.fnScope_by (by decide +kernel)
theorem e_scope_reasons (a0 a1 a2 a3 : Val) : startD N_scope_reasons [a0, a1, a2, a3] = [some a0, some a1, some a2, some a3, none, none, none, none, none, none, none, none, none, none, none] := rfl
@[irreducible] def w_scope_reasons (C : Addr) (s_under : DSp) : WS :=
  (wSeq (wAsg2 (wVar 1) (g2of (gT 6 (gsCons (gN 4) (gsCons (gN 5) (gsCons (gN 6) (gsCons (gN 7) (gsCons (gN 8) (gsCons (gN 9) gsNil)))))))))
  (wSeq (wAsg2 (wVar 3) (g2of (gT 4 (gsCons (gN 10) (gsCons (gN 11) (gsCons (gN 12) (gsCons (gN 13) gsNil)))))))
  (wSeq (wAsg (wNew (wLst wNil)) (gN 14))
  (wMid (wIfS (wAnd (wTest (wBin (eqW true) (wVar 4) (wUn negV (wC (.int 1))))) (wTest (wBin (inW true) (wVar 4) (wVar 2)))) (wDrop (wMt appV (wVar 14) (wCons (wC (.str "role")) wNil))) wNext)
  (wMid (wIfS (wTest (wBin (inW true) (wVar 10) (wVar 5))) (wDrop (wMt appV (wVar 14) (wCons (wC (.str "verb")) wNil))) wNext)
  (wMid (wIfS (wAnd (wTest (wBin (eqW true) (wVar 6) (wVar 11))) (wOr (wTest (wBin (eqW false) (wVar 7) (wC (.int 0)))) (wNot (wTest (wCB s_under (wCons (wUn (fldV C "parents") (wVar 0)) (wCons (wVar 11) (wCons (wVar 6) wNil)))))))) (wDrop (wMt appV (wVar 14) (wCons (wC (.str "node")) wNil))) wNext)
  (wMid (wIfS (wTest (wBin (inW true) (wVar 12) (wVar 8))) (wDrop (wMt appV (wVar 14) (wCons (wC (.str "hour")) wNil))) wNext)
  (wMid (wIfS (wTest (wBin (inW true) (wVar 13) (wVar 9))) (wDrop (wMt appV (wVar 14) (wCons (wC (.str "place")) wNil))) wNext)
  (wRet (wCB tupV (wCons (wVar 14) wNil)))))))))))
theorem b_scope_reasons {s_under : DSp} (T : Txt K mg C) (c_under : DCal P w K mg base j "under" s_under) (hr : Room j (A.deeper (envOfC "scope_reasons" (defScope st_scope_reasons) sh.heap.objs.size f cdv))) :
    DSs (cxOf C8.CX0 P w K mg base N_scope_reasons "scope_reasons" (defScope st_scope_reasons) f cdv A outer sh H E).nox (defBody st_scope_reasons) (w_scope_reasons C s_under) := by
  have hN := sc_scope_reasons.nd
  have hu := hr.units
  have hu0 := hr.units0
  unfold w_scope_reasons
  exact (dss_cons (ds_asg (d_var 1) (dg2_of (dg_tup 6 rfl (dgs_cons (dg_name 4 hN rfl (by first | exact .inl rfl | exact .inr rfl)) (dgs_cons (dg_name 5 hN rfl (by first | exact .inl rfl | exact .inr rfl)) (dgs_cons (dg_name 6 hN rfl (by first | exact .inl rfl | exact .inr rfl)) (dgs_cons (dg_name 7 hN rfl (by first | exact .inl rfl | exact .inr rfl)) (dgs_cons (dg_name 8 hN rfl (by first | exact .inl rfl | exact .inr rfl)) (dgs_cons (dg_name 9 hN rfl (by first | exact .inl rfl | exact .inr rfl)) dgs_nil)))))))))
  (dss_cons (ds_asg (d_var 3) (dg2_of (dg_tup 4 rfl (dgs_cons (dg_name 10 hN rfl (by first | exact .inl rfl | exact .inr rfl)) (dgs_cons (dg_name 11 hN rfl (by first | exact .inl rfl | exact .inr rfl)) (dgs_cons (dg_name 12 hN rfl (by first | exact .inl rfl | exact .inr rfl)) (dgs_cons (dg_name 13 hN rfl (by first | exact .inl rfl | exact .inr rfl)) dgs_nil)))))))
  (dss_cons (ds_set (k := 14) hN rfl (by first | exact .inl rfl | exact .inr rfl) (d_new (dl_lst da_nil)))
  (dss_mid (ds_if (dt_w (dw_and (dt_cmp (do_ne hu) (d_var 4) (d_un do_neg d_int) rfl) (dw_and1 (dt_cmp do_notIn (d_var 4) (d_var 2) rfl)))) (dss_one (ds_expr (d_mt PySem.F.slot_list_append PySem.F.type_list_append dm_append (d_var 14) (da_cons d_str da_nil)))) dss_nil)
  (dss_mid (ds_if (dt_cmp do_notIn (d_var 10) (d_var 5) rfl) (dss_one (ds_expr (d_mt PySem.F.slot_list_append PySem.F.type_list_append dm_append (d_var 14) (da_cons d_str da_nil)))) dss_nil)
  (dss_mid (ds_if (dt_w (dw_and (dt_cmp (do_ne hu) (d_var 6) (d_var 11) rfl) (dw_and1 (dt_w (dw_or (dt_cmp (do_eq hu) (d_var 7) d_int rfl) (dw_or1 (dt_not (dt_val (d_call c_under hr (Nat.le_refl _) rfl (da_cons (d_fld T.cl T.na_parents (d_var 0)) (da_cons (d_var 11) (da_cons (d_var 6) da_nil)))))))))))) (dss_one (ds_expr (d_mt PySem.F.slot_list_append PySem.F.type_list_append dm_append (d_var 14) (da_cons d_str da_nil)))) dss_nil)
  (dss_mid (ds_if (dt_cmp do_notIn (d_var 12) (d_var 8) rfl) (dss_one (ds_expr (d_mt PySem.F.slot_list_append PySem.F.type_list_append dm_append (d_var 14) (da_cons d_str da_nil)))) dss_nil)
  (dss_mid (ds_if (dt_cmp do_notIn (d_var 13) (d_var 9) rfl) (dss_one (ds_expr (d_mt PySem.F.slot_list_append PySem.F.type_list_append dm_append (d_var 14) (da_cons d_str da_nil)))) dss_nil)
  (dss_one (ds_ret (d_callTy dc_tuple rfl T.fr_tuple boot_tuple (da_cons (d_var 14) da_nil))))))))))))
/-! lot_reasons -/
abbrev st_lot_reasons : Stmt := (top 9)
abbrev N_lot_reasons : List Str := ["book", "number", "lots", "asking", "lot", "found"]
theorem sc_lot_reasons : FnScope N_lot_reasons ["book", "number", "lots", "asking"] (defScope st_lot_reasons) := C8.fnScope_by (by decide +kernel)
theorem e_lot_reasons (a0 a1 a2 a3 : Val) : startD N_lot_reasons [a0, a1, a2, a3] = [some a0, some a1, some a2, some a3, none, none] := rfl
@[irreducible] def w_lot_reasons (C : Addr) (s_under : DSp) : WS :=
  (wSeq (wAsg (wBin ixV (wUn (fldV C "lots") (wVar 0)) (wVar 1)) (gN 4))
  (wSeq (wAsg (wNew (wLst wNil)) (gN 5))
  (wMid (wIfS (wTest (wBin (inW true) (wVar 1) (wVar 2))) (wDrop (wMt appV (wVar 5) (wCons (wC (.str "unheld")) wNil))) wNext)
  (wMid (wIfS (wTest (wBin (inW true) (wBin ixV (wVar 3) (wC (.int 0))) (wBin ixV (wVar 4) (wC (.int 1))))) (wDrop (wMt appV (wVar 5) (wCons (wC (.str "verb")) wNil))) wNext)
  (wMid (wIfS (wNot (wTest (wCB s_under (wCons (wUn (fldV C "parents") (wVar 0)) (wCons (wBin ixV (wVar 3) (wC (.int 1))) (wCons (wBin ixV (wVar 4) (wC (.int 0))) wNil)))))) (wDrop (wMt appV (wVar 5) (wCons (wC (.str "node")) wNil))) wNext)
  (wRet (wCB tupV (wCons (wVar 5) wNil))))))))
theorem b_lot_reasons {s_under : DSp} (T : Txt K mg C) (c_under : DCal P w K mg base j "under" s_under) (hr : Room j (A.deeper (envOfC "lot_reasons" (defScope st_lot_reasons) sh.heap.objs.size f cdv))) :
    DSs (cxOf C8.CX0 P w K mg base N_lot_reasons "lot_reasons" (defScope st_lot_reasons) f cdv A outer sh H E).nox (defBody st_lot_reasons) (w_lot_reasons C s_under) := by
  have hN := sc_lot_reasons.nd
  have hu := hr.units
  have hu0 := hr.units0
  unfold w_lot_reasons
  exact (dss_cons (ds_set (k := 4) hN rfl (by first | exact .inl rfl | exact .inr rfl) (d_ix (d_fld T.cl T.na_lots (d_var 0)) (d_var 1)))
  (dss_cons (ds_set (k := 5) hN rfl (by first | exact .inl rfl | exact .inr rfl) (d_new (dl_lst da_nil)))
  (dss_mid (ds_if (dt_cmp do_notIn (d_var 1) (d_var 2) rfl) (dss_one (ds_expr (d_mt PySem.F.slot_list_append PySem.F.type_list_append dm_append (d_var 5) (da_cons d_str da_nil)))) dss_nil)
  (dss_mid (ds_if (dt_cmp do_notIn (d_ix (d_var 3) d_int) (d_ix (d_var 4) d_int) rfl) (dss_one (ds_expr (d_mt PySem.F.slot_list_append PySem.F.type_list_append dm_append (d_var 5) (da_cons d_str da_nil)))) dss_nil)
  (dss_mid (ds_if (dt_not (dt_val (d_call c_under hr (Nat.le_refl _) rfl (da_cons (d_fld T.cl T.na_parents (d_var 0)) (da_cons (d_ix (d_var 3) d_int) (da_cons (d_ix (d_var 4) d_int) da_nil)))))) (dss_one (ds_expr (d_mt PySem.F.slot_list_append PySem.F.type_list_append dm_append (d_var 5) (da_cons d_str da_nil)))) dss_nil)
  (dss_one (ds_ret (d_callTy dc_tuple rfl T.fr_tuple boot_tuple (da_cons (d_var 5) da_nil)))))))))
/-! reasons -/
abbrev st_reasons : Stmt := (top 10)
abbrev N_reasons : List Str := ["book", "rules", "side", "item", "asking", "roles", "lots", "doors", "word", "number", "found"]
theorem sc_reasons : FnScope N_reasons ["book", "rules", "side", "item", "asking"] (defScope st_reasons) := C8.fnScope_by (by decide +kernel)
theorem e_reasons (a0 a1 a2 a3 a4 : Val) : startD N_reasons [a0, a1, a2, a3, a4] = [some a0, some a1, some a2, some a3, some a4, none, none, none, none, none, none] := rfl
@[irreducible] def w_reasons (s_lot_reasons s_scope_of s_scope_reasons : DSp) : WS :=
  (wSeq (wAsg2 (wVar 2) (g2of (gT 3 (gsCons (gN 5) (gsCons (gN 6) (gsCons (gN 7) gsNil))))))
  (wSeq (wAsg2 (wVar 3) (g2of (gT 2 (gsCons (gN 8) (gsCons (gN 9) gsNil)))))
  (wSeq (wIfS (wTest (wBin (eqW false) (wVar 8) (wC (.str "lot")))) (wRet (wCB s_lot_reasons (wCons (wVar 0) (wCons (wVar 9) (wCons (wVar 6) (wCons (wVar 4) wNil)))))) wNext)
  (wSeq (wAsg (wCB s_scope_reasons (wCons (wVar 0) (wCons (wCB s_scope_of (wCons (wVar 0) (wCons (wVar 1) (wCons (wVar 3) wNil)))) (wCons (wVar 5) (wCons (wVar 4) wNil))))) (gN 10))
  (wSeq (wIfS (wAnd (wTest (wBin (eqW false) (wVar 8) (wC (.str "door")))) (wTest (wBin (inW true) (wVar 9) (wVar 7)))) (wRet (wBin addV (wTup (wCons (wC (.str "shut")) wNil)) (wVar 10))) wNext)
  (wRet (wVar 10)))))))
theorem b_reasons {s_lot_reasons s_scope_of s_scope_reasons : DSp} (T : Txt K mg C) (c_lot_reasons : DCal P w K mg base j "lot_reasons" s_lot_reasons) (c_scope_of : DCal P w K mg base j "scope_of" s_scope_of) (c_scope_reasons : DCal P w K mg base j "scope_reasons" s_scope_reasons) (hr : Room j (A.deeper (envOfC "reasons" (defScope st_reasons) sh.heap.objs.size f cdv))) :
    DSs (cxOf C8.CX0 P w K mg base N_reasons "reasons" (defScope st_reasons) f cdv A outer sh H E).nox (defBody st_reasons) (w_reasons s_lot_reasons s_scope_of s_scope_reasons) := by
  have hN := sc_reasons.nd
  have hu := hr.units
  have hu0 := hr.units0
  unfold w_reasons
  exact (dss_cons (ds_asg (d_var 2) (dg2_of (dg_tup 3 rfl (dgs_cons (dg_name 5 hN rfl (by first | exact .inl rfl | exact .inr rfl)) (dgs_cons (dg_name 6 hN rfl (by first | exact .inl rfl | exact .inr rfl)) (dgs_cons (dg_name 7 hN rfl (by first | exact .inl rfl | exact .inr rfl)) dgs_nil))))))
  (dss_cons (ds_asg (d_var 3) (dg2_of (dg_tup 2 rfl (dgs_cons (dg_name 8 hN rfl (by first | exact .inl rfl | exact .inr rfl)) (dgs_cons (dg_name 9 hN rfl (by first | exact .inl rfl | exact .inr rfl)) dgs_nil)))))
  (dss_cons (ds_if (dt_cmp (do_eq hu) (d_var 8) d_str rfl) (dss_one (ds_ret (d_call c_lot_reasons hr (Nat.le_refl _) rfl (da_cons (d_var 0) (da_cons (d_var 9) (da_cons (d_var 6) (da_cons (d_var 4) da_nil))))))) dss_nil)
  (dss_cons (ds_set (k := 10) hN rfl (by first | exact .inl rfl | exact .inr rfl) (d_call c_scope_reasons hr (Nat.le_refl _) rfl (da_cons (d_var 0) (da_cons (d_call c_scope_of hr (Nat.le_refl _) rfl (da_cons (d_var 0) (da_cons (d_var 1) (da_cons (d_var 3) da_nil)))) (da_cons (d_var 5) (da_cons (d_var 4) da_nil))))))
  (dss_cons (ds_if (dt_w (dw_and (dt_cmp (do_eq hu) (d_var 8) d_str rfl) (dw_and1 (dt_cmp do_notIn (d_var 9) (d_var 7) rfl)))) (dss_one (ds_ret (d_bin do_add (d_tup (da_cons d_str da_nil)) (d_var 10)))) dss_nil)
  (dss_one (ds_ret (d_var 10))))))))
/-! whole -/
abbrev st_whole : Stmt := (top 19)
abbrev N_whole : List Str := ["x"]
theorem sc_whole : FnScope N_whole ["x"] (defScope st_whole) := C8.fnScope_by (by decide +kernel)
theorem e_whole (a0 : Val) : startD N_whole [a0] = [some a0] := rfl
@[irreducible] def w_whole : WS :=
  (wRet (wAndV (wCB isaV (wCons (wVar 0) (wCons (wC (.ty "int")) wNil))) (wNotV (wCB isaV (wCons (wVar 0) (wCons (wC (.ty "bool")) wNil))))))
theorem b_whole (T : Txt K mg C) (hr : Room j (A.deeper (envOfC "whole" (defScope st_whole) sh.heap.objs.size f cdv))) :
    DSs (cxOf C8.CX0 P w K mg base N_whole "whole" (defScope st_whole) f cdv A outer sh H E).nox (defBody st_whole) (w_whole ) := by
  have hN := sc_whole.nd
  have hu := hr.units
  have hu0 := hr.units0
  unfold w_whole
  exact (dss_one (ds_ret (d_and (d_callB dc_isa rfl T.fr_isinstance boot_isinstance (da_cons (d_var 0) (da_cons (d_ty rfl T.fr_int boot_int) da_nil))) (d_one (d_not (d_callB dc_isa rfl T.fr_isinstance boot_isinstance (da_cons (d_var 0) (da_cons (d_ty rfl T.fr_bool boot_bool) da_nil))))))))
/-! in_range -/
abbrev st_in_range : Stmt := (top 20)
abbrev N_in_range : List Str := ["x", "low", "high"]
theorem sc_in_range : FnScope N_in_range ["x", "low", "high"] (defScope st_in_range) := C8.fnScope_by (by decide +kernel)
theorem e_in_range (a0 a1 a2 : Val) : startD N_in_range [a0, a1, a2] = [some a0, some a1, some a2] := rfl
@[irreducible] def w_in_range (s_whole : DSp) : WS :=
  (wRet (wAndV (wCB s_whole (wCons (wVar 0) wNil)) (wChain leV leV (wVar 1) (wVar 0) (wVar 2))))
theorem b_in_range {s_whole : DSp} (T : Txt K mg C) (c_whole : DCal P w K mg base j "whole" s_whole) (hr : Room j (A.deeper (envOfC "in_range" (defScope st_in_range) sh.heap.objs.size f cdv))) :
    DSs (cxOf C8.CX0 P w K mg base N_in_range "in_range" (defScope st_in_range) f cdv A outer sh H E).nox (defBody st_in_range) (w_in_range s_whole) := by
  have hN := sc_in_range.nd
  have hu := hr.units
  have hu0 := hr.units0
  unfold w_in_range
  exact (dss_one (ds_ret (d_and (d_call c_whole hr (Nat.le_refl _) rfl (da_cons (d_var 0) da_nil)) (d_one (d_chain do_le do_le (d_var 1) (d_var 0) (d_var 2))))))
/-! is_row -/
abbrev st_is_row : Stmt := (top 21)
abbrev N_is_row : List Str := ["x"]
theorem sc_is_row : FnScope N_is_row ["x"] (defScope st_is_row) := C8.fnScope_by (by decide +kernel)
theorem e_is_row (a0 : Val) : startD N_is_row [a0] = [some a0] := rfl
@[irreducible] def w_is_row : WS :=
  (wRet (wCB isaV (wCons (wVar 0) (wCons (wC (.ty "tuple")) wNil))))
theorem b_is_row (T : Txt K mg C) (hr : Room j (A.deeper (envOfC "is_row" (defScope st_is_row) sh.heap.objs.size f cdv))) :
    DSs (cxOf C8.CX0 P w K mg base N_is_row "is_row" (defScope st_is_row) f cdv A outer sh H E).nox (defBody st_is_row) (w_is_row ) := by
  have hN := sc_is_row.nd
  have hu := hr.units
  have hu0 := hr.units0
  unfold w_is_row
  exact (dss_one (ds_ret (d_callB dc_isa rfl T.fr_isinstance boot_isinstance (da_cons (d_var 0) (da_cons (d_ty rfl T.fr_tuple boot_tuple) da_nil)))))
/-! is_row_of -/
abbrev st_is_row_of : Stmt := (top 22)
abbrev N_is_row_of : List Str := ["x", "size"]
theorem sc_is_row_of : FnScope N_is_row_of ["x", "size"] (defScope st_is_row_of) := C8.fnScope_by (by decide +kernel)
theorem e_is_row_of (a0 a1 : Val) : startD N_is_row_of [a0, a1] = [some a0, some a1] := rfl
@[irreducible] def w_is_row_of (s_is_row : DSp) : WS :=
  (wRet (wAndV (wCB s_is_row (wCons (wVar 0) wNil)) (wBin (eqW false) (wCB lenV (wCons (wVar 0) wNil)) (wVar 1))))
theorem b_is_row_of {s_is_row : DSp} (T : Txt K mg C) (c_is_row : DCal P w K mg base j "is_row" s_is_row) (hr : Room j (A.deeper (envOfC "is_row_of" (defScope st_is_row_of) sh.heap.objs.size f cdv))) :
    DSs (cxOf C8.CX0 P w K mg base N_is_row_of "is_row_of" (defScope st_is_row_of) f cdv A outer sh H E).nox (defBody st_is_row_of) (w_is_row_of s_is_row) := by
  have hN := sc_is_row_of.nd
  have hu := hr.units
  have hu0 := hr.units0
  unfold w_is_row_of
  exact (dss_one (ds_ret (d_and (d_call c_is_row hr (Nat.le_refl _) rfl (da_cons (d_var 0) da_nil)) (d_one (d_cmp (do_eq hu) (d_callB dc_len rfl T.fr_len boot_len (da_cons (d_var 0) da_nil)) (d_var 1) rfl)))))
/-! ascending_row -/
abbrev st_ascending_row : Stmt := (top 23)
abbrev N_ascending_row : List Str := ["x", "low", "high", "least", "member"]
theorem sc_ascending_row : FnScope N_ascending_row ["x", "low", "high"] (defScope st_ascending_row) := C8.fnScope_by (by decide +kernel)
theorem e_ascending_row (a0 a1 a2 : Val) : startD N_ascending_row [a0, a1, a2] = [some a0, some a1, some a2, none, none] := rfl
@[irreducible] def w_ascending_row (s_in_range s_is_row : DSp) : WS :=
  (wSeq (wIfS (wNot (wTest (wCB s_is_row (wCons (wVar 0) wNil)))) (wRet (wC (.bl false))) wNext)
  (wSeq (wAsg (wVar 1) (gN 3))
  (wSeq (wFor (wIt (wVar 0)) (gN 4) (wSeq (wIfS (wNot (wTest (wCB s_in_range (wCons (wVar 4) (wCons (wVar 3) (wCons (wVar 2) wNil)))))) (wRet (wC (.bl false))) wNext)
  (wAsg (wBin addV (wVar 4) (wC (.int 1))) (gN 3))))
  (wRet (wC (.bl true))))))
theorem b_ascending_row {s_in_range s_is_row : DSp} (T : Txt K mg C) (c_in_range : DCal P w K mg base j "in_range" s_in_range) (c_is_row : DCal P w K mg base j "is_row" s_is_row) (hr : Room j (A.deeper (envOfC "ascending_row" (defScope st_ascending_row) sh.heap.objs.size f cdv))) :
    DSs (cxOf C8.CX0 P w K mg base N_ascending_row "ascending_row" (defScope st_ascending_row) f cdv A outer sh H E).nox (defBody st_ascending_row) (w_ascending_row s_in_range s_is_row) := by
  have hN := sc_ascending_row.nd
  have hu := hr.units
  have hu0 := hr.units0
  unfold w_ascending_row
  exact (dss_cons (ds_if (dt_not (dt_val (d_call c_is_row hr (Nat.le_refl _) rfl (da_cons (d_var 0) da_nil)))) (dss_one (ds_ret d_bl)) dss_nil)
  (dss_cons (ds_set (k := 3) hN rfl (by first | exact .inl rfl | exact .inr rfl) (d_var 1))
  (dss_cons (ds_for PassesOwn.never rfl (di_of (d_var 0)) (dg_name 4 hN rfl (by first | exact .inl rfl | exact .inr rfl)) (dss_cons (ds_if (dt_not (dt_val (d_call c_in_range hr (Nat.le_refl _) rfl (da_cons (d_var 4) (da_cons (d_var 3) (da_cons (d_var 2) da_nil)))))) (dss_one (ds_ret d_bl)) dss_nil)
  (dss_one (ds_set (k := 3) hN rfl (by first | exact .inl rfl | exact .inr rfl) (d_bin do_add (d_var 4) d_int)))))
  (dss_one (ds_ret d_bl)))))
/-! scope_form -/
abbrev st_scope_form : Stmt := (top 24)
abbrev N_scope_form : List Str := ["counts", "scope", "hours", "places", "nodes", "roles"]
theorem sc_scope_form : FnScope N_scope_form ["counts", "scope"] (defScope st_scope_form) := C8.fnScope_by (by decide +kernel)
theorem e_scope_form (a0 a1 : Val) : startD N_scope_form [a0, a1] = [some a0, some a1, none, none, none, none] := rfl
@[irreducible] def w_scope_form (s_ascending_row s_in_range : DSp) : WS :=
  (wSeq (wAsg2 (wVar 0) (g2of (gT 4 (gsCons (gN 2) (gsCons (gN 3) (gsCons (gN 4) (gsCons (gN 5) gsNil)))))))
  (wSeq (wIfS (wOr (wNot (wTest (wCB s_in_range (wCons (wBin ixV (wVar 1) (wC (.int 0))) (wCons (wC (.int 0)) (wCons (wC (.int 3)) wNil)))))) (wNot (wTest (wCB s_in_range (wCons (wBin ixV (wVar 1) (wC (.int 1))) (wCons (wUn negV (wC (.int 1))) (wCons (wBin subV (wVar 5) (wC (.int 1))) wNil))))))) (wRet (wC (.bl false))) wNext)
  (wSeq (wIfS (wOr (wNot (wTest (wCB s_ascending_row (wCons (wBin ixV (wVar 1) (wC (.int 2))) (wCons (wC (.int 0)) (wCons (wC (.int 12)) wNil)))))) (wNot (wTest (wCB s_in_range (wCons (wBin ixV (wVar 1) (wC (.int 3))) (wCons (wC (.int 0)) (wCons (wBin subV (wVar 4) (wC (.int 1))) wNil))))))) (wRet (wC (.bl false))) wNext)
  (wSeq (wIfS (wNot (wTest (wCB s_in_range (wCons (wBin ixV (wVar 1) (wC (.int 4))) (wCons (wC (.int 0)) (wCons (wC (.int 1)) wNil)))))) (wRet (wC (.bl false))) wNext)
  (wRet (wAndV (wCB s_ascending_row (wCons (wBin ixV (wVar 1) (wC (.int 5))) (wCons (wC (.int 0)) (wCons (wBin subV (wVar 2) (wC (.int 1))) wNil)))) (wCB s_ascending_row (wCons (wBin ixV (wVar 1) (wC (.int 6))) (wCons (wC (.int 0)) (wCons (wBin subV (wVar 3) (wC (.int 1))) wNil))))))))))
theorem b_scope_form {s_ascending_row s_in_range : DSp} (T : Txt K mg C) (c_ascending_row : DCal P w K mg base j "ascending_row" s_ascending_row) (c_in_range : DCal P w K mg base j "in_range" s_in_range) (hr : Room j (A.deeper (envOfC "scope_form" (defScope st_scope_form) sh.heap.objs.size f cdv))) :
    DSs (cxOf C8.CX0 P w K mg base N_scope_form "scope_form" (defScope st_scope_form) f cdv A outer sh H E).nox (defBody st_scope_form) (w_scope_form s_ascending_row s_in_range) := by
  have hN := sc_scope_form.nd
  have hu := hr.units
  have hu0 := hr.units0
  unfold w_scope_form
  exact (dss_cons (ds_asg (d_var 0) (dg2_of (dg_tup 4 rfl (dgs_cons (dg_name 2 hN rfl (by first | exact .inl rfl | exact .inr rfl)) (dgs_cons (dg_name 3 hN rfl (by first | exact .inl rfl | exact .inr rfl)) (dgs_cons (dg_name 4 hN rfl (by first | exact .inl rfl | exact .inr rfl)) (dgs_cons (dg_name 5 hN rfl (by first | exact .inl rfl | exact .inr rfl)) dgs_nil)))))))
  (dss_cons (ds_if (dt_w (dw_or (dt_not (dt_val (d_call c_in_range hr (Nat.le_refl _) rfl (da_cons (d_ix (d_var 1) d_int) (da_cons d_int (da_cons (d_gv rfl (T.gv_MOST_RANK)) da_nil)))))) (dw_or1 (dt_not (dt_val (d_call c_in_range hr (Nat.le_refl _) rfl (da_cons (d_ix (d_var 1) d_int) (da_cons (d_un do_neg d_int) (da_cons (d_bin do_sub (d_var 5) d_int) da_nil))))))))) (dss_one (ds_ret d_bl)) dss_nil)
  (dss_cons (ds_if (dt_w (dw_or (dt_not (dt_val (d_call c_ascending_row hr (Nat.le_refl _) rfl (da_cons (d_ix (d_var 1) d_int) (da_cons d_int (da_cons (d_gv rfl (T.gv_LAST_VERB)) da_nil)))))) (dw_or1 (dt_not (dt_val (d_call c_in_range hr (Nat.le_refl _) rfl (da_cons (d_ix (d_var 1) d_int) (da_cons d_int (da_cons (d_bin do_sub (d_var 4) d_int) da_nil))))))))) (dss_one (ds_ret d_bl)) dss_nil)
  (dss_cons (ds_if (dt_not (dt_val (d_call c_in_range hr (Nat.le_refl _) rfl (da_cons (d_ix (d_var 1) d_int) (da_cons d_int (da_cons d_int da_nil)))))) (dss_one (ds_ret d_bl)) dss_nil)
  (dss_one (ds_ret (d_and (d_call c_ascending_row hr (Nat.le_refl _) rfl (da_cons (d_ix (d_var 1) d_int) (da_cons d_int (da_cons (d_bin do_sub (d_var 2) d_int) da_nil)))) (d_one (d_call c_ascending_row hr (Nat.le_refl _) rfl (da_cons (d_ix (d_var 1) d_int) (da_cons d_int (da_cons (d_bin do_sub (d_var 3) d_int) da_nil))))))))))))
/-! rule_form -/
abbrev st_rule_form : Stmt := (top 25)
abbrev N_rule_form : List Str := ["counts", "row"]
theorem sc_rule_form : FnScope N_rule_form ["counts", "row"] (defScope st_rule_form) := C8.fnScope_by (by decide +kernel)
theorem e_rule_form (a0 a1 : Val) : startD N_rule_form [a0, a1] = [some a0, some a1] := rfl
@[irreducible] def w_rule_form (s_in_range s_is_row_of s_scope_form : DSp) : WS :=
  (wRet (wAndV (wCB s_is_row_of (wCons (wVar 1) (wCons (wC (.int 8)) wNil))) (wAndV (wCB s_in_range (wCons (wBin ixV (wVar 1) (wC (.int 0))) (wCons (wC (.int 0)) (wCons (wC (.int 1)) wNil)))) (wCB s_scope_form (wCons (wVar 0) (wCons (wSl (wVar 1) (wPart (wC (.int 1))) wNo) wNil))))))
theorem b_rule_form {s_in_range s_is_row_of s_scope_form : DSp} (T : Txt K mg C) (c_in_range : DCal P w K mg base j "in_range" s_in_range) (c_is_row_of : DCal P w K mg base j "is_row_of" s_is_row_of) (c_scope_form : DCal P w K mg base j "scope_form" s_scope_form) (hr : Room j (A.deeper (envOfC "rule_form" (defScope st_rule_form) sh.heap.objs.size f cdv))) :
    DSs (cxOf C8.CX0 P w K mg base N_rule_form "rule_form" (defScope st_rule_form) f cdv A outer sh H E).nox (defBody st_rule_form) (w_rule_form s_in_range s_is_row_of s_scope_form) := by
  have hN := sc_rule_form.nd
  have hu := hr.units
  have hu0 := hr.units0
  unfold w_rule_form
  exact (dss_one (ds_ret (d_and (d_call c_is_row_of hr (Nat.le_refl _) rfl (da_cons (d_var 1) (da_cons d_int da_nil))) (d_and (d_call c_in_range hr (Nat.le_refl _) rfl (da_cons (d_ix (d_var 1) d_int) (da_cons d_int (da_cons d_int da_nil)))) (d_one (d_call c_scope_form hr (Nat.le_refl _) rfl (da_cons (d_var 0) (da_cons (d_slice (d_var 1) (do_some d_int) do_no) da_nil))))))))
/-! door_form -/
abbrev st_door_form : Stmt := (top 26)
abbrev N_door_form : List Str := ["counts", "row"]
theorem sc_door_form : FnScope N_door_form ["counts", "row"] (defScope st_door_form) := C8.fnScope_by (by decide +kernel)
theorem e_door_form (a0 a1 : Val) : startD N_door_form [a0, a1] = [some a0, some a1] := rfl
@[irreducible] def w_door_form (s_in_range s_is_row_of s_scope_form : DSp) : WS :=
  (wRet (wAndV (wCB s_is_row_of (wCons (wVar 1) (wCons (wC (.int 8)) wNil))) (wAndV (wCB s_in_range (wCons (wBin ixV (wVar 1) (wC (.int 7))) (wCons (wC (.int 1)) (wCons (wC (.int 6)) wNil)))) (wCB s_scope_form (wCons (wVar 0) (wCons (wSl (wVar 1) wNo (wPart (wC (.int 7)))) wNil))))))
theorem b_door_form {s_in_range s_is_row_of s_scope_form : DSp} (T : Txt K mg C) (c_in_range : DCal P w K mg base j "in_range" s_in_range) (c_is_row_of : DCal P w K mg base j "is_row_of" s_is_row_of) (c_scope_form : DCal P w K mg base j "scope_form" s_scope_form) (hr : Room j (A.deeper (envOfC "door_form" (defScope st_door_form) sh.heap.objs.size f cdv))) :
    DSs (cxOf C8.CX0 P w K mg base N_door_form "door_form" (defScope st_door_form) f cdv A outer sh H E).nox (defBody st_door_form) (w_door_form s_in_range s_is_row_of s_scope_form) := by
  have hN := sc_door_form.nd
  have hu := hr.units
  have hu0 := hr.units0
  unfold w_door_form
  exact (dss_one (ds_ret (d_and (d_call c_is_row_of hr (Nat.le_refl _) rfl (da_cons (d_var 1) (da_cons d_int da_nil))) (d_and (d_call c_in_range hr (Nat.le_refl _) rfl (da_cons (d_ix (d_var 1) d_int) (da_cons d_int (da_cons (d_gv rfl (T.gv_MOST_LIFE)) da_nil)))) (d_one (d_call c_scope_form hr (Nat.le_refl _) rfl (da_cons (d_var 0) (da_cons (d_slice (d_var 1) do_no (do_some d_int)) da_nil))))))))
/-! is_entry -/
abbrev st_is_entry : Stmt := (top 47)
abbrev N_is_entry : List Str := ["frame", "part", "x"]
theorem sc_is_entry : FnScope N_is_entry ["frame", "part", "x"] (defScope st_is_entry) := C8.fnScope_by (by decide +kernel)
theorem e_is_entry (a0 a1 a2 : Val) : startD N_is_entry [a0, a1, a2] = [some a0, some a1, some a2] := rfl
@[irreducible] def w_is_entry (s_in_range : DSp) : WS :=
  (wRet (wCB s_in_range (wCons (wVar 2) (wCons (wC (.int 0)) (wCons (wBin subV (wCB lenV (wCons (wBin ixV (wVar 0) (wVar 1)) wNil)) (wC (.int 1))) wNil)))))
theorem b_is_entry {s_in_range : DSp} (T : Txt K mg C) (c_in_range : DCal P w K mg base j "in_range" s_in_range) (hr : Room j (A.deeper (envOfC "is_entry" (defScope st_is_entry) sh.heap.objs.size f cdv))) :
    DSs (cxOf C8.CX0 P w K mg base N_is_entry "is_entry" (defScope st_is_entry) f cdv A outer sh H E).nox (defBody st_is_entry) (w_is_entry s_in_range) := by
  have hN := sc_is_entry.nd
  have hu := hr.units
  have hu0 := hr.units0
  unfold w_is_entry
  exact (dss_one (ds_ret (d_call c_in_range hr (Nat.le_refl _) rfl (da_cons (d_var 2) (da_cons d_int (da_cons (d_bin do_sub (d_callB dc_len rfl T.fr_len boot_len (da_cons (d_ix (d_var 0) (d_var 1)) da_nil)) d_int) da_nil))))))
/-! is_entry_or_none -/
abbrev st_is_entry_or_none : Stmt := (top 48)
abbrev N_is_entry_or_none : List Str := ["frame", "part", "x"]
theorem sc_is_entry_or_none : FnScope N_is_entry_or_none ["frame", "part", "x"] (defScope st_is_entry_or_none) := C8.fnScope_by (by decide +kernel)
theorem e_is_entry_or_none (a0 a1 a2 : Val) : startD N_is_entry_or_none [a0, a1, a2] = [some a0, some a1, some a2] := rfl
@[irreducible] def w_is_entry_or_none (s_in_range : DSp) : WS :=
  (wRet (wCB s_in_range (wCons (wVar 2) (wCons (wUn negV (wC (.int 1))) (wCons (wBin subV (wCB lenV (wCons (wBin ixV (wVar 0) (wVar 1)) wNil)) (wC (.int 1))) wNil)))))
theorem b_is_entry_or_none {s_in_range : DSp} (T : Txt K mg C) (c_in_range : DCal P w K mg base j "in_range" s_in_range) (hr : Room j (A.deeper (envOfC "is_entry_or_none" (defScope st_is_entry_or_none) sh.heap.objs.size f cdv))) :
    DSs (cxOf C8.CX0 P w K mg base N_is_entry_or_none "is_entry_or_none" (defScope st_is_entry_or_none) f cdv A outer sh H E).nox (defBody st_is_entry_or_none) (w_is_entry_or_none s_in_range) := by
  have hN := sc_is_entry_or_none.nd
  have hu := hr.units
  have hu0 := hr.units0
  unfold w_is_entry_or_none
  exact (dss_one (ds_ret (d_call c_in_range hr (Nat.le_refl _) rfl (da_cons (d_var 2) (da_cons (d_un do_neg d_int) (da_cons (d_bin do_sub (d_callB dc_len rfl T.fr_len boot_len (da_cons (d_ix (d_var 0) (d_var 1)) da_nil)) d_int) da_nil))))))
/-! is_mark_row -/
abbrev st_is_mark_row : Stmt := (top 49)
abbrev N_is_mark_row : List Str := ["frame", "x"]
theorem sc_is_mark_row : FnScope N_is_mark_row ["frame", "x"] (defScope st_is_mark_row) := C8.fnScope_by (by decide +kernel)
theorem e_is_mark_row (a0 a1 : Val) : startD N_is_mark_row [a0, a1] = [some a0, some a1] := rfl
@[irreducible] def w_is_mark_row (s_ascending_row : DSp) : WS :=
  (wRet (wCB s_ascending_row (wCons (wVar 1) (wCons (wC (.int 0)) (wCons (wBin subV (wCB lenV (wCons (wBin ixV (wVar 0) (wC (.int 3))) wNil)) (wC (.int 1))) wNil)))))
theorem b_is_mark_row {s_ascending_row : DSp} (T : Txt K mg C) (c_ascending_row : DCal P w K mg base j "ascending_row" s_ascending_row) (hr : Room j (A.deeper (envOfC "is_mark_row" (defScope st_is_mark_row) sh.heap.objs.size f cdv))) :
    DSs (cxOf C8.CX0 P w K mg base N_is_mark_row "is_mark_row" (defScope st_is_mark_row) f cdv A outer sh H E).nox (defBody st_is_mark_row) (w_is_mark_row s_ascending_row) := by
  have hN := sc_is_mark_row.nd
  have hu := hr.units
  have hu0 := hr.units0
  unfold w_is_mark_row
  exact (dss_one (ds_ret (d_call c_ascending_row hr (Nat.le_refl _) rfl (da_cons (d_var 1) (da_cons d_int (da_cons (d_bin do_sub (d_callB dc_len rfl T.fr_len boot_len (da_cons (d_ix (d_var 0) (d_gv rfl (T.gv_MARKS))) da_nil)) d_int) da_nil))))))
/-! is_verb_row -/
abbrev st_is_verb_row : Stmt := (top 50)
abbrev N_is_verb_row : List Str := ["x"]
theorem sc_is_verb_row : FnScope N_is_verb_row ["x"] (defScope st_is_verb_row) := C8.fnScope_by (by decide +kernel)
theorem e_is_verb_row (a0 : Val) : startD N_is_verb_row [a0] = [some a0] := rfl
@[irreducible] def w_is_verb_row (s_ascending_row : DSp) : WS :=
  (wRet (wCB s_ascending_row (wCons (wVar 0) (wCons (wC (.int 0)) (wCons (wC (.int 12)) wNil)))))
theorem b_is_verb_row {s_ascending_row : DSp} (T : Txt K mg C) (c_ascending_row : DCal P w K mg base j "ascending_row" s_ascending_row) (hr : Room j (A.deeper (envOfC "is_verb_row" (defScope st_is_verb_row) sh.heap.objs.size f cdv))) :
    DSs (cxOf C8.CX0 P w K mg base N_is_verb_row "is_verb_row" (defScope st_is_verb_row) f cdv A outer sh H E).nox (defBody st_is_verb_row) (w_is_verb_row s_ascending_row) := by
  have hN := sc_is_verb_row.nd
  have hu := hr.units
  have hu0 := hr.units0
  unfold w_is_verb_row
  exact (dss_one (ds_ret (d_call c_ascending_row hr (Nat.le_refl _) rfl (da_cons (d_var 0) (da_cons d_int (da_cons (d_gv rfl (T.gv_LAST_VERB)) da_nil))))))
/-! are_roles -/
abbrev st_are_roles : Stmt := (top 51)
abbrev N_are_roles : List Str := ["frame", "row", "role"]
theorem sc_are_roles : FnScope N_are_roles ["frame", "row"] (defScope st_are_roles) := C8.fnScope_by (by decide +kernel)
theorem e_are_roles (a0 a1 : Val) : startD N_are_roles [a0, a1] = [some a0, some a1, none] := rfl
@[irreducible] def w_are_roles (s_is_entry_or_none : DSp) : WS :=
  (wRet (wCL allW (wLc (wIt (wVar 1)) (gN 2) wYes (wCB s_is_entry_or_none (wCons (wVar 0) (wCons (wC (.int 5)) (wCons (wVar 2) wNil)))) [2])))
theorem b_are_roles {s_is_entry_or_none : DSp} (T : Txt K mg C) (c_is_entry_or_none : DCal P w K mg base j "is_entry_or_none" s_is_entry_or_none) (hr : Room j (A.deeper (envOfC "are_roles" (defScope st_are_roles) sh.heap.objs.size f cdv))) :
    DSs (cxOf C8.CX0 P w K mg base N_are_roles "are_roles" (defScope st_are_roles) f cdv A outer sh H E).nox (defBody st_are_roles) (w_are_roles s_is_entry_or_none) := by
  have hN := sc_are_roles.nd
  have hu := hr.units
  have hu0 := hr.units0
  unfold w_are_roles
  exact (dss_one (ds_ret (d_callBL (dc_all rfl) rfl T.fr_all boot_all (dl_lc (own := [("role", 2)]) rfl hN (di_of (d_var 1)) (blkOk_by (by show blkC N_are_roles (defScope st_are_roles) _ _ = true; decide +kernel)) (fun _ _ _ _ _ => (dg_name 2 hN rfl (by first | exact .inl rfl | exact .inr rfl))) (fun _ _ _ _ _ => dts_nil) (fun _ _ _ _ _ => (d_call c_is_entry_or_none hr (Nat.le_refl _) rfl (da_cons (d_var 0) (da_cons (d_gv rfl (T.gv_ROLES)) (da_cons (d_var 2) da_nil)))))))))
/-! counts_of -/
abbrev st_counts_of : Stmt := (top 52)
abbrev N_counts_of : List Str := ["frame"]
theorem sc_counts_of : FnScope N_counts_of ["frame"] (defScope st_counts_of) := C8.fnScope_by (by decide +kernel)
theorem e_counts_of (a0 : Val) : startD N_counts_of [a0] = [some a0] := rfl
@[irreducible] def w_counts_of : WS :=
  (wRet (wTup (wCons (wBin ixV (wBin ixV (wVar 0) (wC (.int 0))) (wC (.int 0))) (wCons (wBin ixV (wBin ixV (wVar 0) (wC (.int 0))) (wC (.int 1))) (wCons (wCB lenV (wCons (wBin ixV (wVar 0) (wC (.int 1))) wNil)) (wCons (wCB lenV (wCons (wBin ixV (wVar 0) (wC (.int 5))) wNil)) wNil))))))
theorem b_counts_of (T : Txt K mg C) (hr : Room j (A.deeper (envOfC "counts_of" (defScope st_counts_of) sh.heap.objs.size f cdv))) :
    DSs (cxOf C8.CX0 P w K mg base N_counts_of "counts_of" (defScope st_counts_of) f cdv A outer sh H E).nox (defBody st_counts_of) (w_counts_of ) := by
  have hN := sc_counts_of.nd
  have hu := hr.units
  have hu0 := hr.units0
  unfold w_counts_of
  exact (dss_one (ds_ret (d_tup (da_cons (d_ix (d_ix (d_var 0) (d_gv rfl (T.gv_NUMBERS))) d_int) (da_cons (d_ix (d_ix (d_var 0) (d_gv rfl (T.gv_NUMBERS))) d_int) (da_cons (d_callB dc_len rfl T.fr_len boot_len (da_cons (d_ix (d_var 0) (d_gv rfl (T.gv_NODES))) da_nil)) (da_cons (d_callB dc_len rfl T.fr_len boot_len (da_cons (d_ix (d_var 0) (d_gv rfl (T.gv_ROLES))) da_nil)) da_nil)))))))
/-! node_form -/
abbrev st_node_form : Stmt := (top 53)
abbrev N_node_form : List Str := ["frame", "index", "entry"]
theorem sc_node_form : FnScope N_node_form ["frame", "index", "entry"] (defScope st_node_form) := C8.fnScope_by (by decide +kernel)
theorem e_node_form (a0 a1 a2 : Val) : startD N_node_form [a0, a1, a2] = [some a0, some a1, some a2] := rfl
@[irreducible] def w_node_form (s_in_range : DSp) : WS :=
  (wSeq (wIfS (wTest (wBin (eqW false) (wVar 1) (wC (.int 0)))) (wRet (wCB s_in_range (wCons (wVar 2) (wCons (wUn negV (wC (.int 1))) (wCons (wUn negV (wC (.int 1))) wNil))))) wNext)
  (wRet (wCB s_in_range (wCons (wVar 2) (wCons (wC (.int 0)) (wCons (wBin subV (wVar 1) (wC (.int 1))) wNil))))))
theorem b_node_form {s_in_range : DSp} (T : Txt K mg C) (c_in_range : DCal P w K mg base j "in_range" s_in_range) (hr : Room j (A.deeper (envOfC "node_form" (defScope st_node_form) sh.heap.objs.size f cdv))) :
    DSs (cxOf C8.CX0 P w K mg base N_node_form "node_form" (defScope st_node_form) f cdv A outer sh H E).nox (defBody st_node_form) (w_node_form s_in_range) := by
  have hN := sc_node_form.nd
  have hu := hr.units
  have hu0 := hr.units0
  unfold w_node_form
  exact (dss_cons (ds_if (dt_cmp (do_eq hu) (d_var 1) d_int rfl) (dss_one (ds_ret (d_call c_in_range hr (Nat.le_refl _) rfl (da_cons (d_var 2) (da_cons (d_un do_neg d_int) (da_cons (d_un do_neg d_int) da_nil)))))) dss_nil)
  (dss_one (ds_ret (d_call c_in_range hr (Nat.le_refl _) rfl (da_cons (d_var 2) (da_cons d_int (da_cons (d_bin do_sub (d_var 1) d_int) da_nil)))))))
/-! team_form -/
abbrev st_team_form : Stmt := (top 54)
abbrev N_team_form : List Str := ["frame", "index", "entry"]
theorem sc_team_form : FnScope N_team_form ["frame", "index", "entry"] (defScope st_team_form) := C8.fnScope_by (by decide +kernel)
theorem e_team_form (a0 a1 a2 : Val) : startD N_team_form [a0, a1, a2] = [some a0, some a1, some a2] := rfl
@[irreducible] def w_team_form (s_are_roles s_in_range s_is_entry s_is_row_of : DSp) : WS :=
  (wSeq (wIfS (wNot (wTest (wCB s_is_row_of (wCons (wVar 2) (wCons (wC (.int 4)) wNil))))) (wRet (wC (.bl false))) wNext)
  (wRet (wAndV (wCB s_in_range (wCons (wBin ixV (wVar 2) (wC (.int 0))) (wCons (wUn negV (wC (.int 1))) (wCons (wBin subV (wVar 1) (wC (.int 1))) wNil)))) (wAndV (wCB s_is_entry (wCons (wVar 0) (wCons (wC (.int 1)) (wCons (wBin ixV (wVar 2) (wC (.int 1))) wNil)))) (wCB s_are_roles (wCons (wVar 0) (wCons (wSl (wVar 2) (wPart (wC (.int 2))) wNo) wNil)))))))
theorem b_team_form {s_are_roles s_in_range s_is_entry s_is_row_of : DSp} (T : Txt K mg C) (c_are_roles : DCal P w K mg base j "are_roles" s_are_roles) (c_in_range : DCal P w K mg base j "in_range" s_in_range) (c_is_entry : DCal P w K mg base j "is_entry" s_is_entry) (c_is_row_of : DCal P w K mg base j "is_row_of" s_is_row_of) (hr : Room j (A.deeper (envOfC "team_form" (defScope st_team_form) sh.heap.objs.size f cdv))) :
    DSs (cxOf C8.CX0 P w K mg base N_team_form "team_form" (defScope st_team_form) f cdv A outer sh H E).nox (defBody st_team_form) (w_team_form s_are_roles s_in_range s_is_entry s_is_row_of) := by
  have hN := sc_team_form.nd
  have hu := hr.units
  have hu0 := hr.units0
  unfold w_team_form
  exact (dss_cons (ds_if (dt_not (dt_val (d_call c_is_row_of hr (Nat.le_refl _) rfl (da_cons (d_var 2) (da_cons d_int da_nil))))) (dss_one (ds_ret d_bl)) dss_nil)
  (dss_one (ds_ret (d_and (d_call c_in_range hr (Nat.le_refl _) rfl (da_cons (d_ix (d_var 2) d_int) (da_cons (d_un do_neg d_int) (da_cons (d_bin do_sub (d_var 1) d_int) da_nil)))) (d_and (d_call c_is_entry hr (Nat.le_refl _) rfl (da_cons (d_var 0) (da_cons (d_gv rfl (T.gv_NODES)) (da_cons (d_ix (d_var 2) d_int) da_nil)))) (d_one (d_call c_are_roles hr (Nat.le_refl _) rfl (da_cons (d_var 0) (da_cons (d_slice (d_var 2) (do_some d_int) do_no) da_nil)))))))))
/-! mark_form -/
abbrev st_mark_form : Stmt := (top 55)
abbrev N_mark_form : List Str := ["frame", "index", "entry"]
theorem sc_mark_form : FnScope N_mark_form ["frame", "index", "entry"] (defScope st_mark_form) := C8.fnScope_by (by decide +kernel)
theorem e_mark_form (a0 a1 a2 : Val) : startD N_mark_form [a0, a1, a2] = [some a0, some a1, some a2] := rfl
@[irreducible] def w_mark_form (s_are_roles s_in_range s_is_entry s_is_row_of : DSp) : WS :=
  (wSeq (wIfS (wNot (wTest (wCB s_is_row_of (wCons (wVar 2) (wCons (wC (.int 4)) wNil))))) (wRet (wC (.bl false))) wNext)
  (wRet (wAndV (wCB s_is_entry (wCons (wVar 0) (wCons (wC (.int 1)) (wCons (wBin ixV (wVar 2) (wC (.int 0))) wNil)))) (wAndV (wCB s_are_roles (wCons (wVar 0) (wCons (wSl (wVar 2) (wPart (wC (.int 1))) (wPart (wC (.int 3)))) wNil))) (wCB s_in_range (wCons (wBin ixV (wVar 2) (wC (.int 3))) (wCons (wC (.int 1)) (wCons (wC (.int 2)) wNil))))))))
theorem b_mark_form {s_are_roles s_in_range s_is_entry s_is_row_of : DSp} (T : Txt K mg C) (c_are_roles : DCal P w K mg base j "are_roles" s_are_roles) (c_in_range : DCal P w K mg base j "in_range" s_in_range) (c_is_entry : DCal P w K mg base j "is_entry" s_is_entry) (c_is_row_of : DCal P w K mg base j "is_row_of" s_is_row_of) (hr : Room j (A.deeper (envOfC "mark_form" (defScope st_mark_form) sh.heap.objs.size f cdv))) :
    DSs (cxOf C8.CX0 P w K mg base N_mark_form "mark_form" (defScope st_mark_form) f cdv A outer sh H E).nox (defBody st_mark_form) (w_mark_form s_are_roles s_in_range s_is_entry s_is_row_of) := by
  have hN := sc_mark_form.nd
  have hu := hr.units
  have hu0 := hr.units0
  unfold w_mark_form
  exact (dss_cons (ds_if (dt_not (dt_val (d_call c_is_row_of hr (Nat.le_refl _) rfl (da_cons (d_var 2) (da_cons d_int da_nil))))) (dss_one (ds_ret d_bl)) dss_nil)
  (dss_one (ds_ret (d_and (d_call c_is_entry hr (Nat.le_refl _) rfl (da_cons (d_var 0) (da_cons (d_gv rfl (T.gv_NODES)) (da_cons (d_ix (d_var 2) d_int) da_nil)))) (d_and (d_call c_are_roles hr (Nat.le_refl _) rfl (da_cons (d_var 0) (da_cons (d_slice (d_var 2) (do_some d_int) (do_some d_int)) da_nil))) (d_one (d_call c_in_range hr (Nat.le_refl _) rfl (da_cons (d_ix (d_var 2) d_int) (da_cons d_int (da_cons d_int da_nil))))))))))
/-! kind_form -/
abbrev st_kind_form : Stmt := (top 56)
abbrev N_kind_form : List Str := ["frame", "index", "entry"]
theorem sc_kind_form : FnScope N_kind_form ["frame", "index", "entry"] (defScope st_kind_form) := C8.fnScope_by (by decide +kernel)
theorem e_kind_form (a0 a1 a2 : Val) : startD N_kind_form [a0, a1, a2] = [some a0, some a1, some a2] := rfl
@[irreducible] def w_kind_form (s_is_entry s_is_mark_row s_is_row_of : DSp) : WS :=
  (wRet (wAndV (wCB s_is_row_of (wCons (wVar 2) (wCons (wC (.int 2)) wNil))) (wAndV (wCB s_is_entry (wCons (wVar 0) (wCons (wC (.int 2)) (wCons (wBin ixV (wVar 2) (wC (.int 0))) wNil)))) (wCB s_is_mark_row (wCons (wVar 0) (wCons (wBin ixV (wVar 2) (wC (.int 1))) wNil))))))
theorem b_kind_form {s_is_entry s_is_mark_row s_is_row_of : DSp} (T : Txt K mg C) (c_is_entry : DCal P w K mg base j "is_entry" s_is_entry) (c_is_mark_row : DCal P w K mg base j "is_mark_row" s_is_mark_row) (c_is_row_of : DCal P w K mg base j "is_row_of" s_is_row_of) (hr : Room j (A.deeper (envOfC "kind_form" (defScope st_kind_form) sh.heap.objs.size f cdv))) :
    DSs (cxOf C8.CX0 P w K mg base N_kind_form "kind_form" (defScope st_kind_form) f cdv A outer sh H E).nox (defBody st_kind_form) (w_kind_form s_is_entry s_is_mark_row s_is_row_of) := by
  have hN := sc_kind_form.nd
  have hu := hr.units
  have hu0 := hr.units0
  unfold w_kind_form
  exact (dss_one (ds_ret (d_and (d_call c_is_row_of hr (Nat.le_refl _) rfl (da_cons (d_var 2) (da_cons d_int da_nil))) (d_and (d_call c_is_entry hr (Nat.le_refl _) rfl (da_cons (d_var 0) (da_cons (d_gv rfl (T.gv_TEAMS)) (da_cons (d_ix (d_var 2) d_int) da_nil)))) (d_one (d_call c_is_mark_row hr (Nat.le_refl _) rfl (da_cons (d_var 0) (da_cons (d_ix (d_var 2) d_int) da_nil))))))))
/-! clause_form -/
abbrev st_clause_form : Stmt := (top 57)
abbrev N_clause_form : List Str := ["frame", "role", "clause"]
theorem sc_clause_form : FnScope N_clause_form ["frame", "role", "clause"] (defScope st_clause_form) := C8.fnScope_by (by decide +kernel)
theorem e_clause_form (a0 a1 a2 : Val) : startD N_clause_form [a0, a1, a2] = [some a0, some a1, some a2] := rfl
@[irreducible] def w_clause_form (s_in_range s_is_entry_or_none s_is_mark_row s_is_row_of : DSp) : WS :=
  (wSeq (wIfS (wNot (wTest (wCB s_is_row_of (wCons (wVar 2) (wCons (wC (.int 5)) wNil))))) (wRet (wC (.bl false))) wNext)
  (wSeq (wIfS (wOr (wNot (wTest (wCB s_is_entry_or_none (wCons (wVar 0) (wCons (wC (.int 4)) (wCons (wBin ixV (wVar 2) (wC (.int 0))) wNil)))))) (wNot (wTest (wCB s_is_entry_or_none (wCons (wVar 0) (wCons (wC (.int 2)) (wCons (wBin ixV (wVar 2) (wC (.int 1))) wNil))))))) (wRet (wC (.bl false))) wNext)
  (wSeq (wIfS (wOr (wNot (wTest (wCB s_is_mark_row (wCons (wVar 0) (wCons (wBin ixV (wVar 2) (wC (.int 2))) wNil))))) (wNot (wTest (wCB s_is_mark_row (wCons (wVar 0) (wCons (wBin ixV (wVar 2) (wC (.int 3))) wNil)))))) (wRet (wC (.bl false))) wNext)
  (wRet (wCB s_in_range (wCons (wBin ixV (wVar 2) (wC (.int 4))) (wCons (wUn negV (wC (.int 1))) (wCons (wBin subV (wVar 1) (wC (.int 1))) wNil))))))))
theorem b_clause_form {s_in_range s_is_entry_or_none s_is_mark_row s_is_row_of : DSp} (T : Txt K mg C) (c_in_range : DCal P w K mg base j "in_range" s_in_range) (c_is_entry_or_none : DCal P w K mg base j "is_entry_or_none" s_is_entry_or_none) (c_is_mark_row : DCal P w K mg base j "is_mark_row" s_is_mark_row) (c_is_row_of : DCal P w K mg base j "is_row_of" s_is_row_of) (hr : Room j (A.deeper (envOfC "clause_form" (defScope st_clause_form) sh.heap.objs.size f cdv))) :
    DSs (cxOf C8.CX0 P w K mg base N_clause_form "clause_form" (defScope st_clause_form) f cdv A outer sh H E).nox (defBody st_clause_form) (w_clause_form s_in_range s_is_entry_or_none s_is_mark_row s_is_row_of) := by
  have hN := sc_clause_form.nd
  have hu := hr.units
  have hu0 := hr.units0
  unfold w_clause_form
  exact (dss_cons (ds_if (dt_not (dt_val (d_call c_is_row_of hr (Nat.le_refl _) rfl (da_cons (d_var 2) (da_cons d_int da_nil))))) (dss_one (ds_ret d_bl)) dss_nil)
  (dss_cons (ds_if (dt_w (dw_or (dt_not (dt_val (d_call c_is_entry_or_none hr (Nat.le_refl _) rfl (da_cons (d_var 0) (da_cons (d_gv rfl (T.gv_KINDS)) (da_cons (d_ix (d_var 2) d_int) da_nil)))))) (dw_or1 (dt_not (dt_val (d_call c_is_entry_or_none hr (Nat.le_refl _) rfl (da_cons (d_var 0) (da_cons (d_gv rfl (T.gv_TEAMS)) (da_cons (d_ix (d_var 2) d_int) da_nil))))))))) (dss_one (ds_ret d_bl)) dss_nil)
  (dss_cons (ds_if (dt_w (dw_or (dt_not (dt_val (d_call c_is_mark_row hr (Nat.le_refl _) rfl (da_cons (d_var 0) (da_cons (d_ix (d_var 2) d_int) da_nil))))) (dw_or1 (dt_not (dt_val (d_call c_is_mark_row hr (Nat.le_refl _) rfl (da_cons (d_var 0) (da_cons (d_ix (d_var 2) d_int) da_nil)))))))) (dss_one (ds_ret d_bl)) dss_nil)
  (dss_one (ds_ret (d_call c_in_range hr (Nat.le_refl _) rfl (da_cons (d_ix (d_var 2) d_int) (da_cons (d_un do_neg d_int) (da_cons (d_bin do_sub (d_var 1) d_int) da_nil)))))))))
/-! role_form -/
abbrev st_role_form : Stmt := (top 58)
abbrev N_role_form : List Str := ["frame", "index", "entry", "clause"]
theorem sc_role_form : FnScope N_role_form ["frame", "index", "entry"] (defScope st_role_form) := C8.fnScope_by (by decide +kernel)
theorem e_role_form (a0 a1 a2 : Val) : startD N_role_form [a0, a1, a2] = [some a0, some a1, some a2, none] := rfl
@[irreducible] def w_role_form (s_clause_form s_is_row : DSp) : WS :=
  (wSeq (wIfS (wOr (wNot (wTest (wCB s_is_row (wCons (wVar 2) wNil)))) (wNot (wTest (wChain leV leV (wC (.int 1)) (wCB lenV (wCons (wVar 2) wNil)) (wC (.int 3)))))) (wRet (wC (.bl false))) wNext)
  (wRet (wCL allW (wLc (wIt (wVar 2)) (gN 3) wYes (wCB s_clause_form (wCons (wVar 0) (wCons (wVar 1) (wCons (wVar 3) wNil)))) [3]))))
theorem b_role_form {s_clause_form s_is_row : DSp} (T : Txt K mg C) (c_clause_form : DCal P w K mg base j "clause_form" s_clause_form) (c_is_row : DCal P w K mg base j "is_row" s_is_row) (hr : Room j (A.deeper (envOfC "role_form" (defScope st_role_form) sh.heap.objs.size f cdv))) :
    DSs (cxOf C8.CX0 P w K mg base N_role_form "role_form" (defScope st_role_form) f cdv A outer sh H E).nox (defBody st_role_form) (w_role_form s_clause_form s_is_row) := by
  have hN := sc_role_form.nd
  have hu := hr.units
  have hu0 := hr.units0
  unfold w_role_form
  exact (dss_cons (ds_if (dt_w (dw_or (dt_not (dt_val (d_call c_is_row hr (Nat.le_refl _) rfl (da_cons (d_var 2) da_nil)))) (dw_or1 (dt_not (dt_chain do_le do_le d_int (d_callB dc_len rfl T.fr_len boot_len (da_cons (d_var 2) da_nil)) (d_gv rfl (T.gv_MOST_CLAUSES))))))) (dss_one (ds_ret d_bl)) dss_nil)
  (dss_one (ds_ret (d_callBL (dc_all rfl) rfl T.fr_all boot_all (dl_lc (own := [("clause", 3)]) rfl hN (di_of (d_var 2)) (blkOk_by (by show blkC N_role_form (defScope st_role_form) _ _ = true; decide +kernel)) (fun _ _ _ _ _ => (dg_name 3 hN rfl (by first | exact .inl rfl | exact .inr rfl))) (fun _ _ _ _ _ => dts_nil) (fun _ _ _ _ _ => (d_call c_clause_form hr (Nat.le_refl _) rfl (da_cons (d_var 0) (da_cons (d_var 1) (da_cons (d_var 3) da_nil))))))))))
/-! parted_form -/
abbrev st_parted_form : Stmt := (top 59)
abbrev N_parted_form : List Str := ["frame", "index", "entry"]
theorem sc_parted_form : FnScope N_parted_form ["frame", "index", "entry"] (defScope st_parted_form) := C8.fnScope_by (by decide +kernel)
theorem e_parted_form (a0 a1 a2 : Val) : startD N_parted_form [a0, a1, a2] = [some a0, some a1, some a2] := rfl
@[irreducible] def w_parted_form (s_in_range s_is_entry s_is_row_of : DSp) : WS :=
  (wSeq (wIfS (wOr (wNot (wTest (wCB s_is_row_of (wCons (wVar 2) (wCons (wC (.int 2)) wNil))))) (wNot (wTest (wCB s_is_entry (wCons (wVar 0) (wCons (wC (.int 5)) (wCons (wBin ixV (wVar 2) (wC (.int 0))) wNil))))))) (wRet (wC (.bl false))) wNext)
  (wSeq (wIfS (wNot (wTest (wCB s_in_range (wCons (wBin ixV (wVar 2) (wC (.int 1))) (wCons (wBin addV (wBin ixV (wVar 2) (wC (.int 0))) (wC (.int 1))) (wCons (wBin subV (wCB lenV (wCons (wBin ixV (wVar 0) (wC (.int 5))) wNil)) (wC (.int 1))) wNil)))))) (wRet (wC (.bl false))) wNext)
  (wRet (wOrV (wBin (eqW false) (wVar 1) (wC (.int 0))) (wBin gtT (wVar 2) (wBin ixV (wBin ixV (wVar 0) (wC (.int 6))) (wBin subV (wVar 1) (wC (.int 1)))))))))
theorem b_parted_form {s_in_range s_is_entry s_is_row_of : DSp} (T : Txt K mg C) (c_in_range : DCal P w K mg base j "in_range" s_in_range) (c_is_entry : DCal P w K mg base j "is_entry" s_is_entry) (c_is_row_of : DCal P w K mg base j "is_row_of" s_is_row_of) (hr : Room j (A.deeper (envOfC "parted_form" (defScope st_parted_form) sh.heap.objs.size f cdv))) :
    DSs (cxOf C8.CX0 P w K mg base N_parted_form "parted_form" (defScope st_parted_form) f cdv A outer sh H E).nox (defBody st_parted_form) (w_parted_form s_in_range s_is_entry s_is_row_of) := by
  have hN := sc_parted_form.nd
  have hu := hr.units
  have hu0 := hr.units0
  unfold w_parted_form
  exact (dss_cons (ds_if (dt_w (dw_or (dt_not (dt_val (d_call c_is_row_of hr (Nat.le_refl _) rfl (da_cons (d_var 2) (da_cons d_int da_nil))))) (dw_or1 (dt_not (dt_val (d_call c_is_entry hr (Nat.le_refl _) rfl (da_cons (d_var 0) (da_cons (d_gv rfl (T.gv_ROLES)) (da_cons (d_ix (d_var 2) d_int) da_nil))))))))) (dss_one (ds_ret d_bl)) dss_nil)
  (dss_cons (ds_if (dt_not (dt_val (d_call c_in_range hr (Nat.le_refl _) rfl (da_cons (d_ix (d_var 2) d_int) (da_cons (d_bin do_add (d_ix (d_var 2) d_int) d_int) (da_cons (d_bin do_sub (d_callB dc_len rfl T.fr_len boot_len (da_cons (d_ix (d_var 0) (d_gv rfl (T.gv_ROLES))) da_nil)) d_int) da_nil)))))) (dss_one (ds_ret d_bl)) dss_nil)
  (dss_one (ds_ret (d_or (d_cmp (do_eq hu) (d_var 1) d_int rfl) (d_one (d_cmp (do_gtT hu0) (d_var 2) (d_ix (d_ix (d_var 0) (d_gv rfl (T.gv_PARTED))) (d_bin do_sub (d_var 1) d_int)) rfl)))))))
/-! pass_form -/
abbrev st_pass_form : Stmt := (top 60)
abbrev N_pass_form : List Str := ["frame", "entry"]
theorem sc_pass_form : FnScope N_pass_form ["frame", "entry"] (defScope st_pass_form) := C8.fnScope_by (by decide +kernel)
theorem e_pass_form (a0 a1 : Val) : startD N_pass_form [a0, a1] = [some a0, some a1] := rfl
@[irreducible] def w_pass_form (s_are_roles s_is_row_of : DSp) : WS :=
  (wRet (wAndV (wCB s_is_row_of (wCons (wVar 1) (wCons (wC (.int 2)) wNil))) (wCB s_are_roles (wCons (wVar 0) (wCons (wVar 1) wNil)))))
theorem b_pass_form {s_are_roles s_is_row_of : DSp} (T : Txt K mg C) (c_are_roles : DCal P w K mg base j "are_roles" s_are_roles) (c_is_row_of : DCal P w K mg base j "is_row_of" s_is_row_of) (hr : Room j (A.deeper (envOfC "pass_form" (defScope st_pass_form) sh.heap.objs.size f cdv))) :
    DSs (cxOf C8.CX0 P w K mg base N_pass_form "pass_form" (defScope st_pass_form) f cdv A outer sh H E).nox (defBody st_pass_form) (w_pass_form s_are_roles s_is_row_of) := by
  have hN := sc_pass_form.nd
  have hu := hr.units
  have hu0 := hr.units0
  unfold w_pass_form
  exact (dss_one (ds_ret (d_and (d_call c_is_row_of hr (Nat.le_refl _) rfl (da_cons (d_var 1) (da_cons d_int da_nil))) (d_one (d_call c_are_roles hr (Nat.le_refl _) rfl (da_cons (d_var 0) (da_cons (d_var 1) da_nil)))))))
/-! lot_form -/
abbrev st_lot_form : Stmt := (top 61)
abbrev N_lot_form : List Str := ["frame", "index", "entry", "passes", "row"]
theorem sc_lot_form : FnScope N_lot_form ["frame", "index", "entry"] (defScope st_lot_form) := C8.fnScope_by (by decide +kernel)
theorem e_lot_form (a0 a1 a2 : Val) : startD N_lot_form [a0, a1, a2] = [some a0, some a1, some a2, none, none] := rfl
@[irreducible] def w_lot_form (s_are_roles s_in_range s_is_entry s_is_row s_is_row_of s_is_verb_row s_pass_form : DSp) : WS :=
  (wSeq (wIfS (wNot (wTest (wCB s_is_row_of (wCons (wVar 2) (wCons (wC (.int 8)) wNil))))) (wRet (wC (.bl false))) wNext)
  (wSeq (wIfS (wOr (wNot (wTest (wCB s_is_entry (wCons (wVar 0) (wCons (wC (.int 1)) (wCons (wBin ixV (wVar 2) (wC (.int 0))) wNil)))))) (wOr (wNot (wTest (wCB s_is_verb_row (wCons (wBin ixV (wVar 2) (wC (.int 1))) wNil)))) (wNot (wTest (wCB s_in_range (wCons (wBin ixV (wVar 2) (wC (.int 2))) (wCons (wC (.int 0)) (wCons (wC (.int 3)) wNil)))))))) (wRet (wC (.bl false))) wNext)
  (wSeq (wIfS (wOr (wNot (wTest (wCB s_in_range (wCons (wBin ixV (wVar 2) (wC (.int 3))) (wCons (wC (.int 0)) (wCons (wC (.int 2)) wNil)))))) (wNot (wTest (wCB s_in_range (wCons (wBin ixV (wVar 2) (wC (.int 4))) (wCons (wC (.int 1)) (wCons (wC (.int 6)) wNil))))))) (wRet (wC (.bl false))) wNext)
  (wSeq (wAsg (wBin ixV (wVar 2) (wC (.int 7))) (gN 3))
  (wSeq (wIfS (wOr (wNot (wTest (wCB s_are_roles (wCons (wVar 0) (wCons (wSl (wVar 2) (wPart (wC (.int 5))) (wPart (wC (.int 7)))) wNil))))) (wOr (wNot (wTest (wCB s_is_row (wCons (wVar 3) wNil)))) (wTest (wBin gtV (wCB lenV (wCons (wVar 3) wNil)) (wC (.int 3)))))) (wRet (wC (.bl false))) wNext)
  (wRet (wCL allW (wLc (wIt (wVar 3)) (gN 4) wYes (wCB s_pass_form (wCons (wVar 0) (wCons (wVar 4) wNil))) [4]))))))))
theorem b_lot_form {s_are_roles s_in_range s_is_entry s_is_row s_is_row_of s_is_verb_row s_pass_form : DSp} (T : Txt K mg C) (c_are_roles : DCal P w K mg base j "are_roles" s_are_roles) (c_in_range : DCal P w K mg base j "in_range" s_in_range) (c_is_entry : DCal P w K mg base j "is_entry" s_is_entry) (c_is_row : DCal P w K mg base j "is_row" s_is_row) (c_is_row_of : DCal P w K mg base j "is_row_of" s_is_row_of) (c_is_verb_row : DCal P w K mg base j "is_verb_row" s_is_verb_row) (c_pass_form : DCal P w K mg base j "pass_form" s_pass_form) (hr : Room j (A.deeper (envOfC "lot_form" (defScope st_lot_form) sh.heap.objs.size f cdv))) :
    DSs (cxOf C8.CX0 P w K mg base N_lot_form "lot_form" (defScope st_lot_form) f cdv A outer sh H E).nox (defBody st_lot_form) (w_lot_form s_are_roles s_in_range s_is_entry s_is_row s_is_row_of s_is_verb_row s_pass_form) := by
  have hN := sc_lot_form.nd
  have hu := hr.units
  have hu0 := hr.units0
  unfold w_lot_form
  exact (dss_cons (ds_if (dt_not (dt_val (d_call c_is_row_of hr (Nat.le_refl _) rfl (da_cons (d_var 2) (da_cons d_int da_nil))))) (dss_one (ds_ret d_bl)) dss_nil)
  (dss_cons (ds_if (dt_w (dw_or (dt_not (dt_val (d_call c_is_entry hr (Nat.le_refl _) rfl (da_cons (d_var 0) (da_cons (d_gv rfl (T.gv_NODES)) (da_cons (d_ix (d_var 2) d_int) da_nil)))))) (dw_or (dt_not (dt_val (d_call c_is_verb_row hr (Nat.le_refl _) rfl (da_cons (d_ix (d_var 2) d_int) da_nil)))) (dw_or1 (dt_not (dt_val (d_call c_in_range hr (Nat.le_refl _) rfl (da_cons (d_ix (d_var 2) d_int) (da_cons d_int (da_cons (d_gv rfl (T.gv_MOST_RANK)) da_nil)))))))))) (dss_one (ds_ret d_bl)) dss_nil)
  (dss_cons (ds_if (dt_w (dw_or (dt_not (dt_val (d_call c_in_range hr (Nat.le_refl _) rfl (da_cons (d_ix (d_var 2) d_int) (da_cons d_int (da_cons (d_gv rfl (T.gv_MOST_DEPTH)) da_nil)))))) (dw_or1 (dt_not (dt_val (d_call c_in_range hr (Nat.le_refl _) rfl (da_cons (d_ix (d_var 2) d_int) (da_cons d_int (da_cons (d_gv rfl (T.gv_MOST_LIFE)) da_nil))))))))) (dss_one (ds_ret d_bl)) dss_nil)
  (dss_cons (ds_set (k := 3) hN rfl (by first | exact .inl rfl | exact .inr rfl) (d_ix (d_var 2) d_int))
  (dss_cons (ds_if (dt_w (dw_or (dt_not (dt_val (d_call c_are_roles hr (Nat.le_refl _) rfl (da_cons (d_var 0) (da_cons (d_slice (d_var 2) (do_some d_int) (do_some d_int)) da_nil))))) (dw_or (dt_not (dt_val (d_call c_is_row hr (Nat.le_refl _) rfl (da_cons (d_var 3) da_nil)))) (dw_or1 (dt_cmp do_gt (d_callB dc_len rfl T.fr_len boot_len (da_cons (d_var 3) da_nil)) (d_gv rfl (T.gv_MOST_PASSES)) rfl))))) (dss_one (ds_ret d_bl)) dss_nil)
  (dss_one (ds_ret (d_callBL (dc_all rfl) rfl T.fr_all boot_all (dl_lc (own := [("row", 4)]) rfl hN (di_of (d_var 3)) (blkOk_by (by show blkC N_lot_form (defScope st_lot_form) _ _ = true; decide +kernel)) (fun _ _ _ _ _ => (dg_name 4 hN rfl (by first | exact .inl rfl | exact .inr rfl))) (fun _ _ _ _ _ => dts_nil) (fun _ _ _ _ _ => (d_call c_pass_form hr (Nat.le_refl _) rfl (da_cons (d_var 0) (da_cons (d_var 4) da_nil)))))))))))))
/-! door_entry_form -/
abbrev st_door_entry_form : Stmt := (top 62)
abbrev N_door_entry_form : List Str := ["frame", "index", "entry"]
theorem sc_door_entry_form : FnScope N_door_entry_form ["frame", "index", "entry"] (defScope st_door_entry_form) := C8.fnScope_by (by decide +kernel)
theorem e_door_entry_form (a0 a1 a2 : Val) : startD N_door_entry_form [a0, a1, a2] = [some a0, some a1, some a2] := rfl
@[irreducible] def w_door_entry_form (s_counts_of s_door_form : DSp) : WS :=
  (wRet (wCB s_door_form (wCons (wCB s_counts_of (wCons (wVar 0) wNil)) (wCons (wVar 2) wNil))))
theorem b_door_entry_form {s_counts_of s_door_form : DSp} (T : Txt K mg C) (c_counts_of : DCal P w K mg base j "counts_of" s_counts_of) (c_door_form : DCal P w K mg base j "door_form" s_door_form) (hr : Room j (A.deeper (envOfC "door_entry_form" (defScope st_door_entry_form) sh.heap.objs.size f cdv))) :
    DSs (cxOf C8.CX0 P w K mg base N_door_entry_form "door_entry_form" (defScope st_door_entry_form) f cdv A outer sh H E).nox (defBody st_door_entry_form) (w_door_entry_form s_counts_of s_door_form) := by
  have hN := sc_door_entry_form.nd
  have hu := hr.units
  have hu0 := hr.units0
  unfold w_door_entry_form
  exact (dss_one (ds_ret (d_call c_door_form hr (Nat.le_refl _) rfl (da_cons (d_call c_counts_of hr (Nat.le_refl _) rfl (da_cons (d_var 0) da_nil)) (da_cons (d_var 2) da_nil)))))
/-! is_ordinary -/
abbrev st_is_ordinary : Stmt := (top 63)
abbrev N_is_ordinary : List Str := ["x"]
theorem sc_is_ordinary : FnScope N_is_ordinary ["x"] (defScope st_is_ordinary) := C8.fnScope_by (by decide +kernel)
theorem e_is_ordinary (a0 : Val) : startD N_is_ordinary [a0] = [some a0] := rfl
@[irreducible] def w_is_ordinary (s_in_range : DSp) : WS :=
  (wRet (wCB s_in_range (wCons (wVar 0) (wCons (wC (.int 9)) (wCons (wC (.int 12)) wNil)))))
theorem b_is_ordinary {s_in_range : DSp} (T : Txt K mg C) (c_in_range : DCal P w K mg base j "in_range" s_in_range) (hr : Room j (A.deeper (envOfC "is_ordinary" (defScope st_is_ordinary) sh.heap.objs.size f cdv))) :
    DSs (cxOf C8.CX0 P w K mg base N_is_ordinary "is_ordinary" (defScope st_is_ordinary) f cdv A outer sh H E).nox (defBody st_is_ordinary) (w_is_ordinary s_in_range) := by
  have hN := sc_is_ordinary.nd
  have hu := hr.units
  have hu0 := hr.units0
  unfold w_is_ordinary
  exact (dss_one (ds_ret (d_call c_in_range hr (Nat.le_refl _) rfl (da_cons (d_var 0) (da_cons (d_gv rfl (T.gv_FIRST_ORDINARY)) (da_cons (d_gv rfl (T.gv_LAST_VERB)) da_nil))))))
/-! glass_form -/
abbrev st_glass_form : Stmt := (top 64)
abbrev N_glass_form : List Str := ["frame", "index", "entry"]
theorem sc_glass_form : FnScope N_glass_form ["frame", "index", "entry"] (defScope st_glass_form) := C8.fnScope_by (by decide +kernel)
theorem e_glass_form (a0 a1 a2 : Val) : startD N_glass_form [a0, a1, a2] = [some a0, some a1, some a2] := rfl
@[irreducible] def w_glass_form (s_is_entry s_is_entry_or_none s_is_ordinary s_is_row_of : DSp) : WS :=
  (wSeq (wIfS (wNot (wTest (wCB s_is_row_of (wCons (wVar 2) (wCons (wC (.int 3)) wNil))))) (wRet (wC (.bl false))) wNext)
  (wRet (wAndV (wCB s_is_entry_or_none (wCons (wVar 0) (wCons (wC (.int 5)) (wCons (wBin ixV (wVar 2) (wC (.int 0))) wNil)))) (wAndV (wCB s_is_ordinary (wCons (wBin ixV (wVar 2) (wC (.int 1))) wNil)) (wCB s_is_entry (wCons (wVar 0) (wCons (wC (.int 1)) (wCons (wBin ixV (wVar 2) (wC (.int 2))) wNil))))))))
theorem b_glass_form {s_is_entry s_is_entry_or_none s_is_ordinary s_is_row_of : DSp} (T : Txt K mg C) (c_is_entry : DCal P w K mg base j "is_entry" s_is_entry) (c_is_entry_or_none : DCal P w K mg base j "is_entry_or_none" s_is_entry_or_none) (c_is_ordinary : DCal P w K mg base j "is_ordinary" s_is_ordinary) (c_is_row_of : DCal P w K mg base j "is_row_of" s_is_row_of) (hr : Room j (A.deeper (envOfC "glass_form" (defScope st_glass_form) sh.heap.objs.size f cdv))) :
    DSs (cxOf C8.CX0 P w K mg base N_glass_form "glass_form" (defScope st_glass_form) f cdv A outer sh H E).nox (defBody st_glass_form) (w_glass_form s_is_entry s_is_entry_or_none s_is_ordinary s_is_row_of) := by
  have hN := sc_glass_form.nd
  have hu := hr.units
  have hu0 := hr.units0
  unfold w_glass_form
  exact (dss_cons (ds_if (dt_not (dt_val (d_call c_is_row_of hr (Nat.le_refl _) rfl (da_cons (d_var 2) (da_cons d_int da_nil))))) (dss_one (ds_ret d_bl)) dss_nil)
  (dss_one (ds_ret (d_and (d_call c_is_entry_or_none hr (Nat.le_refl _) rfl (da_cons (d_var 0) (da_cons (d_gv rfl (T.gv_ROLES)) (da_cons (d_ix (d_var 2) d_int) da_nil)))) (d_and (d_call c_is_ordinary hr (Nat.le_refl _) rfl (da_cons (d_ix (d_var 2) d_int) da_nil)) (d_one (d_call c_is_entry hr (Nat.le_refl _) rfl (da_cons (d_var 0) (da_cons (d_gv rfl (T.gv_NODES)) (da_cons (d_ix (d_var 2) d_int) da_nil))))))))))
/-! case_form -/
abbrev st_case_form : Stmt := (top 65)
abbrev N_case_form : List Str := ["frame", "index", "entry", "steps", "case", "verb"]
theorem sc_case_form : FnScope N_case_form ["frame", "index", "entry"] (defScope st_case_form) := C8.fnScope_by (by decide +kernel)
theorem e_case_form (a0 a1 a2 : Val) : startD N_case_form [a0, a1, a2] = [some a0, some a1, some a2, none, none, none] := rfl
@[irreducible] def w_case_form (s_is_entry s_is_ordinary s_is_row s_is_row_of : DSp) : WS :=
  (wSeq (wIfS (wOr (wNot (wTest (wCB s_is_row_of (wCons (wVar 2) (wCons (wC (.int 2)) wNil))))) (wNot (wTest (wCB s_is_entry (wCons (wVar 0) (wCons (wC (.int 1)) (wCons (wBin ixV (wVar 2) (wC (.int 0))) wNil))))))) (wRet (wC (.bl false))) wNext)
  (wSeq (wIfS (wTest (wInL false (wBin ixV (wVar 2) (wC (.int 0))) (wLc (wIt (wSl (wBin ixV (wVar 0) (wC (.int 10))) wNo (wPart (wVar 1)))) (gN 4) wYes (wBin ixV (wVar 4) (wC (.int 0))) [4]))) (wRet (wC (.bl false))) wNext)
  (wSeq (wAsg (wBin ixV (wVar 2) (wC (.int 1))) (gN 3))
  (wRet (wAndV (wCB s_is_row (wCons (wVar 3) wNil)) (wAndV (wChain leV leV (wC (.int 1)) (wCB lenV (wCons (wVar 3) wNil)) (wC (.int 3))) (wCL allW (wLc (wIt (wVar 3)) (gN 5) wYes (wCB s_is_ordinary (wCons (wVar 5) wNil)) [5]))))))))
theorem b_case_form {s_is_entry s_is_ordinary s_is_row s_is_row_of : DSp} (T : Txt K mg C) (c_is_entry : DCal P w K mg base j "is_entry" s_is_entry) (c_is_ordinary : DCal P w K mg base j "is_ordinary" s_is_ordinary) (c_is_row : DCal P w K mg base j "is_row" s_is_row) (c_is_row_of : DCal P w K mg base j "is_row_of" s_is_row_of) (hr : Room j (A.deeper (envOfC "case_form" (defScope st_case_form) sh.heap.objs.size f cdv))) :
    DSs (cxOf C8.CX0 P w K mg base N_case_form "case_form" (defScope st_case_form) f cdv A outer sh H E).nox (defBody st_case_form) (w_case_form s_is_entry s_is_ordinary s_is_row s_is_row_of) := by
  have hN := sc_case_form.nd
  have hu := hr.units
  have hu0 := hr.units0
  unfold w_case_form
  exact (dss_cons (ds_if (dt_w (dw_or (dt_not (dt_val (d_call c_is_row_of hr (Nat.le_refl _) rfl (da_cons (d_var 2) (da_cons d_int da_nil))))) (dw_or1 (dt_not (dt_val (d_call c_is_entry hr (Nat.le_refl _) rfl (da_cons (d_var 0) (da_cons (d_gv rfl (T.gv_NODES)) (da_cons (d_ix (d_var 2) d_int) da_nil))))))))) (dss_one (ds_ret d_bl)) dss_nil)
  (dss_cons (ds_if (dt_inL (d_ix (d_var 2) d_int) (dl_lc (own := [("case", 4)]) rfl hN (di_of (d_slice (d_ix (d_var 0) (d_gv rfl (T.gv_CASES))) do_no (do_some (d_var 1)))) (blkOk_by (by show blkC N_case_form (defScope st_case_form) _ _ = true; decide +kernel)) (fun _ _ _ _ _ => (dg_name 4 hN rfl (by first | exact .inl rfl | exact .inr rfl))) (fun _ _ _ _ _ => dts_nil) (fun _ _ _ _ _ => (d_ix (d_var 4) d_int))) rfl) (dss_one (ds_ret d_bl)) dss_nil)
  (dss_cons (ds_set (k := 3) hN rfl (by first | exact .inl rfl | exact .inr rfl) (d_ix (d_var 2) d_int))
  (dss_one (ds_ret (d_and (d_call c_is_row hr (Nat.le_refl _) rfl (da_cons (d_var 3) da_nil)) (d_and (d_chain do_le do_le d_int (d_callB dc_len rfl T.fr_len boot_len (da_cons (d_var 3) da_nil)) (d_gv rfl (T.gv_MOST_STEPS))) (d_one (d_callBL (dc_all rfl) rfl T.fr_all boot_all (dl_lc (own := [("verb", 5)]) rfl hN (di_of (d_var 3)) (blkOk_by (by show blkC N_case_form (defScope st_case_form) _ _ = true; decide +kernel)) (fun _ _ _ _ _ => (dg_name 5 hN rfl (by first | exact .inl rfl | exact .inr rfl))) (fun _ _ _ _ _ => dts_nil) (fun _ _ _ _ _ => (d_call c_is_ordinary hr (Nat.le_refl _) rfl (da_cons (d_var 5) da_nil)))))))))))))
/-! home_form -/
abbrev st_home_form : Stmt := (top 66)
abbrev N_home_form : List Str := ["frame", "index", "entry"]
theorem sc_home_form : FnScope N_home_form ["frame", "index", "entry"] (defScope st_home_form) := C8.fnScope_by (by decide +kernel)
theorem e_home_form (a0 a1 a2 : Val) : startD N_home_form [a0, a1, a2] = [some a0, some a1, some a2] := rfl
@[irreducible] def w_home_form (s_in_range : DSp) : WS :=
  (wRet (wCB s_in_range (wCons (wVar 2) (wCons (wC (.int 0)) (wCons (wBin subV (wBin ixV (wBin ixV (wVar 0) (wC (.int 0))) (wC (.int 2))) (wC (.int 1))) wNil)))))
theorem b_home_form {s_in_range : DSp} (T : Txt K mg C) (c_in_range : DCal P w K mg base j "in_range" s_in_range) (hr : Room j (A.deeper (envOfC "home_form" (defScope st_home_form) sh.heap.objs.size f cdv))) :
    DSs (cxOf C8.CX0 P w K mg base N_home_form "home_form" (defScope st_home_form) f cdv A outer sh H E).nox (defBody st_home_form) (w_home_form s_in_range) := by
  have hN := sc_home_form.nd
  have hu := hr.units
  have hu0 := hr.units0
  unfold w_home_form
  exact (dss_one (ds_ret (d_call c_in_range hr (Nat.le_refl _) rfl (da_cons (d_var 2) (da_cons d_int (da_cons (d_bin do_sub (d_ix (d_ix (d_var 0) (d_gv rfl (T.gv_NUMBERS))) d_int) d_int) da_nil))))))
/-! numbers_form -/
abbrev st_numbers_form : Stmt := (top 68)
abbrev N_numbers_form : List Str := ["numbers", "number", "low", "high"]
theorem sc_numbers_form : FnScope N_numbers_form ["numbers"] (defScope st_numbers_form) := C8.fnScope_by (by decide +kernel)
theorem e_numbers_form (a0 : Val) : startD N_numbers_form [a0] = [some a0, none, none, none] := rfl
@[irreducible] def w_numbers_form (s_in_range : DSp) : WS :=
  (wSeq (wIfS (wTest (wBin (eqW true) (wCB lenV (wCons (wVar 0) wNil)) (wCB lenV (wCons (wC vNR) wNil)))) (wRet (wC (.bl false))) wNext)
  (wSeq (wFor (wIA zipV (wCons (wVar 0) (wCons (wC vNR) wNil))) (gT 2 (gsCons (gN 1) (gsCons (gT 2 (gsCons (gN 2) (gsCons (gN 3) gsNil))) gsNil))) (wIfS (wNot (wTest (wCB s_in_range (wCons (wVar 1) (wCons (wVar 2) (wCons (wVar 3) wNil)))))) (wRet (wC (.bl false))) wNext))
  (wRet (wBin geV (wBin ixV (wVar 0) (wC (.int 4))) (wBin ixV (wVar 0) (wC (.int 3)))))))
theorem b_numbers_form {s_in_range : DSp} (T : Txt K mg C) (c_in_range : DCal P w K mg base j "in_range" s_in_range) (hr : Room j (A.deeper (envOfC "numbers_form" (defScope st_numbers_form) sh.heap.objs.size f cdv))) :
    DSs (cxOf C8.CX0 P w K mg base N_numbers_form "numbers_form" (defScope st_numbers_form) f cdv A outer sh H E).nox (defBody st_numbers_form) (w_numbers_form s_in_range) := by
  have hN := sc_numbers_form.nd
  have hu := hr.units
  have hu0 := hr.units0
  unfold w_numbers_form
  exact (dss_cons (ds_if (dt_cmp (do_ne hu) (d_callB dc_len rfl T.fr_len boot_len (da_cons (d_var 0) da_nil)) (d_callB dc_len rfl T.fr_len boot_len (da_cons (d_gv rfl (T.gv_NUMBER_RANGES)) da_nil)) rfl) (dss_one (ds_ret d_bl)) dss_nil)
  (dss_cons (ds_for PassesOwn.never rfl (di_zip rfl T.fr_zip (da_cons (d_var 0) (da_cons (d_gv rfl (T.gv_NUMBER_RANGES)) da_nil))) (dg_tup 2 rfl (dgs_cons (dg_name 1 hN rfl (by first | exact .inl rfl | exact .inr rfl)) (dgs_cons (dg_tup 2 rfl (dgs_cons (dg_name 2 hN rfl (by first | exact .inl rfl | exact .inr rfl)) (dgs_cons (dg_name 3 hN rfl (by first | exact .inl rfl | exact .inr rfl)) dgs_nil))) dgs_nil))) (dss_one (ds_if (dt_not (dt_val (d_call c_in_range hr (Nat.le_refl _) rfl (da_cons (d_var 1) (da_cons (d_var 2) (da_cons (d_var 3) da_nil)))))) (dss_one (ds_ret d_bl)) dss_nil)))
  (dss_one (ds_ret (d_cmp do_ge (d_ix (d_var 0) d_int) (d_ix (d_var 0) d_int) rfl)))))
/-! count_fault -/
abbrev st_count_fault : Stmt := (top 69)
abbrev N_count_fault : List Str := ["frame", "rules", "part", "low", "high"]
theorem sc_count_fault : FnScope N_count_fault ["frame", "rules"] (defScope st_count_fault) := C8.fnScope_by (by decide +kernel)
theorem e_count_fault (a0 a1 : Val) : startD N_count_fault [a0, a1] = [some a0, some a1, none, none, none] := rfl
@[irreducible] def w_count_fault : WS :=
  (wSeq (wFor (wIA rg2V (wCons (wC (.int 1)) (wCons (wC (.int 11)) wNil))) (gN 2) (wSeq (wAsg2 (wBin ixV (wC vCR) (wBin subV (wVar 2) (wC (.int 1)))) (g2of (gT 2 (gsCons (gN 3) (gsCons (gN 4) gsNil)))))
  (wIfS (wNot (wTest (wChain leV leV (wVar 3) (wCB lenV (wCons (wBin ixV (wVar 0) (wVar 2)) wNil)) (wVar 4)))) (wRet (wBin ixV (wC vPARTS) (wVar 2))) wNext)))
  (wSeq (wIfS (wTest (wBin (eqW true) (wCB lenV (wCons (wBin ixV (wVar 0) (wC (.int 11))) wNil)) (wCB lenV (wCons (wBin ixV (wVar 0) (wC (.int 1))) wNil)))) (wRet (wC (.str "homes"))) wNext)
  (wSeq (wIfS (wTest (wBin gtV (wCB lenV (wCons (wVar 1) wNil)) (wC (.int 12)))) (wRet (wC (.str "rules"))) wNext)
  (wRet (wC (.str ""))))))
theorem b_count_fault (T : Txt K mg C) (hr : Room j (A.deeper (envOfC "count_fault" (defScope st_count_fault) sh.heap.objs.size f cdv))) :
    DSs (cxOf C8.CX0 P w K mg base N_count_fault "count_fault" (defScope st_count_fault) f cdv A outer sh H E).nox (defBody st_count_fault) (w_count_fault ) := by
  have hN := sc_count_fault.nd
  have hu := hr.units
  have hu0 := hr.units0
  unfold w_count_fault
  exact (dss_cons (ds_for PassesOwn.never rfl (di_range2 rfl T.fr_range (da_cons (d_gv rfl (T.gv_NODES)) (da_cons (d_gv rfl (T.gv_HOMES)) da_nil))) (dg_name 2 hN rfl (by first | exact .inl rfl | exact .inr rfl)) (dss_cons (ds_asg (d_ix (d_gv rfl (T.gv_COUNT_RANGES)) (d_bin do_sub (d_var 2) d_int)) (dg2_of (dg_tup 2 rfl (dgs_cons (dg_name 3 hN rfl (by first | exact .inl rfl | exact .inr rfl)) (dgs_cons (dg_name 4 hN rfl (by first | exact .inl rfl | exact .inr rfl)) dgs_nil)))))
  (dss_one (ds_if (dt_not (dt_chain do_le do_le (d_var 3) (d_callB dc_len rfl T.fr_len boot_len (da_cons (d_ix (d_var 0) (d_var 2)) da_nil)) (d_var 4))) (dss_one (ds_ret (d_ix (d_gv rfl (T.gv_PARTS)) (d_var 2)))) dss_nil))))
  (dss_cons (ds_if (dt_cmp (do_ne hu) (d_callB dc_len rfl T.fr_len boot_len (da_cons (d_ix (d_var 0) (d_gv rfl (T.gv_HOMES))) da_nil)) (d_callB dc_len rfl T.fr_len boot_len (da_cons (d_ix (d_var 0) (d_gv rfl (T.gv_NODES))) da_nil)) rfl) (dss_one (ds_ret d_str)) dss_nil)
  (dss_cons (ds_if (dt_cmp do_gt (d_callB dc_len rfl T.fr_len boot_len (da_cons (d_var 1) da_nil)) (by obtain ⟨u, h⟩ := T.cv_Book_MOST_RULES; exact d_cval rfl T.mg_Book T.rd h (fun _ _ => rfl)) rfl) (dss_one (ds_ret d_str)) dss_nil)
  (dss_one (ds_ret d_str)))))
/-! entry_fault -/
abbrev st_entry_fault : Stmt := (top 70)
abbrev N_entry_fault : List Str := ["frame", "rules", "part", "form", "index", "entry", "rule"]
theorem sc_entry_fault : FnScope N_entry_fault ["frame", "rules"] (defScope st_entry_fault) := C8.fnScope_by (by decide +kernel)
theorem e_entry_fault (a0 a1 : Val) : startD N_entry_fault [a0, a1] = [some a0, some a1, none, none, none, none, none] := rfl
@[irreducible] def w_entry_fault (K : PySem.W.Frag) (tbl : Addr → DSp → Prop) (s_counts_of s_rule_form : DSp) : WS :=
  (wSeq (wFor (wIA rg2V (wCons (wC (.int 1)) (wCons (wBin addV (wC (.int 11)) (wC (.int 1))) wNil))) (gN 2) (wSeq (wAsg (wBin ixV (wC (vEF K)) (wBin subV (wVar 2) (wC (.int 1)))) (gN 3))
  (wFor (wIA enV (wCons (wBin ixV (wVar 0) (wVar 2)) wNil)) (gT 2 (gsCons (gN 4) (gsCons (gN 5) gsNil))) (wIfS (wNot (wTest (wCallA tbl (wVar 3) (wCons (wVar 0) (wCons (wVar 4) (wCons (wVar 5) wNil)))))) (wRet (wBin ixV (wC vPARTS) (wVar 2))) wNext))))
  (wSeq (wIfS (wNot (wTest (wCL allW (wLc (wIt (wVar 1)) (gN 6) wYes (wCB s_rule_form (wCons (wCB s_counts_of (wCons (wVar 0) wNil)) (wCons (wVar 6) wNil))) [6])))) (wRet (wC (.str "rules"))) wNext)
  (wRet (wC (.str "")))))
theorem b_entry_fault {s_counts_of s_rule_form : DSp} {tbl : Addr → DSp → Prop} (T : Txt K mg C) (c_counts_of : DCal P w K mg base j "counts_of" s_counts_of) (c_rule_form : DCal P w K mg base j "rule_form" s_rule_form) (hA : ∀ f s, tbl f s → ∃ k, k ≤ j ∧ C8.CalAt P w K mg base k f (spD K s)) (hr : Room j (A.deeper (envOfC "entry_fault" (defScope st_entry_fault) sh.heap.objs.size f cdv))) :
    DSs (cxOf C8.CX0 P w K mg base N_entry_fault "entry_fault" (defScope st_entry_fault) f cdv A outer sh H E).nox (defBody st_entry_fault) (w_entry_fault K tbl s_counts_of s_rule_form) := by
  have hN := sc_entry_fault.nd
  have hu := hr.units
  have hu0 := hr.units0
  unfold w_entry_fault
  exact (dss_cons (ds_for PassesOwn.never rfl (di_range2 rfl T.fr_range (da_cons (d_gv rfl (T.gv_NODES)) (da_cons (d_bin do_add (d_gv rfl (T.gv_HOMES)) d_int) da_nil))) (dg_name 2 hN rfl (by first | exact .inl rfl | exact .inr rfl)) (dss_cons (ds_set (k := 3) hN rfl (by first | exact .inl rfl | exact .inr rfl) (d_ix (d_gv rfl (T.gv_ENTRY_FORMS)) (d_bin do_sub (d_var 2) d_int)))
  (dss_one (ds_for PassesOwn.never rfl (di_enum rfl T.fr_enumerate (da_cons (d_ix (d_var 0) (d_var 2)) da_nil)) (dg_tup 2 rfl (dgs_cons (dg_name 4 hN rfl (by first | exact .inl rfl | exact .inr rfl)) (dgs_cons (dg_name 5 hN rfl (by first | exact .inl rfl | exact .inr rfl)) dgs_nil))) (dss_one (ds_if (dt_not (dt_val (d_callA hA hr rfl (by first | exact Or.inl rfl | exact Or.inr (Or.inl rfl)) (da_cons (d_var 0) (da_cons (d_var 4) (da_cons (d_var 5) da_nil)))))) (dss_one (ds_ret (d_ix (d_gv rfl (T.gv_PARTS)) (d_var 2)))) dss_nil))))))
  (dss_cons (ds_if (dt_not (dt_val (d_callBL (dc_all rfl) rfl T.fr_all boot_all (dl_lc (own := [("rule", 6)]) rfl hN (di_of (d_var 1)) (blkOk_by (by show blkC N_entry_fault (defScope st_entry_fault) _ _ = true; decide +kernel)) (fun _ _ _ _ _ => (dg_name 6 hN rfl (by first | exact .inl rfl | exact .inr rfl))) (fun _ _ _ _ _ => dts_nil) (fun _ _ _ _ _ => (d_call c_rule_form hr (Nat.le_refl _) rfl (da_cons (d_call c_counts_of hr (Nat.le_refl _) rfl (da_cons (d_var 0) da_nil)) (da_cons (d_var 6) da_nil)))))))) (dss_one (ds_ret d_str)) dss_nil)
  (dss_one (ds_ret d_str))))
/-! clause_holds -/
abbrev st_clause_holds : Stmt := (top 71)
abbrev N_clause_holds : List Str := ["team_parents", "clause", "base", "had", "kind", "team", "has", "hasnot", "below", "marks", "mark"]
theorem sc_clause_holds : FnScope N_clause_holds ["team_parents", "clause", "base", "had"] (defScope st_clause_holds) := C8.fnScope_by (by decide +kernel)
theorem e_clause_holds (a0 a1 a2 a3 : Val) : startD N_clause_holds [a0, a1, a2, a3] = [some a0, some a1, some a2, some a3, none, none, none, none, none, none, none] := rfl
@[irreducible] def w_clause_holds (s_under : DSp) : WS :=
  (wSeq (wAsg2 (wVar 1) (g2of (gT 5 (gsCons (gN 4) (gsCons (gN 5) (gsCons (gN 6) (gsCons (gN 7) (gsCons (gN 8) gsNil))))))))
  (wSeq (wIfS (wAnd (wTest (wBin (eqW true) (wVar 4) (wUn negV (wC (.int 1))))) (wTest (wBin (eqW true) (wVar 4) (wBin ixV (wVar 2) (wC (.int 0)))))) (wRet (wC (.bl false))) wNext)
  (wSeq (wIfS (wAnd (wTest (wBin (eqW true) (wVar 5) (wUn negV (wC (.int 1))))) (wNot (wTest (wCB s_under (wCons (wVar 0) (wCons (wBin ixV (wVar 2) (wC (.int 1))) (wCons (wVar 5) wNil))))))) (wRet (wC (.bl false))) wNext)
  (wSeq (wIfS (wAnd (wTest (wBin (eqW true) (wVar 8) (wUn negV (wC (.int 1))))) (wTest (wBin (inW true) (wVar 8) (wVar 3)))) (wRet (wC (.bl false))) wNext)
  (wSeq (wAsg (wBin ixV (wVar 2) (wC (.int 2))) (gN 9))
  (wRet (wAndV (wCL allW (wLc (wIt (wVar 6)) (gN 10) wYes (wBin (inW false) (wVar 10) (wVar 9)) [10])) (wNotV (wCL anyW (wLc (wIt (wVar 7)) (gN 10) wYes (wBin (inW false) (wVar 10) (wVar 9)) [10]))))))))))
theorem b_clause_holds {s_under : DSp} (T : Txt K mg C) (c_under : DCal P w K mg base j "under" s_under) (hr : Room j (A.deeper (envOfC "clause_holds" (defScope st_clause_holds) sh.heap.objs.size f cdv))) :
    DSs (cxOf C8.CX0 P w K mg base N_clause_holds "clause_holds" (defScope st_clause_holds) f cdv A outer sh H E).nox (defBody st_clause_holds) (w_clause_holds s_under) := by
  have hN := sc_clause_holds.nd
  have hu := hr.units
  have hu0 := hr.units0
  unfold w_clause_holds
  exact (dss_cons (ds_asg (d_var 1) (dg2_of (dg_tup 5 rfl (dgs_cons (dg_name 4 hN rfl (by first | exact .inl rfl | exact .inr rfl)) (dgs_cons (dg_name 5 hN rfl (by first | exact .inl rfl | exact .inr rfl)) (dgs_cons (dg_name 6 hN rfl (by first | exact .inl rfl | exact .inr rfl)) (dgs_cons (dg_name 7 hN rfl (by first | exact .inl rfl | exact .inr rfl)) (dgs_cons (dg_name 8 hN rfl (by first | exact .inl rfl | exact .inr rfl)) dgs_nil))))))))
  (dss_cons (ds_if (dt_w (dw_and (dt_cmp (do_ne hu) (d_var 4) (d_un do_neg d_int) rfl) (dw_and1 (dt_cmp (do_ne hu) (d_var 4) (d_ix (d_var 2) d_int) rfl)))) (dss_one (ds_ret d_bl)) dss_nil)
  (dss_cons (ds_if (dt_w (dw_and (dt_cmp (do_ne hu) (d_var 5) (d_un do_neg d_int) rfl) (dw_and1 (dt_not (dt_val (d_call c_under hr (Nat.le_refl _) rfl (da_cons (d_var 0) (da_cons (d_ix (d_var 2) d_int) (da_cons (d_var 5) da_nil))))))))) (dss_one (ds_ret d_bl)) dss_nil)
  (dss_cons (ds_if (dt_w (dw_and (dt_cmp (do_ne hu) (d_var 8) (d_un do_neg d_int) rfl) (dw_and1 (dt_cmp do_notIn (d_var 8) (d_var 3) rfl)))) (dss_one (ds_ret d_bl)) dss_nil)
  (dss_cons (ds_set (k := 9) hN rfl (by first | exact .inl rfl | exact .inr rfl) (d_ix (d_var 2) d_int))
  (dss_one (ds_ret (d_and (d_callBL (dc_all rfl) rfl T.fr_all boot_all (dl_lc (own := [("mark", 10)]) rfl hN (di_of (d_var 6)) (blkOk_by (by show blkC N_clause_holds (defScope st_clause_holds) _ _ = true; decide +kernel)) (fun _ _ _ _ _ => (dg_name 10 hN rfl (by first | exact .inl rfl | exact .inr rfl))) (fun _ _ _ _ _ => dts_nil) (fun _ _ _ _ _ => (d_cmp do_in (d_var 10) (d_var 9) rfl)))) (d_one (d_not (d_callBL (dc_any rfl) rfl T.fr_any boot_any (dl_lc (own := [("mark", 10)]) rfl hN (di_of (d_var 7)) (blkOk_by (by show blkC N_clause_holds (defScope st_clause_holds) _ _ = true; decide +kernel)) (fun _ _ _ _ _ => (dg_name 10 hN rfl (by first | exact .inl rfl | exact .inr rfl))) (fun _ _ _ _ _ => dts_nil) (fun _ _ _ _ _ => (d_cmp do_in (d_var 10) (d_var 9) rfl))))))))))))))
/-! roles_had -/
abbrev st_roles_had : Stmt := (top 72)
abbrev N_roles_had : List Str := ["roles", "team_parents", "base", "had", "role", "clauses", "clause"]
theorem sc_roles_had : FnScope N_roles_had ["roles", "team_parents", "base"] (defScope st_roles_had) := C8.fnScope_by (by decide +kernel)
theorem e_roles_had (a0 a1 a2 : Val) : startD N_roles_had [a0, a1, a2] = [some a0, some a1, some a2, none, none, none, none] := rfl
@[irreducible] def w_roles_had (s_clause_holds : DSp) : WS :=
  (wSeq (wAsg (wNew (wLst wNil)) (gN 3))
  (wSeq (wFor (wIA enV (wCons (wVar 0) wNil)) (gT 2 (gsCons (gN 4) (gsCons (gN 5) gsNil))) (wIfS (wTest (wCL anyW (wLc (wIt (wVar 5)) (gN 6) wYes (wCB s_clause_holds (wCons (wVar 1) (wCons (wVar 6) (wCons (wVar 2) (wCons (wVar 3) wNil))))) [6]))) (wDrop (wMt appV (wVar 3) (wCons (wVar 4) wNil))) wNext))
  (wRet (wCB tupV (wCons (wVar 3) wNil)))))
theorem b_roles_had {s_clause_holds : DSp} (T : Txt K mg C) (c_clause_holds : DCal P w K mg base j "clause_holds" s_clause_holds) (hr : Room j (A.deeper (envOfC "roles_had" (defScope st_roles_had) sh.heap.objs.size f cdv))) :
    DSs (cxOf C8.CX0 P w K mg base N_roles_had "roles_had" (defScope st_roles_had) f cdv A outer sh H E).nox (defBody st_roles_had) (w_roles_had s_clause_holds) := by
  have hN := sc_roles_had.nd
  have hu := hr.units
  have hu0 := hr.units0
  unfold w_roles_had
  exact (dss_cons (ds_set (k := 3) hN rfl (by first | exact .inl rfl | exact .inr rfl) (d_new (dl_lst da_nil)))
  (dss_cons (ds_for PassesOwn.never rfl (di_enum rfl T.fr_enumerate (da_cons (d_var 0) da_nil)) (dg_tup 2 rfl (dgs_cons (dg_name 4 hN rfl (by first | exact .inl rfl | exact .inr rfl)) (dgs_cons (dg_name 5 hN rfl (by first | exact .inl rfl | exact .inr rfl)) dgs_nil))) (dss_one (ds_if (dt_val (d_callBL (dc_any rfl) rfl T.fr_any boot_any (dl_lc (own := [("clause", 6)]) rfl hN (di_of (d_var 5)) (blkOk_by (by show blkC N_roles_had (defScope st_roles_had) _ _ = true; decide +kernel)) (fun _ _ _ _ _ => (dg_name 6 hN rfl (by first | exact .inl rfl | exact .inr rfl))) (fun _ _ _ _ _ => dts_nil) (fun _ _ _ _ _ => (d_call c_clause_holds hr (Nat.le_refl _) rfl (da_cons (d_var 1) (da_cons (d_var 6) (da_cons (d_var 2) (da_cons (d_var 3) da_nil))))))))) (dss_one (ds_expr (d_mt PySem.F.slot_list_append PySem.F.type_list_append dm_append (d_var 3) (da_cons (d_var 4) da_nil)))) dss_nil)))
  (dss_one (ds_ret (d_callTy dc_tuple rfl T.fr_tuple boot_tuple (da_cons (d_var 3) da_nil))))))
/-! clashes -/
abbrev st_clashes : Stmt := (top 73)
abbrev N_clashes : List Str := ["frame", "team_parents", "kind", "team", "marks", "had", "one", "other"]
theorem sc_clashes : FnScope N_clashes ["frame"] (defScope st_clashes) := C8.fnScope_by (by decide +kernel)
theorem e_clashes (a0 : Val) : startD N_clashes [a0] = [some a0, none, none, none, none, none, none, none] := rfl
@[irreducible] def w_clashes (s_roles_had : DSp) : WS :=
  (wSeq (wAsg (wCL tupW (wLc (wIt (wBin ixV (wVar 0) (wC (.int 2)))) (gN 3) wYes (wBin ixV (wVar 3) (wC (.int 0))) [3])) (gN 1))
  (wSeq (wFor (wIA enV (wCons (wBin ixV (wVar 0) (wC (.int 4))) wNil)) (gT 2 (gsCons (gN 2) (gsCons (gT 2 (gsCons (gN 3) (gsCons (gN 4) gsNil))) gsNil))) (wSeq (wAsg (wCB s_roles_had (wCons (wBin ixV (wVar 0) (wC (.int 5))) (wCons (wVar 1) (wCons (wTup (wCons (wVar 2) (wCons (wVar 3) (wCons (wVar 4) wNil)))) wNil)))) (gN 5))
  (wIfS (wTest (wCL anyW (wLc (wIt (wBin ixV (wVar 0) (wC (.int 6)))) (gT 2 (gsCons (gN 6) (gsCons (gN 7) gsNil))) wYes (wAndV (wBin (inW false) (wVar 6) (wVar 5)) (wBin (inW false) (wVar 7) (wVar 5))) [6, 7]))) (wRet (wC (.bl true))) wNext)))
  (wRet (wC (.bl false)))))
theorem b_clashes {s_roles_had : DSp} (T : Txt K mg C) (c_roles_had : DCal P w K mg base j "roles_had" s_roles_had) (hr : Room j (A.deeper (envOfC "clashes" (defScope st_clashes) sh.heap.objs.size f cdv))) :
    DSs (cxOf C8.CX0 P w K mg base N_clashes "clashes" (defScope st_clashes) f cdv A outer sh H E).nox (defBody st_clashes) (w_clashes s_roles_had) := by
  have hN := sc_clashes.nd
  have hu := hr.units
  have hu0 := hr.units0
  unfold w_clashes
  exact (dss_cons (ds_set (k := 1) hN rfl (by first | exact .inl rfl | exact .inr rfl) (d_callTyL dc_tupleL rfl T.fr_tuple boot_tuple (dl_lc (own := [("team", 3)]) rfl hN (di_of (d_ix (d_var 0) (d_gv rfl (T.gv_TEAMS)))) (blkOk_by (by show blkC N_clashes (defScope st_clashes) _ _ = true; decide +kernel)) (fun _ _ _ _ _ => (dg_name 3 hN rfl (by first | exact .inl rfl | exact .inr rfl))) (fun _ _ _ _ _ => dts_nil) (fun _ _ _ _ _ => (d_ix (d_var 3) d_int)))))
  (dss_cons (ds_for PassesOwn.never rfl (di_enum rfl T.fr_enumerate (da_cons (d_ix (d_var 0) (d_gv rfl (T.gv_KINDS))) da_nil)) (dg_tup 2 rfl (dgs_cons (dg_name 2 hN rfl (by first | exact .inl rfl | exact .inr rfl)) (dgs_cons (dg_tup 2 rfl (dgs_cons (dg_name 3 hN rfl (by first | exact .inl rfl | exact .inr rfl)) (dgs_cons (dg_name 4 hN rfl (by first | exact .inl rfl | exact .inr rfl)) dgs_nil))) dgs_nil))) (dss_cons (ds_set (k := 5) hN rfl (by first | exact .inl rfl | exact .inr rfl) (d_call c_roles_had hr (Nat.le_refl _) rfl (da_cons (d_ix (d_var 0) (d_gv rfl (T.gv_ROLES))) (da_cons (d_var 1) (da_cons (d_tup (da_cons (d_var 2) (da_cons (d_var 3) (da_cons (d_var 4) da_nil)))) da_nil)))))
  (dss_one (ds_if (dt_val (d_callBL (dc_any rfl) rfl T.fr_any boot_any (dl_lc (own := [("one", 6), ("other", 7)]) rfl hN (di_of (d_ix (d_var 0) (d_gv rfl (T.gv_PARTED)))) (blkOk_by (by show blkC N_clashes (defScope st_clashes) _ _ = true; decide +kernel)) (fun _ _ _ _ _ => (dg_tup 2 rfl (dgs_cons (dg_name 6 hN rfl (by first | exact .inl rfl | exact .inr rfl)) (dgs_cons (dg_name 7 hN rfl (by first | exact .inl rfl | exact .inr rfl)) dgs_nil)))) (fun _ _ _ _ _ => dts_nil) (fun _ _ _ _ _ => (d_and (d_cmp do_in (d_var 6) (d_var 5) rfl) (d_one (d_cmp do_in (d_var 7) (d_var 5) rfl))))))) (dss_one (ds_ret d_bl)) dss_nil))))
  (dss_one (ds_ret d_bl))))
/-! faulty_part -/
abbrev st_faulty_part : Stmt := (top 74)
abbrev N_faulty_part : List Str := ["frame", "rules", "fault", "part"]
theorem sc_faulty_part : FnScope N_faulty_part ["frame", "rules"] (defScope st_faulty_part) := C8.fnScope_by (by decide +kernel)
theorem e_faulty_part (a0 a1 : Val) : startD N_faulty_part [a0, a1] = [some a0, some a1, none, none] := rfl
@[irreducible] def w_faulty_part (s_clashes s_count_fault s_entry_fault s_is_row s_is_row_of s_numbers_form : DSp) : WS :=
  (wSeq (wIfS (wOr (wNot (wTest (wCB s_is_row_of (wCons (wVar 0) (wCons (wCB lenV (wCons (wC vPARTS) wNil)) wNil))))) (wNot (wTest (wCL allW (wLc (wIt (wVar 0)) (gN 3) wYes (wCB s_is_row (wCons (wVar 3) wNil)) [3]))))) (wRet (wC (.str "frame"))) wNext)
  (wSeq (wIfS (wNot (wTest (wCB s_is_row (wCons (wVar 1) wNil)))) (wRet (wC (.str "rules"))) wNext)
  (wSeq (wIfS (wNot (wTest (wCB s_numbers_form (wCons (wBin ixV (wVar 0) (wC (.int 0))) wNil)))) (wRet (wC (.str "numbers"))) wNext)
  (wSeq (wAsg (wCB s_count_fault (wCons (wVar 0) (wCons (wVar 1) wNil))) (gN 2))
  (wMid (wIfS (wTest (wBin (eqW false) (wVar 2) (wC (.str "")))) (wAsg (wCB s_entry_fault (wCons (wVar 0) (wCons (wVar 1) wNil))) (gN 2)) wNext)
  (wMid (wIfS (wAnd (wTest (wBin (eqW false) (wVar 2) (wC (.str "")))) (wTest (wCB s_clashes (wCons (wVar 0) wNil)))) (wAsg (wC (.str "clash")) (gN 2)) wNext)
  (wRet (wVar 2))))))))
theorem b_faulty_part {s_clashes s_count_fault s_entry_fault s_is_row s_is_row_of s_numbers_form : DSp} (T : Txt K mg C) (c_clashes : DCal P w K mg base j "clashes" s_clashes) (c_count_fault : DCal P w K mg base j "count_fault" s_count_fault) (c_entry_fault : DCal P w K mg base j "entry_fault" s_entry_fault) (c_is_row : DCal P w K mg base j "is_row" s_is_row) (c_is_row_of : DCal P w K mg base j "is_row_of" s_is_row_of) (c_numbers_form : DCal P w K mg base j "numbers_form" s_numbers_form) (hr : Room j (A.deeper (envOfC "faulty_part" (defScope st_faulty_part) sh.heap.objs.size f cdv))) :
    DSs (cxOf C8.CX0 P w K mg base N_faulty_part "faulty_part" (defScope st_faulty_part) f cdv A outer sh H E).nox (defBody st_faulty_part) (w_faulty_part s_clashes s_count_fault s_entry_fault s_is_row s_is_row_of s_numbers_form) := by
  have hN := sc_faulty_part.nd
  have hu := hr.units
  have hu0 := hr.units0
  unfold w_faulty_part
  exact (dss_cons (ds_if (dt_w (dw_or (dt_not (dt_val (d_call c_is_row_of hr (Nat.le_refl _) rfl (da_cons (d_var 0) (da_cons (d_callB dc_len rfl T.fr_len boot_len (da_cons (d_gv rfl (T.gv_PARTS)) da_nil)) da_nil))))) (dw_or1 (dt_not (dt_val (d_callBL (dc_all rfl) rfl T.fr_all boot_all (dl_lc (own := [("part", 3)]) rfl hN (di_of (d_var 0)) (blkOk_by (by show blkC N_faulty_part (defScope st_faulty_part) _ _ = true; decide +kernel)) (fun _ _ _ _ _ => (dg_name 3 hN rfl (by first | exact .inl rfl | exact .inr rfl))) (fun _ _ _ _ _ => dts_nil) (fun _ _ _ _ _ => (d_call c_is_row hr (Nat.le_refl _) rfl (da_cons (d_var 3) da_nil)))))))))) (dss_one (ds_ret d_str)) dss_nil)
  (dss_cons (ds_if (dt_not (dt_val (d_call c_is_row hr (Nat.le_refl _) rfl (da_cons (d_var 1) da_nil)))) (dss_one (ds_ret d_str)) dss_nil)
  (dss_cons (ds_if (dt_not (dt_val (d_call c_numbers_form hr (Nat.le_refl _) rfl (da_cons (d_ix (d_var 0) (d_gv rfl (T.gv_NUMBERS))) da_nil)))) (dss_one (ds_ret d_str)) dss_nil)
  (dss_cons (ds_set (k := 2) hN rfl (by first | exact .inl rfl | exact .inr rfl) (d_call c_count_fault hr (Nat.le_refl _) rfl (da_cons (d_var 0) (da_cons (d_var 1) da_nil))))
  (dss_mid (ds_if (dt_cmp (do_eq hu) (d_var 2) d_str rfl) (dss_one (ds_set (k := 2) hN rfl (by first | exact .inl rfl | exact .inr rfl) (d_call c_entry_fault hr (Nat.le_refl _) rfl (da_cons (d_var 0) (da_cons (d_var 1) da_nil))))) dss_nil)
  (dss_mid (ds_if (dt_w (dw_and (dt_cmp (do_eq hu) (d_var 2) d_str rfl) (dw_and1 (dt_val (d_call c_clashes hr (Nat.le_refl _) rfl (da_cons (d_var 0) da_nil)))))) (dss_one (ds_set (k := 2) hN rfl (by first | exact .inl rfl | exact .inr rfl) d_str)) dss_nil)
  (dss_one (ds_ret (d_var 2)))))))))
/-! Book.__init__ -/
abbrev st_Book___init__ : Stmt := (inClass (top 75) 1)
abbrev N_Book___init__ : List Str := ["self", "frame", "rules", "fault"]
theorem sc_Book___init__ : FnScope N_Book___init__ ["self", "frame", "rules"] (defScope st_Book___init__) := C8.fnScope_by (by decide +kernel)
theorem e_Book___init__ (a0 a1 a2 : Val) : startD N_Book___init__ [a0, a1, a2] = [some a0, some a1, some a2, none] := rfl
@[irreducible] def w_Book___init__ (C : Addr) (s_faulty_part : DSp) : WS :=
  (wSeq (wAsg (wCB s_faulty_part (wCons (wVar 1) (wCons (wVar 2) wNil))) (gN 3))
  (wSeq (wIfS (wTest (wBin (eqW true) (wVar 3) (wC (.str "")))) wNev wNext)
  (wSeq (wAsg2 (wVar 1) (g2fld C "frame" (wVar 0)))
  (wSeq (wAsg2 (wVar 2) (g2fld C "rules" (wVar 0)))
  (wSeq (wAsg2 (wSl (wBin ixV (wVar 1) (wC (.int 0))) wNo (wPart (wC (.int 4)))) (g2tup 4 (g2cons (g2fld C "hours" (wVar 0)) (g2cons (g2fld C "places" (wVar 0)) (g2cons (g2fld C "points" (wVar 0)) (g2cons (g2fld C "age" (wVar 0)) g2nil))))))
  (wSeq (wAsg2 (wSl (wBin ixV (wVar 1) (wC (.int 0))) (wPart (wC (.int 4))) wNo) (g2tup 3 (g2cons (g2fld C "glass_age" (wVar 0)) (g2cons (g2fld C "glass_life" (wVar 0)) (g2cons (g2fld C "look_time" (wVar 0)) g2nil)))))
  (wSeq (wAsg2 (wBin ixV (wVar 1) (wC (.int 1))) (g2fld C "parents" (wVar 0)))
  (wSeq (wAsg2 (wBin ixV (wVar 1) (wC (.int 2))) (g2fld C "teams" (wVar 0)))
  (wSeq (wAsg2 (wBin ixV (wVar 1) (wC (.int 3))) (g2fld C "marks" (wVar 0)))
  (wSeq (wAsg2 (wBin ixV (wVar 1) (wC (.int 4))) (g2fld C "kinds" (wVar 0)))
  (wSeq (wAsg2 (wBin ixV (wVar 1) (wC (.int 5))) (g2fld C "roles" (wVar 0)))
  (wSeq (wAsg2 (wBin ixV (wVar 1) (wC (.int 6))) (g2fld C "parted" (wVar 0)))
  (wSeq (wAsg2 (wBin ixV (wVar 1) (wC (.int 7))) (g2fld C "lots" (wVar 0)))
  (wSeq (wAsg2 (wBin ixV (wVar 1) (wC (.int 8))) (g2fld C "doors" (wVar 0)))
  (wSeq (wAsg2 (wBin ixV (wVar 1) (wC (.int 9))) (g2fld C "glass_rows" (wVar 0)))
  (wSeq (wAsg2 (wBin ixV (wVar 1) (wC (.int 10))) (g2fld C "cases" (wVar 0)))
  (wAsg2 (wBin ixV (wVar 1) (wC (.int 11))) (g2fld C "homes" (wVar 0)))))))))))))))))))
theorem b_Book___init__ {s_faulty_part : DSp} (T : Txt K mg C) (c_faulty_part : DCal P w K mg base j "faulty_part" s_faulty_part) (hr : Room j (A.deeper (envOfC "Book.__init__" (defScope st_Book___init__) sh.heap.objs.size f cdv))) :
    DSs (cxOf C8.CX0 P w K mg base N_Book___init__ "Book.__init__" (defScope st_Book___init__) f cdv A outer sh H E).nox (defBody st_Book___init__) (w_Book___init__ C s_faulty_part) := by
  have hN := sc_Book___init__.nd
  have hu := hr.units
  have hu0 := hr.units0
  unfold w_Book___init__
  exact (dss_cons (ds_set (k := 3) hN rfl (by first | exact .inl rfl | exact .inr rfl) (d_call c_faulty_part hr (Nat.le_refl _) rfl (da_cons (d_var 1) (da_cons (d_var 2) da_nil))))
  (dss_cons (ds_if (dt_cmp (do_ne hu) (d_var 3) d_str rfl) (dss_one ds_never) dss_nil)
  (dss_cons (ds_asg (d_var 1) (dg2_fld T.cl T.na_frame (d_var 0)))
  (dss_cons (ds_asg (d_var 2) (dg2_fld T.cl T.na_rules (d_var 0)))
  (dss_cons (ds_asg (d_slice (d_ix (d_var 1) (d_gv rfl (T.gv_NUMBERS))) do_no (do_some d_int)) (dg2_tup 4 rfl (dg2s_cons (dg2_fld T.cl T.na_hours (d_var 0)) (dg2s_cons (dg2_fld T.cl T.na_places (d_var 0)) (dg2s_cons (dg2_fld T.cl T.na_points (d_var 0)) (dg2s_cons (dg2_fld T.cl T.na_age (d_var 0)) dg2s_nil))))))
  (dss_cons (ds_asg (d_slice (d_ix (d_var 1) (d_gv rfl (T.gv_NUMBERS))) (do_some d_int) do_no) (dg2_tup 3 rfl (dg2s_cons (dg2_fld T.cl T.na_glass_age (d_var 0)) (dg2s_cons (dg2_fld T.cl T.na_glass_life (d_var 0)) (dg2s_cons (dg2_fld T.cl T.na_look_time (d_var 0)) dg2s_nil)))))
  (dss_cons (ds_asg (d_ix (d_var 1) (d_gv rfl (T.gv_NODES))) (dg2_fld T.cl T.na_parents (d_var 0)))
  (dss_cons (ds_asg (d_ix (d_var 1) (d_gv rfl (T.gv_TEAMS))) (dg2_fld T.cl T.na_teams (d_var 0)))
  (dss_cons (ds_asg (d_ix (d_var 1) (d_gv rfl (T.gv_MARKS))) (dg2_fld T.cl T.na_marks (d_var 0)))
  (dss_cons (ds_asg (d_ix (d_var 1) (d_gv rfl (T.gv_KINDS))) (dg2_fld T.cl T.na_kinds (d_var 0)))
  (dss_cons (ds_asg (d_ix (d_var 1) (d_gv rfl (T.gv_ROLES))) (dg2_fld T.cl T.na_roles (d_var 0)))
  (dss_cons (ds_asg (d_ix (d_var 1) (d_gv rfl (T.gv_PARTED))) (dg2_fld T.cl T.na_parted (d_var 0)))
  (dss_cons (ds_asg (d_ix (d_var 1) (d_gv rfl (T.gv_LOTS))) (dg2_fld T.cl T.na_lots (d_var 0)))
  (dss_cons (ds_asg (d_ix (d_var 1) (d_gv rfl (T.gv_DOORS))) (dg2_fld T.cl T.na_doors (d_var 0)))
  (dss_cons (ds_asg (d_ix (d_var 1) (d_gv rfl (T.gv_GLASS))) (dg2_fld T.cl T.na_glass_rows (d_var 0)))
  (dss_cons (ds_asg (d_ix (d_var 1) (d_gv rfl (T.gv_CASES))) (dg2_fld T.cl T.na_cases (d_var 0)))
  (dss_one (ds_asg (d_ix (d_var 1) (d_gv rfl (T.gv_HOMES))) (dg2_fld T.cl T.na_homes (d_var 0))))))))))))))))))))
/-! _law_pool -/
abbrev st__law_pool : Stmt := (top 77)
abbrev N__law_pool : List Str := ["script", "at", "cell", "great"]
theorem sc__law_pool : FnScope N__law_pool ["script", "at"] (defScope st__law_pool) := C8.fnScope_by (by decide +kernel)
theorem e__law_pool (a0 a1 : Val) : startD N__law_pool [a0, a1] = [some a0, some a1, none, none] := rfl
@[irreducible] def w__law_pool : WS :=
  (wSeq (wAsg (wC (.int 0)) (gN 2))
  (wMid (wIfS (wTest (wBin ltV (wVar 1) (wCB lenV (wCons (wVar 0) wNil)))) (wAsg (wBin ixV (wVar 0) (wVar 1)) (gN 2)) wNext)
  (wMid (wIfS (wTest (wBin ltV (wVar 2) (wC (.int 0)))) (wAsg (wBin subV (wC (.int 1)) (wVar 2)) (gN 2)) wNext)
  (wSeq (wAsg (wC (.int 0)) (gN 3))
  (wMid (wIfS (wTest (wBin geV (wVar 2) (wBin powV (wC (.int 10)) (wC (.int 18))))) (wAsg (wVar 2) (gN 3)) wNext)
  (wRet (wNew (wLst (wCons (wBin addV (wBin modV (wCB intV (wCons (wVar 2) wNil)) (wC (.int 2147483647))) (wBin mulV (wC (.int 64)) (wVar 1))) (wCons (wVar 3) (wCons (wC (.int 0)) wNil)))))))))))
theorem b__law_pool (T : Txt K mg C) (hr : Room j (A.deeper (envOfC "_law_pool" (defScope st__law_pool) sh.heap.objs.size f cdv))) :
    DSs (cxOf C8.CX0 P w K mg base N__law_pool "_law_pool" (defScope st__law_pool) f cdv A outer sh H E).nox (defBody st__law_pool) (w__law_pool ) := by
  have hN := sc__law_pool.nd
  have hu := hr.units
  have hu0 := hr.units0
  unfold w__law_pool
  exact (dss_cons (ds_set (k := 2) hN rfl (by first | exact .inl rfl | exact .inr rfl) d_int)
  (dss_mid (ds_if (dt_cmp (do_lt hu0) (d_var 1) (d_callB dc_len rfl T.fr_len boot_len (da_cons (d_var 0) da_nil)) rfl) (dss_one (ds_set (k := 2) hN rfl (by first | exact .inl rfl | exact .inr rfl) (d_ix (d_var 0) (d_var 1)))) dss_nil)
  (dss_mid (ds_if (dt_cmp (do_lt hu0) (d_var 2) d_int rfl) (dss_one (ds_set (k := 2) hN rfl (by first | exact .inl rfl | exact .inr rfl) (d_bin do_sub d_int (d_var 2)))) dss_nil)
  (dss_cons (ds_set (k := 3) hN rfl (by first | exact .inl rfl | exact .inr rfl) d_int)
  (dss_mid (ds_if (dt_cmp do_ge (d_var 2) (d_bin do_pow d_int d_int) rfl) (dss_one (ds_set (k := 3) hN rfl (by first | exact .inl rfl | exact .inr rfl) (d_var 2))) dss_nil)
  (dss_one (ds_ret (d_new (dl_lst (da_cons (d_bin do_add (d_bin do_mod (d_callTy dc_int rfl T.fr_int boot_int (da_cons (d_var 2) da_nil)) d_int) (d_bin do_mul d_int (d_var 1))) (da_cons (d_var 3) (da_cons d_int da_nil))))))))))))
/-! _law_draw -/
abbrev st__law_draw : Stmt := (top 78)
abbrev N__law_draw : List Str := ["pool", "many", "got", "one"]
theorem sc__law_draw : FnScope N__law_draw ["pool", "many"] (defScope st__law_draw) := C8.fnScope_by (by decide +kernel)
theorem e__law_draw (a0 a1 : Val) : startD N__law_draw [a0, a1] = [some a0, some a1, none, none] := rfl
@[irreducible] def w__law_draw : WS :=
  (wSeq (wAsg2 (wBin addV (wBin ixV (wVar 0) (wC (.int 2))) (wC (.int 1))) (g2sub (wVar 0) (wC (.int 2))))
  (wSeq (wIfS (wTest (wBin gtV (wBin ixV (wVar 0) (wC (.int 1))) (wC (.int 0)))) (wSeq (wAsg (wBin modV (wCB intV (wCons (wBin ixV (wVar 0) (wC (.int 1))) wNil)) (wVar 1)) (gN 2))
  (wSeq (wAsg2 (wBin divV (wBin ixV (wVar 0) (wC (.int 1))) (wVar 1)) (g2sub (wVar 0) (wC (.int 1))))
  (wRet (wVar 2)))) wNext)
  (wSeq (wAsg (wBin modV (wCB intV (wCons (wBin addV (wBin addV (wBin mulV (wBin addV (wBin ixV (wVar 0) (wC (.int 0))) (wC (.int 1))) (wC (.int 48271))) (wBin mulV (wBin ixV (wVar 0) (wC (.int 2))) (wC (.int 69621)))) (wC (.int 11))) wNil)) (wC (.int 2147483647))) (gN 3))
  (wSeq (wAsg (wBin modV (wCB intV (wCons (wBin addV (wBin mulV (wVar 3) (wVar 3)) (wBin ixV (wVar 0) (wC (.int 2)))) wNil)) (wC (.int 2147483629))) (gN 3))
  (wSeq (wAsg (wBin modV (wCB intV (wCons (wBin addV (wBin mulV (wVar 3) (wVar 3)) (wBin ixV (wVar 0) (wC (.int 0)))) wNil)) (wC (.int 2147483587))) (gN 3))
  (wRet (wBin modV (wCB intV (wCons (wBin divV (wVar 3) (wC (.int 64))) wNil)) (wVar 1))))))))
theorem b__law_draw (T : Txt K mg C) (hr : Room j (A.deeper (envOfC "_law_draw" (defScope st__law_draw) sh.heap.objs.size f cdv))) :
    DSs (cxOf C8.CX0 P w K mg base N__law_draw "_law_draw" (defScope st__law_draw) f cdv A outer sh H E).nox (defBody st__law_draw) (w__law_draw ) := by
  have hN := sc__law_draw.nd
  have hu := hr.units
  have hu0 := hr.units0
  unfold w__law_draw
  exact (dss_cons (ds_asg (d_bin do_add (d_ix (d_var 0) d_int) d_int) (dg2_sub (d_var 0) d_int))
  (dss_cons (ds_if (dt_cmp do_gt (d_ix (d_var 0) d_int) d_int rfl) (dss_cons (ds_set (k := 2) hN rfl (by first | exact .inl rfl | exact .inr rfl) (d_bin do_mod (d_callTy dc_int rfl T.fr_int boot_int (da_cons (d_ix (d_var 0) d_int) da_nil)) (d_var 1)))
  (dss_cons (ds_asg (d_bin do_div (d_ix (d_var 0) d_int) (d_var 1)) (dg2_sub (d_var 0) d_int))
  (dss_one (ds_ret (d_var 2))))) dss_nil)
  (dss_cons (ds_set (k := 3) hN rfl (by first | exact .inl rfl | exact .inr rfl) (d_bin do_mod (d_callTy dc_int rfl T.fr_int boot_int (da_cons (d_bin do_add (d_bin do_add (d_bin do_mul (d_bin do_add (d_ix (d_var 0) d_int) d_int) d_int) (d_bin do_mul (d_ix (d_var 0) d_int) d_int)) d_int) da_nil)) d_int))
  (dss_cons (ds_set (k := 3) hN rfl (by first | exact .inl rfl | exact .inr rfl) (d_bin do_mod (d_callTy dc_int rfl T.fr_int boot_int (da_cons (d_bin do_add (d_bin do_mul (d_var 3) (d_var 3)) (d_ix (d_var 0) d_int)) da_nil)) d_int))
  (dss_cons (ds_set (k := 3) hN rfl (by first | exact .inl rfl | exact .inr rfl) (d_bin do_mod (d_callTy dc_int rfl T.fr_int boot_int (da_cons (d_bin do_add (d_bin do_mul (d_var 3) (d_var 3)) (d_ix (d_var 0) d_int)) da_nil)) d_int))
  (dss_one (ds_ret (d_bin do_mod (d_callTy dc_int rfl T.fr_int boot_int (da_cons (d_bin do_div (d_var 3) d_int) da_nil)) (d_var 1)))))))))
/-! _law_some -/
abbrev st__law_some : Stmt := (top 79)
abbrev N__law_some : List Str := ["pool", "many", "share", "k"]
theorem sc__law_some : FnScope N__law_some ["pool", "many", "share"] (defScope st__law_some) := C8.fnScope_by (by decide +kernel)
theorem e__law_some (a0 a1 a2 : Val) : startD N__law_some [a0, a1, a2] = [some a0, some a1, some a2, none] := rfl
@[irreducible] def w__law_some (s__law_draw : DSp) : WS :=
  (wRet (wCL tupW (wLc (wIA rg1V (wCons (wVar 1) wNil)) (gN 3) (wTest (wBin gtV (wCB s__law_draw (wCons (wVar 0) (wCons (wVar 2) wNil))) (wC (.int 0)))) (wVar 3) [3])))
theorem b__law_some {s__law_draw : DSp} (T : Txt K mg C) (c__law_draw : DCal P w K mg base j "_law_draw" s__law_draw) (hr : Room j (A.deeper (envOfC "_law_some" (defScope st__law_some) sh.heap.objs.size f cdv))) :
    DSs (cxOf C8.CX0 P w K mg base N__law_some "_law_some" (defScope st__law_some) f cdv A outer sh H E).nox (defBody st__law_some) (w__law_some s__law_draw) := by
  have hN := sc__law_some.nd
  have hu := hr.units
  have hu0 := hr.units0
  unfold w__law_some
  exact (dss_one (ds_ret (d_callTyL dc_tupleL rfl T.fr_tuple boot_tuple (dl_lc (own := [("k", 3)]) rfl hN (di_range1 rfl T.fr_range (da_cons (d_var 1) da_nil)) (blkOk_by (by show blkC N__law_some (defScope st__law_some) _ _ = true; decide +kernel)) (fun _ _ _ _ _ => (dg_name 3 hN rfl (by first | exact .inl rfl | exact .inr rfl))) (fun _ _ _ _ _ => (dts_one (dt_cmp do_gt (d_call c__law_draw hr (Nat.le_refl _) rfl (da_cons (d_var 0) (da_cons (d_var 2) da_nil))) d_int rfl))) (fun _ _ _ _ _ => (d_var 3))))))
/-! _law_or_none -/
abbrev st__law_or_none : Stmt := (top 80)
abbrev N__law_or_none : List Str := ["pool", "many", "share"]
theorem sc__law_or_none : FnScope N__law_or_none ["pool", "many", "share"] (defScope st__law_or_none) := C8.fnScope_by (by decide +kernel)
theorem e__law_or_none (a0 a1 a2 : Val) : startD N__law_or_none [a0, a1, a2] = [some a0, some a1, some a2] := rfl
@[irreducible] def w__law_or_none (s__law_draw : DSp) : WS :=
  (wSeq (wIfS (wOr (wTest (wBin (eqW false) (wVar 1) (wC (.int 0)))) (wTest (wBin gtV (wCB s__law_draw (wCons (wVar 0) (wCons (wVar 2) wNil))) (wC (.int 0))))) (wRet (wUn negV (wC (.int 1)))) wNext)
  (wRet (wCB s__law_draw (wCons (wVar 0) (wCons (wVar 1) wNil)))))
theorem b__law_or_none {s__law_draw : DSp} (T : Txt K mg C) (c__law_draw : DCal P w K mg base j "_law_draw" s__law_draw) (hr : Room j (A.deeper (envOfC "_law_or_none" (defScope st__law_or_none) sh.heap.objs.size f cdv))) :
    DSs (cxOf C8.CX0 P w K mg base N__law_or_none "_law_or_none" (defScope st__law_or_none) f cdv A outer sh H E).nox (defBody st__law_or_none) (w__law_or_none s__law_draw) := by
  have hN := sc__law_or_none.nd
  have hu := hr.units
  have hu0 := hr.units0
  unfold w__law_or_none
  exact (dss_cons (ds_if (dt_w (dw_or (dt_cmp (do_eq hu) (d_var 1) d_int rfl) (dw_or1 (dt_cmp do_gt (d_call c__law_draw hr (Nat.le_refl _) rfl (da_cons (d_var 0) (da_cons (d_var 2) da_nil))) d_int rfl)))) (dss_one (ds_ret (d_un do_neg d_int))) dss_nil)
  (dss_one (ds_ret (d_call c__law_draw hr (Nat.le_refl _) rfl (da_cons (d_var 0) (da_cons (d_var 1) da_nil))))))
/-! _law_clause -/
abbrev st__law_clause : Stmt := (top 81)
abbrev N__law_clause : List Str := ["pool", "many", "role", "has", "hasnot", "m", "way"]
theorem sc__law_clause : FnScope N__law_clause ["pool", "many", "role"] (defScope st__law_clause) := C8.fnScope_by (by decide +kernel)
theorem e__law_clause (a0 a1 a2 : Val) : startD N__law_clause [a0, a1, a2] = [some a0, some a1, some a2, none, none, none, none] := rfl
@[irreducible] def w__law_clause (s__law_draw s__law_or_none : DSp) : WS :=
  (wSeq (wAsg (wNew (wLst wNil)) (gN 3))
  (wSeq (wAsg (wNew (wLst wNil)) (gN 4))
  (wSeq (wFor (wIA rg1V (wCons (wBin ixV (wVar 1) (wC (.int 5))) wNil)) (gN 5) (wSeq (wAsg (wCB s__law_draw (wCons (wVar 0) (wCons (wC (.int 24)) wNil))) (gN 6))
  (wMid (wIfS (wOr (wTest (wBin ltV (wVar 6) (wC (.int 6)))) (wTest (wBin (eqW false) (wVar 6) (wC (.int 10))))) (wDrop (wMt appV (wVar 3) (wCons (wVar 5) wNil))) wNext)
  (wIfS (wTest (wChain leV leV (wC (.int 6)) (wVar 6) (wC (.int 10)))) (wDrop (wMt appV (wVar 4) (wCons (wVar 5) wNil))) wNext))))
  (wRet (wTup (wCons (wCB s__law_or_none (wCons (wVar 0) (wCons (wBin ixV (wVar 1) (wC (.int 6))) (wCons (wC (.int 3)) wNil)))) (wCons (wCB s__law_or_none (wCons (wVar 0) (wCons (wBin ixV (wVar 1) (wC (.int 4))) (wCons (wC (.int 3)) wNil)))) (wCons (wCB tupV (wCons (wVar 3) wNil)) (wCons (wCB tupV (wCons (wVar 4) wNil)) (wCons (wCB s__law_or_none (wCons (wVar 0) (wCons (wVar 2) (wCons (wC (.int 3)) wNil)))) wNil))))))))))
theorem b__law_clause {s__law_draw s__law_or_none : DSp} (T : Txt K mg C) (c__law_draw : DCal P w K mg base j "_law_draw" s__law_draw) (c__law_or_none : DCal P w K mg base j "_law_or_none" s__law_or_none) (hr : Room j (A.deeper (envOfC "_law_clause" (defScope st__law_clause) sh.heap.objs.size f cdv))) :
    DSs (cxOf C8.CX0 P w K mg base N__law_clause "_law_clause" (defScope st__law_clause) f cdv A outer sh H E).nox (defBody st__law_clause) (w__law_clause s__law_draw s__law_or_none) := by
  have hN := sc__law_clause.nd
  have hu := hr.units
  have hu0 := hr.units0
  unfold w__law_clause
  exact (dss_cons (ds_set (k := 3) hN rfl (by first | exact .inl rfl | exact .inr rfl) (d_new (dl_lst da_nil)))
  (dss_cons (ds_set (k := 4) hN rfl (by first | exact .inl rfl | exact .inr rfl) (d_new (dl_lst da_nil)))
  (dss_cons (ds_for PassesOwn.never rfl (di_range1 rfl T.fr_range (da_cons (d_ix (d_var 1) d_int) da_nil)) (dg_name 5 hN rfl (by first | exact .inl rfl | exact .inr rfl)) (dss_cons (ds_set (k := 6) hN rfl (by first | exact .inl rfl | exact .inr rfl) (d_call c__law_draw hr (Nat.le_refl _) rfl (da_cons (d_var 0) (da_cons d_int da_nil))))
  (dss_mid (ds_if (dt_w (dw_or (dt_cmp (do_lt hu0) (d_var 6) d_int rfl) (dw_or1 (dt_cmp (do_eq hu) (d_var 6) d_int rfl)))) (dss_one (ds_expr (d_mt PySem.F.slot_list_append PySem.F.type_list_append dm_append (d_var 3) (da_cons (d_var 5) da_nil)))) dss_nil)
  (dss_one (ds_if (dt_chain do_le do_le d_int (d_var 6) d_int) (dss_one (ds_expr (d_mt PySem.F.slot_list_append PySem.F.type_list_append dm_append (d_var 4) (da_cons (d_var 5) da_nil)))) dss_nil)))))
  (dss_one (ds_ret (d_tup (da_cons (d_call c__law_or_none hr (Nat.le_refl _) rfl (da_cons (d_var 0) (da_cons (d_ix (d_var 1) d_int) (da_cons d_int da_nil)))) (da_cons (d_call c__law_or_none hr (Nat.le_refl _) rfl (da_cons (d_var 0) (da_cons (d_ix (d_var 1) d_int) (da_cons d_int da_nil)))) (da_cons (d_callTy dc_tuple rfl T.fr_tuple boot_tuple (da_cons (d_var 3) da_nil)) (da_cons (d_callTy dc_tuple rfl T.fr_tuple boot_tuple (da_cons (d_var 4) da_nil)) (da_cons (d_call c__law_or_none hr (Nat.le_refl _) rfl (da_cons (d_var 0) (da_cons (d_var 2) (da_cons d_int da_nil)))) da_nil)))))))))))
/-! _law_ladder -/
abbrev st__law_ladder : Stmt := (top 82)
abbrev N__law_ladder : List Str := ["pool", "many", "ladder", "r", "k"]
theorem sc__law_ladder : FnScope N__law_ladder ["pool", "many"] (defScope st__law_ladder) := C8.fnScope_by (by decide +kernel)
theorem e__law_ladder (a0 a1 : Val) : startD N__law_ladder [a0, a1] = [some a0, some a1, none, none, none] := rfl
@[irreducible] def w__law_ladder (s__law_clause s__law_draw : DSp) : WS :=
  (wSeq (wAsg (wNew (wLst wNil)) (gN 2))
  (wSeq (wFor (wIA rg1V (wCons (wBin ixV (wVar 1) (wC (.int 7))) wNil)) (gN 3) (wDrop (wMt appV (wVar 2) (wCons (wCL tupW (wLc (wIA rg1V (wCons (wBin addV (wC (.int 1)) (wCB s__law_draw (wCons (wVar 0) (wCons (wBin ixV (wVar 1) (wC (.int 8))) wNil)))) wNil)) (gN 4) wYes (wCB s__law_clause (wCons (wVar 0) (wCons (wVar 1) (wCons (wVar 3) wNil)))) [4])) wNil))))
  (wRet (wCB tupV (wCons (wVar 2) wNil)))))
theorem b__law_ladder {s__law_clause s__law_draw : DSp} (T : Txt K mg C) (c__law_clause : DCal P w K mg base j "_law_clause" s__law_clause) (c__law_draw : DCal P w K mg base j "_law_draw" s__law_draw) (hr : Room j (A.deeper (envOfC "_law_ladder" (defScope st__law_ladder) sh.heap.objs.size f cdv))) :
    DSs (cxOf C8.CX0 P w K mg base N__law_ladder "_law_ladder" (defScope st__law_ladder) f cdv A outer sh H E).nox (defBody st__law_ladder) (w__law_ladder s__law_clause s__law_draw) := by
  have hN := sc__law_ladder.nd
  have hu := hr.units
  have hu0 := hr.units0
  unfold w__law_ladder
  exact (dss_cons (ds_set (k := 2) hN rfl (by first | exact .inl rfl | exact .inr rfl) (d_new (dl_lst da_nil)))
  (dss_cons (ds_for PassesOwn.never rfl (di_range1 rfl T.fr_range (da_cons (d_ix (d_var 1) d_int) da_nil)) (dg_name 3 hN rfl (by first | exact .inl rfl | exact .inr rfl)) (dss_one (ds_expr (d_mt PySem.F.slot_list_append PySem.F.type_list_append dm_append (d_var 2) (da_cons (d_callTyL dc_tupleL rfl T.fr_tuple boot_tuple (dl_lc (own := [("k", 4)]) rfl hN (di_range1 rfl T.fr_range (da_cons (d_bin do_add d_int (d_call c__law_draw hr (Nat.le_refl _) rfl (da_cons (d_var 0) (da_cons (d_ix (d_var 1) d_int) da_nil)))) da_nil)) (blkOk_by (by show blkC N__law_ladder (defScope st__law_ladder) _ _ = true; decide +kernel)) (fun _ _ _ _ _ => (dg_name 4 hN rfl (by first | exact .inl rfl | exact .inr rfl))) (fun _ _ _ _ _ => dts_nil) (fun _ _ _ _ _ => (d_call c__law_clause hr (Nat.le_refl _) rfl (da_cons (d_var 0) (da_cons (d_var 1) (da_cons (d_var 3) da_nil))))))) da_nil)))))
  (dss_one (ds_ret (d_callTy dc_tuple rfl T.fr_tuple boot_tuple (da_cons (d_var 2) da_nil))))))
/-! _law_lot -/
abbrev st__law_lot : Stmt := (top 83)
abbrev N__law_lot : List Str := ["pool", "many", "passes", "rows_here", "k", "node", "verbs", "depth", "life"]
theorem sc__law_lot : FnScope N__law_lot ["pool", "many"] (defScope st__law_lot) := C8.fnScope_by (by decide +kernel)
theorem e__law_lot (a0 a1 : Val) : startD N__law_lot [a0, a1] = [some a0, some a1, none, none, none, none, none, none, none] := rfl
@[irreducible] def w__law_lot (s__law_draw s__law_or_none s__law_some : DSp) : WS :=
  (wSeq (wAsg (wNew (wLst wNil)) (gN 2))
  (wSeq (wAsg (wCB maxV (wCons (wCB s__law_draw (wCons (wVar 0) (wCons (wBin addV (wBin ixV (wVar 1) (wC (.int 11))) (wC (.int 1))) wNil))) (wCons (wCB minV (wCons (wBin ixV (wVar 1) (wC (.int 11))) (wCons (wCB s__law_draw (wCons (wVar 0) (wCons (wC (.int 3)) wNil))) wNil))) wNil))) (gN 3))
  (wSeq (wFor (wIA rg1V (wCons (wVar 3) wNil)) (gN 4) (wDrop (wMt appV (wVar 2) (wCons (wTup (wCons (wCB s__law_or_none (wCons (wVar 0) (wCons (wBin ixV (wVar 1) (wC (.int 7))) (wCons (wC (.int 3)) wNil)))) (wCons (wCB s__law_or_none (wCons (wVar 0) (wCons (wBin ixV (wVar 1) (wC (.int 7))) (wCons (wC (.int 3)) wNil)))) wNil))) wNil))))
  (wSeq (wAsg (wCB s__law_draw (wCons (wVar 0) (wCons (wBin addV (wC (.int 1)) (wCB s__law_draw (wCons (wVar 0) (wCons (wBin ixV (wVar 1) (wC (.int 3))) wNil)))) wNil))) (gN 5))
  (wSeq (wAsg (wCB s__law_some (wCons (wVar 0) (wCons (wC (.int 13)) (wCons (wC (.int 2)) wNil)))) (gN 6))
  (wSeq (wAsg (wBin subV (wC (.int 2)) (wBin modV (wCB intV (wCons (wBin divV (wCB s__law_draw (wCons (wVar 0) (wCons (wC (.int 9)) wNil))) (wC (.int 2))) wNil)) (wC (.int 3)))) (gN 7))
  (wSeq (wAsg (wBin addV (wC (.int 1)) (wCB maxV (wCons (wCB s__law_draw (wCons (wVar 0) (wCons (wC (.int 6)) wNil))) (wCons (wCB s__law_draw (wCons (wVar 0) (wCons (wC (.int 6)) wNil))) wNil)))) (gN 8))
  (wRet (wTup (wCons (wVar 5) (wCons (wVar 6) (wCons (wCB s__law_draw (wCons (wVar 0) (wCons (wC (.int 4)) wNil))) (wCons (wVar 7) (wCons (wVar 8) (wCons (wCB s__law_or_none (wCons (wVar 0) (wCons (wBin ixV (wVar 1) (wC (.int 7))) (wCons (wC (.int 3)) wNil)))) (wCons (wCB s__law_or_none (wCons (wVar 0) (wCons (wBin ixV (wVar 1) (wC (.int 7))) (wCons (wC (.int 5)) wNil)))) (wCons (wCB tupV (wCons (wVar 2) wNil)) wNil)))))))))))))))))
theorem b__law_lot {s__law_draw s__law_or_none s__law_some : DSp} (T : Txt K mg C) (c__law_draw : DCal P w K mg base j "_law_draw" s__law_draw) (c__law_or_none : DCal P w K mg base j "_law_or_none" s__law_or_none) (c__law_some : DCal P w K mg base j "_law_some" s__law_some) (hr : Room j (A.deeper (envOfC "_law_lot" (defScope st__law_lot) sh.heap.objs.size f cdv))) :
    DSs (cxOf C8.CX0 P w K mg base N__law_lot "_law_lot" (defScope st__law_lot) f cdv A outer sh H E).nox (defBody st__law_lot) (w__law_lot s__law_draw s__law_or_none s__law_some) := by
  have hN := sc__law_lot.nd
  have hu := hr.units
  have hu0 := hr.units0
  unfold w__law_lot
  exact (dss_cons (ds_set (k := 2) hN rfl (by first | exact .inl rfl | exact .inr rfl) (d_new (dl_lst da_nil)))
  (dss_cons (ds_set (k := 3) hN rfl (by first | exact .inl rfl | exact .inr rfl) (d_callB (dc_max rfl) rfl T.fr_max boot_max (da_cons (d_call c__law_draw hr (Nat.le_refl _) rfl (da_cons (d_var 0) (da_cons (d_bin do_add (d_ix (d_var 1) d_int) d_int) da_nil))) (da_cons (d_callB (dc_min rfl) rfl T.fr_min boot_min (da_cons (d_ix (d_var 1) d_int) (da_cons (d_call c__law_draw hr (Nat.le_refl _) rfl (da_cons (d_var 0) (da_cons d_int da_nil))) da_nil))) da_nil))))
  (dss_cons (ds_for PassesOwn.never rfl (di_range1 rfl T.fr_range (da_cons (d_var 3) da_nil)) (dg_name 4 hN rfl (by first | exact .inl rfl | exact .inr rfl)) (dss_one (ds_expr (d_mt PySem.F.slot_list_append PySem.F.type_list_append dm_append (d_var 2) (da_cons (d_tup (da_cons (d_call c__law_or_none hr (Nat.le_refl _) rfl (da_cons (d_var 0) (da_cons (d_ix (d_var 1) d_int) (da_cons d_int da_nil)))) (da_cons (d_call c__law_or_none hr (Nat.le_refl _) rfl (da_cons (d_var 0) (da_cons (d_ix (d_var 1) d_int) (da_cons d_int da_nil)))) da_nil))) da_nil)))))
  (dss_cons (ds_set (k := 5) hN rfl (by first | exact .inl rfl | exact .inr rfl) (d_call c__law_draw hr (Nat.le_refl _) rfl (da_cons (d_var 0) (da_cons (d_bin do_add d_int (d_call c__law_draw hr (Nat.le_refl _) rfl (da_cons (d_var 0) (da_cons (d_ix (d_var 1) d_int) da_nil)))) da_nil))))
  (dss_cons (ds_set (k := 6) hN rfl (by first | exact .inl rfl | exact .inr rfl) (d_call c__law_some hr (Nat.le_refl _) rfl (da_cons (d_var 0) (da_cons d_int (da_cons d_int da_nil)))))
  (dss_cons (ds_set (k := 7) hN rfl (by first | exact .inl rfl | exact .inr rfl) (d_bin do_sub d_int (d_bin do_mod (d_callTy dc_int rfl T.fr_int boot_int (da_cons (d_bin do_div (d_call c__law_draw hr (Nat.le_refl _) rfl (da_cons (d_var 0) (da_cons d_int da_nil))) d_int) da_nil)) d_int)))
  (dss_cons (ds_set (k := 8) hN rfl (by first | exact .inl rfl | exact .inr rfl) (d_bin do_add d_int (d_callB (dc_max rfl) rfl T.fr_max boot_max (da_cons (d_call c__law_draw hr (Nat.le_refl _) rfl (da_cons (d_var 0) (da_cons d_int da_nil))) (da_cons (d_call c__law_draw hr (Nat.le_refl _) rfl (da_cons (d_var 0) (da_cons d_int da_nil))) da_nil)))))
  (dss_one (ds_ret (d_tup (da_cons (d_var 5) (da_cons (d_var 6) (da_cons (d_call c__law_draw hr (Nat.le_refl _) rfl (da_cons (d_var 0) (da_cons d_int da_nil))) (da_cons (d_var 7) (da_cons (d_var 8) (da_cons (d_call c__law_or_none hr (Nat.le_refl _) rfl (da_cons (d_var 0) (da_cons (d_ix (d_var 1) d_int) (da_cons d_int da_nil)))) (da_cons (d_call c__law_or_none hr (Nat.le_refl _) rfl (da_cons (d_var 0) (da_cons (d_ix (d_var 1) d_int) (da_cons d_int da_nil)))) (da_cons (d_callTy dc_tuple rfl T.fr_tuple boot_tuple (da_cons (d_var 2) da_nil)) da_nil))))))))))))))))))
/-! _law_reach -/
abbrev st__law_reach : Stmt := (top 84)
abbrev N__law_reach : List Str := ["pool", "many", "node", "deep"]
theorem sc__law_reach : FnScope N__law_reach ["pool", "many"] (defScope st__law_reach) := C8.fnScope_by (by decide +kernel)
theorem e__law_reach (a0 a1 : Val) : startD N__law_reach [a0, a1] = [some a0, some a1, none, none] := rfl
@[irreducible] def w__law_reach (s__law_draw s__law_some : DSp) : WS :=
  (wSeq (wAsg (wCB s__law_draw (wCons (wVar 0) (wCons (wBin addV (wC (.int 1)) (wCB s__law_draw (wCons (wVar 0) (wCons (wBin ixV (wVar 1) (wC (.int 3))) wNil)))) wNil))) (gN 2))
  (wSeq (wAsg (wCB intV (wCons (wBin gtV (wCB s__law_draw (wCons (wVar 0) (wCons (wC (.int 3)) wNil))) (wC (.int 0))) wNil)) (gN 3))
  (wRet (wTup (wCons (wCB s__law_some (wCons (wVar 0) (wCons (wC (.int 13)) (wCons (wC (.int 2)) wNil)))) (wCons (wVar 2) (wCons (wVar 3) (wCons (wCB s__law_some (wCons (wVar 0) (wCons (wBin ixV (wVar 1) (wC (.int 0))) (wCons (wC (.int 4)) wNil)))) (wCons (wCB s__law_some (wCons (wVar 0) (wCons (wBin ixV (wVar 1) (wC (.int 1))) (wCons (wC (.int 4)) wNil)))) wNil)))))))))
theorem b__law_reach {s__law_draw s__law_some : DSp} (T : Txt K mg C) (c__law_draw : DCal P w K mg base j "_law_draw" s__law_draw) (c__law_some : DCal P w K mg base j "_law_some" s__law_some) (hr : Room j (A.deeper (envOfC "_law_reach" (defScope st__law_reach) sh.heap.objs.size f cdv))) :
    DSs (cxOf C8.CX0 P w K mg base N__law_reach "_law_reach" (defScope st__law_reach) f cdv A outer sh H E).nox (defBody st__law_reach) (w__law_reach s__law_draw s__law_some) := by
  have hN := sc__law_reach.nd
  have hu := hr.units
  have hu0 := hr.units0
  unfold w__law_reach
  exact (dss_cons (ds_set (k := 2) hN rfl (by first | exact .inl rfl | exact .inr rfl) (d_call c__law_draw hr (Nat.le_refl _) rfl (da_cons (d_var 0) (da_cons (d_bin do_add d_int (d_call c__law_draw hr (Nat.le_refl _) rfl (da_cons (d_var 0) (da_cons (d_ix (d_var 1) d_int) da_nil)))) da_nil))))
  (dss_cons (ds_set (k := 3) hN rfl (by first | exact .inl rfl | exact .inr rfl) (d_callTy dc_int rfl T.fr_int boot_int (da_cons (d_cmp do_gt (d_call c__law_draw hr (Nat.le_refl _) rfl (da_cons (d_var 0) (da_cons d_int da_nil))) d_int rfl) da_nil)))
  (dss_one (ds_ret (d_tup (da_cons (d_call c__law_some hr (Nat.le_refl _) rfl (da_cons (d_var 0) (da_cons d_int (da_cons d_int da_nil)))) (da_cons (d_var 2) (da_cons (d_var 3) (da_cons (d_call c__law_some hr (Nat.le_refl _) rfl (da_cons (d_var 0) (da_cons (d_ix (d_var 1) d_int) (da_cons d_int da_nil)))) (da_cons (d_call c__law_some hr (Nat.le_refl _) rfl (da_cons (d_var 0) (da_cons (d_ix (d_var 1) d_int) (da_cons d_int da_nil)))) da_nil))))))))))
/-! _law_cases -/
abbrev st__law_cases : Stmt := (top 85)
abbrev N__law_cases : List Str := ["pool", "many", "found", "left", "k", "node", "i"]
theorem sc__law_cases : FnScope N__law_cases ["pool", "many"] (defScope st__law_cases) := C8.fnScope_by (by decide +kernel)
theorem e__law_cases (a0 a1 : Val) : startD N__law_cases [a0, a1] = [some a0, some a1, none, none, none, none, none] := rfl
@[irreducible] def w__law_cases (s__law_draw : DSp) : WS :=
  (wSeq (wAsg (wNew (wLst wNil)) (gN 2))
  (wSeq (wAsg (wNew (wCBL rgW (wCons (wBin ixV (wVar 1) (wC (.int 3))) wNil))) (gN 3))
  (wSeq (wFor (wIA rg1V (wCons (wCB minV (wCons (wBin ixV (wVar 1) (wC (.int 14))) (wCons (wBin ixV (wVar 1) (wC (.int 3))) wNil))) wNil)) (gN 4) (wSeq (wAsg (wMt popAtV (wVar 3) (wCons (wCB s__law_draw (wCons (wVar 0) (wCons (wCB lenV (wCons (wVar 3) wNil)) wNil))) wNil)) (gN 5))
  (wDrop (wMt appV (wVar 2) (wCons (wTup (wCons (wVar 5) (wCons (wCL tupW (wLc (wIA rg1V (wCons (wBin addV (wC (.int 1)) (wCB s__law_draw (wCons (wVar 0) (wCons (wC (.int 3)) wNil)))) wNil)) (gN 6) wYes (wBin addV (wC (.int 9)) (wCB s__law_draw (wCons (wVar 0) (wCons (wC (.int 4)) wNil)))) [6])) wNil))) wNil)))))
  (wRet (wCB tupV (wCons (wVar 2) wNil))))))
theorem b__law_cases {s__law_draw : DSp} (T : Txt K mg C) (c__law_draw : DCal P w K mg base j "_law_draw" s__law_draw) (hr : Room j (A.deeper (envOfC "_law_cases" (defScope st__law_cases) sh.heap.objs.size f cdv))) :
    DSs (cxOf C8.CX0 P w K mg base N__law_cases "_law_cases" (defScope st__law_cases) f cdv A outer sh H E).nox (defBody st__law_cases) (w__law_cases s__law_draw) := by
  have hN := sc__law_cases.nd
  have hu := hr.units
  have hu0 := hr.units0
  unfold w__law_cases
  exact (dss_cons (ds_set (k := 2) hN rfl (by first | exact .inl rfl | exact .inr rfl) (d_new (dl_lst da_nil)))
  (dss_cons (ds_set (k := 3) hN rfl (by first | exact .inl rfl | exact .inr rfl) (d_new (dl_listRg rfl rfl T.fr_list (prg1 rfl T.fr_range (d_ix (d_var 1) d_int)))))
  (dss_cons (ds_for PassesOwn.never rfl (di_range1 rfl T.fr_range (da_cons (d_callB (dc_min rfl) rfl T.fr_min boot_min (da_cons (d_ix (d_var 1) d_int) (da_cons (d_ix (d_var 1) d_int) da_nil))) da_nil)) (dg_name 4 hN rfl (by first | exact .inl rfl | exact .inr rfl)) (dss_cons (ds_set (k := 5) hN rfl (by first | exact .inl rfl | exact .inr rfl) (d_mt PySem.F.slot_list_pop PySem.F.type_list_pop dm_popAt (d_var 3) (da_cons (d_call c__law_draw hr (Nat.le_refl _) rfl (da_cons (d_var 0) (da_cons (d_callB dc_len rfl T.fr_len boot_len (da_cons (d_var 3) da_nil)) da_nil))) da_nil)))
  (dss_one (ds_expr (d_mt PySem.F.slot_list_append PySem.F.type_list_append dm_append (d_var 2) (da_cons (d_tup (da_cons (d_var 5) (da_cons (d_callTyL dc_tupleL rfl T.fr_tuple boot_tuple (dl_lc (own := [("i", 6)]) rfl hN (di_range1 rfl T.fr_range (da_cons (d_bin do_add d_int (d_call c__law_draw hr (Nat.le_refl _) rfl (da_cons (d_var 0) (da_cons d_int da_nil)))) da_nil)) (blkOk_by (by show blkC N__law_cases (defScope st__law_cases) _ _ = true; decide +kernel)) (fun _ _ _ _ _ => (dg_name 6 hN rfl (by first | exact .inl rfl | exact .inr rfl))) (fun _ _ _ _ _ => dts_nil) (fun _ _ _ _ _ => (d_bin do_add d_int (d_call c__law_draw hr (Nat.le_refl _) rfl (da_cons (d_var 0) (da_cons d_int da_nil))))))) da_nil))) da_nil))))))
  (dss_one (ds_ret (d_callTy dc_tuple rfl T.fr_tuple boot_tuple (da_cons (d_var 2) da_nil)))))))
/-! _law_sizes -/
abbrev st__law_sizes : Stmt := (top 86)
abbrev N__law_sizes : List Str := ["pool", "big", "low", "top", "k"]
theorem sc__law_sizes : FnScope N__law_sizes ["pool", "big"] (defScope st__law_sizes) := C8.fnScope_by (by decide +kernel)
theorem e__law_sizes (a0 a1 : Val) : startD N__law_sizes [a0, a1] = [some a0, some a1, none, none, none] := rfl
@[irreducible] def w__law_sizes (s__law_draw : DSp) : WS :=
  (wSeq (wAsg (wNew (wLst (wCons (wC (.int 1)) (wCons (wC (.int 1)) (wCons (wC (.int 1)) (wCons (wC (.int 1)) (wCons (wC (.int 1)) (wCons (wC (.int 1)) (wCons (wC (.int 1)) (wCons (wC (.int 1)) (wCons (wC (.int 1)) (wCons (wC (.int 0)) (wCons (wC (.int 0)) (wCons (wC (.int 0)) (wCons (wC (.int 0)) (wCons (wC (.int 0)) (wCons (wC (.int 0)) wNil))))))))))))))))) (gN 2))
  (wSeq (wAsg (wNew (wLst (wCons (wC (.int 2)) (wCons (wC (.int 1)) (wCons (wC (.int 2)) (wCons (wC (.int 3)) (wCons (wC (.int 3)) (wCons (wC (.int 3)) (wCons (wC (.int 2)) (wCons (wC (.int 4)) (wCons (wC (.int 2)) (wCons (wC (.int 2)) (wCons (wC (.int 1)) (wCons (wC (.int 2)) (wCons (wC (.int 1)) (wCons (wC (.int 1)) (wCons (wC (.int 1)) wNil))))))))))))))))) (gN 3))
  (wMid (wIfS (wTest (wBin gtV (wVar 1) (wC (.int 0)))) (wSeq (wAsg (wNew (wLst (wCons (wC (.int 1)) (wCons (wC (.int 1)) (wCons (wC (.int 1)) (wCons (wC (.int 1)) (wCons (wC (.int 1)) (wCons (wC (.int 0)) (wCons (wC (.int 1)) (wCons (wC (.int 0)) (wCons (wC (.int 1)) (wCons (wC (.int 0)) (wCons (wC (.int 0)) (wCons (wC (.int 0)) (wCons (wC (.int 0)) (wCons (wC (.int 0)) (wCons (wC (.int 0)) wNil))))))))))))))))) (gN 2))
  (wAsg (wNew (wLst (wCons (wC (.int 4)) (wCons (wC (.int 2)) (wCons (wC (.int 3)) (wCons (wC (.int 8)) (wCons (wC (.int 3)) (wCons (wC (.int 3)) (wCons (wC (.int 3)) (wCons (wC (.int 6)) (wCons (wC (.int 3)) (wCons (wC (.int 3)) (wCons (wC (.int 2)) (wCons (wC (.int 3)) (wCons (wC (.int 2)) (wCons (wC (.int 3)) (wCons (wC (.int 2)) wNil))))))))))))))))) (gN 3))) wNext)
  (wRet (wNew (wLc (wIA rg1V (wCons (wC (.int 15)) wNil)) (gN 4) wYes (wBin addV (wBin ixV (wVar 2) (wVar 4)) (wCB s__law_draw (wCons (wVar 0) (wCons (wBin addV (wBin subV (wBin ixV (wVar 3) (wVar 4)) (wBin ixV (wVar 2) (wVar 4))) (wC (.int 1))) wNil)))) [4]))))))
theorem b__law_sizes {s__law_draw : DSp} (T : Txt K mg C) (c__law_draw : DCal P w K mg base j "_law_draw" s__law_draw) (hr : Room j (A.deeper (envOfC "_law_sizes" (defScope st__law_sizes) sh.heap.objs.size f cdv))) :
    DSs (cxOf C8.CX0 P w K mg base N__law_sizes "_law_sizes" (defScope st__law_sizes) f cdv A outer sh H E).nox (defBody st__law_sizes) (w__law_sizes s__law_draw) := by
  have hN := sc__law_sizes.nd
  have hu := hr.units
  have hu0 := hr.units0
  unfold w__law_sizes
  exact (dss_cons (ds_set (k := 2) hN rfl (by first | exact .inl rfl | exact .inr rfl) (d_new (dl_lst (da_cons d_int (da_cons d_int (da_cons d_int (da_cons d_int (da_cons d_int (da_cons d_int (da_cons d_int (da_cons d_int (da_cons d_int (da_cons d_int (da_cons d_int (da_cons d_int (da_cons d_int (da_cons d_int (da_cons d_int da_nil))))))))))))))))))
  (dss_cons (ds_set (k := 3) hN rfl (by first | exact .inl rfl | exact .inr rfl) (d_new (dl_lst (da_cons d_int (da_cons d_int (da_cons d_int (da_cons d_int (da_cons d_int (da_cons d_int (da_cons d_int (da_cons d_int (da_cons d_int (da_cons d_int (da_cons d_int (da_cons d_int (da_cons d_int (da_cons d_int (da_cons d_int da_nil))))))))))))))))))
  (dss_mid (ds_if (dt_cmp do_gt (d_var 1) d_int rfl) (dss_cons (ds_set (k := 2) hN rfl (by first | exact .inl rfl | exact .inr rfl) (d_new (dl_lst (da_cons d_int (da_cons d_int (da_cons d_int (da_cons d_int (da_cons d_int (da_cons d_int (da_cons d_int (da_cons d_int (da_cons d_int (da_cons d_int (da_cons d_int (da_cons d_int (da_cons d_int (da_cons d_int (da_cons d_int da_nil))))))))))))))))))
  (dss_one (ds_set (k := 3) hN rfl (by first | exact .inl rfl | exact .inr rfl) (d_new (dl_lst (da_cons d_int (da_cons d_int (da_cons d_int (da_cons d_int (da_cons d_int (da_cons d_int (da_cons d_int (da_cons d_int (da_cons d_int (da_cons d_int (da_cons d_int (da_cons d_int (da_cons d_int (da_cons d_int (da_cons d_int da_nil)))))))))))))))))))) dss_nil)
  (dss_one (ds_ret (d_new (dl_lc (own := [("k", 4)]) rfl hN (di_range1 rfl T.fr_range (da_cons d_int da_nil)) (blkOk_by (by show blkC N__law_sizes (defScope st__law_sizes) _ _ = true; decide +kernel)) (fun _ _ _ _ _ => (dg_name 4 hN rfl (by first | exact .inl rfl | exact .inr rfl))) (fun _ _ _ _ _ => dts_nil) (fun _ _ _ _ _ => (d_bin do_add (d_ix (d_var 2) (d_var 4)) (d_call c__law_draw hr (Nat.le_refl _) rfl (da_cons (d_var 0) (da_cons (d_bin do_add (d_bin do_sub (d_ix (d_var 3) (d_var 4)) (d_ix (d_var 2) (d_var 4))) d_int) da_nil))))))))))))
/-! _law_frame -/
abbrev st__law_frame : Stmt := (top 87)
abbrev N__law_frame : List Str := ["pool", "many", "old", "numbers", "ups", "crews", "k", "signs", "joiners", "ladder", "loans", "gates", "got", "panes", "stints", "spots", "fr", "m"]
theorem sc__law_frame : FnScope N__law_frame ["pool", "many"] (defScope st__law_frame) := C8.fnScope_by (by decide +kernel)
theorem e__law_frame (a0 a1 : Val) : startD N__law_frame [a0, a1] = [some a0, some a1, none, none, none, none, none, none, none, none, none, none, none, none, none, none, none, none] := rfl
@[irreducible] def w__law_frame (s__law_cases s__law_draw s__law_ladder s__law_lot s__law_or_none s__law_parted s__law_reach : DSp) : WS :=
  (wSeq (wAsg (wBin addV (wC (.int 1)) (wCB s__law_draw (wCons (wVar 0) (wCons (wC (.int 4)) wNil)))) (gN 2))
  (wSeq (wAsg (wTup (wCons (wBin ixV (wVar 1) (wC (.int 0))) (wCons (wBin ixV (wVar 1) (wC (.int 1))) (wCons (wBin ixV (wVar 1) (wC (.int 2))) (wCons (wVar 2) (wCons (wBin addV (wVar 2) (wCB s__law_draw (wCons (wVar 0) (wCons (wBin subV (wC (.int 9)) (wVar 2)) wNil)))) (wCons (wBin addV (wC (.int 1)) (wCB s__law_draw (wCons (wVar 0) (wCons (wC (.int 4)) wNil)))) (wCons (wBin addV (wC (.int 1)) (wCB s__law_draw (wCons (wVar 0) (wCons (wC (.int 6)) wNil)))) wNil)))))))) (gN 3))
  (wSeq (wAsg (wCL tupW (wBinL catW (wLst (wCons (wUn negV (wC (.int 1))) wNil)) (wLc (wIA rg2V (wCons (wC (.int 1)) (wCons (wBin ixV (wVar 1) (wC (.int 3))) wNil))) (gN 6) wYes (wCB s__law_draw (wCons (wVar 0) (wCons (wVar 6) wNil))) [6]))) (gN 4))
  (wSeq (wAsg (wNew (wLst wNil)) (gN 5))
  (wSeq (wFor (wIA rg1V (wCons (wBin ixV (wVar 1) (wC (.int 4))) wNil)) (gN 6) (wDrop (wMt appV (wVar 5) (wCons (wTup (wCons (wBin subV (wCB s__law_draw (wCons (wVar 0) (wCons (wBin addV (wVar 6) (wC (.int 1))) wNil))) (wC (.int 1))) (wCons (wCB s__law_draw (wCons (wVar 0) (wCons (wBin ixV (wVar 1) (wC (.int 3))) wNil))) (wCons (wCB s__law_or_none (wCons (wVar 0) (wCons (wBin ixV (wVar 1) (wC (.int 7))) (wCons (wC (.int 3)) wNil)))) (wCons (wCB s__law_or_none (wCons (wVar 0) (wCons (wBin ixV (wVar 1) (wC (.int 7))) (wCons (wC (.int 5)) wNil)))) wNil))))) wNil))))
  (wSeq (wAsg (wNew (wLst wNil)) (gN 7))
  (wSeq (wFor (wIA rg1V (wCons (wBin ixV (wVar 1) (wC (.int 5))) wNil)) (gN 6) (wDrop (wMt appV (wVar 7) (wCons (wTup (wCons (wCB s__law_draw (wCons (wVar 0) (wCons (wBin ixV (wVar 1) (wC (.int 3))) wNil))) (wCons (wCB s__law_or_none (wCons (wVar 0) (wCons (wBin ixV (wVar 1) (wC (.int 7))) (wCons (wC (.int 3)) wNil)))) (wCons (wCB s__law_or_none (wCons (wVar 0) (wCons (wBin ixV (wVar 1) (wC (.int 7))) (wCons (wC (.int 5)) wNil)))) (wCons (wBin addV (wC (.int 1)) (wCB intV (wCons (wBin (eqW false) (wCB s__law_draw (wCons (wVar 0) (wCons (wC (.int 4)) wNil))) (wC (.int 0))) wNil))) wNil))))) wNil))))
  (wSeq (wAsg (wNew (wLst wNil)) (gN 8))
  (wSeq (wFor (wIA rg1V (wCons (wBin ixV (wVar 1) (wC (.int 6))) wNil)) (gN 6) (wDrop (wMt appV (wVar 8) (wCons (wTup (wCons (wCB s__law_draw (wCons (wVar 0) (wCons (wBin ixV (wVar 1) (wC (.int 4))) wNil))) (wCons (wCL tupW (wLc (wIA rg1V (wCons (wBin ixV (wVar 1) (wC (.int 5))) wNil)) (gN 17) (wTest (wBin (eqW false) (wCB s__law_draw (wCons (wVar 0) (wCons (wC (.int 4)) wNil))) (wC (.int 0)))) (wVar 17) [17])) wNil))) wNil))))
  (wSeq (wAsg (wCB s__law_ladder (wCons (wVar 0) (wCons (wVar 1) wNil))) (gN 9))
  (wSeq (wAsg (wCL tupW (wLc (wIA rg1V (wCons (wBin ixV (wVar 1) (wC (.int 10))) wNil)) (gN 6) wYes (wCB s__law_lot (wCons (wVar 0) (wCons (wVar 1) wNil))) [6])) (gN 10))
  (wSeq (wAsg (wNew (wLst wNil)) (gN 11))
  (wSeq (wFor (wIA rg1V (wCons (wBin ixV (wVar 1) (wC (.int 12))) wNil)) (gN 6) (wSeq (wAsg (wCB s__law_reach (wCons (wVar 0) (wCons (wVar 1) wNil))) (gN 12))
  (wDrop (wMt appV (wVar 11) (wCons (wTup (wCons (wCB s__law_draw (wCons (wVar 0) (wCons (wC (.int 4)) wNil))) (wCons (wCB s__law_or_none (wCons (wVar 0) (wCons (wBin ixV (wVar 1) (wC (.int 7))) (wCons (wC (.int 2)) wNil)))) (wCons (wBin ixV (wVar 12) (wC (.int 0))) (wCons (wBin ixV (wVar 12) (wC (.int 1))) (wCons (wBin ixV (wVar 12) (wC (.int 2))) (wCons (wBin ixV (wVar 12) (wC (.int 3))) (wCons (wBin ixV (wVar 12) (wC (.int 4))) (wCons (wBin addV (wC (.int 1)) (wCB s__law_draw (wCons (wVar 0) (wCons (wC (.int 6)) wNil)))) wNil))))))))) wNil)))))
  (wSeq (wAsg (wCL tupW (wLc (wIA rg1V (wCons (wBin ixV (wVar 1) (wC (.int 13))) wNil)) (gN 6) wYes (wTup (wCons (wCB s__law_or_none (wCons (wVar 0) (wCons (wBin ixV (wVar 1) (wC (.int 7))) (wCons (wC (.int 2)) wNil)))) (wCons (wBin addV (wC (.int 9)) (wCB s__law_draw (wCons (wVar 0) (wCons (wC (.int 4)) wNil)))) (wCons (wCB s__law_draw (wCons (wVar 0) (wCons (wBin ixV (wVar 1) (wC (.int 3))) wNil))) wNil)))) [6])) (gN 13))
  (wSeq (wAsg (wCB s__law_cases (wCons (wVar 0) (wCons (wVar 1) wNil))) (gN 14))
  (wSeq (wAsg (wCL tupW (wLc (wIA rg1V (wCons (wBin ixV (wVar 1) (wC (.int 3))) wNil)) (gN 6) wYes (wCB s__law_draw (wCons (wVar 0) (wCons (wBin ixV (wVar 1) (wC (.int 2))) wNil))) [6])) (gN 15))
  (wSeq (wAsg (wNew (wLst (wCons (wVar 3) (wCons (wVar 4) (wCons (wCB tupV (wCons (wVar 5) wNil)) (wCons (wCB tupV (wCons (wVar 7) wNil)) (wCons (wCB tupV (wCons (wVar 8) wNil)) (wCons (wVar 9) (wCons (wTup wNil) (wCons (wVar 10) (wCons (wCB tupV (wCons (wVar 11) wNil)) (wCons (wVar 13) (wCons (wVar 14) (wCons (wVar 15) wNil)))))))))))))) (gN 16))
  (wSeq (wAsg2 (wCB s__law_parted (wCons (wVar 0) (wCons (wVar 16) (wCons (wBin ixV (wVar 1) (wC (.int 9))) wNil)))) (g2sub (wVar 16) (wC (.int 6))))
  (wRet (wCB tupV (wCons (wVar 16) wNil)))))))))))))))))))))
theorem b__law_frame {s__law_cases s__law_draw s__law_ladder s__law_lot s__law_or_none s__law_parted s__law_reach : DSp} (T : Txt K mg C) (c__law_cases : DCal P w K mg base j "_law_cases" s__law_cases) (c__law_draw : DCal P w K mg base j "_law_draw" s__law_draw) (c__law_ladder : DCal P w K mg base j "_law_ladder" s__law_ladder) (c__law_lot : DCal P w K mg base j "_law_lot" s__law_lot) (c__law_or_none : DCal P w K mg base j "_law_or_none" s__law_or_none) (c__law_parted : DCal P w K mg base j "_law_parted" s__law_parted) (c__law_reach : DCal P w K mg base j "_law_reach" s__law_reach) (hr : Room j (A.deeper (envOfC "_law_frame" (defScope st__law_frame) sh.heap.objs.size f cdv))) :
    DSs (cxOf C8.CX0 P w K mg base N__law_frame "_law_frame" (defScope st__law_frame) f cdv A outer sh H E).nox (defBody st__law_frame) (w__law_frame s__law_cases s__law_draw s__law_ladder s__law_lot s__law_or_none s__law_parted s__law_reach) := by
  have hN := sc__law_frame.nd
  have hu := hr.units
  have hu0 := hr.units0
  unfold w__law_frame
  exact (dss_cons (ds_set (k := 2) hN rfl (by first | exact .inl rfl | exact .inr rfl) (d_bin do_add d_int (d_call c__law_draw hr (Nat.le_refl _) rfl (da_cons (d_var 0) (da_cons d_int da_nil)))))
  (dss_cons (ds_set (k := 3) hN rfl (by first | exact .inl rfl | exact .inr rfl) (d_tup (da_cons (d_ix (d_var 1) d_int) (da_cons (d_ix (d_var 1) d_int) (da_cons (d_ix (d_var 1) d_int) (da_cons (d_var 2) (da_cons (d_bin do_add (d_var 2) (d_call c__law_draw hr (Nat.le_refl _) rfl (da_cons (d_var 0) (da_cons (d_bin do_sub d_int (d_var 2)) da_nil)))) (da_cons (d_bin do_add d_int (d_call c__law_draw hr (Nat.le_refl _) rfl (da_cons (d_var 0) (da_cons d_int da_nil)))) (da_cons (d_bin do_add d_int (d_call c__law_draw hr (Nat.le_refl _) rfl (da_cons (d_var 0) (da_cons d_int da_nil)))) da_nil)))))))))
  (dss_cons (ds_set (k := 4) hN rfl (by first | exact .inl rfl | exact .inr rfl) (d_callTyL dc_tupleL rfl T.fr_tuple boot_tuple (dl_cat (dl_lst (da_cons (d_un do_neg d_int) da_nil)) (dl_lc (own := [("k", 6)]) rfl hN (di_range2 rfl T.fr_range (da_cons d_int (da_cons (d_ix (d_var 1) d_int) da_nil))) (blkOk_by (by show blkC N__law_frame (defScope st__law_frame) _ _ = true; decide +kernel)) (fun _ _ _ _ _ => (dg_name 6 hN rfl (by first | exact .inl rfl | exact .inr rfl))) (fun _ _ _ _ _ => dts_nil) (fun _ _ _ _ _ => (d_call c__law_draw hr (Nat.le_refl _) rfl (da_cons (d_var 0) (da_cons (d_var 6) da_nil))))))))
  (dss_cons (ds_set (k := 5) hN rfl (by first | exact .inl rfl | exact .inr rfl) (d_new (dl_lst da_nil)))
  (dss_cons (ds_for PassesOwn.never rfl (di_range1 rfl T.fr_range (da_cons (d_ix (d_var 1) d_int) da_nil)) (dg_name 6 hN rfl (by first | exact .inl rfl | exact .inr rfl)) (dss_one (ds_expr (d_mt PySem.F.slot_list_append PySem.F.type_list_append dm_append (d_var 5) (da_cons (d_tup (da_cons (d_bin do_sub (d_call c__law_draw hr (Nat.le_refl _) rfl (da_cons (d_var 0) (da_cons (d_bin do_add (d_var 6) d_int) da_nil))) d_int) (da_cons (d_call c__law_draw hr (Nat.le_refl _) rfl (da_cons (d_var 0) (da_cons (d_ix (d_var 1) d_int) da_nil))) (da_cons (d_call c__law_or_none hr (Nat.le_refl _) rfl (da_cons (d_var 0) (da_cons (d_ix (d_var 1) d_int) (da_cons d_int da_nil)))) (da_cons (d_call c__law_or_none hr (Nat.le_refl _) rfl (da_cons (d_var 0) (da_cons (d_ix (d_var 1) d_int) (da_cons d_int da_nil)))) da_nil))))) da_nil)))))
  (dss_cons (ds_set (k := 7) hN rfl (by first | exact .inl rfl | exact .inr rfl) (d_new (dl_lst da_nil)))
  (dss_cons (ds_for PassesOwn.never rfl (di_range1 rfl T.fr_range (da_cons (d_ix (d_var 1) d_int) da_nil)) (dg_name 6 hN rfl (by first | exact .inl rfl | exact .inr rfl)) (dss_one (ds_expr (d_mt PySem.F.slot_list_append PySem.F.type_list_append dm_append (d_var 7) (da_cons (d_tup (da_cons (d_call c__law_draw hr (Nat.le_refl _) rfl (da_cons (d_var 0) (da_cons (d_ix (d_var 1) d_int) da_nil))) (da_cons (d_call c__law_or_none hr (Nat.le_refl _) rfl (da_cons (d_var 0) (da_cons (d_ix (d_var 1) d_int) (da_cons d_int da_nil)))) (da_cons (d_call c__law_or_none hr (Nat.le_refl _) rfl (da_cons (d_var 0) (da_cons (d_ix (d_var 1) d_int) (da_cons d_int da_nil)))) (da_cons (d_bin do_add d_int (d_callTy dc_int rfl T.fr_int boot_int (da_cons (d_cmp (do_eq hu) (d_call c__law_draw hr (Nat.le_refl _) rfl (da_cons (d_var 0) (da_cons d_int da_nil))) d_int rfl) da_nil))) da_nil))))) da_nil)))))
  (dss_cons (ds_set (k := 8) hN rfl (by first | exact .inl rfl | exact .inr rfl) (d_new (dl_lst da_nil)))
  (dss_cons (ds_for PassesOwn.never rfl (di_range1 rfl T.fr_range (da_cons (d_ix (d_var 1) d_int) da_nil)) (dg_name 6 hN rfl (by first | exact .inl rfl | exact .inr rfl)) (dss_one (ds_expr (d_mt PySem.F.slot_list_append PySem.F.type_list_append dm_append (d_var 8) (da_cons (d_tup (da_cons (d_call c__law_draw hr (Nat.le_refl _) rfl (da_cons (d_var 0) (da_cons (d_ix (d_var 1) d_int) da_nil))) (da_cons (d_callTyL dc_tupleL rfl T.fr_tuple boot_tuple (dl_lc (own := [("m", 17)]) rfl hN (di_range1 rfl T.fr_range (da_cons (d_ix (d_var 1) d_int) da_nil)) (blkOk_by (by show blkC N__law_frame (defScope st__law_frame) _ _ = true; decide +kernel)) (fun _ _ _ _ _ => (dg_name 17 hN rfl (by first | exact .inl rfl | exact .inr rfl))) (fun _ _ _ _ _ => (dts_one (dt_cmp (do_eq hu) (d_call c__law_draw hr (Nat.le_refl _) rfl (da_cons (d_var 0) (da_cons d_int da_nil))) d_int rfl))) (fun _ _ _ _ _ => (d_var 17)))) da_nil))) da_nil)))))
  (dss_cons (ds_set (k := 9) hN rfl (by first | exact .inl rfl | exact .inr rfl) (d_call c__law_ladder hr (Nat.le_refl _) rfl (da_cons (d_var 0) (da_cons (d_var 1) da_nil))))
  (dss_cons (ds_set (k := 10) hN rfl (by first | exact .inl rfl | exact .inr rfl) (d_callTyL dc_tupleL rfl T.fr_tuple boot_tuple (dl_lc (own := [("k", 6)]) rfl hN (di_range1 rfl T.fr_range (da_cons (d_ix (d_var 1) d_int) da_nil)) (blkOk_by (by show blkC N__law_frame (defScope st__law_frame) _ _ = true; decide +kernel)) (fun _ _ _ _ _ => (dg_name 6 hN rfl (by first | exact .inl rfl | exact .inr rfl))) (fun _ _ _ _ _ => dts_nil) (fun _ _ _ _ _ => (d_call c__law_lot hr (Nat.le_refl _) rfl (da_cons (d_var 0) (da_cons (d_var 1) da_nil)))))))
  (dss_cons (ds_set (k := 11) hN rfl (by first | exact .inl rfl | exact .inr rfl) (d_new (dl_lst da_nil)))
  (dss_cons (ds_for PassesOwn.never rfl (di_range1 rfl T.fr_range (da_cons (d_ix (d_var 1) d_int) da_nil)) (dg_name 6 hN rfl (by first | exact .inl rfl | exact .inr rfl)) (dss_cons (ds_set (k := 12) hN rfl (by first | exact .inl rfl | exact .inr rfl) (d_call c__law_reach hr (Nat.le_refl _) rfl (da_cons (d_var 0) (da_cons (d_var 1) da_nil))))
  (dss_one (ds_expr (d_mt PySem.F.slot_list_append PySem.F.type_list_append dm_append (d_var 11) (da_cons (d_tup (da_cons (d_call c__law_draw hr (Nat.le_refl _) rfl (da_cons (d_var 0) (da_cons d_int da_nil))) (da_cons (d_call c__law_or_none hr (Nat.le_refl _) rfl (da_cons (d_var 0) (da_cons (d_ix (d_var 1) d_int) (da_cons d_int da_nil)))) (da_cons (d_ix (d_var 12) d_int) (da_cons (d_ix (d_var 12) d_int) (da_cons (d_ix (d_var 12) d_int) (da_cons (d_ix (d_var 12) d_int) (da_cons (d_ix (d_var 12) d_int) (da_cons (d_bin do_add d_int (d_call c__law_draw hr (Nat.le_refl _) rfl (da_cons (d_var 0) (da_cons d_int da_nil)))) da_nil))))))))) da_nil))))))
  (dss_cons (ds_set (k := 13) hN rfl (by first | exact .inl rfl | exact .inr rfl) (d_callTyL dc_tupleL rfl T.fr_tuple boot_tuple (dl_lc (own := [("k", 6)]) rfl hN (di_range1 rfl T.fr_range (da_cons (d_ix (d_var 1) d_int) da_nil)) (blkOk_by (by show blkC N__law_frame (defScope st__law_frame) _ _ = true; decide +kernel)) (fun _ _ _ _ _ => (dg_name 6 hN rfl (by first | exact .inl rfl | exact .inr rfl))) (fun _ _ _ _ _ => dts_nil) (fun _ _ _ _ _ => (d_tup (da_cons (d_call c__law_or_none hr (Nat.le_refl _) rfl (da_cons (d_var 0) (da_cons (d_ix (d_var 1) d_int) (da_cons d_int da_nil)))) (da_cons (d_bin do_add d_int (d_call c__law_draw hr (Nat.le_refl _) rfl (da_cons (d_var 0) (da_cons d_int da_nil)))) (da_cons (d_call c__law_draw hr (Nat.le_refl _) rfl (da_cons (d_var 0) (da_cons (d_ix (d_var 1) d_int) da_nil))) da_nil))))))))
  (dss_cons (ds_set (k := 14) hN rfl (by first | exact .inl rfl | exact .inr rfl) (d_call c__law_cases hr (Nat.le_refl _) rfl (da_cons (d_var 0) (da_cons (d_var 1) da_nil))))
  (dss_cons (ds_set (k := 15) hN rfl (by first | exact .inl rfl | exact .inr rfl) (d_callTyL dc_tupleL rfl T.fr_tuple boot_tuple (dl_lc (own := [("k", 6)]) rfl hN (di_range1 rfl T.fr_range (da_cons (d_ix (d_var 1) d_int) da_nil)) (blkOk_by (by show blkC N__law_frame (defScope st__law_frame) _ _ = true; decide +kernel)) (fun _ _ _ _ _ => (dg_name 6 hN rfl (by first | exact .inl rfl | exact .inr rfl))) (fun _ _ _ _ _ => dts_nil) (fun _ _ _ _ _ => (d_call c__law_draw hr (Nat.le_refl _) rfl (da_cons (d_var 0) (da_cons (d_ix (d_var 1) d_int) da_nil)))))))
  (dss_cons (ds_set (k := 16) hN rfl (by first | exact .inl rfl | exact .inr rfl) (d_new (dl_lst (da_cons (d_var 3) (da_cons (d_var 4) (da_cons (d_callTy dc_tuple rfl T.fr_tuple boot_tuple (da_cons (d_var 5) da_nil)) (da_cons (d_callTy dc_tuple rfl T.fr_tuple boot_tuple (da_cons (d_var 7) da_nil)) (da_cons (d_callTy dc_tuple rfl T.fr_tuple boot_tuple (da_cons (d_var 8) da_nil)) (da_cons (d_var 9) (da_cons (d_tup da_nil) (da_cons (d_var 10) (da_cons (d_callTy dc_tuple rfl T.fr_tuple boot_tuple (da_cons (d_var 11) da_nil)) (da_cons (d_var 13) (da_cons (d_var 14) (da_cons (d_var 15) da_nil)))))))))))))))
  (dss_cons (ds_asg (d_call c__law_parted hr (Nat.le_refl _) rfl (da_cons (d_var 0) (da_cons (d_var 16) (da_cons (d_ix (d_var 1) d_int) da_nil)))) (dg2_sub (d_var 16) d_int))
  (dss_one (ds_ret (d_callTy dc_tuple rfl T.fr_tuple boot_tuple (da_cons (d_var 16) da_nil))))))))))))))))))))))
/-! _law_below -/
abbrev st__law_below : Stmt := (top 88)
abbrev N__law_below : List Str := ["ups", "low", "high"]
theorem sc__law_below : FnScope N__law_below ["ups", "low", "high"] (defScope st__law_below) := C8.fnScope_by (by decide +kernel)
theorem e__law_below (a0 a1 a2 : Val) : startD N__law_below [a0, a1, a2] = [some a0, some a1, some a2] := rfl
@[irreducible] def w__law_below : WS :=
  (wSeq (wWhile (wTest (wBin (eqW true) (wVar 1) (wUn negV (wC (.int 1))))) (wSeq (wIfS (wTest (wBin (eqW false) (wVar 1) (wVar 2))) (wRet (wC (.bl true))) wNext)
  (wAsg (wBin ixV (wVar 0) (wVar 1)) (gN 1))))
  (wRet (wC (.bl false))))
theorem b__law_below (T : Txt K mg C) (hr : Room j (A.deeper (envOfC "_law_below" (defScope st__law_below) sh.heap.objs.size f cdv))) :
    DSs (cxOf C8.CX0 P w K mg base N__law_below "_law_below" (defScope st__law_below) f cdv A outer sh H E).nox (defBody st__law_below) (w__law_below ) := by
  have hN := sc__law_below.nd
  have hu := hr.units
  have hu0 := hr.units0
  unfold w__law_below
  exact (dss_cons (ds_while PassesOwn.never (dt_cmp (do_ne hu) (d_var 1) (d_un do_neg d_int) rfl) (dss_cons (ds_if (dt_cmp (do_eq hu) (d_var 1) (d_var 2) rfl) (dss_one (ds_ret d_bl)) dss_nil)
  (dss_one (ds_set (k := 1) hN rfl (by first | exact .inl rfl | exact .inr rfl) (d_ix (d_var 0) (d_var 1))))))
  (dss_one (ds_ret d_bl)))
/-! _law_roles -/
abbrev st__law_roles : Stmt := (top 89)
abbrev N__law_roles : List Str := ["fr", "bs", "above", "had", "r", "holds", "cl", "ok", "m", "row"]
theorem sc__law_roles : FnScope N__law_roles ["fr", "bs"] (defScope st__law_roles) := C8.fnScope_by (by decide +kernel)
theorem e__law_roles (a0 a1 : Val) : startD N__law_roles [a0, a1] = [some a0, some a1, none, none, none, none, none, none, none, none] := rfl
@[irreducible] def w__law_roles (s__law_below : DSp) : WS :=
  (wSeq (wAsg (wNew (wLc (wIt (wBin ixV (wVar 0) (wC (.int 2)))) (gN 9) wYes (wBin ixV (wVar 9) (wC (.int 0))) [9])) (gN 2))
  (wSeq (wAsg (wNew (wLst wNil)) (gN 3))
  (wSeq (wFor (wIA rg1V (wCons (wCB lenV (wCons (wBin ixV (wVar 0) (wC (.int 5))) wNil)) wNil)) (gN 4) (wSeq (wAsg (wC (.bl false)) (gN 5))
  (wSeq (wFor (wIt (wBin ixV (wBin ixV (wVar 0) (wC (.int 5))) (wVar 4))) (gN 6) (wSeq (wAsg (wOrV (wBin (eqW false) (wBin ixV (wVar 6) (wC (.int 0))) (wUn negV (wC (.int 1)))) (wBin (eqW false) (wBin ixV (wVar 6) (wC (.int 0))) (wBin ixV (wVar 1) (wC (.int 0))))) (gN 7))
  (wMid (wIfS (wAnd (wTest (wBin (eqW true) (wBin ixV (wVar 6) (wC (.int 1))) (wUn negV (wC (.int 1))))) (wNot (wTest (wCB s__law_below (wCons (wVar 2) (wCons (wBin ixV (wVar 1) (wC (.int 1))) (wCons (wBin ixV (wVar 6) (wC (.int 1))) wNil))))))) (wAsg (wC (.bl false)) (gN 7)) wNext)
  (wSeq (wFor (wIt (wBin ixV (wVar 6) (wC (.int 2)))) (gN 8) (wIfS (wTest (wBin (inW true) (wVar 8) (wBin ixV (wVar 1) (wC (.int 2))))) (wAsg (wC (.bl false)) (gN 7)) wNext))
  (wSeq (wFor (wIt (wBin ixV (wVar 6) (wC (.int 3)))) (gN 8) (wIfS (wTest (wBin (inW false) (wVar 8) (wBin ixV (wVar 1) (wC (.int 2))))) (wAsg (wC (.bl false)) (gN 7)) wNext))
  (wMid (wIfS (wAnd (wTest (wBin (eqW true) (wBin ixV (wVar 6) (wC (.int 4))) (wUn negV (wC (.int 1))))) (wTest (wBin (inW true) (wBin ixV (wVar 6) (wC (.int 4))) (wVar 3)))) (wAsg (wC (.bl false)) (gN 7)) wNext)
  (wIfS (wTest (wVar 7)) (wAsg (wC (.bl true)) (gN 5)) wNext)))))))
  (wIfS (wTest (wVar 5)) (wDrop (wMt appV (wVar 3) (wCons (wVar 4) wNil))) wNext))))
  (wRet (wCB tupV (wCons (wVar 3) wNil))))))
theorem b__law_roles {s__law_below : DSp} (T : Txt K mg C) (c__law_below : DCal P w K mg base j "_law_below" s__law_below) (hr : Room j (A.deeper (envOfC "_law_roles" (defScope st__law_roles) sh.heap.objs.size f cdv))) :
    DSs (cxOf C8.CX0 P w K mg base N__law_roles "_law_roles" (defScope st__law_roles) f cdv A outer sh H E).nox (defBody st__law_roles) (w__law_roles s__law_below) := by
  have hN := sc__law_roles.nd
  have hu := hr.units
  have hu0 := hr.units0
  unfold w__law_roles
  exact (dss_cons (ds_setLc (i := 2) (own := [("row", 9)]) rfl hN rfl rfl (sw_true rfl rfl rfl rfl) (di_of (d_ix (d_var 0) d_int)) (blkOk_by (by show blkC N__law_roles (defScope st__law_roles) _ _ = true; decide +kernel)) (fun _ _ _ _ _ => (dg_name 9 hN rfl (by first | exact .inl rfl | exact .inr rfl))) (fun _ _ _ _ _ => dts_nil) (fun _ _ _ _ _ => (d_ix (d_var 9) d_int)))
  (dss_cons (ds_set (k := 3) hN rfl (by first | exact .inl rfl | exact .inr rfl) (d_new (dl_lst da_nil)))
  (dss_cons (ds_for PassesOwn.never rfl (di_range1 rfl T.fr_range (da_cons (d_callB dc_len rfl T.fr_len boot_len (da_cons (d_ix (d_var 0) d_int) da_nil)) da_nil)) (dg_name 4 hN rfl (by first | exact .inl rfl | exact .inr rfl)) (dss_cons (ds_set (k := 5) hN rfl (by first | exact .inl rfl | exact .inr rfl) d_bl)
  (dss_cons (ds_for PassesOwn.never rfl (di_of (d_ix (d_ix (d_var 0) d_int) (d_var 4))) (dg_name 6 hN rfl (by first | exact .inl rfl | exact .inr rfl)) (dss_cons (ds_set (k := 7) hN rfl (by first | exact .inl rfl | exact .inr rfl) (d_or (d_cmp (do_eq hu) (d_ix (d_var 6) d_int) (d_un do_neg d_int) rfl) (d_one (d_cmp (do_eq hu) (d_ix (d_var 6) d_int) (d_ix (d_var 1) d_int) rfl))))
  (dss_mid (ds_if (dt_w (dw_and (dt_cmp (do_ne hu) (d_ix (d_var 6) d_int) (d_un do_neg d_int) rfl) (dw_and1 (dt_not (dt_val (d_call c__law_below hr (Nat.le_refl _) rfl (da_cons (d_var 2) (da_cons (d_ix (d_var 1) d_int) (da_cons (d_ix (d_var 6) d_int) da_nil))))))))) (dss_one (ds_set (k := 7) hN rfl (by first | exact .inl rfl | exact .inr rfl) d_bl)) dss_nil)
  (dss_cons (ds_for PassesOwn.never rfl (di_of (d_ix (d_var 6) d_int)) (dg_name 8 hN rfl (by first | exact .inl rfl | exact .inr rfl)) (dss_one (ds_if (dt_cmp do_notIn (d_var 8) (d_ix (d_var 1) d_int) rfl) (dss_one (ds_set (k := 7) hN rfl (by first | exact .inl rfl | exact .inr rfl) d_bl)) dss_nil)))
  (dss_cons (ds_for PassesOwn.never rfl (di_of (d_ix (d_var 6) d_int)) (dg_name 8 hN rfl (by first | exact .inl rfl | exact .inr rfl)) (dss_one (ds_if (dt_cmp do_in (d_var 8) (d_ix (d_var 1) d_int) rfl) (dss_one (ds_set (k := 7) hN rfl (by first | exact .inl rfl | exact .inr rfl) d_bl)) dss_nil)))
  (dss_mid (ds_if (dt_w (dw_and (dt_cmp (do_ne hu) (d_ix (d_var 6) d_int) (d_un do_neg d_int) rfl) (dw_and1 (dt_cmp do_notIn (d_ix (d_var 6) d_int) (d_var 3) rfl)))) (dss_one (ds_set (k := 7) hN rfl (by first | exact .inl rfl | exact .inr rfl) d_bl)) dss_nil)
  (dss_one (ds_if (dt_val (d_var 7)) (dss_one (ds_set (k := 5) hN rfl (by first | exact .inl rfl | exact .inr rfl) d_bl)) dss_nil))))))))
  (dss_one (ds_if (dt_val (d_var 5)) (dss_one (ds_expr (d_mt PySem.F.slot_list_append PySem.F.type_list_append dm_append (d_var 3) (da_cons (d_var 4) da_nil)))) dss_nil)))))
  (dss_one (ds_ret (d_callTy dc_tuple rfl T.fr_tuple boot_tuple (da_cons (d_var 3) da_nil)))))))
/-! _law_parted -/
abbrev st__law_parted : Stmt := (top 90)
abbrev N__law_parted : List Str := ["pool", "fr", "most", "begun", "found", "high", "low", "k", "had"]
theorem sc__law_parted : FnScope N__law_parted ["pool", "fr", "most"] (defScope st__law_parted) := C8.fnScope_by (by decide +kernel)
theorem e__law_parted (a0 a1 a2 : Val) : startD N__law_parted [a0, a1, a2] = [some a0, some a1, some a2, none, none, none, none, none, none] := rfl
@[irreducible] def w__law_parted (s__law_draw s__law_roles : DSp) : WS :=
  (wSeq (wAsg (wNew (wLc (wIA rg1V (wCons (wCB lenV (wCons (wBin ixV (wVar 1) (wC (.int 4))) wNil)) wNil)) (gN 7) wYes (wCB s__law_roles (wCons (wVar 1) (wCons (wTup (wCons (wVar 7) (wCons (wBin ixV (wBin ixV (wBin ixV (wVar 1) (wC (.int 4))) (wVar 7)) (wC (.int 0))) (wCons (wBin ixV (wBin ixV (wBin ixV (wVar 1) (wC (.int 4))) (wVar 7)) (wC (.int 1))) wNil)))) wNil))) [7])) (gN 3))
  (wSeq (wAsg (wNew (wLst wNil)) (gN 4))
  (wSeq (wFor (wIA rg2V (wCons (wC (.int 1)) (wCons (wCB lenV (wCons (wBin ixV (wVar 1) (wC (.int 5))) wNil)) wNil))) (gN 5) (wFor (wIA rg1V (wCons (wVar 5) wNil)) (gN 6) (wIfS (wTest (wBin (eqW false) (wCL lenW (wLc (wIt (wVar 3)) (gN 8) (wAnd (wTest (wBin (inW false) (wVar 6) (wVar 8))) (wTest (wBin (inW false) (wVar 5) (wVar 8)))) (wVar 8) [8])) (wC (.int 0)))) (wDrop (wMt appV (wVar 4) (wCons (wTup (wCons (wVar 6) (wCons (wVar 5) wNil))) wNil))) wNext)))
  (wSeq (wFor (wIA rg1V (wCons (wBin subV (wCB lenV (wCons (wVar 4) wNil)) (wVar 2)) wNil)) (gN 7) (wDrop (wMt popAtV (wVar 4) (wCons (wCB s__law_draw (wCons (wVar 0) (wCons (wCB lenV (wCons (wVar 4) wNil)) wNil))) wNil))))
  (wRet (wCL tupW (wCLL srtW (wLoc (wVar 4)))))))))
theorem b__law_parted {s__law_draw s__law_roles : DSp} (T : Txt K mg C) (c__law_draw : DCal P w K mg base j "_law_draw" s__law_draw) (c__law_roles : DCal P w K mg base j "_law_roles" s__law_roles) (hr : Room j (A.deeper (envOfC "_law_parted" (defScope st__law_parted) sh.heap.objs.size f cdv))) :
    DSs (cxOf C8.CX0 P w K mg base N__law_parted "_law_parted" (defScope st__law_parted) f cdv A outer sh H E).nox (defBody st__law_parted) (w__law_parted s__law_draw s__law_roles) := by
  have hN := sc__law_parted.nd
  have hu := hr.units
  have hu0 := hr.units0
  unfold w__law_parted
  exact (dss_cons (ds_setLc (i := 3) (own := [("k", 7)]) rfl hN rfl rfl (sw_true rfl rfl rfl rfl) (di_range1 rfl T.fr_range (da_cons (d_callB dc_len rfl T.fr_len boot_len (da_cons (d_ix (d_var 1) d_int) da_nil)) da_nil)) (blkOk_by (by show blkC N__law_parted (defScope st__law_parted) _ _ = true; decide +kernel)) (fun _ _ _ _ _ => (dg_name 7 hN rfl (by first | exact .inl rfl | exact .inr rfl))) (fun _ _ _ _ _ => dts_nil) (fun _ _ _ _ _ => (d_call c__law_roles hr (Nat.le_refl _) rfl (da_cons (d_var 1) (da_cons (d_tup (da_cons (d_var 7) (da_cons (d_ix (d_ix (d_ix (d_var 1) d_int) (d_var 7)) d_int) (da_cons (d_ix (d_ix (d_ix (d_var 1) d_int) (d_var 7)) d_int) da_nil)))) da_nil)))))
  (dss_cons (ds_set (k := 4) hN rfl (by first | exact .inl rfl | exact .inr rfl) (d_new (dl_lst da_nil)))
  (dss_cons (ds_for PassesOwn.never rfl (di_range2 rfl T.fr_range (da_cons d_int (da_cons (d_callB dc_len rfl T.fr_len boot_len (da_cons (d_ix (d_var 1) d_int) da_nil)) da_nil))) (dg_name 5 hN rfl (by first | exact .inl rfl | exact .inr rfl)) (dss_one (ds_for PassesOwn.never rfl (di_range1 rfl T.fr_range (da_cons (d_var 5) da_nil)) (dg_name 6 hN rfl (by first | exact .inl rfl | exact .inr rfl)) (dss_one (ds_if (dt_cmp (do_eq hu) (d_callBL dc_lenL rfl T.fr_len boot_len (dl_lc (own := [("had", 8)]) rfl hN (di_of (d_var 3)) (blkOk_by (by show blkC N__law_parted (defScope st__law_parted) _ _ = true; decide +kernel)) (fun _ _ _ _ _ => (dg_name 8 hN rfl (by first | exact .inl rfl | exact .inr rfl))) (fun _ _ _ _ _ => (dts_one (dt_w (dw_and (dt_cmp do_in (d_var 6) (d_var 8) rfl) (dw_and1 (dt_cmp do_in (d_var 5) (d_var 8) rfl)))))) (fun _ _ _ _ _ => (d_var 8)))) d_int rfl) (dss_one (ds_expr (d_mt PySem.F.slot_list_append PySem.F.type_list_append dm_append (d_var 4) (da_cons (d_tup (da_cons (d_var 6) (da_cons (d_var 5) da_nil))) da_nil)))) dss_nil)))))
  (dss_cons (ds_for PassesOwn.never rfl (di_range1 rfl T.fr_range (da_cons (d_bin do_sub (d_callB dc_len rfl T.fr_len boot_len (da_cons (d_var 4) da_nil)) (d_var 2)) da_nil)) (dg_name 7 hN rfl (by first | exact .inl rfl | exact .inr rfl)) (dss_one (ds_expr (d_mt PySem.F.slot_list_pop PySem.F.type_list_pop dm_popAt (d_var 4) (da_cons (d_call c__law_draw hr (Nat.le_refl _) rfl (da_cons (d_var 0) (da_cons (d_callB dc_len rfl T.fr_len boot_len (da_cons (d_var 4) da_nil)) da_nil))) da_nil)))))
  (dss_one (ds_ret (d_callTyL dc_tupleL rfl T.fr_tuple boot_tuple (dl_callBL dc_sorted rfl T.fr_sorted boot_sorted (dl_of (d_var 4))))))))))
/-! _law_rule -/
abbrev st__law_rule : Stmt := (top 91)
abbrev N__law_rule : List Str := ["pool", "fr", "effect", "many", "got"]
theorem sc__law_rule : FnScope N__law_rule ["pool", "fr", "effect"] (defScope st__law_rule) := C8.fnScope_by (by decide +kernel)
theorem e__law_rule (a0 a1 a2 : Val) : startD N__law_rule [a0, a1, a2] = [some a0, some a1, some a2, none, none] := rfl
@[irreducible] def w__law_rule (s__law_draw s__law_or_none s__law_reach : DSp) : WS :=
  (wSeq (wAsg (wNew (wLst (wCons (wBin ixV (wBin ixV (wVar 1) (wC (.int 0))) (wC (.int 0))) (wCons (wBin ixV (wBin ixV (wVar 1) (wC (.int 0))) (wC (.int 1))) (wCons (wC (.int 0)) (wCons (wCB lenV (wCons (wBin ixV (wVar 1) (wC (.int 1))) wNil)) wNil)))))) (gN 3))
  (wSeq (wAsg (wCB s__law_reach (wCons (wVar 0) (wCons (wVar 3) wNil))) (gN 4))
  (wRet (wTup (wCons (wVar 2) (wCons (wCB s__law_draw (wCons (wVar 0) (wCons (wC (.int 4)) wNil))) (wCons (wCB s__law_or_none (wCons (wVar 0) (wCons (wCB lenV (wCons (wBin ixV (wVar 1) (wC (.int 5))) wNil)) (wCons (wC (.int 2)) wNil)))) (wCons (wBin ixV (wVar 4) (wC (.int 0))) (wCons (wBin ixV (wVar 4) (wC (.int 1))) (wCons (wBin ixV (wVar 4) (wC (.int 2))) (wCons (wBin ixV (wVar 4) (wC (.int 3))) (wCons (wBin ixV (wVar 4) (wC (.int 4))) wNil))))))))))))
theorem b__law_rule {s__law_draw s__law_or_none s__law_reach : DSp} (T : Txt K mg C) (c__law_draw : DCal P w K mg base j "_law_draw" s__law_draw) (c__law_or_none : DCal P w K mg base j "_law_or_none" s__law_or_none) (c__law_reach : DCal P w K mg base j "_law_reach" s__law_reach) (hr : Room j (A.deeper (envOfC "_law_rule" (defScope st__law_rule) sh.heap.objs.size f cdv))) :
    DSs (cxOf C8.CX0 P w K mg base N__law_rule "_law_rule" (defScope st__law_rule) f cdv A outer sh H E).nox (defBody st__law_rule) (w__law_rule s__law_draw s__law_or_none s__law_reach) := by
  have hN := sc__law_rule.nd
  have hu := hr.units
  have hu0 := hr.units0
  unfold w__law_rule
  exact (dss_cons (ds_set (k := 3) hN rfl (by first | exact .inl rfl | exact .inr rfl) (d_new (dl_lst (da_cons (d_ix (d_ix (d_var 1) d_int) d_int) (da_cons (d_ix (d_ix (d_var 1) d_int) d_int) (da_cons d_int (da_cons (d_callB dc_len rfl T.fr_len boot_len (da_cons (d_ix (d_var 1) d_int) da_nil)) da_nil)))))))
  (dss_cons (ds_set (k := 4) hN rfl (by first | exact .inl rfl | exact .inr rfl) (d_call c__law_reach hr (Nat.le_refl _) rfl (da_cons (d_var 0) (da_cons (d_var 3) da_nil))))
  (dss_one (ds_ret (d_tup (da_cons (d_var 2) (da_cons (d_call c__law_draw hr (Nat.le_refl _) rfl (da_cons (d_var 0) (da_cons d_int da_nil))) (da_cons (d_call c__law_or_none hr (Nat.le_refl _) rfl (da_cons (d_var 0) (da_cons (d_callB dc_len rfl T.fr_len boot_len (da_cons (d_ix (d_var 1) d_int) da_nil)) (da_cons d_int da_nil)))) (da_cons (d_ix (d_var 4) d_int) (da_cons (d_ix (d_var 4) d_int) (da_cons (d_ix (d_var 4) d_int) (da_cons (d_ix (d_var 4) d_int) (da_cons (d_ix (d_var 4) d_int) da_nil)))))))))))))
/-! _law_rules -/
abbrev st__law_rules : Stmt := (top 92)
abbrev N__law_rules : List Str := ["pool", "fr", "most", "found", "k", "row", "verbs", "v"]
theorem sc__law_rules : FnScope N__law_rules ["pool", "fr", "most"] (defScope st__law_rules) := C8.fnScope_by (by decide +kernel)
theorem e__law_rules (a0 a1 a2 : Val) : startD N__law_rules [a0, a1, a2] = [some a0, some a1, some a2, none, none, none, none, none] := rfl
@[irreducible] def w__law_rules (s__law_draw s__law_rule : DSp) : WS :=
  (wSeq (wAsg (wNew (wLst wNil)) (gN 3))
  (wSeq (wFor (wIA rg1V (wCons (wCB s__law_draw (wCons (wVar 0) (wCons (wBin addV (wVar 2) (wC (.int 1))) wNil))) wNil)) (gN 4) (wSeq (wAsg (wCB s__law_rule (wCons (wVar 0) (wCons (wVar 1) (wCons (wCB intV (wCons (wBin gtV (wCB s__law_draw (wCons (wVar 0) (wCons (wC (.int 3)) wNil))) (wC (.int 0))) wNil)) wNil)))) (gN 5))
  (wMid (wIfS (wTest (wBin (eqW false) (wCB s__law_draw (wCons (wVar 0) (wCons (wC (.int 5)) wNil))) (wC (.int 0)))) (wSeq (wAsg (wCL tupW (wLc (wIA rg1V (wCons (wC (.int 13)) wNil)) (gN 7) (wTest (wBin gtV (wCB s__law_draw (wCons (wVar 0) (wCons (wC (.int 5)) wNil))) (wC (.int 0)))) (wVar 7) [7])) (gN 6))
  (wAsg (wTup (wCons (wC (.int 1)) (wCons (wBin ixV (wVar 5) (wC (.int 1))) (wCons (wBin ixV (wVar 5) (wC (.int 2))) (wCons (wVar 6) (wCons (wC (.int 0)) (wCons (wC (.int 1)) (wCons (wCB rgT (wCons (wBin ixV (wBin ixV (wVar 1) (wC (.int 0))) (wC (.int 0))) wNil)) (wCons (wCB rgT (wCons (wBin ixV (wBin ixV (wVar 1) (wC (.int 0))) (wC (.int 1))) wNil)) wNil))))))))) (gN 5))) wNext)
  (wMid (wIfS (wTest (wBin (eqW false) (wCB s__law_draw (wCons (wVar 0) (wCons (wC (.int 10)) wNil))) (wC (.int 0)))) (wAsg (wBin addV (wBin addV (wSl (wVar 5) wNo (wPart (wC (.int 3)))) (wTup (wCons (wTup wNil) wNil))) (wSl (wVar 5) (wPart (wC (.int 4))) wNo)) (gN 5)) wNext)
  (wDrop (wMt appV (wVar 3) (wCons (wVar 5) wNil)))))))
  (wRet (wCB tupV (wCons (wVar 3) wNil)))))
theorem b__law_rules {s__law_draw s__law_rule : DSp} (T : Txt K mg C) (c__law_draw : DCal P w K mg base j "_law_draw" s__law_draw) (c__law_rule : DCal P w K mg base j "_law_rule" s__law_rule) (hr : Room j (A.deeper (envOfC "_law_rules" (defScope st__law_rules) sh.heap.objs.size f cdv))) :
    DSs (cxOf C8.CX0 P w K mg base N__law_rules "_law_rules" (defScope st__law_rules) f cdv A outer sh H E).nox (defBody st__law_rules) (w__law_rules s__law_draw s__law_rule) := by
  have hN := sc__law_rules.nd
  have hu := hr.units
  have hu0 := hr.units0
  unfold w__law_rules
  exact (dss_cons (ds_set (k := 3) hN rfl (by first | exact .inl rfl | exact .inr rfl) (d_new (dl_lst da_nil)))
  (dss_cons (ds_for PassesOwn.never rfl (di_range1 rfl T.fr_range (da_cons (d_call c__law_draw hr (Nat.le_refl _) rfl (da_cons (d_var 0) (da_cons (d_bin do_add (d_var 2) d_int) da_nil))) da_nil)) (dg_name 4 hN rfl (by first | exact .inl rfl | exact .inr rfl)) (dss_cons (ds_set (k := 5) hN rfl (by first | exact .inl rfl | exact .inr rfl) (d_call c__law_rule hr (Nat.le_refl _) rfl (da_cons (d_var 0) (da_cons (d_var 1) (da_cons (d_callTy dc_int rfl T.fr_int boot_int (da_cons (d_cmp do_gt (d_call c__law_draw hr (Nat.le_refl _) rfl (da_cons (d_var 0) (da_cons d_int da_nil))) d_int rfl) da_nil)) da_nil)))))
  (dss_mid (ds_if (dt_cmp (do_eq hu) (d_call c__law_draw hr (Nat.le_refl _) rfl (da_cons (d_var 0) (da_cons d_int da_nil))) d_int rfl) (dss_cons (ds_set (k := 6) hN rfl (by first | exact .inl rfl | exact .inr rfl) (d_callTyL dc_tupleL rfl T.fr_tuple boot_tuple (dl_lc (own := [("v", 7)]) rfl hN (di_range1 rfl T.fr_range (da_cons d_int da_nil)) (blkOk_by (by show blkC N__law_rules (defScope st__law_rules) _ _ = true; decide +kernel)) (fun _ _ _ _ _ => (dg_name 7 hN rfl (by first | exact .inl rfl | exact .inr rfl))) (fun _ _ _ _ _ => (dts_one (dt_cmp do_gt (d_call c__law_draw hr (Nat.le_refl _) rfl (da_cons (d_var 0) (da_cons d_int da_nil))) d_int rfl))) (fun _ _ _ _ _ => (d_var 7)))))
  (dss_one (ds_set (k := 5) hN rfl (by first | exact .inl rfl | exact .inr rfl) (d_tup (da_cons d_int (da_cons (d_ix (d_var 5) d_int) (da_cons (d_ix (d_var 5) d_int) (da_cons (d_var 6) (da_cons d_int (da_cons d_int (da_cons (d_tupRg rfl rfl T.fr_tuple (prg1 rfl T.fr_range (d_ix (d_ix (d_var 1) d_int) d_int))) (da_cons (d_tupRg rfl rfl T.fr_tuple (prg1 rfl T.fr_range (d_ix (d_ix (d_var 1) d_int) d_int))) da_nil)))))))))))) dss_nil)
  (dss_mid (ds_if (dt_cmp (do_eq hu) (d_call c__law_draw hr (Nat.le_refl _) rfl (da_cons (d_var 0) (da_cons d_int da_nil))) d_int rfl) (dss_one (ds_set (k := 5) hN rfl (by first | exact .inl rfl | exact .inr rfl) (d_bin do_add (d_bin do_add (d_slice (d_var 5) do_no (do_some d_int)) (d_tup (da_cons (d_tup da_nil) da_nil))) (d_slice (d_var 5) (do_some d_int) do_no)))) dss_nil)
  (dss_one (ds_expr (d_mt PySem.F.slot_list_append PySem.F.type_list_append dm_append (d_var 3) (da_cons (d_var 5) da_nil))))))))
  (dss_one (ds_ret (d_callTy dc_tuple rfl T.fr_tuple boot_tuple (da_cons (d_var 3) da_nil))))))
/-! _law_beneath -/
abbrev st__law_beneath : Stmt := (top 93)
abbrev N__law_beneath : List Str := ["ups", "high", "found", "k"]
theorem sc__law_beneath : FnScope N__law_beneath ["ups", "high"] (defScope st__law_beneath) := C8.fnScope_by (by decide +kernel)
theorem e__law_beneath (a0 a1 : Val) : startD N__law_beneath [a0, a1] = [some a0, some a1, none, none] := rfl
@[irreducible] def w__law_beneath : WS :=
  (wSeq (wAsg (wNew (wLst (wCons (wVar 1) wNil))) (gN 2))
  (wSeq (wFor (wIA rg2V (wCons (wBin addV (wVar 1) (wC (.int 1))) (wCons (wCB lenV (wCons (wVar 0) wNil)) wNil))) (gN 3) (wIfS (wTest (wBin (inW false) (wBin ixV (wVar 0) (wVar 3)) (wVar 2))) (wDrop (wMt appV (wVar 2) (wCons (wVar 3) wNil))) wNext))
  (wRet (wVar 2))))
theorem b__law_beneath (T : Txt K mg C) (hr : Room j (A.deeper (envOfC "_law_beneath" (defScope st__law_beneath) sh.heap.objs.size f cdv))) :
    DSs (cxOf C8.CX0 P w K mg base N__law_beneath "_law_beneath" (defScope st__law_beneath) f cdv A outer sh H E).nox (defBody st__law_beneath) (w__law_beneath ) := by
  have hN := sc__law_beneath.nd
  have hu := hr.units
  have hu0 := hr.units0
  unfold w__law_beneath
  exact (dss_cons (ds_set (k := 2) hN rfl (by first | exact .inl rfl | exact .inr rfl) (d_new (dl_lst (da_cons (d_var 1) da_nil))))
  (dss_cons (ds_for PassesOwn.never rfl (di_range2 rfl T.fr_range (da_cons (d_bin do_add (d_var 1) d_int) (da_cons (d_callB dc_len rfl T.fr_len boot_len (da_cons (d_var 0) da_nil)) da_nil))) (dg_name 3 hN rfl (by first | exact .inl rfl | exact .inr rfl)) (dss_one (ds_if (dt_cmp do_in (d_ix (d_var 0) (d_var 3)) (d_var 2) rfl) (dss_one (ds_expr (d_mt PySem.F.slot_list_append PySem.F.type_list_append dm_append (d_var 2) (da_cons (d_var 3) da_nil)))) dss_nil)))
  (dss_one (ds_ret (d_var 2)))))
/-! _law_items -/
abbrev st__law_items : Stmt := (top 94)
abbrev N__law_items : List Str := ["fr", "rl", "found", "i", "d", "lo"]
theorem sc__law_items : FnScope N__law_items ["fr", "rl"] (defScope st__law_items) := C8.fnScope_by (by decide +kernel)
theorem e__law_items (a0 a1 : Val) : startD N__law_items [a0, a1] = [some a0, some a1, none, none, none, none] := rfl
@[irreducible] def w__law_items : WS :=
  (wSeq (wAsg (wNew (wBinL catW (wLc (wIA rg1V (wCons (wCB lenV (wCons (wVar 1) wNil)) wNil)) (gN 3) wYes (wTup (wCons (wC (.str "rule")) (wCons (wVar 3) wNil))) [3]) (wLc (wIA rg1V (wCons (wCB lenV (wCons (wBin ixV (wVar 0) (wC (.int 8))) wNil)) wNil)) (gN 4) wYes (wTup (wCons (wC (.str "door")) (wCons (wVar 4) wNil))) [4]))) (gN 2))
  (wRet (wNew (wBinL catW (wLoc (wVar 2)) (wLc (wIA rg1V (wCons (wCB lenV (wCons (wBin ixV (wVar 0) (wC (.int 7))) wNil)) wNil)) (gN 5) wYes (wTup (wCons (wC (.str "lot")) (wCons (wVar 5) wNil))) [5])))))
theorem b__law_items (T : Txt K mg C) (hr : Room j (A.deeper (envOfC "_law_items" (defScope st__law_items) sh.heap.objs.size f cdv))) :
    DSs (cxOf C8.CX0 P w K mg base N__law_items "_law_items" (defScope st__law_items) f cdv A outer sh H E).nox (defBody st__law_items) (w__law_items ) := by
  have hN := sc__law_items.nd
  have hu := hr.units
  have hu0 := hr.units0
  unfold w__law_items
  exact (dss_cons (ds_set (k := 2) hN rfl (by first | exact .inl rfl | exact .inr rfl) (d_new (dl_cat (dl_lc (own := [("i", 3)]) rfl hN (di_range1 rfl T.fr_range (da_cons (d_callB dc_len rfl T.fr_len boot_len (da_cons (d_var 1) da_nil)) da_nil)) (blkOk_by (by show blkC N__law_items (defScope st__law_items) _ _ = true; decide +kernel)) (fun _ _ _ _ _ => (dg_name 3 hN rfl (by first | exact .inl rfl | exact .inr rfl))) (fun _ _ _ _ _ => dts_nil) (fun _ _ _ _ _ => (d_tup (da_cons d_str (da_cons (d_var 3) da_nil))))) (dl_lc (own := [("d", 4)]) rfl hN (di_range1 rfl T.fr_range (da_cons (d_callB dc_len rfl T.fr_len boot_len (da_cons (d_ix (d_var 0) d_int) da_nil)) da_nil)) (blkOk_by (by show blkC N__law_items (defScope st__law_items) _ _ = true; decide +kernel)) (fun _ _ _ _ _ => (dg_name 4 hN rfl (by first | exact .inl rfl | exact .inr rfl))) (fun _ _ _ _ _ => dts_nil) (fun _ _ _ _ _ => (d_tup (da_cons d_str (da_cons (d_var 4) da_nil))))))))
  (dss_one (ds_ret (d_new (dl_cat (dl_of (d_var 2)) (dl_lc (own := [("lo", 5)]) rfl hN (di_range1 rfl T.fr_range (da_cons (d_callB dc_len rfl T.fr_len boot_len (da_cons (d_ix (d_var 0) d_int) da_nil)) da_nil)) (blkOk_by (by show blkC N__law_items (defScope st__law_items) _ _ = true; decide +kernel)) (fun _ _ _ _ _ => (dg_name 5 hN rfl (by first | exact .inl rfl | exact .inr rfl))) (fun _ _ _ _ _ => dts_nil) (fun _ _ _ _ _ => (d_tup (da_cons d_str (da_cons (d_var 5) da_nil))))))))))
/-! _law_one_of -/
abbrev st__law_one_of : Stmt := (top 95)
abbrev N__law_one_of : List Str := ["pool", "row", "many"]
theorem sc__law_one_of : FnScope N__law_one_of ["pool", "row", "many"] (defScope st__law_one_of) := C8.fnScope_by (by decide +kernel)
theorem e__law_one_of (a0 a1 a2 : Val) : startD N__law_one_of [a0, a1, a2] = [some a0, some a1, some a2] := rfl
@[irreducible] def w__law_one_of (s__law_draw : DSp) : WS :=
  (wSeq (wIfS (wTest (wBin (eqW false) (wCB lenV (wCons (wVar 1) wNil)) (wC (.int 0)))) (wRet (wCB s__law_draw (wCons (wVar 0) (wCons (wVar 2) wNil)))) wNext)
  (wRet (wBin ixV (wVar 1) (wCB s__law_draw (wCons (wVar 0) (wCons (wCB lenV (wCons (wVar 1) wNil)) wNil))))))
theorem b__law_one_of {s__law_draw : DSp} (T : Txt K mg C) (c__law_draw : DCal P w K mg base j "_law_draw" s__law_draw) (hr : Room j (A.deeper (envOfC "_law_one_of" (defScope st__law_one_of) sh.heap.objs.size f cdv))) :
    DSs (cxOf C8.CX0 P w K mg base N__law_one_of "_law_one_of" (defScope st__law_one_of) f cdv A outer sh H E).nox (defBody st__law_one_of) (w__law_one_of s__law_draw) := by
  have hN := sc__law_one_of.nd
  have hu := hr.units
  have hu0 := hr.units0
  unfold w__law_one_of
  exact (dss_cons (ds_if (dt_cmp (do_eq hu) (d_callB dc_len rfl T.fr_len boot_len (da_cons (d_var 1) da_nil)) d_int rfl) (dss_one (ds_ret (d_call c__law_draw hr (Nat.le_refl _) rfl (da_cons (d_var 0) (da_cons (d_var 2) da_nil))))) dss_nil)
  (dss_one (ds_ret (d_ix (d_var 1) (d_call c__law_draw hr (Nat.le_refl _) rfl (da_cons (d_var 0) (da_cons (d_callB dc_len rfl T.fr_len boot_len (da_cons (d_var 1) da_nil)) da_nil)))))))
/-! _law_with -/
abbrev st__law_with : Stmt := (top 96)
abbrev N__law_with : List Str := ["row", "k"]
theorem sc__law_with : FnScope N__law_with ["row", "k"] (defScope st__law_with) := C8.fnScope_by (by decide +kernel)
theorem e__law_with (a0 a1 : Val) : startD N__law_with [a0, a1] = [some a0, some a1] := rfl
@[irreducible] def w__law_with : WS :=
  (wRet (wCL tupW (wSortSet (wBinL catW (wCBL listW (wCons (wVar 0) wNil)) (wLst (wCons (wVar 1) wNil))))))
theorem b__law_with (T : Txt K mg C) (hr : Room j (A.deeper (envOfC "_law_with" (defScope st__law_with) sh.heap.objs.size f cdv))) :
    DSs (cxOf C8.CX0 P w K mg base N__law_with "_law_with" (defScope st__law_with) f cdv A outer sh H E).nox (defBody st__law_with) (w__law_with ) := by
  have hN := sc__law_with.nd
  have hu := hr.units
  have hu0 := hr.units0
  unfold w__law_with
  exact (dss_one (ds_ret (d_callTyL dc_tupleL rfl T.fr_tuple boot_tuple (dl_sortSet rfl T.fr_sorted rfl T.fr_set (dl_cat (dl_callTy dc_list rfl T.fr_list boot_list (da_cons (d_var 0) da_nil)) (dl_lst (da_cons (d_var 1) da_nil)))))))
/-! _law_aimed -/
abbrev st__law_aimed : Stmt := (top 97)
abbrev N__law_aimed : List Str := ["pool", "fr", "rl", "it", "row", "node", "inner", "ak", "had", "held", "ajar"]
theorem sc__law_aimed : FnScope N__law_aimed ["pool", "fr", "rl", "it"] (defScope st__law_aimed) := C8.fnScope_by (by decide +kernel)
theorem e__law_aimed (a0 a1 a2 a3 : Val) : startD N__law_aimed [a0, a1, a2, a3] = [some a0, some a1, some a2, some a3, none, none, none, none, none, none, none] := rfl
@[irreducible] def w__law_aimed (s__law_beneath s__law_draw s__law_one_of s__law_some s__law_with : DSp) : WS :=
  (wSeq (wAsg (wTup (wCons (wUn negV (wC (.int 1))) (wCons (wTup wNil) (wCons (wC (.int 0)) (wCons (wC (.int 1)) (wCons (wTup wNil) (wCons (wTup wNil) wNil))))))) (gN 4))
  (wMid (wIfS (wTest (wBin (eqW false) (wBin ixV (wVar 3) (wC (.int 0))) (wC (.str "lot")))) (wAsg (wTup (wCons (wUn negV (wC (.int 1))) (wCons (wBin ixV (wBin ixV (wBin ixV (wVar 1) (wC (.int 7))) (wBin ixV (wVar 3) (wC (.int 1)))) (wC (.int 1))) (wCons (wBin ixV (wBin ixV (wBin ixV (wVar 1) (wC (.int 7))) (wBin ixV (wVar 3) (wC (.int 1)))) (wC (.int 0))) (wCons (wC (.int 1)) (wCons (wTup wNil) (wCons (wTup wNil) wNil))))))) (gN 4)) wNext)
  (wMid (wIfS (wTest (wBin (eqW false) (wBin ixV (wVar 3) (wC (.int 0))) (wC (.str "door")))) (wAsg (wSl (wBin ixV (wBin ixV (wVar 1) (wC (.int 8))) (wBin ixV (wVar 3) (wC (.int 1)))) (wPart (wC (.int 1))) (wPart (wC (.int 7)))) (gN 4)) wNext)
  (wMid (wIfS (wTest (wBin (eqW false) (wBin ixV (wVar 3) (wC (.int 0))) (wC (.str "rule")))) (wAsg (wSl (wBin ixV (wVar 2) (wBin ixV (wVar 3) (wC (.int 1)))) (wPart (wC (.int 2))) (wPart (wC (.int 8)))) (gN 4)) wNext)
  (wSeq (wAsg (wBin ixV (wVar 4) (wC (.int 2))) (gN 5))
  (wMid (wIfS (wTest (wBin (eqW false) (wBin ixV (wVar 4) (wC (.int 3))) (wC (.int 1)))) (wSeq (wAsg (wCB s__law_beneath (wCons (wBin ixV (wVar 1) (wC (.int 1))) (wCons (wVar 5) wNil))) (gN 6))
  (wAsg (wBin ixV (wVar 6) (wCB s__law_draw (wCons (wVar 0) (wCons (wCB lenV (wCons (wVar 6) wNil)) wNil)))) (gN 5))) wNext)
  (wSeq (wAsg (wTup (wCons (wCB s__law_one_of (wCons (wVar 0) (wCons (wBin ixV (wVar 4) (wC (.int 1))) (wCons (wC (.int 13)) wNil)))) (wCons (wVar 5) (wCons (wCB s__law_one_of (wCons (wVar 0) (wCons (wBin ixV (wVar 4) (wC (.int 4))) (wCons (wBin ixV (wBin ixV (wVar 1) (wC (.int 0))) (wC (.int 0))) wNil)))) (wCons (wCB s__law_one_of (wCons (wVar 0) (wCons (wBin ixV (wVar 4) (wC (.int 5))) (wCons (wBin ixV (wBin ixV (wVar 1) (wC (.int 0))) (wC (.int 1))) wNil)))) wNil))))) (gN 7))
  (wSeq (wAsg (wCB s__law_some (wCons (wVar 0) (wCons (wCB lenV (wCons (wBin ixV (wVar 1) (wC (.int 5))) wNil)) (wCons (wC (.int 2)) wNil)))) (gN 8))
  (wSeq (wAsg (wCB s__law_some (wCons (wVar 0) (wCons (wCB lenV (wCons (wBin ixV (wVar 1) (wC (.int 7))) wNil)) (wCons (wC (.int 2)) wNil)))) (gN 9))
  (wSeq (wAsg (wCB s__law_some (wCons (wVar 0) (wCons (wCB lenV (wCons (wBin ixV (wVar 1) (wC (.int 8))) wNil)) (wCons (wC (.int 2)) wNil)))) (gN 10))
  (wMid (wIfS (wTest (wBin (eqW true) (wBin ixV (wVar 4) (wC (.int 0))) (wUn negV (wC (.int 1))))) (wAsg (wCB s__law_with (wCons (wVar 8) (wCons (wBin ixV (wVar 4) (wC (.int 0))) wNil))) (gN 8)) wNext)
  (wMid (wIfS (wTest (wBin (eqW false) (wBin ixV (wVar 3) (wC (.int 0))) (wC (.str "lot")))) (wAsg (wCB s__law_with (wCons (wVar 9) (wCons (wBin ixV (wVar 3) (wC (.int 1))) wNil))) (gN 9)) wNext)
  (wMid (wIfS (wTest (wBin (eqW false) (wBin ixV (wVar 3) (wC (.int 0))) (wC (.str "door")))) (wAsg (wCB s__law_with (wCons (wVar 10) (wCons (wBin ixV (wVar 3) (wC (.int 1))) wNil))) (gN 10)) wNext)
  (wRet (wNew (wLst (wCons (wTup (wCons (wVar 8) (wCons (wVar 9) (wCons (wVar 10) wNil)))) (wCons (wVar 7) wNil))))))))))))))))))
theorem b__law_aimed {s__law_beneath s__law_draw s__law_one_of s__law_some s__law_with : DSp} (T : Txt K mg C) (c__law_beneath : DCal P w K mg base j "_law_beneath" s__law_beneath) (c__law_draw : DCal P w K mg base j "_law_draw" s__law_draw) (c__law_one_of : DCal P w K mg base j "_law_one_of" s__law_one_of) (c__law_some : DCal P w K mg base j "_law_some" s__law_some) (c__law_with : DCal P w K mg base j "_law_with" s__law_with) (hr : Room j (A.deeper (envOfC "_law_aimed" (defScope st__law_aimed) sh.heap.objs.size f cdv))) :
    DSs (cxOf C8.CX0 P w K mg base N__law_aimed "_law_aimed" (defScope st__law_aimed) f cdv A outer sh H E).nox (defBody st__law_aimed) (w__law_aimed s__law_beneath s__law_draw s__law_one_of s__law_some s__law_with) := by
  have hN := sc__law_aimed.nd
  have hu := hr.units
  have hu0 := hr.units0
  unfold w__law_aimed
  exact (dss_cons (ds_set (k := 4) hN rfl (by first | exact .inl rfl | exact .inr rfl) (d_tup (da_cons (d_un do_neg d_int) (da_cons (d_tup da_nil) (da_cons d_int (da_cons d_int (da_cons (d_tup da_nil) (da_cons (d_tup da_nil) da_nil))))))))
  (dss_mid (ds_if (dt_cmp (do_eq hu) (d_ix (d_var 3) d_int) d_str rfl) (dss_one (ds_set (k := 4) hN rfl (by first | exact .inl rfl | exact .inr rfl) (d_tup (da_cons (d_un do_neg d_int) (da_cons (d_ix (d_ix (d_ix (d_var 1) d_int) (d_ix (d_var 3) d_int)) d_int) (da_cons (d_ix (d_ix (d_ix (d_var 1) d_int) (d_ix (d_var 3) d_int)) d_int) (da_cons d_int (da_cons (d_tup da_nil) (da_cons (d_tup da_nil) da_nil))))))))) dss_nil)
  (dss_mid (ds_if (dt_cmp (do_eq hu) (d_ix (d_var 3) d_int) d_str rfl) (dss_one (ds_set (k := 4) hN rfl (by first | exact .inl rfl | exact .inr rfl) (d_slice (d_ix (d_ix (d_var 1) d_int) (d_ix (d_var 3) d_int)) (do_some d_int) (do_some d_int)))) dss_nil)
  (dss_mid (ds_if (dt_cmp (do_eq hu) (d_ix (d_var 3) d_int) d_str rfl) (dss_one (ds_set (k := 4) hN rfl (by first | exact .inl rfl | exact .inr rfl) (d_slice (d_ix (d_var 2) (d_ix (d_var 3) d_int)) (do_some d_int) (do_some d_int)))) dss_nil)
  (dss_cons (ds_set (k := 5) hN rfl (by first | exact .inl rfl | exact .inr rfl) (d_ix (d_var 4) d_int))
  (dss_mid (ds_if (dt_cmp (do_eq hu) (d_ix (d_var 4) d_int) d_int rfl) (dss_cons (ds_set (k := 6) hN rfl (by first | exact .inl rfl | exact .inr rfl) (d_call c__law_beneath hr (Nat.le_refl _) rfl (da_cons (d_ix (d_var 1) d_int) (da_cons (d_var 5) da_nil))))
  (dss_one (ds_set (k := 5) hN rfl (by first | exact .inl rfl | exact .inr rfl) (d_ix (d_var 6) (d_call c__law_draw hr (Nat.le_refl _) rfl (da_cons (d_var 0) (da_cons (d_callB dc_len rfl T.fr_len boot_len (da_cons (d_var 6) da_nil)) da_nil))))))) dss_nil)
  (dss_cons (ds_set (k := 7) hN rfl (by first | exact .inl rfl | exact .inr rfl) (d_tup (da_cons (d_call c__law_one_of hr (Nat.le_refl _) rfl (da_cons (d_var 0) (da_cons (d_ix (d_var 4) d_int) (da_cons d_int da_nil)))) (da_cons (d_var 5) (da_cons (d_call c__law_one_of hr (Nat.le_refl _) rfl (da_cons (d_var 0) (da_cons (d_ix (d_var 4) d_int) (da_cons (d_ix (d_ix (d_var 1) d_int) d_int) da_nil)))) (da_cons (d_call c__law_one_of hr (Nat.le_refl _) rfl (da_cons (d_var 0) (da_cons (d_ix (d_var 4) d_int) (da_cons (d_ix (d_ix (d_var 1) d_int) d_int) da_nil)))) da_nil))))))
  (dss_cons (ds_set (k := 8) hN rfl (by first | exact .inl rfl | exact .inr rfl) (d_call c__law_some hr (Nat.le_refl _) rfl (da_cons (d_var 0) (da_cons (d_callB dc_len rfl T.fr_len boot_len (da_cons (d_ix (d_var 1) d_int) da_nil)) (da_cons d_int da_nil)))))
  (dss_cons (ds_set (k := 9) hN rfl (by first | exact .inl rfl | exact .inr rfl) (d_call c__law_some hr (Nat.le_refl _) rfl (da_cons (d_var 0) (da_cons (d_callB dc_len rfl T.fr_len boot_len (da_cons (d_ix (d_var 1) d_int) da_nil)) (da_cons d_int da_nil)))))
  (dss_cons (ds_set (k := 10) hN rfl (by first | exact .inl rfl | exact .inr rfl) (d_call c__law_some hr (Nat.le_refl _) rfl (da_cons (d_var 0) (da_cons (d_callB dc_len rfl T.fr_len boot_len (da_cons (d_ix (d_var 1) d_int) da_nil)) (da_cons d_int da_nil)))))
  (dss_mid (ds_if (dt_cmp (do_ne hu) (d_ix (d_var 4) d_int) (d_un do_neg d_int) rfl) (dss_one (ds_set (k := 8) hN rfl (by first | exact .inl rfl | exact .inr rfl) (d_call c__law_with hr (Nat.le_refl _) rfl (da_cons (d_var 8) (da_cons (d_ix (d_var 4) d_int) da_nil))))) dss_nil)
  (dss_mid (ds_if (dt_cmp (do_eq hu) (d_ix (d_var 3) d_int) d_str rfl) (dss_one (ds_set (k := 9) hN rfl (by first | exact .inl rfl | exact .inr rfl) (d_call c__law_with hr (Nat.le_refl _) rfl (da_cons (d_var 9) (da_cons (d_ix (d_var 3) d_int) da_nil))))) dss_nil)
  (dss_mid (ds_if (dt_cmp (do_eq hu) (d_ix (d_var 3) d_int) d_str rfl) (dss_one (ds_set (k := 10) hN rfl (by first | exact .inl rfl | exact .inr rfl) (d_call c__law_with hr (Nat.le_refl _) rfl (da_cons (d_var 10) (da_cons (d_ix (d_var 3) d_int) da_nil))))) dss_nil)
  (dss_one (ds_ret (d_new (dl_lst (da_cons (d_tup (da_cons (d_var 8) (da_cons (d_var 9) (da_cons (d_var 10) da_nil)))) (da_cons (d_var 7) da_nil)))))))))))))))))))
/-! _law_toggled -/
abbrev st__law_toggled : Stmt := (top 98)
abbrev N__law_toggled : List Str := ["pool", "row", "many", "k", "x"]
theorem sc__law_toggled : FnScope N__law_toggled ["pool", "row", "many"] (defScope st__law_toggled) := C8.fnScope_by (by decide +kernel)
theorem e__law_toggled (a0 a1 a2 : Val) : startD N__law_toggled [a0, a1, a2] = [some a0, some a1, some a2, none, none] := rfl
@[irreducible] def w__law_toggled (s__law_draw s__law_with : DSp) : WS :=
  (wSeq (wIfS (wTest (wBin (eqW false) (wVar 2) (wC (.int 0)))) (wRet (wVar 1)) wNext)
  (wSeq (wAsg (wCB s__law_draw (wCons (wVar 0) (wCons (wVar 2) wNil))) (gN 3))
  (wSeq (wIfS (wTest (wBin (inW false) (wVar 3) (wVar 1))) (wRet (wCL tupW (wLc (wIt (wVar 1)) (gN 4) (wTest (wBin (eqW true) (wVar 4) (wVar 3))) (wVar 4) [4]))) wNext)
  (wRet (wCB s__law_with (wCons (wVar 1) (wCons (wVar 3) wNil)))))))
theorem b__law_toggled {s__law_draw s__law_with : DSp} (T : Txt K mg C) (c__law_draw : DCal P w K mg base j "_law_draw" s__law_draw) (c__law_with : DCal P w K mg base j "_law_with" s__law_with) (hr : Room j (A.deeper (envOfC "_law_toggled" (defScope st__law_toggled) sh.heap.objs.size f cdv))) :
    DSs (cxOf C8.CX0 P w K mg base N__law_toggled "_law_toggled" (defScope st__law_toggled) f cdv A outer sh H E).nox (defBody st__law_toggled) (w__law_toggled s__law_draw s__law_with) := by
  have hN := sc__law_toggled.nd
  have hu := hr.units
  have hu0 := hr.units0
  unfold w__law_toggled
  exact (dss_cons (ds_if (dt_cmp (do_eq hu) (d_var 2) d_int rfl) (dss_one (ds_ret (d_var 1))) dss_nil)
  (dss_cons (ds_set (k := 3) hN rfl (by first | exact .inl rfl | exact .inr rfl) (d_call c__law_draw hr (Nat.le_refl _) rfl (da_cons (d_var 0) (da_cons (d_var 2) da_nil))))
  (dss_cons (ds_if (dt_cmp do_in (d_var 3) (d_var 1) rfl) (dss_one (ds_ret (d_callTyL dc_tupleL rfl T.fr_tuple boot_tuple (dl_lc (own := [("x", 4)]) rfl hN (di_of (d_var 1)) (blkOk_by (by show blkC N__law_toggled (defScope st__law_toggled) _ _ = true; decide +kernel)) (fun _ _ _ _ _ => (dg_name 4 hN rfl (by first | exact .inl rfl | exact .inr rfl))) (fun _ _ _ _ _ => (dts_one (dt_cmp (do_ne hu) (d_var 4) (d_var 3) rfl))) (fun _ _ _ _ _ => (d_var 4)))))) dss_nil)
  (dss_one (ds_ret (d_call c__law_with hr (Nat.le_refl _) rfl (da_cons (d_var 1) (da_cons (d_var 3) da_nil))))))))
/-! _law_moved -/
abbrev st__law_moved : Stmt := (top 99)
abbrev N__law_moved : List Str := ["pool", "fr", "sd", "ak", "way"]
theorem sc__law_moved : FnScope N__law_moved ["pool", "fr", "sd", "ak"] (defScope st__law_moved) := C8.fnScope_by (by decide +kernel)
theorem e__law_moved (a0 a1 a2 a3 : Val) : startD N__law_moved [a0, a1, a2, a3] = [some a0, some a1, some a2, some a3, none] := rfl
@[irreducible] def w__law_moved (s__law_draw s__law_toggled : DSp) : WS :=
  (wSeq (wAsg (wCB s__law_draw (wCons (wVar 0) (wCons (wC (.int 7)) wNil))) (gN 4))
  (wSeq (wIfS (wTest (wBin (eqW false) (wVar 4) (wC (.int 0)))) (wRet (wNew (wLst (wCons (wVar 2) (wCons (wBin addV (wTup (wCons (wBin modV (wCB intV (wCons (wBin addV (wBin addV (wBin ixV (wVar 3) (wC (.int 0))) (wC (.int 1))) (wCB s__law_draw (wCons (wVar 0) (wCons (wC (.int 12)) wNil)))) wNil)) (wC (.int 13))) wNil)) (wSl (wVar 3) (wPart (wC (.int 1))) wNo)) wNil))))) wNext)
  (wSeq (wIfS (wTest (wBin (eqW false) (wVar 4) (wC (.int 1)))) (wRet (wNew (wLst (wCons (wVar 2) (wCons (wTup (wCons (wBin ixV (wVar 3) (wC (.int 0))) (wCons (wCB s__law_draw (wCons (wVar 0) (wCons (wCB lenV (wCons (wBin ixV (wVar 1) (wC (.int 1))) wNil)) wNil))) (wCons (wBin ixV (wVar 3) (wC (.int 2))) (wCons (wBin ixV (wVar 3) (wC (.int 3))) wNil))))) wNil))))) wNext)
  (wSeq (wIfS (wTest (wBin (eqW false) (wVar 4) (wC (.int 2)))) (wRet (wNew (wLst (wCons (wVar 2) (wCons (wTup (wCons (wBin ixV (wVar 3) (wC (.int 0))) (wCons (wBin ixV (wVar 3) (wC (.int 1))) (wCons (wCB s__law_draw (wCons (wVar 0) (wCons (wBin ixV (wBin ixV (wVar 1) (wC (.int 0))) (wC (.int 0))) wNil))) (wCons (wBin ixV (wVar 3) (wC (.int 3))) wNil))))) wNil))))) wNext)
  (wSeq (wIfS (wTest (wBin (eqW false) (wVar 4) (wC (.int 3)))) (wRet (wNew (wLst (wCons (wVar 2) (wCons (wBin addV (wSl (wVar 3) wNo (wPart (wC (.int 3)))) (wTup (wCons (wCB s__law_draw (wCons (wVar 0) (wCons (wBin ixV (wBin ixV (wVar 1) (wC (.int 0))) (wC (.int 1))) wNil))) wNil))) wNil))))) wNext)
  (wSeq (wIfS (wTest (wBin (eqW false) (wVar 4) (wC (.int 4)))) (wRet (wNew (wLst (wCons (wTup (wCons (wCB s__law_toggled (wCons (wVar 0) (wCons (wBin ixV (wVar 2) (wC (.int 0))) (wCons (wCB lenV (wCons (wBin ixV (wVar 1) (wC (.int 5))) wNil)) wNil)))) (wCons (wBin ixV (wVar 2) (wC (.int 1))) (wCons (wBin ixV (wVar 2) (wC (.int 2))) wNil)))) (wCons (wVar 3) wNil))))) wNext)
  (wSeq (wIfS (wTest (wBin (eqW false) (wVar 4) (wC (.int 5)))) (wRet (wNew (wLst (wCons (wTup (wCons (wBin ixV (wVar 2) (wC (.int 0))) (wCons (wCB s__law_toggled (wCons (wVar 0) (wCons (wBin ixV (wVar 2) (wC (.int 1))) (wCons (wCB lenV (wCons (wBin ixV (wVar 1) (wC (.int 7))) wNil)) wNil)))) (wCons (wBin ixV (wVar 2) (wC (.int 2))) wNil)))) (wCons (wVar 3) wNil))))) wNext)
  (wRet (wNew (wLst (wCons (wTup (wCons (wBin ixV (wVar 2) (wC (.int 0))) (wCons (wBin ixV (wVar 2) (wC (.int 1))) (wCons (wCB s__law_toggled (wCons (wVar 0) (wCons (wBin ixV (wVar 2) (wC (.int 2))) (wCons (wCB lenV (wCons (wBin ixV (wVar 1) (wC (.int 8))) wNil)) wNil)))) wNil)))) (wCons (wVar 3) wNil))))))))))))
theorem b__law_moved {s__law_draw s__law_toggled : DSp} (T : Txt K mg C) (c__law_draw : DCal P w K mg base j "_law_draw" s__law_draw) (c__law_toggled : DCal P w K mg base j "_law_toggled" s__law_toggled) (hr : Room j (A.deeper (envOfC "_law_moved" (defScope st__law_moved) sh.heap.objs.size f cdv))) :
    DSs (cxOf C8.CX0 P w K mg base N__law_moved "_law_moved" (defScope st__law_moved) f cdv A outer sh H E).nox (defBody st__law_moved) (w__law_moved s__law_draw s__law_toggled) := by
  have hN := sc__law_moved.nd
  have hu := hr.units
  have hu0 := hr.units0
  unfold w__law_moved
  exact (dss_cons (ds_set (k := 4) hN rfl (by first | exact .inl rfl | exact .inr rfl) (d_call c__law_draw hr (Nat.le_refl _) rfl (da_cons (d_var 0) (da_cons d_int da_nil))))
  (dss_cons (ds_if (dt_cmp (do_eq hu) (d_var 4) d_int rfl) (dss_one (ds_ret (d_new (dl_lst (da_cons (d_var 2) (da_cons (d_bin do_add (d_tup (da_cons (d_bin do_mod (d_callTy dc_int rfl T.fr_int boot_int (da_cons (d_bin do_add (d_bin do_add (d_ix (d_var 3) d_int) d_int) (d_call c__law_draw hr (Nat.le_refl _) rfl (da_cons (d_var 0) (da_cons d_int da_nil)))) da_nil)) d_int) da_nil)) (d_slice (d_var 3) (do_some d_int) do_no)) da_nil)))))) dss_nil)
  (dss_cons (ds_if (dt_cmp (do_eq hu) (d_var 4) d_int rfl) (dss_one (ds_ret (d_new (dl_lst (da_cons (d_var 2) (da_cons (d_tup (da_cons (d_ix (d_var 3) d_int) (da_cons (d_call c__law_draw hr (Nat.le_refl _) rfl (da_cons (d_var 0) (da_cons (d_callB dc_len rfl T.fr_len boot_len (da_cons (d_ix (d_var 1) d_int) da_nil)) da_nil))) (da_cons (d_ix (d_var 3) d_int) (da_cons (d_ix (d_var 3) d_int) da_nil))))) da_nil)))))) dss_nil)
  (dss_cons (ds_if (dt_cmp (do_eq hu) (d_var 4) d_int rfl) (dss_one (ds_ret (d_new (dl_lst (da_cons (d_var 2) (da_cons (d_tup (da_cons (d_ix (d_var 3) d_int) (da_cons (d_ix (d_var 3) d_int) (da_cons (d_call c__law_draw hr (Nat.le_refl _) rfl (da_cons (d_var 0) (da_cons (d_ix (d_ix (d_var 1) d_int) d_int) da_nil))) (da_cons (d_ix (d_var 3) d_int) da_nil))))) da_nil)))))) dss_nil)
  (dss_cons (ds_if (dt_cmp (do_eq hu) (d_var 4) d_int rfl) (dss_one (ds_ret (d_new (dl_lst (da_cons (d_var 2) (da_cons (d_bin do_add (d_slice (d_var 3) do_no (do_some d_int)) (d_tup (da_cons (d_call c__law_draw hr (Nat.le_refl _) rfl (da_cons (d_var 0) (da_cons (d_ix (d_ix (d_var 1) d_int) d_int) da_nil))) da_nil))) da_nil)))))) dss_nil)
  (dss_cons (ds_if (dt_cmp (do_eq hu) (d_var 4) d_int rfl) (dss_one (ds_ret (d_new (dl_lst (da_cons (d_tup (da_cons (d_call c__law_toggled hr (Nat.le_refl _) rfl (da_cons (d_var 0) (da_cons (d_ix (d_var 2) d_int) (da_cons (d_callB dc_len rfl T.fr_len boot_len (da_cons (d_ix (d_var 1) d_int) da_nil)) da_nil)))) (da_cons (d_ix (d_var 2) d_int) (da_cons (d_ix (d_var 2) d_int) da_nil)))) (da_cons (d_var 3) da_nil)))))) dss_nil)
  (dss_cons (ds_if (dt_cmp (do_eq hu) (d_var 4) d_int rfl) (dss_one (ds_ret (d_new (dl_lst (da_cons (d_tup (da_cons (d_ix (d_var 2) d_int) (da_cons (d_call c__law_toggled hr (Nat.le_refl _) rfl (da_cons (d_var 0) (da_cons (d_ix (d_var 2) d_int) (da_cons (d_callB dc_len rfl T.fr_len boot_len (da_cons (d_ix (d_var 1) d_int) da_nil)) da_nil)))) (da_cons (d_ix (d_var 2) d_int) da_nil)))) (da_cons (d_var 3) da_nil)))))) dss_nil)
  (dss_one (ds_ret (d_new (dl_lst (da_cons (d_tup (da_cons (d_ix (d_var 2) d_int) (da_cons (d_ix (d_var 2) d_int) (da_cons (d_call c__law_toggled hr (Nat.le_refl _) rfl (da_cons (d_var 0) (da_cons (d_ix (d_var 2) d_int) (da_cons (d_callB dc_len rfl T.fr_len boot_len (da_cons (d_ix (d_var 1) d_int) da_nil)) da_nil)))) da_nil)))) (da_cons (d_var 3) da_nil)))))))))))))
/-! _law_start -/
abbrev st__law_start : Stmt := (top 100)
abbrev N__law_start : List Str := ["pool", "fr", "rl", "every", "sd"]
theorem sc__law_start : FnScope N__law_start ["pool", "fr", "rl"] (defScope st__law_start) := C8.fnScope_by (by decide +kernel)
theorem e__law_start (a0 a1 a2 : Val) : startD N__law_start [a0, a1, a2] = [some a0, some a1, some a2, none, none] := rfl
@[irreducible] def w__law_start (s__law_aimed s__law_draw s__law_items s__law_one_of s__law_some : DSp) : WS :=
  (wSeq (wAsg (wCB tupV (wCons (wCB s__law_items (wCons (wVar 1) (wCons (wVar 2) wNil))) wNil)) (gN 3))
  (wSeq (wIfS (wAnd (wTest (wBin gtV (wCB lenV (wCons (wVar 3) wNil)) (wC (.int 0)))) (wTest (wBin gtV (wCB s__law_draw (wCons (wVar 0) (wCons (wC (.int 4)) wNil))) (wC (.int 0))))) (wRet (wCB s__law_aimed (wCons (wVar 0) (wCons (wVar 1) (wCons (wVar 2) (wCons (wCB s__law_one_of (wCons (wVar 0) (wCons (wVar 3) (wCons (wC (.int 1)) wNil)))) wNil)))))) wNext)
  (wSeq (wAsg (wTup (wCons (wCB s__law_some (wCons (wVar 0) (wCons (wCB lenV (wCons (wBin ixV (wVar 1) (wC (.int 5))) wNil)) (wCons (wC (.int 2)) wNil)))) (wCons (wCB s__law_some (wCons (wVar 0) (wCons (wCB lenV (wCons (wBin ixV (wVar 1) (wC (.int 7))) wNil)) (wCons (wC (.int 2)) wNil)))) (wCons (wCB s__law_some (wCons (wVar 0) (wCons (wCB lenV (wCons (wBin ixV (wVar 1) (wC (.int 8))) wNil)) (wCons (wC (.int 2)) wNil)))) wNil)))) (gN 4))
  (wRet (wNew (wLst (wCons (wVar 4) (wCons (wTup (wCons (wCB s__law_draw (wCons (wVar 0) (wCons (wC (.int 13)) wNil))) (wCons (wCB s__law_draw (wCons (wVar 0) (wCons (wCB lenV (wCons (wBin ixV (wVar 1) (wC (.int 1))) wNil)) wNil))) (wCons (wCB s__law_draw (wCons (wVar 0) (wCons (wBin ixV (wBin ixV (wVar 1) (wC (.int 0))) (wC (.int 0))) wNil))) (wCons (wCB s__law_draw (wCons (wVar 0) (wCons (wBin ixV (wBin ixV (wVar 1) (wC (.int 0))) (wC (.int 1))) wNil))) wNil))))) wNil))))))))
theorem b__law_start {s__law_aimed s__law_draw s__law_items s__law_one_of s__law_some : DSp} (T : Txt K mg C) (c__law_aimed : DCal P w K mg base j "_law_aimed" s__law_aimed) (c__law_draw : DCal P w K mg base j "_law_draw" s__law_draw) (c__law_items : DCal P w K mg base j "_law_items" s__law_items) (c__law_one_of : DCal P w K mg base j "_law_one_of" s__law_one_of) (c__law_some : DCal P w K mg base j "_law_some" s__law_some) (hr : Room j (A.deeper (envOfC "_law_start" (defScope st__law_start) sh.heap.objs.size f cdv))) :
    DSs (cxOf C8.CX0 P w K mg base N__law_start "_law_start" (defScope st__law_start) f cdv A outer sh H E).nox (defBody st__law_start) (w__law_start s__law_aimed s__law_draw s__law_items s__law_one_of s__law_some) := by
  have hN := sc__law_start.nd
  have hu := hr.units
  have hu0 := hr.units0
  unfold w__law_start
  exact (dss_cons (ds_set (k := 3) hN rfl (by first | exact .inl rfl | exact .inr rfl) (d_callTy dc_tuple rfl T.fr_tuple boot_tuple (da_cons (d_call c__law_items hr (Nat.le_refl _) rfl (da_cons (d_var 1) (da_cons (d_var 2) da_nil))) da_nil)))
  (dss_cons (ds_if (dt_w (dw_and (dt_cmp do_gt (d_callB dc_len rfl T.fr_len boot_len (da_cons (d_var 3) da_nil)) d_int rfl) (dw_and1 (dt_cmp do_gt (d_call c__law_draw hr (Nat.le_refl _) rfl (da_cons (d_var 0) (da_cons d_int da_nil))) d_int rfl)))) (dss_one (ds_ret (d_call c__law_aimed hr (Nat.le_refl _) rfl (da_cons (d_var 0) (da_cons (d_var 1) (da_cons (d_var 2) (da_cons (d_call c__law_one_of hr (Nat.le_refl _) rfl (da_cons (d_var 0) (da_cons (d_var 3) (da_cons d_int da_nil)))) da_nil))))))) dss_nil)
  (dss_cons (ds_set (k := 4) hN rfl (by first | exact .inl rfl | exact .inr rfl) (d_tup (da_cons (d_call c__law_some hr (Nat.le_refl _) rfl (da_cons (d_var 0) (da_cons (d_callB dc_len rfl T.fr_len boot_len (da_cons (d_ix (d_var 1) d_int) da_nil)) (da_cons d_int da_nil)))) (da_cons (d_call c__law_some hr (Nat.le_refl _) rfl (da_cons (d_var 0) (da_cons (d_callB dc_len rfl T.fr_len boot_len (da_cons (d_ix (d_var 1) d_int) da_nil)) (da_cons d_int da_nil)))) (da_cons (d_call c__law_some hr (Nat.le_refl _) rfl (da_cons (d_var 0) (da_cons (d_callB dc_len rfl T.fr_len boot_len (da_cons (d_ix (d_var 1) d_int) da_nil)) (da_cons d_int da_nil)))) da_nil)))))
  (dss_one (ds_ret (d_new (dl_lst (da_cons (d_var 4) (da_cons (d_tup (da_cons (d_call c__law_draw hr (Nat.le_refl _) rfl (da_cons (d_var 0) (da_cons d_int da_nil))) (da_cons (d_call c__law_draw hr (Nat.le_refl _) rfl (da_cons (d_var 0) (da_cons (d_callB dc_len rfl T.fr_len boot_len (da_cons (d_ix (d_var 1) d_int) da_nil)) da_nil))) (da_cons (d_call c__law_draw hr (Nat.le_refl _) rfl (da_cons (d_var 0) (da_cons (d_ix (d_ix (d_var 1) d_int) d_int) da_nil))) (da_cons (d_call c__law_draw hr (Nat.le_refl _) rfl (da_cons (d_var 0) (da_cons (d_ix (d_ix (d_var 1) d_int) d_int) da_nil))) da_nil))))) da_nil)))))))))
/-! _law_other_tree -/
abbrev st__law_other_tree : Stmt := (top 101)
abbrev N__law_other_tree : List Str := ["pool", "fr", "k"]
theorem sc__law_other_tree : FnScope N__law_other_tree ["pool", "fr"] (defScope st__law_other_tree) := C8.fnScope_by (by decide +kernel)
theorem e__law_other_tree (a0 a1 : Val) : startD N__law_other_tree [a0, a1] = [some a0, some a1, none] := rfl
@[irreducible] def w__law_other_tree (s__law_draw : DSp) : WS :=
  (wRet (wBin addV (wBin addV (wSl (wVar 1) wNo (wPart (wC (.int 1)))) (wTup (wCons (wCL tupW (wBinL catW (wLst (wCons (wUn negV (wC (.int 1))) wNil)) (wLc (wIA rg2V (wCons (wC (.int 1)) (wCons (wCB lenV (wCons (wBin ixV (wVar 1) (wC (.int 1))) wNil)) wNil))) (gN 2) wYes (wCB s__law_draw (wCons (wVar 0) (wCons (wVar 2) wNil))) [2]))) wNil))) (wSl (wVar 1) (wPart (wC (.int 2))) wNo)))
theorem b__law_other_tree {s__law_draw : DSp} (T : Txt K mg C) (c__law_draw : DCal P w K mg base j "_law_draw" s__law_draw) (hr : Room j (A.deeper (envOfC "_law_other_tree" (defScope st__law_other_tree) sh.heap.objs.size f cdv))) :
    DSs (cxOf C8.CX0 P w K mg base N__law_other_tree "_law_other_tree" (defScope st__law_other_tree) f cdv A outer sh H E).nox (defBody st__law_other_tree) (w__law_other_tree s__law_draw) := by
  have hN := sc__law_other_tree.nd
  have hu := hr.units
  have hu0 := hr.units0
  unfold w__law_other_tree
  exact (dss_one (ds_ret (d_bin do_add (d_bin do_add (d_slice (d_var 1) do_no (do_some d_int)) (d_tup (da_cons (d_callTyL dc_tupleL rfl T.fr_tuple boot_tuple (dl_cat (dl_lst (da_cons (d_un do_neg d_int) da_nil)) (dl_lc (own := [("k", 2)]) rfl hN (di_range2 rfl T.fr_range (da_cons d_int (da_cons (d_callB dc_len rfl T.fr_len boot_len (da_cons (d_ix (d_var 1) d_int) da_nil)) da_nil))) (blkOk_by (by show blkC N__law_other_tree (defScope st__law_other_tree) _ _ = true; decide +kernel)) (fun _ _ _ _ _ => (dg_name 2 hN rfl (by first | exact .inl rfl | exact .inr rfl))) (fun _ _ _ _ _ => dts_nil) (fun _ _ _ _ _ => (d_call c__law_draw hr (Nat.le_refl _) rfl (da_cons (d_var 0) (da_cons (d_var 2) da_nil))))))) da_nil))) (d_slice (d_var 1) (do_some d_int) do_no))))
/-! _law_other_rule -/
abbrev st__law_other_rule : Stmt := (top 102)
abbrev N__law_other_rule : List Str := ["pool", "fr", "rl", "k"]
theorem sc__law_other_rule : FnScope N__law_other_rule ["pool", "fr", "rl"] (defScope st__law_other_rule) := C8.fnScope_by (by decide +kernel)
theorem e__law_other_rule (a0 a1 a2 : Val) : startD N__law_other_rule [a0, a1, a2] = [some a0, some a1, some a2, none] := rfl
@[irreducible] def w__law_other_rule (s__law_draw s__law_rule : DSp) : WS :=
  (wSeq (wIfS (wTest (wBin (eqW false) (wCB lenV (wCons (wVar 2) wNil)) (wC (.int 0)))) (wRet (wVar 2)) wNext)
  (wSeq (wAsg (wCB s__law_draw (wCons (wVar 0) (wCons (wCB lenV (wCons (wVar 2) wNil)) wNil))) (gN 3))
  (wRet (wBin addV (wBin addV (wSl (wVar 2) wNo (wPart (wVar 3))) (wTup (wCons (wCB s__law_rule (wCons (wVar 0) (wCons (wVar 1) (wCons (wCB s__law_draw (wCons (wVar 0) (wCons (wC (.int 2)) wNil))) wNil)))) wNil))) (wSl (wVar 2) (wPart (wBin addV (wVar 3) (wC (.int 1)))) wNo)))))
theorem b__law_other_rule {s__law_draw s__law_rule : DSp} (T : Txt K mg C) (c__law_draw : DCal P w K mg base j "_law_draw" s__law_draw) (c__law_rule : DCal P w K mg base j "_law_rule" s__law_rule) (hr : Room j (A.deeper (envOfC "_law_other_rule" (defScope st__law_other_rule) sh.heap.objs.size f cdv))) :
    DSs (cxOf C8.CX0 P w K mg base N__law_other_rule "_law_other_rule" (defScope st__law_other_rule) f cdv A outer sh H E).nox (defBody st__law_other_rule) (w__law_other_rule s__law_draw s__law_rule) := by
  have hN := sc__law_other_rule.nd
  have hu := hr.units
  have hu0 := hr.units0
  unfold w__law_other_rule
  exact (dss_cons (ds_if (dt_cmp (do_eq hu) (d_callB dc_len rfl T.fr_len boot_len (da_cons (d_var 2) da_nil)) d_int rfl) (dss_one (ds_ret (d_var 2))) dss_nil)
  (dss_cons (ds_set (k := 3) hN rfl (by first | exact .inl rfl | exact .inr rfl) (d_call c__law_draw hr (Nat.le_refl _) rfl (da_cons (d_var 0) (da_cons (d_callB dc_len rfl T.fr_len boot_len (da_cons (d_var 2) da_nil)) da_nil))))
  (dss_one (ds_ret (d_bin do_add (d_bin do_add (d_slice (d_var 2) do_no (do_some (d_var 3))) (d_tup (da_cons (d_call c__law_rule hr (Nat.le_refl _) rfl (da_cons (d_var 0) (da_cons (d_var 1) (da_cons (d_call c__law_draw hr (Nat.le_refl _) rfl (da_cons (d_var 0) (da_cons d_int da_nil))) da_nil)))) da_nil))) (d_slice (d_var 2) (do_some (d_bin do_add (d_var 3) d_int)) do_no))))))
/-! _law_up -/
abbrev st__law_up : Stmt := (top 103)
abbrev N__law_up : List Str := ["ups", "node", "found", "k"]
theorem sc__law_up : FnScope N__law_up ["ups", "node"] (defScope st__law_up) := C8.fnScope_by (by decide +kernel)
theorem e__law_up (a0 a1 : Val) : startD N__law_up [a0, a1] = [some a0, some a1, none, none] := rfl
@[irreducible] def w__law_up : WS :=
  (wSeq (wAsg (wNew (wLst (wCons (wVar 1) wNil))) (gN 2))
  (wSeq (wFor (wIA rg1V (wCons (wCB lenV (wCons (wVar 0) wNil)) wNil)) (gN 3) (wIfS (wTest (wBin (eqW true) (wBin ixV (wVar 0) (wBin ixV (wVar 2) (wUn negV (wC (.int 1))))) (wUn negV (wC (.int 1))))) (wDrop (wMt appV (wVar 2) (wCons (wBin ixV (wVar 0) (wBin ixV (wVar 2) (wUn negV (wC (.int 1))))) wNil))) wNext))
  (wRet (wVar 2))))
theorem b__law_up (T : Txt K mg C) (hr : Room j (A.deeper (envOfC "_law_up" (defScope st__law_up) sh.heap.objs.size f cdv))) :
    DSs (cxOf C8.CX0 P w K mg base N__law_up "_law_up" (defScope st__law_up) f cdv A outer sh H E).nox (defBody st__law_up) (w__law_up ) := by
  have hN := sc__law_up.nd
  have hu := hr.units
  have hu0 := hr.units0
  unfold w__law_up
  exact (dss_cons (ds_set (k := 2) hN rfl (by first | exact .inl rfl | exact .inr rfl) (d_new (dl_lst (da_cons (d_var 1) da_nil))))
  (dss_cons (ds_for PassesOwn.never rfl (di_range1 rfl T.fr_range (da_cons (d_callB dc_len rfl T.fr_len boot_len (da_cons (d_var 0) da_nil)) da_nil)) (dg_name 3 hN rfl (by first | exact .inl rfl | exact .inr rfl)) (dss_one (ds_if (dt_cmp (do_ne hu) (d_ix (d_var 0) (d_ix (d_var 2) (d_un do_neg d_int))) (d_un do_neg d_int) rfl) (dss_one (ds_expr (d_mt PySem.F.slot_list_append PySem.F.type_list_append dm_append (d_var 2) (da_cons (d_ix (d_var 0) (d_ix (d_var 2) (d_un do_neg d_int))) da_nil)))) dss_nil)))
  (dss_one (ds_ret (d_var 2)))))
/-! _law_why -/
abbrev st__law_why : Stmt := (top 104)
abbrev N__law_why : List Str := ["fr", "rl", "sd", "it", "ak", "up", "found", "row"]
theorem sc__law_why : FnScope N__law_why ["fr", "rl", "sd", "it", "ak"] (defScope st__law_why) := C8.fnScope_by (by decide +kernel)
theorem e__law_why (a0 a1 a2 a3 a4 : Val) : startD N__law_why [a0, a1, a2, a3, a4] = [some a0, some a1, some a2, some a3, some a4, none, none, none] := rfl
@[irreducible] def w__law_why (s__law_up : DSp) : WS :=
  (wSeq (wAsg (wCB s__law_up (wCons (wBin ixV (wVar 0) (wC (.int 1))) (wCons (wBin ixV (wVar 4) (wC (.int 1))) wNil))) (gN 5))
  (wSeq (wAsg (wNew (wLst wNil)) (gN 6))
  (wSeq (wIfS (wTest (wBin (eqW false) (wBin ixV (wVar 3) (wC (.int 0))) (wC (.str "lot")))) (wSeq (wAsg (wBin ixV (wBin ixV (wVar 0) (wC (.int 7))) (wBin ixV (wVar 3) (wC (.int 1)))) (gN 7))
  (wMid (wIfS (wTest (wBin (inW true) (wBin ixV (wVar 3) (wC (.int 1))) (wBin ixV (wVar 2) (wC (.int 1))))) (wDrop (wMt appV (wVar 6) (wCons (wC (.str "unheld")) wNil))) wNext)
  (wMid (wIfS (wTest (wBin (inW true) (wBin ixV (wVar 4) (wC (.int 0))) (wBin ixV (wVar 7) (wC (.int 1))))) (wDrop (wMt appV (wVar 6) (wCons (wC (.str "verb")) wNil))) wNext)
  (wMid (wIfS (wTest (wBin (inW true) (wBin ixV (wVar 7) (wC (.int 0))) (wVar 5))) (wDrop (wMt appV (wVar 6) (wCons (wC (.str "node")) wNil))) wNext)
  (wRet (wCB tupV (wCons (wVar 6) wNil))))))) wNext)
  (wSeq (wAsg (wIf (wTest (wBin (eqW false) (wBin ixV (wVar 3) (wC (.int 0))) (wC (.str "door")))) (wSl (wBin ixV (wBin ixV (wVar 0) (wC (.int 8))) (wBin ixV (wVar 3) (wC (.int 1)))) (wPart (wC (.int 1))) (wPart (wC (.int 7)))) (wSl (wBin ixV (wVar 1) (wBin ixV (wVar 3) (wC (.int 1)))) (wPart (wC (.int 2))) (wPart (wC (.int 8))))) (gN 7))
  (wMid (wIfS (wAnd (wTest (wBin (eqW false) (wBin ixV (wVar 3) (wC (.int 0))) (wC (.str "door")))) (wTest (wBin (inW true) (wBin ixV (wVar 3) (wC (.int 1))) (wBin ixV (wVar 2) (wC (.int 2)))))) (wDrop (wMt appV (wVar 6) (wCons (wC (.str "shut")) wNil))) wNext)
  (wMid (wIfS (wAnd (wTest (wBin (eqW true) (wBin ixV (wVar 7) (wC (.int 0))) (wUn negV (wC (.int 1))))) (wTest (wBin (inW true) (wBin ixV (wVar 7) (wC (.int 0))) (wBin ixV (wVar 2) (wC (.int 0)))))) (wDrop (wMt appV (wVar 6) (wCons (wC (.str "role")) wNil))) wNext)
  (wMid (wIfS (wTest (wBin (inW true) (wBin ixV (wVar 4) (wC (.int 0))) (wBin ixV (wVar 7) (wC (.int 1))))) (wDrop (wMt appV (wVar 6) (wCons (wC (.str "verb")) wNil))) wNext)
  (wMid (wIfS (wTest (wInL true (wBin ixV (wVar 7) (wC (.int 2))) (wSlLs (wLoc (wVar 5)) wNo (wPart (wBin addV (wC (.int 1)) (wBin mulV (wBin ixV (wVar 7) (wC (.int 3))) (wCB lenV (wCons (wVar 5) wNil)))))))) (wDrop (wMt appV (wVar 6) (wCons (wC (.str "node")) wNil))) wNext)
  (wMid (wIfS (wTest (wBin (inW true) (wBin ixV (wVar 4) (wC (.int 2))) (wBin ixV (wVar 7) (wC (.int 4))))) (wDrop (wMt appV (wVar 6) (wCons (wC (.str "hour")) wNil))) wNext)
  (wMid (wIfS (wTest (wBin (inW true) (wBin ixV (wVar 4) (wC (.int 3))) (wBin ixV (wVar 7) (wC (.int 5))))) (wDrop (wMt appV (wVar 6) (wCons (wC (.str "place")) wNil))) wNext)
  (wRet (wCB tupV (wCons (wVar 6) wNil)))))))))))))
theorem b__law_why {s__law_up : DSp} (T : Txt K mg C) (c__law_up : DCal P w K mg base j "_law_up" s__law_up) (hr : Room j (A.deeper (envOfC "_law_why" (defScope st__law_why) sh.heap.objs.size f cdv))) :
    DSs (cxOf C8.CX0 P w K mg base N__law_why "_law_why" (defScope st__law_why) f cdv A outer sh H E).nox (defBody st__law_why) (w__law_why s__law_up) := by
  have hN := sc__law_why.nd
  have hu := hr.units
  have hu0 := hr.units0
  unfold w__law_why
  exact (dss_cons (ds_set (k := 5) hN rfl (by first | exact .inl rfl | exact .inr rfl) (d_call c__law_up hr (Nat.le_refl _) rfl (da_cons (d_ix (d_var 0) d_int) (da_cons (d_ix (d_var 4) d_int) da_nil))))
  (dss_cons (ds_set (k := 6) hN rfl (by first | exact .inl rfl | exact .inr rfl) (d_new (dl_lst da_nil)))
  (dss_cons (ds_if (dt_cmp (do_eq hu) (d_ix (d_var 3) d_int) d_str rfl) (dss_cons (ds_set (k := 7) hN rfl (by first | exact .inl rfl | exact .inr rfl) (d_ix (d_ix (d_var 0) d_int) (d_ix (d_var 3) d_int)))
  (dss_mid (ds_if (dt_cmp do_notIn (d_ix (d_var 3) d_int) (d_ix (d_var 2) d_int) rfl) (dss_one (ds_expr (d_mt PySem.F.slot_list_append PySem.F.type_list_append dm_append (d_var 6) (da_cons d_str da_nil)))) dss_nil)
  (dss_mid (ds_if (dt_cmp do_notIn (d_ix (d_var 4) d_int) (d_ix (d_var 7) d_int) rfl) (dss_one (ds_expr (d_mt PySem.F.slot_list_append PySem.F.type_list_append dm_append (d_var 6) (da_cons d_str da_nil)))) dss_nil)
  (dss_mid (ds_if (dt_cmp do_notIn (d_ix (d_var 7) d_int) (d_var 5) rfl) (dss_one (ds_expr (d_mt PySem.F.slot_list_append PySem.F.type_list_append dm_append (d_var 6) (da_cons d_str da_nil)))) dss_nil)
  (dss_one (ds_ret (d_callTy dc_tuple rfl T.fr_tuple boot_tuple (da_cons (d_var 6) da_nil)))))))) dss_nil)
  (dss_cons (ds_set (k := 7) hN rfl (by first | exact .inl rfl | exact .inr rfl) (d_ifExp (dt_cmp (do_eq hu) (d_ix (d_var 3) d_int) d_str rfl) (d_slice (d_ix (d_ix (d_var 0) d_int) (d_ix (d_var 3) d_int)) (do_some d_int) (do_some d_int)) (d_slice (d_ix (d_var 1) (d_ix (d_var 3) d_int)) (do_some d_int) (do_some d_int))))
  (dss_mid (ds_if (dt_w (dw_and (dt_cmp (do_eq hu) (d_ix (d_var 3) d_int) d_str rfl) (dw_and1 (dt_cmp do_notIn (d_ix (d_var 3) d_int) (d_ix (d_var 2) d_int) rfl)))) (dss_one (ds_expr (d_mt PySem.F.slot_list_append PySem.F.type_list_append dm_append (d_var 6) (da_cons d_str da_nil)))) dss_nil)
  (dss_mid (ds_if (dt_w (dw_and (dt_cmp (do_ne hu) (d_ix (d_var 7) d_int) (d_un do_neg d_int) rfl) (dw_and1 (dt_cmp do_notIn (d_ix (d_var 7) d_int) (d_ix (d_var 2) d_int) rfl)))) (dss_one (ds_expr (d_mt PySem.F.slot_list_append PySem.F.type_list_append dm_append (d_var 6) (da_cons d_str da_nil)))) dss_nil)
  (dss_mid (ds_if (dt_cmp do_notIn (d_ix (d_var 4) d_int) (d_ix (d_var 7) d_int) rfl) (dss_one (ds_expr (d_mt PySem.F.slot_list_append PySem.F.type_list_append dm_append (d_var 6) (da_cons d_str da_nil)))) dss_nil)
  (dss_mid (ds_if (dt_notInL (d_ix (d_var 7) d_int) (dl_slice (dl_of (d_var 5)) do_no (do_some (d_bin do_add d_int (d_bin do_mul (d_ix (d_var 7) d_int) (d_callB dc_len rfl T.fr_len boot_len (da_cons (d_var 5) da_nil)))))) rfl) (dss_one (ds_expr (d_mt PySem.F.slot_list_append PySem.F.type_list_append dm_append (d_var 6) (da_cons d_str da_nil)))) dss_nil)
  (dss_mid (ds_if (dt_cmp do_notIn (d_ix (d_var 4) d_int) (d_ix (d_var 7) d_int) rfl) (dss_one (ds_expr (d_mt PySem.F.slot_list_append PySem.F.type_list_append dm_append (d_var 6) (da_cons d_str da_nil)))) dss_nil)
  (dss_mid (ds_if (dt_cmp do_notIn (d_ix (d_var 4) d_int) (d_ix (d_var 7) d_int) rfl) (dss_one (ds_expr (d_mt PySem.F.slot_list_append PySem.F.type_list_append dm_append (d_var 6) (da_cons d_str da_nil)))) dss_nil)
  (dss_one (ds_ret (d_callTy dc_tuple rfl T.fr_tuple boot_tuple (da_cons (d_var 6) da_nil))))))))))))))
/-! _law_same -/
abbrev st__law_same : Stmt := (top 105)
abbrev N__law_same : List Str := ["got", "due", "k"]
theorem sc__law_same : FnScope N__law_same ["got", "due"] (defScope st__law_same) := C8.fnScope_by (by decide +kernel)
theorem e__law_same (a0 a1 : Val) : startD N__law_same [a0, a1] = [some a0, some a1, none] := rfl
@[irreducible] def w__law_same (s__law_same : DSp) : WS :=
  (wSeq (wIfS (wTest (wCB isaV (wCons (wVar 1) (wCons (wC (.ty "tuple")) wNil)))) (wSeq (wIfS (wOr (wNot (wTest (wCB isaV (wCons (wVar 0) (wCons (wC (.ty "tuple")) wNil))))) (wTest (wBin (eqW true) (wCB lenV (wCons (wVar 0) wNil)) (wCB lenV (wCons (wVar 1) wNil))))) (wRet (wC (.bl false))) wNext)
  (wSeq (wFor (wIA rg1V (wCons (wCB lenV (wCons (wVar 1) wNil)) wNil)) (gN 2) (wIfS (wNot (wTest (wCB s__law_same (wCons (wBin ixV (wVar 0) (wVar 2)) (wCons (wBin ixV (wVar 1) (wVar 2)) wNil))))) (wRet (wC (.bl false))) wNext))
  (wRet (wC (.bl true))))) wNext)
  (wSeq (wIfS (wTest (wCB isaV (wCons (wVar 1) (wCons (wC (.ty "str")) wNil)))) (wRet (wAndV (wCB isaV (wCons (wVar 0) (wCons (wC (.ty "str")) wNil))) (wBin (eqW false) (wVar 0) (wVar 1)))) wNext)
  (wSeq (wIfS (wTest (wCB isaV (wCons (wVar 1) (wCons (wC (.ty "bool")) wNil)))) (wRet (wAndV (wCB isaV (wCons (wVar 0) (wCons (wC (.ty "bool")) wNil))) (wBin (eqW false) (wVar 0) (wVar 1)))) wNext)
  (wRet (wAndV (wCB isaV (wCons (wVar 0) (wCons (wC (.ty "int")) wNil))) (wAndV (wNotV (wCB isaV (wCons (wVar 0) (wCons (wC (.ty "bool")) wNil)))) (wBin (eqW false) (wVar 0) (wVar 1))))))))
theorem b__law_same {s__law_same : DSp} (T : Txt K mg C) (c__law_same : DCal P w K mg base j "_law_same" s__law_same) (hr : Room j (A.deeper (envOfC "_law_same" (defScope st__law_same) sh.heap.objs.size f cdv))) :
    DSs (cxOf C8.CX0 P w K mg base N__law_same "_law_same" (defScope st__law_same) f cdv A outer sh H E).nox (defBody st__law_same) (w__law_same s__law_same) := by
  have hN := sc__law_same.nd
  have hu := hr.units
  have hu0 := hr.units0
  unfold w__law_same
  exact (dss_cons (ds_if (dt_val (d_callB dc_isa rfl T.fr_isinstance boot_isinstance (da_cons (d_var 1) (da_cons (d_ty rfl T.fr_tuple boot_tuple) da_nil)))) (dss_cons (ds_if (dt_w (dw_or (dt_not (dt_val (d_callB dc_isa rfl T.fr_isinstance boot_isinstance (da_cons (d_var 0) (da_cons (d_ty rfl T.fr_tuple boot_tuple) da_nil))))) (dw_or1 (dt_cmp (do_ne hu) (d_callB dc_len rfl T.fr_len boot_len (da_cons (d_var 0) da_nil)) (d_callB dc_len rfl T.fr_len boot_len (da_cons (d_var 1) da_nil)) rfl)))) (dss_one (ds_ret d_bl)) dss_nil)
  (dss_cons (ds_for PassesOwn.never rfl (di_range1 rfl T.fr_range (da_cons (d_callB dc_len rfl T.fr_len boot_len (da_cons (d_var 1) da_nil)) da_nil)) (dg_name 2 hN rfl (by first | exact .inl rfl | exact .inr rfl)) (dss_one (ds_if (dt_not (dt_val (d_call c__law_same hr (Nat.le_refl _) rfl (da_cons (d_ix (d_var 0) (d_var 2)) (da_cons (d_ix (d_var 1) (d_var 2)) da_nil))))) (dss_one (ds_ret d_bl)) dss_nil)))
  (dss_one (ds_ret d_bl)))) dss_nil)
  (dss_cons (ds_if (dt_val (d_callB dc_isa rfl T.fr_isinstance boot_isinstance (da_cons (d_var 1) (da_cons (d_ty rfl T.fr_str boot_str) da_nil)))) (dss_one (ds_ret (d_and (d_callB dc_isa rfl T.fr_isinstance boot_isinstance (da_cons (d_var 0) (da_cons (d_ty rfl T.fr_str boot_str) da_nil))) (d_one (d_cmp (do_eq hu) (d_var 0) (d_var 1) rfl))))) dss_nil)
  (dss_cons (ds_if (dt_val (d_callB dc_isa rfl T.fr_isinstance boot_isinstance (da_cons (d_var 1) (da_cons (d_ty rfl T.fr_bool boot_bool) da_nil)))) (dss_one (ds_ret (d_and (d_callB dc_isa rfl T.fr_isinstance boot_isinstance (da_cons (d_var 0) (da_cons (d_ty rfl T.fr_bool boot_bool) da_nil))) (d_one (d_cmp (do_eq hu) (d_var 0) (d_var 1) rfl))))) dss_nil)
  (dss_one (ds_ret (d_and (d_callB dc_isa rfl T.fr_isinstance boot_isinstance (da_cons (d_var 0) (da_cons (d_ty rfl T.fr_int boot_int) da_nil))) (d_and (d_not (d_callB dc_isa rfl T.fr_isinstance boot_isinstance (da_cons (d_var 0) (da_cons (d_ty rfl T.fr_bool boot_bool) da_nil)))) (d_one (d_cmp (do_eq hu) (d_var 0) (d_var 1) rfl)))))))))
/-! _law_items_hold -/
abbrev st__law_items_hold : Stmt := (top 106)
abbrev N__law_items_hold : List Str := ["book", "fr", "rl", "sd", "ak", "items", "whys", "k", "it"]
theorem sc__law_items_hold : FnScope N__law_items_hold ["book", "fr", "rl", "sd", "ak"] (defScope st__law_items_hold) := C8.fnScope_by (by decide +kernel)
theorem e__law_items_hold (a0 a1 a2 a3 a4 : Val) : startD N__law_items_hold [a0, a1, a2, a3, a4] = [some a0, some a1, some a2, some a3, some a4, none, none, none, none] := rfl
@[irreducible] def w__law_items_hold (s__law_items s__law_same s__law_why s_applies s_reasons : DSp) : WS :=
  (wSeq (wAsg (wCB s__law_items (wCons (wVar 1) (wCons (wVar 2) wNil))) (gN 5))
  (wSeq (wAsg (wNew (wLc (wIt (wVar 5)) (gN 8) wYes (wCB s__law_why (wCons (wVar 1) (wCons (wVar 2) (wCons (wVar 3) (wCons (wVar 8) (wCons (wVar 4) wNil)))))) [8])) (gN 6))
  (wSeq (wFor (wIA rg1V (wCons (wCB lenV (wCons (wVar 5) wNil)) wNil)) (gN 7) (wIfS (wNot (wTest (wCB s__law_same (wCons (wCB s_applies (wCons (wVar 0) (wCons (wVar 2) (wCons (wVar 3) (wCons (wBin ixV (wVar 5) (wVar 7)) (wCons (wVar 4) wNil)))))) (wCons (wBin (eqW false) (wCB lenV (wCons (wBin ixV (wVar 6) (wVar 7)) wNil)) (wC (.int 0))) wNil))))) (wRet (wC (.bl false))) wNext))
  (wSeq (wFor (wIA rg1V (wCons (wCB lenV (wCons (wVar 5) wNil)) wNil)) (gN 7) (wIfS (wNot (wTest (wCB s__law_same (wCons (wCB s_reasons (wCons (wVar 0) (wCons (wVar 2) (wCons (wVar 3) (wCons (wBin ixV (wVar 5) (wVar 7)) (wCons (wVar 4) wNil)))))) (wCons (wBin ixV (wVar 6) (wVar 7)) wNil))))) (wRet (wC (.bl false))) wNext))
  (wRet (wC (.bl true)))))))
theorem b__law_items_hold {s__law_items s__law_same s__law_why s_applies s_reasons : DSp} (T : Txt K mg C) (c__law_items : DCal P w K mg base j "_law_items" s__law_items) (c__law_same : DCal P w K mg base j "_law_same" s__law_same) (c__law_why : DCal P w K mg base j "_law_why" s__law_why) (c_applies : DCal P w K mg base j "applies" s_applies) (c_reasons : DCal P w K mg base j "reasons" s_reasons) (hr : Room j (A.deeper (envOfC "_law_items_hold" (defScope st__law_items_hold) sh.heap.objs.size f cdv))) :
    DSs (cxOf C8.CX0 P w K mg base N__law_items_hold "_law_items_hold" (defScope st__law_items_hold) f cdv A outer sh H E).nox (defBody st__law_items_hold) (w__law_items_hold s__law_items s__law_same s__law_why s_applies s_reasons) := by
  have hN := sc__law_items_hold.nd
  have hu := hr.units
  have hu0 := hr.units0
  unfold w__law_items_hold
  exact (dss_cons (ds_set (k := 5) hN rfl (by first | exact .inl rfl | exact .inr rfl) (d_call c__law_items hr (Nat.le_refl _) rfl (da_cons (d_var 1) (da_cons (d_var 2) da_nil))))
  (dss_cons (ds_setLc (i := 6) (own := [("it", 8)]) rfl hN rfl rfl (sw_true rfl rfl rfl rfl) (di_of (d_var 5)) (blkOk_by (by show blkC N__law_items_hold (defScope st__law_items_hold) _ _ = true; decide +kernel)) (fun _ _ _ _ _ => (dg_name 8 hN rfl (by first | exact .inl rfl | exact .inr rfl))) (fun _ _ _ _ _ => dts_nil) (fun _ _ _ _ _ => (d_call c__law_why hr (Nat.le_refl _) rfl (da_cons (d_var 1) (da_cons (d_var 2) (da_cons (d_var 3) (da_cons (d_var 8) (da_cons (d_var 4) da_nil))))))))
  (dss_cons (ds_for PassesOwn.never rfl (di_range1 rfl T.fr_range (da_cons (d_callB dc_len rfl T.fr_len boot_len (da_cons (d_var 5) da_nil)) da_nil)) (dg_name 7 hN rfl (by first | exact .inl rfl | exact .inr rfl)) (dss_one (ds_if (dt_not (dt_val (d_call c__law_same hr (Nat.le_refl _) rfl (da_cons (d_call c_applies hr (Nat.le_refl _) rfl (da_cons (d_var 0) (da_cons (d_var 2) (da_cons (d_var 3) (da_cons (d_ix (d_var 5) (d_var 7)) (da_cons (d_var 4) da_nil)))))) (da_cons (d_cmp (do_eq hu) (d_callB dc_len rfl T.fr_len boot_len (da_cons (d_ix (d_var 6) (d_var 7)) da_nil)) d_int rfl) da_nil))))) (dss_one (ds_ret d_bl)) dss_nil)))
  (dss_cons (ds_for PassesOwn.never rfl (di_range1 rfl T.fr_range (da_cons (d_callB dc_len rfl T.fr_len boot_len (da_cons (d_var 5) da_nil)) da_nil)) (dg_name 7 hN rfl (by first | exact .inl rfl | exact .inr rfl)) (dss_one (ds_if (dt_not (dt_val (d_call c__law_same hr (Nat.le_refl _) rfl (da_cons (d_call c_reasons hr (Nat.le_refl _) rfl (da_cons (d_var 0) (da_cons (d_var 2) (da_cons (d_var 3) (da_cons (d_ix (d_var 5) (d_var 7)) (da_cons (d_var 4) da_nil)))))) (da_cons (d_ix (d_var 6) (d_var 7)) da_nil))))) (dss_one (ds_ret d_bl)) dss_nil)))
  (dss_one (ds_ret d_bl))))))
/-! law -/
abbrev st_law : Stmt := (top 107)
abbrev N_law : List Str := ["script", "pool", "many", "at", "fr", "first_rules", "rl", "other", "books", "frames", "turn", "both", "ak", "sure", "rows", "k", "pair"]
theorem sc_law : FnScope N_law ["script"] (defScope st_law) := C8.fnScope_by (by decide +kernel)
theorem e_law (a0 : Val) : startD N_law [a0] = [some a0, none, none, none, none, none, none, none, none, none, none, none, none, none, none, none, none] := rfl
@[irreducible] def w_law (C : Addr) (s__law_draw s__law_frame s__law_items_hold s__law_moved s__law_other_rule s__law_other_tree s__law_pool s__law_rules s__law_same s__law_sizes s__law_start s_Book___init__ : DSp) : WS :=
  (wSeq (wAsg (wCB s__law_pool (wCons (wVar 0) (wCons (wC (.int 0)) wNil))) (gN 1))
  (wSeq (wAsg (wCB s__law_sizes (wCons (wVar 1) (wCons (wCB intV (wCons (wBin (eqW false) (wCB s__law_draw (wCons (wVar 1) (wCons (wC (.int 2)) wNil))) (wC (.int 0))) wNil)) wNil))) (gN 2))
  (wMid (wIfS (wTest (wBin gtV (wCB s__law_draw (wCons (wVar 1) (wCons (wC (.int 5)) wNil))) (wC (.int 0)))) (wFor (wIt (wTup (wCons (wC (.int 3)) (wCons (wC (.int 10)) (wCons (wC (.int 12)) wNil))))) (gN 3) (wAsg2 (wCB maxV (wCons (wBin ixV (wVar 2) (wVar 3)) (wCons (wBin addV (wC (.int 1)) (wCB intV (wCons (wBin (eqW false) (wVar 3) (wC (.int 3))) wNil))) wNil))) (g2sub (wVar 2) (wVar 3)))) wNext)
  (wSeq (wAsg (wCB s__law_frame (wCons (wVar 1) (wCons (wVar 2) wNil))) (gN 4))
  (wSeq (wAsg (wCB s__law_rules (wCons (wVar 1) (wCons (wVar 4) (wCons (wC (.int 12)) wNil)))) (gN 5))
  (wSeq (wAsg (wVar 5) (gN 6))
  (wSeq (wAsg (wCB s__law_pool (wCons (wVar 0) (wCons (wC (.int 1)) wNil))) (gN 1))
  (wMid (wIfS (wTest (wBin (eqW false) (wCB s__law_draw (wCons (wVar 1) (wCons (wC (.int 2)) wNil))) (wC (.int 0)))) (wAsg (wCB s__law_rules (wCons (wVar 1) (wCons (wVar 4) (wCons (wC (.int 23)) wNil)))) (gN 6)) wNext)
  (wSeq (wAsg (wCB s__law_other_tree (wCons (wVar 1) (wCons (wVar 4) wNil))) (gN 7))
  (wSeq (wAsg (wNew (wLst (wCons (wMk C s_Book___init__ (wCons (wVar 4) (wCons (wVar 5) wNil))) (wCons (wMk C s_Book___init__ (wCons (wVar 7) (wCons (wVar 5) wNil))) wNil)))) (gN 8))
  (wSeq (wAsg (wNew (wLst (wCons (wVar 4) (wCons (wVar 7) wNil)))) (gN 9))
  (wSeq (wFor (wIA rg1V (wCons (wC (.int 3)) wNil)) (gN 10) (wSeq (wAsg (wCB s__law_pool (wCons (wVar 0) (wCons (wBin addV (wC (.int 2)) (wVar 10)) wNil))) (gN 1))
  (wSeq (wAsg (wCB s__law_start (wCons (wVar 1) (wCons (wVar 4) (wCons (wVar 6) wNil)))) (gN 11))
  (wSeq (wAsg (wBin ixV (wVar 11) (wC (.int 1))) (gN 12))
  (wSeq (wAsg (wTup (wCons (wCB s__law_draw (wCons (wVar 1) (wCons (wC (.int 2)) wNil))) (wCons (wCB s__law_draw (wCons (wVar 1) (wCons (wC (.int 4)) wNil))) (wCons (wUn negV (wC (.int 1))) (wCons (wTup (wCons (wBin ixV (wVar 12) (wC (.int 0))) wNil)) (wCons (wBin ixV (wVar 12) (wC (.int 1))) (wCons (wCB s__law_draw (wCons (wVar 1) (wCons (wC (.int 2)) wNil))) (wCons (wTup (wCons (wBin ixV (wVar 12) (wC (.int 2))) wNil)) (wCons (wTup (wCons (wBin ixV (wVar 12) (wC (.int 3))) wNil)) wNil))))))))) (gN 13))
  (wSeq (wAsg (wNew (wLst (wCons (wBin addV (wVar 6) (wTup (wCons (wVar 13) wNil))) (wCons (wBin addV (wCB s__law_other_rule (wCons (wVar 1) (wCons (wVar 4) (wCons (wVar 6) wNil)))) (wTup (wCons (wVar 13) wNil))) (wCons (wVar 6) wNil))))) (gN 14))
  (wSeq (wFor (wIA rg1V (wCons (wC (.int 3)) wNil)) (gN 15) (wSeq (wFor (wItL (wLst (wCons (wTup (wCons (wC (.int 0)) (wCons (wC (.int 0)) wNil))) (wCons (wTup (wCons (wC (.int 1)) (wCons (wC (.int 1)) wNil))) (wCons (wTup (wCons (wC (.int 0)) (wCons (wC (.int 1)) wNil))) (wCons (wTup (wCons (wC (.int 0)) (wCons (wC (.int 2)) wNil))) (wCons (wTup (wCons (wC (.int 0)) (wCons (wC (.int 0)) wNil))) wNil))))))) (gN 16) (wIfS (wNot (wTest (wCB s__law_items_hold (wCons (wBin ixV (wVar 8) (wBin ixV (wVar 16) (wC (.int 0)))) (wCons (wBin ixV (wVar 9) (wBin ixV (wVar 16) (wC (.int 0)))) (wCons (wBin ixV (wVar 14) (wBin ixV (wVar 16) (wC (.int 1)))) (wCons (wBin ixV (wVar 11) (wC (.int 0))) (wCons (wBin ixV (wVar 11) (wC (.int 1))) wNil)))))))) (wRet (wC (.bl false))) wNext))
  (wAsg (wCB s__law_moved (wCons (wVar 1) (wCons (wVar 4) (wCons (wBin ixV (wVar 11) (wC (.int 0))) (wCons (wBin ixV (wVar 11) (wC (.int 1))) wNil))))) (gN 11))))
  (wIfS (wNot (wTest (wCB s__law_items_hold (wCons (wBin ixV (wVar 8) (wC (.int 0))) (wCons (wVar 4) (wCons (wTup wNil) (wCons (wBin ixV (wVar 11) (wC (.int 0))) (wCons (wBin ixV (wVar 11) (wC (.int 1))) wNil)))))))) (wRet (wC (.bl false))) wNext))))))))
  (wRet (wAndV (wCB s__law_same (wCons (wUn (fldV C "rules") (wBin ixV (wVar 8) (wC (.int 0)))) (wCons (wVar 5) wNil))) (wCB s__law_same (wCons (wUn (fldV C "frame") (wBin ixV (wVar 8) (wC (.int 0)))) (wCons (wVar 4) wNil)))))))))))))))))
theorem b_law {s__law_draw s__law_frame s__law_items_hold s__law_moved s__law_other_rule s__law_other_tree s__law_pool s__law_rules s__law_same s__law_sizes s__law_start s_Book___init__ : DSp} (T : Txt K mg C) (c__law_draw : DCal P w K mg base j "_law_draw" s__law_draw) (c__law_frame : DCal P w K mg base j "_law_frame" s__law_frame) (c__law_items_hold : DCal P w K mg base j "_law_items_hold" s__law_items_hold) (c__law_moved : DCal P w K mg base j "_law_moved" s__law_moved) (c__law_other_rule : DCal P w K mg base j "_law_other_rule" s__law_other_rule) (c__law_other_tree : DCal P w K mg base j "_law_other_tree" s__law_other_tree) (c__law_pool : DCal P w K mg base j "_law_pool" s__law_pool) (c__law_rules : DCal P w K mg base j "_law_rules" s__law_rules) (c__law_same : DCal P w K mg base j "_law_same" s__law_same) (c__law_sizes : DCal P w K mg base j "_law_sizes" s__law_sizes) (c__law_start : DCal P w K mg base j "_law_start" s__law_start) {kB : Nat} (hkB : kB + 1 ≤ j) (c_Book : C8.Mak P w K mg base kB "Book" C (spD K s_Book___init__) []) (hr : Room j (A.deeper (envOfC "law" (defScope st_law) sh.heap.objs.size f cdv))) :
    DSs (cxOf C8.CX0 P w K mg base N_law "law" (defScope st_law) f cdv A outer sh H E).nox (defBody st_law) (w_law C s__law_draw s__law_frame s__law_items_hold s__law_moved s__law_other_rule s__law_other_tree s__law_pool s__law_rules s__law_same s__law_sizes s__law_start s_Book___init__) := by
  have hN := sc_law.nd
  have hu := hr.units
  have hu0 := hr.units0
  unfold w_law
  exact (dss_cons (ds_set (k := 1) hN rfl (by first | exact .inl rfl | exact .inr rfl) (d_call c__law_pool hr (Nat.le_refl _) rfl (da_cons (d_var 0) (da_cons d_int da_nil))))
  (dss_cons (ds_set (k := 2) hN rfl (by first | exact .inl rfl | exact .inr rfl) (d_call c__law_sizes hr (Nat.le_refl _) rfl (da_cons (d_var 1) (da_cons (d_callTy dc_int rfl T.fr_int boot_int (da_cons (d_cmp (do_eq hu) (d_call c__law_draw hr (Nat.le_refl _) rfl (da_cons (d_var 1) (da_cons d_int da_nil))) d_int rfl) da_nil)) da_nil))))
  (dss_mid (ds_if (dt_cmp do_gt (d_call c__law_draw hr (Nat.le_refl _) rfl (da_cons (d_var 1) (da_cons d_int da_nil))) d_int rfl) (dss_one (ds_for PassesOwn.never rfl (di_of (d_tup (da_cons d_int (da_cons d_int (da_cons d_int da_nil))))) (dg_name 3 hN rfl (by first | exact .inl rfl | exact .inr rfl)) (dss_one (ds_asg (d_callB (dc_max rfl) rfl T.fr_max boot_max (da_cons (d_ix (d_var 2) (d_var 3)) (da_cons (d_bin do_add d_int (d_callTy dc_int rfl T.fr_int boot_int (da_cons (d_cmp (do_eq hu) (d_var 3) d_int rfl) da_nil))) da_nil))) (dg2_sub (d_var 2) (d_var 3)))))) dss_nil)
  (dss_cons (ds_set (k := 4) hN rfl (by first | exact .inl rfl | exact .inr rfl) (d_call c__law_frame hr (Nat.le_refl _) rfl (da_cons (d_var 1) (da_cons (d_var 2) da_nil))))
  (dss_cons (ds_set (k := 5) hN rfl (by first | exact .inl rfl | exact .inr rfl) (d_call c__law_rules hr (Nat.le_refl _) rfl (da_cons (d_var 1) (da_cons (d_var 4) (da_cons d_int da_nil)))))
  (dss_cons (ds_set (k := 6) hN rfl (by first | exact .inl rfl | exact .inr rfl) (d_var 5))
  (dss_cons (ds_set (k := 1) hN rfl (by first | exact .inl rfl | exact .inr rfl) (d_call c__law_pool hr (Nat.le_refl _) rfl (da_cons (d_var 0) (da_cons d_int da_nil))))
  (dss_mid (ds_if (dt_cmp (do_eq hu) (d_call c__law_draw hr (Nat.le_refl _) rfl (da_cons (d_var 1) (da_cons d_int da_nil))) d_int rfl) (dss_one (ds_set (k := 6) hN rfl (by first | exact .inl rfl | exact .inr rfl) (d_call c__law_rules hr (Nat.le_refl _) rfl (da_cons (d_var 1) (da_cons (d_var 4) (da_cons d_int da_nil)))))) dss_nil)
  (dss_cons (ds_set (k := 7) hN rfl (by first | exact .inl rfl | exact .inr rfl) (d_call c__law_other_tree hr (Nat.le_refl _) rfl (da_cons (d_var 1) (da_cons (d_var 4) da_nil))))
  (dss_cons (ds_set (k := 8) hN rfl (by first | exact .inl rfl | exact .inr rfl) (d_new (dl_lst (da_cons (d_mk c_Book hr hkB rfl (da_cons (d_var 4) (da_cons (d_var 5) da_nil))) (da_cons (d_mk c_Book hr hkB rfl (da_cons (d_var 7) (da_cons (d_var 5) da_nil))) da_nil)))))
  (dss_cons (ds_set (k := 9) hN rfl (by first | exact .inl rfl | exact .inr rfl) (d_new (dl_lst (da_cons (d_var 4) (da_cons (d_var 7) da_nil)))))
  (dss_cons (ds_for PassesOwn.never rfl (di_range1 rfl T.fr_range (da_cons d_int da_nil)) (dg_name 10 hN rfl (by first | exact .inl rfl | exact .inr rfl)) (dss_cons (ds_set (k := 1) hN rfl (by first | exact .inl rfl | exact .inr rfl) (d_call c__law_pool hr (Nat.le_refl _) rfl (da_cons (d_var 0) (da_cons (d_bin do_add d_int (d_var 10)) da_nil))))
  (dss_cons (ds_set (k := 11) hN rfl (by first | exact .inl rfl | exact .inr rfl) (d_call c__law_start hr (Nat.le_refl _) rfl (da_cons (d_var 1) (da_cons (d_var 4) (da_cons (d_var 6) da_nil)))))
  (dss_cons (ds_set (k := 12) hN rfl (by first | exact .inl rfl | exact .inr rfl) (d_ix (d_var 11) d_int))
  (dss_cons (ds_set (k := 13) hN rfl (by first | exact .inl rfl | exact .inr rfl) (d_tup (da_cons (d_call c__law_draw hr (Nat.le_refl _) rfl (da_cons (d_var 1) (da_cons d_int da_nil))) (da_cons (d_call c__law_draw hr (Nat.le_refl _) rfl (da_cons (d_var 1) (da_cons d_int da_nil))) (da_cons (d_un do_neg d_int) (da_cons (d_tup (da_cons (d_ix (d_var 12) d_int) da_nil)) (da_cons (d_ix (d_var 12) d_int) (da_cons (d_call c__law_draw hr (Nat.le_refl _) rfl (da_cons (d_var 1) (da_cons d_int da_nil))) (da_cons (d_tup (da_cons (d_ix (d_var 12) d_int) da_nil)) (da_cons (d_tup (da_cons (d_ix (d_var 12) d_int) da_nil)) da_nil))))))))))
  (dss_cons (ds_set (k := 14) hN rfl (by first | exact .inl rfl | exact .inr rfl) (d_new (dl_lst (da_cons (d_bin do_add (d_var 6) (d_tup (da_cons (d_var 13) da_nil))) (da_cons (d_bin do_add (d_call c__law_other_rule hr (Nat.le_refl _) rfl (da_cons (d_var 1) (da_cons (d_var 4) (da_cons (d_var 6) da_nil)))) (d_tup (da_cons (d_var 13) da_nil))) (da_cons (d_var 6) da_nil))))))
  (dss_cons (ds_for PassesOwn.never rfl (di_range1 rfl T.fr_range (da_cons d_int da_nil)) (dg_name 15 hN rfl (by first | exact .inl rfl | exact .inr rfl)) (dss_cons (ds_for PassesOwn.never rfl (di_new (dl_lst (da_cons (d_tup (da_cons d_int (da_cons d_int da_nil))) (da_cons (d_tup (da_cons d_int (da_cons d_int da_nil))) (da_cons (d_tup (da_cons d_int (da_cons d_int da_nil))) (da_cons (d_tup (da_cons d_int (da_cons d_int da_nil))) (da_cons (d_tup (da_cons d_int (da_cons d_int da_nil))) da_nil))))))) (dg_name 16 hN rfl (by first | exact .inl rfl | exact .inr rfl)) (dss_one (ds_if (dt_not (dt_val (d_call c__law_items_hold hr (Nat.le_refl _) rfl (da_cons (d_ix (d_var 8) (d_ix (d_var 16) d_int)) (da_cons (d_ix (d_var 9) (d_ix (d_var 16) d_int)) (da_cons (d_ix (d_var 14) (d_ix (d_var 16) d_int)) (da_cons (d_ix (d_var 11) d_int) (da_cons (d_ix (d_var 11) d_int) da_nil)))))))) (dss_one (ds_ret d_bl)) dss_nil)))
  (dss_one (ds_set (k := 11) hN rfl (by first | exact .inl rfl | exact .inr rfl) (d_call c__law_moved hr (Nat.le_refl _) rfl (da_cons (d_var 1) (da_cons (d_var 4) (da_cons (d_ix (d_var 11) d_int) (da_cons (d_ix (d_var 11) d_int) da_nil)))))))))
  (dss_one (ds_if (dt_not (dt_val (d_call c__law_items_hold hr (Nat.le_refl _) rfl (da_cons (d_ix (d_var 8) d_int) (da_cons (d_var 4) (da_cons (d_tup da_nil) (da_cons (d_ix (d_var 11) d_int) (da_cons (d_ix (d_var 11) d_int) da_nil)))))))) (dss_one (ds_ret d_bl)) dss_nil)))))))))
  (dss_one (ds_ret (d_and (d_call c__law_same hr (Nat.le_refl _) rfl (da_cons (d_fld T.cl T.na_rules (d_ix (d_var 8) d_int)) (da_cons (d_var 5) da_nil))) (d_one (d_call c__law_same hr (Nat.le_refl _) rfl (da_cons (d_fld T.cl T.na_frame (d_ix (d_var 8) d_int)) (da_cons (d_var 4) da_nil)))))))))))))))))))
end
end K05

set_option Elab.async false
set_option linter.all false
set_option maxRecDepth 100000
set_option maxHeartbeats 0
namespace K05
open PySem PySem.Spec PyProof.Rows L2 DL ClX
def d_under : He.DefD := ⟨("under", none), "under", "under", defArgs st_under, defBody st_under, defScope st_under, [], []⟩
def d_scope_of : He.DefD := ⟨("scope_of", none), "scope_of", "scope_of", defArgs st_scope_of, defBody st_scope_of, defScope st_scope_of, [], []⟩
def d_covers : He.DefD := ⟨("covers", none), "covers", "covers", defArgs st_covers, defBody st_covers, defScope st_covers, [], []⟩
def d_applies : He.DefD := ⟨("applies", none), "applies", "applies", defArgs st_applies, defBody st_applies, defScope st_applies, [], []⟩
def d_scope_reasons : He.DefD := ⟨("scope_reasons", none), "scope_reasons", "scope_reasons", defArgs st_scope_reasons, defBody st_scope_reasons, defScope st_scope_reasons, [], []⟩
def d_lot_reasons : He.DefD := ⟨("lot_reasons", none), "lot_reasons", "lot_reasons", defArgs st_lot_reasons, defBody st_lot_reasons, defScope st_lot_reasons, [], []⟩
def d_reasons : He.DefD := ⟨("reasons", none), "reasons", "reasons", defArgs st_reasons, defBody st_reasons, defScope st_reasons, [], []⟩
def d_whole : He.DefD := ⟨("whole", none), "whole", "whole", defArgs st_whole, defBody st_whole, defScope st_whole, [], []⟩
def d_in_range : He.DefD := ⟨("in_range", none), "in_range", "in_range", defArgs st_in_range, defBody st_in_range, defScope st_in_range, [], []⟩
def d_is_row : He.DefD := ⟨("is_row", none), "is_row", "is_row", defArgs st_is_row, defBody st_is_row, defScope st_is_row, [], []⟩
def d_is_row_of : He.DefD := ⟨("is_row_of", none), "is_row_of", "is_row_of", defArgs st_is_row_of, defBody st_is_row_of, defScope st_is_row_of, [], []⟩
def d_ascending_row : He.DefD := ⟨("ascending_row", none), "ascending_row", "ascending_row", defArgs st_ascending_row, defBody st_ascending_row, defScope st_ascending_row, [], []⟩
def d_scope_form : He.DefD := ⟨("scope_form", none), "scope_form", "scope_form", defArgs st_scope_form, defBody st_scope_form, defScope st_scope_form, [], []⟩
def d_rule_form : He.DefD := ⟨("rule_form", none), "rule_form", "rule_form", defArgs st_rule_form, defBody st_rule_form, defScope st_rule_form, [], []⟩
def d_door_form : He.DefD := ⟨("door_form", none), "door_form", "door_form", defArgs st_door_form, defBody st_door_form, defScope st_door_form, [], []⟩
def d_is_entry : He.DefD := ⟨("is_entry", none), "is_entry", "is_entry", defArgs st_is_entry, defBody st_is_entry, defScope st_is_entry, [], []⟩
def d_is_entry_or_none : He.DefD := ⟨("is_entry_or_none", none), "is_entry_or_none", "is_entry_or_none", defArgs st_is_entry_or_none, defBody st_is_entry_or_none, defScope st_is_entry_or_none, [], []⟩
def d_is_mark_row : He.DefD := ⟨("is_mark_row", none), "is_mark_row", "is_mark_row", defArgs st_is_mark_row, defBody st_is_mark_row, defScope st_is_mark_row, [], []⟩
def d_is_verb_row : He.DefD := ⟨("is_verb_row", none), "is_verb_row", "is_verb_row", defArgs st_is_verb_row, defBody st_is_verb_row, defScope st_is_verb_row, [], []⟩
def d_are_roles : He.DefD := ⟨("are_roles", none), "are_roles", "are_roles", defArgs st_are_roles, defBody st_are_roles, defScope st_are_roles, [], []⟩
def d_counts_of : He.DefD := ⟨("counts_of", none), "counts_of", "counts_of", defArgs st_counts_of, defBody st_counts_of, defScope st_counts_of, [], []⟩
def d_node_form : He.DefD := ⟨("node_form", none), "node_form", "node_form", defArgs st_node_form, defBody st_node_form, defScope st_node_form, [], []⟩
def d_team_form : He.DefD := ⟨("team_form", none), "team_form", "team_form", defArgs st_team_form, defBody st_team_form, defScope st_team_form, [], []⟩
def d_mark_form : He.DefD := ⟨("mark_form", none), "mark_form", "mark_form", defArgs st_mark_form, defBody st_mark_form, defScope st_mark_form, [], []⟩
def d_kind_form : He.DefD := ⟨("kind_form", none), "kind_form", "kind_form", defArgs st_kind_form, defBody st_kind_form, defScope st_kind_form, [], []⟩
def d_clause_form : He.DefD := ⟨("clause_form", none), "clause_form", "clause_form", defArgs st_clause_form, defBody st_clause_form, defScope st_clause_form, [], []⟩
def d_role_form : He.DefD := ⟨("role_form", none), "role_form", "role_form", defArgs st_role_form, defBody st_role_form, defScope st_role_form, [], []⟩
def d_parted_form : He.DefD := ⟨("parted_form", none), "parted_form", "parted_form", defArgs st_parted_form, defBody st_parted_form, defScope st_parted_form, [], []⟩
def d_pass_form : He.DefD := ⟨("pass_form", none), "pass_form", "pass_form", defArgs st_pass_form, defBody st_pass_form, defScope st_pass_form, [], []⟩
def d_lot_form : He.DefD := ⟨("lot_form", none), "lot_form", "lot_form", defArgs st_lot_form, defBody st_lot_form, defScope st_lot_form, [], []⟩
def d_door_entry_form : He.DefD := ⟨("door_entry_form", none), "door_entry_form", "door_entry_form", defArgs st_door_entry_form, defBody st_door_entry_form, defScope st_door_entry_form, [], []⟩
def d_is_ordinary : He.DefD := ⟨("is_ordinary", none), "is_ordinary", "is_ordinary", defArgs st_is_ordinary, defBody st_is_ordinary, defScope st_is_ordinary, [], []⟩
def d_glass_form : He.DefD := ⟨("glass_form", none), "glass_form", "glass_form", defArgs st_glass_form, defBody st_glass_form, defScope st_glass_form, [], []⟩
def d_case_form : He.DefD := ⟨("case_form", none), "case_form", "case_form", defArgs st_case_form, defBody st_case_form, defScope st_case_form, [], []⟩
def d_home_form : He.DefD := ⟨("home_form", none), "home_form", "home_form", defArgs st_home_form, defBody st_home_form, defScope st_home_form, [], []⟩
def d_numbers_form : He.DefD := ⟨("numbers_form", none), "numbers_form", "numbers_form", defArgs st_numbers_form, defBody st_numbers_form, defScope st_numbers_form, [], []⟩
def d_count_fault : He.DefD := ⟨("count_fault", none), "count_fault", "count_fault", defArgs st_count_fault, defBody st_count_fault, defScope st_count_fault, [], []⟩
def d_entry_fault : He.DefD := ⟨("entry_fault", none), "entry_fault", "entry_fault", defArgs st_entry_fault, defBody st_entry_fault, defScope st_entry_fault, [], []⟩
def d_clause_holds : He.DefD := ⟨("clause_holds", none), "clause_holds", "clause_holds", defArgs st_clause_holds, defBody st_clause_holds, defScope st_clause_holds, [], []⟩
def d_roles_had : He.DefD := ⟨("roles_had", none), "roles_had", "roles_had", defArgs st_roles_had, defBody st_roles_had, defScope st_roles_had, [], []⟩
def d_clashes : He.DefD := ⟨("clashes", none), "clashes", "clashes", defArgs st_clashes, defBody st_clashes, defScope st_clashes, [], []⟩
def d_faulty_part : He.DefD := ⟨("faulty_part", none), "faulty_part", "faulty_part", defArgs st_faulty_part, defBody st_faulty_part, defScope st_faulty_part, [], []⟩
def d_Book___init__ : He.DefD := ⟨("Book", some "__init__"), "__init__", "Book.__init__", defArgs st_Book___init__, defBody st_Book___init__, defScope st_Book___init__, [], []⟩
def d__law_pool : He.DefD := ⟨("_law_pool", none), "_law_pool", "_law_pool", defArgs st__law_pool, defBody st__law_pool, defScope st__law_pool, [], []⟩
def d__law_draw : He.DefD := ⟨("_law_draw", none), "_law_draw", "_law_draw", defArgs st__law_draw, defBody st__law_draw, defScope st__law_draw, [], []⟩
def d__law_some : He.DefD := ⟨("_law_some", none), "_law_some", "_law_some", defArgs st__law_some, defBody st__law_some, defScope st__law_some, [], []⟩
def d__law_or_none : He.DefD := ⟨("_law_or_none", none), "_law_or_none", "_law_or_none", defArgs st__law_or_none, defBody st__law_or_none, defScope st__law_or_none, [], []⟩
def d__law_clause : He.DefD := ⟨("_law_clause", none), "_law_clause", "_law_clause", defArgs st__law_clause, defBody st__law_clause, defScope st__law_clause, [], []⟩
def d__law_ladder : He.DefD := ⟨("_law_ladder", none), "_law_ladder", "_law_ladder", defArgs st__law_ladder, defBody st__law_ladder, defScope st__law_ladder, [], []⟩
def d__law_lot : He.DefD := ⟨("_law_lot", none), "_law_lot", "_law_lot", defArgs st__law_lot, defBody st__law_lot, defScope st__law_lot, [], []⟩
def d__law_reach : He.DefD := ⟨("_law_reach", none), "_law_reach", "_law_reach", defArgs st__law_reach, defBody st__law_reach, defScope st__law_reach, [], []⟩
def d__law_cases : He.DefD := ⟨("_law_cases", none), "_law_cases", "_law_cases", defArgs st__law_cases, defBody st__law_cases, defScope st__law_cases, [], []⟩
def d__law_sizes : He.DefD := ⟨("_law_sizes", none), "_law_sizes", "_law_sizes", defArgs st__law_sizes, defBody st__law_sizes, defScope st__law_sizes, [], []⟩
def d__law_frame : He.DefD := ⟨("_law_frame", none), "_law_frame", "_law_frame", defArgs st__law_frame, defBody st__law_frame, defScope st__law_frame, [], []⟩
def d__law_below : He.DefD := ⟨("_law_below", none), "_law_below", "_law_below", defArgs st__law_below, defBody st__law_below, defScope st__law_below, [], []⟩
def d__law_roles : He.DefD := ⟨("_law_roles", none), "_law_roles", "_law_roles", defArgs st__law_roles, defBody st__law_roles, defScope st__law_roles, [], []⟩
def d__law_parted : He.DefD := ⟨("_law_parted", none), "_law_parted", "_law_parted", defArgs st__law_parted, defBody st__law_parted, defScope st__law_parted, [], []⟩
def d__law_rule : He.DefD := ⟨("_law_rule", none), "_law_rule", "_law_rule", defArgs st__law_rule, defBody st__law_rule, defScope st__law_rule, [], []⟩
def d__law_rules : He.DefD := ⟨("_law_rules", none), "_law_rules", "_law_rules", defArgs st__law_rules, defBody st__law_rules, defScope st__law_rules, [], []⟩
def d__law_beneath : He.DefD := ⟨("_law_beneath", none), "_law_beneath", "_law_beneath", defArgs st__law_beneath, defBody st__law_beneath, defScope st__law_beneath, [], []⟩
def d__law_items : He.DefD := ⟨("_law_items", none), "_law_items", "_law_items", defArgs st__law_items, defBody st__law_items, defScope st__law_items, [], []⟩
def d__law_one_of : He.DefD := ⟨("_law_one_of", none), "_law_one_of", "_law_one_of", defArgs st__law_one_of, defBody st__law_one_of, defScope st__law_one_of, [], []⟩
def d__law_with : He.DefD := ⟨("_law_with", none), "_law_with", "_law_with", defArgs st__law_with, defBody st__law_with, defScope st__law_with, [], []⟩
def d__law_aimed : He.DefD := ⟨("_law_aimed", none), "_law_aimed", "_law_aimed", defArgs st__law_aimed, defBody st__law_aimed, defScope st__law_aimed, [], []⟩
def d__law_toggled : He.DefD := ⟨("_law_toggled", none), "_law_toggled", "_law_toggled", defArgs st__law_toggled, defBody st__law_toggled, defScope st__law_toggled, [], []⟩
def d__law_moved : He.DefD := ⟨("_law_moved", none), "_law_moved", "_law_moved", defArgs st__law_moved, defBody st__law_moved, defScope st__law_moved, [], []⟩
def d__law_start : He.DefD := ⟨("_law_start", none), "_law_start", "_law_start", defArgs st__law_start, defBody st__law_start, defScope st__law_start, [], []⟩
def d__law_other_tree : He.DefD := ⟨("_law_other_tree", none), "_law_other_tree", "_law_other_tree", defArgs st__law_other_tree, defBody st__law_other_tree, defScope st__law_other_tree, [], []⟩
def d__law_other_rule : He.DefD := ⟨("_law_other_rule", none), "_law_other_rule", "_law_other_rule", defArgs st__law_other_rule, defBody st__law_other_rule, defScope st__law_other_rule, [], []⟩
def d__law_up : He.DefD := ⟨("_law_up", none), "_law_up", "_law_up", defArgs st__law_up, defBody st__law_up, defScope st__law_up, [], []⟩
def d__law_why : He.DefD := ⟨("_law_why", none), "_law_why", "_law_why", defArgs st__law_why, defBody st__law_why, defScope st__law_why, [], []⟩
def d__law_same : He.DefD := ⟨("_law_same", none), "_law_same", "_law_same", defArgs st__law_same, defBody st__law_same, defScope st__law_same, [], []⟩
def d__law_items_hold : He.DefD := ⟨("_law_items_hold", none), "_law_items_hold", "_law_items_hold", defArgs st__law_items_hold, defBody st__law_items_hold, defScope st__law_items_hold, [], []⟩
def d_law : He.DefD := ⟨("law", none), "law", "law", defArgs st_law, defBody st_law, defScope st_law, [], []⟩
def fn : List He.DefD := [d_under, d_scope_of, d_covers, d_applies, d_scope_reasons, d_lot_reasons, d_reasons, d_whole, d_in_range, d_is_row, d_is_row_of, d_ascending_row, d_scope_form, d_rule_form, d_door_form, d_is_entry, d_is_entry_or_none, d_is_mark_row, d_is_verb_row, d_are_roles, d_counts_of, d_node_form, d_team_form, d_mark_form, d_kind_form, d_clause_form, d_role_form, d_parted_form, d_pass_form, d_lot_form, d_door_entry_form, d_is_ordinary, d_glass_form, d_case_form, d_home_form, d_numbers_form, d_count_fault, d_entry_fault, d_clause_holds, d_roles_had, d_clashes, d_faulty_part, d_Book___init__, d__law_pool, d__law_draw, d__law_some, d__law_or_none, d__law_clause, d__law_ladder, d__law_lot, d__law_reach, d__law_cases, d__law_sizes, d__law_frame, d__law_below, d__law_roles, d__law_parted, d__law_rule, d__law_rules, d__law_beneath, d__law_items, d__law_one_of, d__law_with, d__law_aimed, d__law_toggled, d__law_moved, d__law_start, d__law_other_tree, d__law_other_rule, d__law_up, d__law_why, d__law_same, d__law_items_hold, d_law]
def fa : List He.Fa := [.glo "under", .glo "scope_of", .glo "covers", .glo "applies", .glo "scope_reasons", .glo "lot_reasons", .glo "reasons", .glo "whole", .glo "in_range", .glo "is_row", .glo "is_row_of", .glo "ascending_row", .glo "scope_form", .glo "rule_form", .glo "door_form", .glo "is_entry", .glo "is_entry_or_none", .glo "is_mark_row", .glo "is_verb_row", .glo "are_roles", .glo "counts_of", .glo "node_form", .glo "team_form", .glo "mark_form", .glo "kind_form", .glo "clause_form", .glo "role_form", .glo "parted_form", .glo "pass_form", .glo "lot_form", .glo "door_entry_form", .glo "is_ordinary", .glo "glass_form", .glo "case_form", .glo "home_form", .glo "numbers_form", .glo "count_fault", .glo "entry_fault", .glo "clause_holds", .glo "roles_had", .glo "clashes", .glo "faulty_part", .glo "_law_pool", .glo "_law_draw", .glo "_law_some", .glo "_law_or_none", .glo "_law_clause", .glo "_law_ladder", .glo "_law_lot", .glo "_law_reach", .glo "_law_cases", .glo "_law_sizes", .glo "_law_frame", .glo "_law_below", .glo "_law_roles", .glo "_law_parted", .glo "_law_rule", .glo "_law_rules", .glo "_law_beneath", .glo "_law_items", .glo "_law_one_of", .glo "_law_with", .glo "_law_aimed", .glo "_law_toggled", .glo "_law_moved", .glo "_law_start", .glo "_law_other_tree", .glo "_law_other_rule", .glo "_law_up", .glo "_law_why", .glo "_law_same", .glo "_law_items_hold", .glo "law", .free "all", .free "any", .free "bool", .free "enumerate", .free "int", .free "isinstance", .free "len", .free "list", .free "max", .free "min", .free "range", .free "set", .free "sorted", .free "str", .free "tuple", .free "zip", .glo "Book", .cls "Book", .mkr "Book", .noat "Book" "age", .noat "Book" "cases", .noat "Book" "doors", .noat "Book" "frame", .noat "Book" "glass_age", .noat "Book" "glass_life", .noat "Book" "glass_rows", .noat "Book" "homes", .noat "Book" "hours", .noat "Book" "kinds", .noat "Book" "look_time", .noat "Book" "lots", .noat "Book" "marks", .noat "Book" "parents", .noat "Book" "parted", .noat "Book" "places", .noat "Book" "points", .noat "Book" "roles", .noat "Book" "rules", .noat "Book" "teams"]
def gvs (K : PySem.W.Frag) : List (Str × Val) := [("LAST_VERB", (.int 12)), ("FIRST_ORDINARY", (.int 9)), ("MOST_RANK", (.int 3)), ("MOST_LIFE", (.int 6)), ("NUMBERS", (.int 0)), ("NODES", (.int 1)), ("TEAMS", (.int 2)), ("MARKS", (.int 3)), ("KINDS", (.int 4)), ("ROLES", (.int 5)), ("PARTED", (.int 6)), ("LOTS", (.int 7)), ("DOORS", (.int 8)), ("GLASS", (.int 9)), ("CASES", (.int 10)), ("HOMES", (.int 11)), ("MOST_CLAUSES", (.int 3)), ("MOST_PASSES", (.int 3)), ("MOST_STEPS", (.int 3)), ("MOST_DEPTH", (.int 2)), ("PARTS", vPARTS), ("NUMBER_RANGES", vNR), ("COUNT_RANGES", vCR), ("ENTRY_FORMS", (vEF K))]
def loose0 : List Str := ["_wall", "under", "scope_of", "covers", "applies", "scope_reasons", "lot_reasons", "reasons", "RightswardError", "BookError", "LAST_VERB", "FIRST_ORDINARY", "MOST_RANK", "MOST_LIFE", "whole", "in_range", "is_row", "is_row_of", "ascending_row", "scope_form", "rule_form", "door_form", "NUMBERS", "NODES", "TEAMS", "MARKS", "KINDS", "ROLES", "PARTED", "LOTS"]
def loose1 : List Str := ["DOORS", "GLASS", "CASES", "HOMES", "PARTS", "NUMBER_RANGES", "COUNT_RANGES", "MOST_CLAUSES", "MOST_PASSES", "MOST_STEPS", "MOST_DEPTH", "is_entry", "is_entry_or_none", "is_mark_row", "is_verb_row", "are_roles", "counts_of", "node_form", "team_form", "mark_form", "kind_form", "clause_form", "role_form", "parted_form", "pass_form", "lot_form", "door_entry_form", "is_ordinary", "glass_form", "case_form"]
def loose2 : List Str := ["home_form", "ENTRY_FORMS", "numbers_form", "count_fault", "entry_fault", "clause_holds", "roles_had", "clashes", "faulty_part", "Book", "_law_pool", "_law_draw", "_law_some", "_law_or_none", "_law_clause", "_law_ladder", "_law_lot", "_law_reach", "_law_cases", "_law_sizes", "_law_frame", "_law_below", "_law_roles", "_law_parted", "_law_rule", "_law_rules", "_law_beneath", "_law_items", "_law_one_of", "_law_with"]
def loose3 : List Str := ["_law_aimed", "_law_toggled", "_law_moved", "_law_start", "_law_other_tree", "_law_other_rule", "_law_up", "_law_why", "_law_same", "_law_items_hold"]
def loose : List Str := loose0 ++ loose1 ++ loose2 ++ loose3
def lawAt : Nat := 107
/-! ### constants of the module -/
mutual
def relD (K : PySem.W.Frag) : Val → Value → Bool
  | .non, .none => true
  | .bl b, .bool c => b == c
  | .int i, .int j _ => decide (i = j)
  | .str x, .str y _ => decide (x = y)
  | .adr a, .ref c => decide (a = c)
  | .tup ds, .ref a => match K.lookup a with
    | some ⟨.type c, _, .seq its _, _⟩ => decide (c = "tuple") && (decide (its.size ≤ sizeLine) && relDs K ds its.toList)
    | _ => false
  | _, _ => false
def relDs (K : PySem.W.Frag) : List Val → List Value → Bool
  | [], [] => true
  | d :: ds, u :: us => relD K d u && relDs K ds us
  | _, _ => false
end
mutual
theorem relD_ok {K : PySem.W.Frag} : ∀ {d : Val} {u : Value}, relD K d u = true → ∃ v, RelV v u ∧ ∀ ρ H, RV K ρ H d v
  | .non, u, h => by cases u <;> first | (cases h; done) | exact ⟨.non, rfl, fun _ _ => rfl⟩
  | .bl b, u, h => by
    cases u <;> first | (cases h; done) | skip
    rename_i c
    have e : (b == c) = true := h
    have e := eq_of_beq e
    subst e
    exact ⟨.bl b, rfl, fun _ _ => rfl⟩
  | .int i, u, h => by
    cases u <;> first | (cases h; done) | skip
    rename_i j t
    have e : i = j := of_decide_eq_true h
    subst e
    exact ⟨.int i, ⟨t, rfl⟩, fun _ _ => rfl⟩
  | .str i, u, h => by
    cases u <;> first | (cases h; done) | skip
    rename_i j t
    have e : i = j := of_decide_eq_true h
    subst e
    exact ⟨.str i, ⟨t, rfl⟩, fun _ _ => rfl⟩
  | .adr a, u, h => by
    cases u <;> first | (cases h; done) | skip
    rename_i c
    have e : a = c := of_decide_eq_true h
    subst e
    exact ⟨.ref a, rfl, fun _ _ => rfl⟩
  | .tup ds, u, h => by
    cases u <;> first | (cases h; done) | skip
    rename_i a
    unfold relD at h
    split at h
    · rename_i c od its n osl q
      obtain ⟨h1, h2⟩ := He.ba h
      obtain ⟨h3, h4⟩ := He.ba h2
      obtain ⟨vs, r, k⟩ := relDs_ok h4
      refine ⟨.ref a, rfl, fun ρ H => ⟨a, vs, rfl, .inr ⟨_, its, n, q, congrArg Value.type (of_decide_eq_true h1), rfl, of_decide_eq_true h3, r⟩, ?_, k ρ H⟩⟩
      rw [r.length, Array.length_toList]
      exact of_decide_eq_true h3
    · cases h
  | .loc _, u, h => by cases u <;> cases h
  | .ty _, u, h => by cases u <;> cases h
  | .rol _, u, h => by cases u <;> cases h
theorem relDs_ok {K : PySem.W.Frag} : ∀ {ds : List Val} {us : List Value}, relDs K ds us = true → ∃ vs, Vals vs us ∧ ∀ ρ H, RVs K ρ H ds vs
  | [], us, h => by cases us <;> first | (cases h; done) | exact ⟨[], .nil, fun _ _ => rfl⟩
  | d :: ds, us, h => by
    cases us with
    | nil => cases h
    | cons u us =>
      obtain ⟨h1, h2⟩ := He.ba (show (relD K d u && relDs K ds us) = true from h)
      obtain ⟨v, r1, k1⟩ := relD_ok h1
      obtain ⟨vs, r2, k2⟩ := relDs_ok h2
      exact ⟨v :: vs, .cons r1 r2, fun ρ H => ⟨v, vs, rfl, k1 ρ H, k2 ρ H⟩⟩
end
def gvB (K : PySem.W.Frag) (p : Str × Val) : Bool := match PySem.W.nsIn K mainGlobals p.1 with
  | some (some u) => relD K p.2 u
  | _ => false
theorem gvB_ok {K : PySem.W.Frag} {h : Heap} {mg : Str → Option Value} (X : K.In h) (G : h.Ns mainGlobals mg) {x : Str} {d : Val} (e : gvB K (x, d) = true) : GV K mg x d := by
  unfold gvB at e
  split at e
  · rename_i u q
    obtain ⟨v, r, k⟩ := relD_ok e
    exact ⟨v, u, PySem.W.mg_of X G q, r, k⟩
  · cases e
/-! ### the hook: with one more test -/
def cvB (K : PySem.W.Frag) (C : Addr) (f : Str) (i : Int) : Bool := match PySem.W.findCls K (.ref C) (.type "type") f with
  | some (.val (.int j _)) => decide (j = i)
  | _ => false
def rdB (K : PySem.W.Frag) (C : Addr) : Bool := PySem.W.readsIn K C (.type "type") && decide (PySem.W.specialIn K (.ref C) "__getattribute__" = some (some (.builtin "type.__getattribute__")))
def exK (K : PySem.W.Frag) : Bool := (gvs K).all (gvB K) && (rdB K (He.ga K "Book") && cvB K (He.ga K "Book") "MOST_RULES" 12)
def frK (g : Addr → Option Obj) : PySem.W.Frag := He.frT g (List.range 1500)
abbrev R : PySem.W.OpenRow := PySem.W.OpenLaw.row PySem.Challenge.rw_rightsward_k05_applies_and_reasons
def runP {α : Type} (f : PySem.W.Frag → α) (v : α) : Prop := ∀ (w : World) (os : OsState), (HandSHeadRun.endF (HandSHeadRun.stepQ (HandSHeadRun.denQ HandSHeadRun.tabQ) R.prog w) 6000 R.prog w os).map (fun s => f (frK (HandSHeadRun.getT s))) = some v
theorem run1 : runP (fun K => exK K && fa.all fun f => f.ok K) true := by
  intro w os
  kernel_rfl
theorem run2 : runP (fun K => He.obsD [] fn K) (He.valD fn) := by
  intro w os
  kernel_rfl
def obK (g : Addr → Option Obj) : Bool × He.AlD := (exK (frK g) && fa.all fun f => f.ok (frK g), He.obsD [] fn (frK g))
def hk : PySem.W.Hook where
  α := Bool × He.AlD
  obs := fun s => obK s.heap.get?
  val := fun _ => (true, He.valD fn)
  says := fun _ h => ∃ K : PySem.W.Frag, K.In h ∧ exK K = true ∧ (∀ f ∈ fa, f.ok K = true) ∧ He.SaysD [] fn K
  of := fun _ _ e => ⟨_, He.frT_in, by
    have e1 := congrArg (fun z : Bool × He.AlD => z.1) e
    have e2 := congrArg (fun z : Bool × He.AlD => z.2) e
    obtain ⟨h1, h2⟩ := He.ba e1
    exact ⟨h1, List.all_eq_true.mp h2, e2⟩⟩
  keeps := fun _ _ _ ⟨K, hK, c⟩ k => ⟨K, PySem.W.Frag.In.keeps hK k, c⟩
def ob (s : PySem.W.SharedT) : Bool × He.AlD := obK (HandSHeadRun.getT s)
theorem ob_eq (s : PySem.W.SharedT) : ob s = hk.obs s.abs := by
  have e : HandSHeadRun.getT s = s.abs.heap.get? := funext fun a => HandSHeadRun.getT_eq s a
  show obK (HandSHeadRun.getT s) = obK s.abs.heap.get?
  rw [e]
def hkA : PySem.W.Hook where
  α := Bool
  obs := fun s => true
  val := fun _ => true
  says := fun _ h => True
  of := fun _ _ e => trivial
  keeps := fun _ _ _ _ _ => trivial
theorem runA (w : World) : HandSHeadRun.RunEq R (PySem.W.view R.prog [lawAt]) hkA (fun _ => true) 6000 loose w := by
  intro os
  kernel_rfl
theorem run (w : World) : HandSHeadRun.RunEq R (PySem.W.view R.prog [lawAt]) hk ob 6000 loose w := by
  intro os
  have a := runA w os
  have b := run1 w os
  have c := run2 w os
  generalize HandSHeadRun.endF (HandSHeadRun.stepQ (HandSHeadRun.denQ HandSHeadRun.tabQ) R.prog w) 6000 R.prog w os = x at a b c ⊢
  cases x with
  | none => cases b
  | some s =>
    have a' := Option.some.inj a
    have b' := Option.some.inj b
    have c' := Option.some.inj c
    have a1 := congrArg (fun z => z.1) a'
    have a2 := congrArg (fun z => z.2.1) a'
    exact congrArg some (Prod.ext a1 (Prod.ext a2 (Prod.ext b' c')))
theorem txt {K : PySem.W.Frag} {h : Heap} {mg : Str → Option Value} (X : K.In h) (G : h.Ns mainGlobals mg) (ex : exK K = true) (fs : ∀ f ∈ fa, f.ok K = true) : Txt K mg (He.ga K "Book") := by
  obtain ⟨e1, e2⟩ := He.ba ex
  obtain ⟨e3, e4⟩ := He.ba e2
  obtain ⟨e5, e6⟩ := He.ba e3
  have gv : ∀ {x : Str} {d : Val}, (x, d) ∈ gvs K → GV K mg x d := fun m => gvB_ok X G (List.all_eq_true.mp e1 _ m)
  have fr : ∀ {x : Str}, He.Fa.free x ∈ fa → mg x = none := fun m => He.free_ok X G (fs _ m)
  have na : ∀ {x : Str}, He.Fa.noat "Book" x ∈ fa → NoAttr K (He.ga K "Book") x := fun m => He.noat_ok (fs _ m)
  have cv : ∃ u, CVal K (He.ga K "Book") (.type "type") "MOST_RULES" (.int 12) u := by
    unfold cvB at e4
    split at e4
    · rename_i j t q
      have ej : j = 12 := of_decide_eq_true e4
      subst ej
      exact ⟨_, q, ⟨t, rfl⟩⟩
    · cases e4
  exact {
    fr_all := fr (by simp [fa])
    fr_any := fr (by simp [fa])
    fr_bool := fr (by simp [fa])
    fr_enumerate := fr (by simp [fa])
    fr_int := fr (by simp [fa])
    fr_isinstance := fr (by simp [fa])
    fr_len := fr (by simp [fa])
    fr_list := fr (by simp [fa])
    fr_max := fr (by simp [fa])
    fr_min := fr (by simp [fa])
    fr_range := fr (by simp [fa])
    fr_set := fr (by simp [fa])
    fr_sorted := fr (by simp [fa])
    fr_str := fr (by simp [fa])
    fr_tuple := fr (by simp [fa])
    fr_zip := fr (by simp [fa])
    gv_CASES := gv (by simp [gvs])
    gv_COUNT_RANGES := gv (by simp [gvs])
    gv_DOORS := gv (by simp [gvs])
    gv_ENTRY_FORMS := gv (by simp [gvs])
    gv_FIRST_ORDINARY := gv (by simp [gvs])
    gv_GLASS := gv (by simp [gvs])
    gv_HOMES := gv (by simp [gvs])
    gv_KINDS := gv (by simp [gvs])
    gv_LAST_VERB := gv (by simp [gvs])
    gv_LOTS := gv (by simp [gvs])
    gv_MARKS := gv (by simp [gvs])
    gv_MOST_CLAUSES := gv (by simp [gvs])
    gv_MOST_DEPTH := gv (by simp [gvs])
    gv_MOST_LIFE := gv (by simp [gvs])
    gv_MOST_PASSES := gv (by simp [gvs])
    gv_MOST_RANK := gv (by simp [gvs])
    gv_MOST_STEPS := gv (by simp [gvs])
    gv_NODES := gv (by simp [gvs])
    gv_NUMBERS := gv (by simp [gvs])
    gv_NUMBER_RANGES := gv (by simp [gvs])
    gv_PARTED := gv (by simp [gvs])
    gv_PARTS := gv (by simp [gvs])
    gv_ROLES := gv (by simp [gvs])
    gv_TEAMS := gv (by simp [gvs])
    cl := He.cls_ok (fs (.cls "Book") (by simp [fa]))
    mg_Book := He.glo_ok X G (fs (.glo "Book") (by simp [fa]))
    rd := ⟨e5, of_decide_eq_true e6⟩
    na_age := na (by simp [fa])
    na_cases := na (by simp [fa])
    na_doors := na (by simp [fa])
    na_frame := na (by simp [fa])
    na_glass_age := na (by simp [fa])
    na_glass_life := na (by simp [fa])
    na_glass_rows := na (by simp [fa])
    na_homes := na (by simp [fa])
    na_hours := na (by simp [fa])
    na_kinds := na (by simp [fa])
    na_look_time := na (by simp [fa])
    na_lots := na (by simp [fa])
    na_marks := na (by simp [fa])
    na_parents := na (by simp [fa])
    na_parted := na (by simp [fa])
    na_places := na (by simp [fa])
    na_points := na (by simp [fa])
    na_roles := na (by simp [fa])
    na_rules := na (by simp [fa])
    na_teams := na (by simp [fa])
    cv_Book_MOST_RULES := cv }
theorem mkB {K : PySem.W.Frag} (fs : ∀ f ∈ fa, f.ok K = true) : Mk K (He.ga K "Book") (He.ma K (He.ga K "Book") "__init__") := He.mkr_ok (fs (.mkr "Book") (by simp [fa]))
/-- a def of the top, under its name -/
def DefAt (K : PySem.W.Frag) (mg : Str → Option Value) (x : Str) (st : Stmt) : Prop := ∃ fd, FunD K x x (defArgs st) (defBody st) (defScope st) [] [] (He.ga K x) fd ∧ mg x = some (.ref (He.ga K x))
end K05

set_option Elab.async false
set_option linter.all false
set_option maxRecDepth 100000
set_option maxHeartbeats 4000000
namespace K05
open PySem L2 DL
/-! ### a row of uppers -/
/-- each one's upper stands below it, or is none -/
def Tr (ups : List Int) : Prop := ∀ i (h : i < ups.length), -1 ≤ ups[i] ∧ ups[i] < i
def anc (ups : List Int) : Nat → Int → List Int
  | 0, _ => []
  | n + 1, x => if x < 0 then [] else x :: anc ups n (ups.getD x.toNat (-1))
def A (ups : List Int) (x : Int) : List Int := anc ups (x.toNat + 1) x
theorem tr_get {ups : List Int} (hT : Tr ups) {x : Int} (h0 : 0 ≤ x) (h1 : x < ups.length) : -1 ≤ ups.getD x.toNat (-1) ∧ ups.getD x.toNat (-1) < x := by
  have hx : x.toNat < ups.length := by omega
  have := hT x.toNat hx
  rw [List.getD_eq_getElem?_getD, List.getElem?_eq_getElem hx, Option.getD_some]
  omega
theorem anc_fuel {ups : List Int} (hT : Tr ups) : ∀ (n m : Nat) (x : Int), -1 ≤ x → x < ups.length → x.toNat < n ∨ x < 0 → x.toNat < m ∨ x < 0 → 0 < n → 0 < m → anc ups n x = anc ups m x
  | 0, _, _, _, _, _, _, h, _ => absurd h (by omega)
  | _, 0, _, _, _, _, _, _, h => absurd h (by omega)
  | n + 1, m + 1, x, h1, h2, h3, h4, _, _ => by
    unfold anc
    by_cases hx : x < 0
    · rw [if_pos hx, if_pos hx]
    · rw [if_neg hx, if_neg hx]
      have := tr_get hT (x := x) (by omega) h2
      generalize ups.getD x.toNat (-1) = y at this ⊢
      by_cases hy : y < 0
      · cases n <;> cases m <;> simp [anc, hy]
      · rw [anc_fuel hT n m y (by omega) (by omega) (by omega) (by omega) (by omega) (by omega)]
theorem A_neg {ups : List Int} {x : Int} (h : x < 0) : A ups x = [] := by
  unfold A anc
  rw [if_pos h]
theorem A_pos {ups : List Int} (hT : Tr ups) {x : Int} (h0 : 0 ≤ x) (h1 : x < ups.length) : A ups x = x :: A ups (ups.getD x.toNat (-1)) := by
  have t := tr_get hT h0 h1
  show anc ups (x.toNat + 1) x = _
  unfold anc
  rw [if_neg (by omega)]
  congr 1
  unfold A
  generalize ups.getD x.toNat (-1) = y at t ⊢
  by_cases hx : x.toNat = 0
  · have : y < 0 := by omega
    rw [hx]
    simp [anc, this]
  · exact anc_fuel hT _ _ y (by omega) (by omega) (by omega) (by omega) (by omega) (by omega)
theorem A_le {ups : List Int} (hT : Tr ups) : ∀ (n : Nat) (x y : Int), x.toNat < n → x < ups.length → y ∈ A ups x → 0 ≤ y ∧ y ≤ x
  | 0, _, _, h, _, _ => absurd h (by omega)
  | n + 1, x, y, h, h1, m => by
    by_cases hx : x < 0
    · rw [A_neg hx] at m; cases m
    · rw [A_pos hT (by omega) h1] at m
      rcases List.mem_cons.mp m with e | m
      · omega
      · have t := tr_get hT (x := x) (by omega) h1
        generalize ups.getD x.toNat (-1) = z at t m
        by_cases hz : z < 0
        · rw [A_neg hz] at m; cases m
        · have := A_le hT n z y (by omega) (by omega) m
          omega
theorem A_self {ups : List Int} (hT : Tr ups) {x : Int} (h0 : 0 ≤ x) (h1 : x < ups.length) : x ∈ A ups x := by
  rw [A_pos hT h0 h1]; exact List.mem_cons_self
theorem A_up {ups : List Int} (hT : Tr ups) {x y : Int} (h0 : 0 ≤ x) (h1 : x < ups.length) (ne : y ≠ x) : y ∈ A ups (ups.getD x.toNat (-1)) ↔ y ∈ A ups x := by
  rw [A_pos hT h0 h1, List.mem_cons]
  exact ⟨.inr, fun h => h.resolve_left ne⟩
/-- an item of a row of ints -/
theorem at_ints {ns : List Int} {i : Int} (h0 : 0 ≤ i) (h1 : i < ns.length) : atI (ns.map Val.int) i = some (.int (ns.getD i.toNat (-1))) := by
  unfold atI ixN
  rw [List.length_map, if_pos h0, if_pos h1]
  show (ns.map Val.int)[i.toNat]? = _
  have hx : i.toNat < ns.length := by omega
  rw [List.getElem?_map, List.getD_eq_getElem?_getD, List.getElem?_eq_getElem hx] <;> rfl
theorem eqi (a b : Int) : eqd (.int a) (.int b) = decide (a = b) := rfl
def s_under : DSp := fun ds st P => ∃ ups low high, ds = [tI ups, .int low, .int high] ∧ Tr ups ∧ -1 ≤ low ∧ low < ups.length ∧ 0 ≤ high ∧ P (.bl (decide (high ∈ A ups low))) st
theorem v_under (ds : List Val) (st : Store) (P : DK) (h : s_under ds st P) : w_under (defE st P) (startD N_under ds) st := by
  obtain ⟨ups, low, high, rfl, hT, h1, h2, h3, k⟩ := h
  rw [e_under]
  unfold w_under
  ((conv => whnf); (try dsimp only))
  refine ⟨fun m env st' => ∃ node : Int, env = [some (tI ups), some (.int low), some (.int high), some (.int node)] ∧ st' = st ∧ m = (node + 1).toNat ∧ -1 ≤ node ∧ node < ups.length ∧ (high ∈ A ups node ↔ high ∈ A ups low), ⟨_, low, rfl, rfl, rfl, h1, h2, Iff.rfl⟩, ?_⟩
  rintro m env st' ⟨node, rfl, rfl, rfl, n1, n2, n3⟩
  by_cases hlt : high < node
  · ((conv => whnf); (try dsimp only))
    rw [decide_eq_true hlt]
    ((conv => whnf); (try dsimp only))
    rw [at_ints (by omega) n2]
    have t := tr_get hT (x := node) (by omega) n2
    exact ⟨_, by omega, _, rfl, rfl, rfl, by omega, by omega, by rw [A_up hT (by omega) n2 (by omega)]; exact n3⟩
  · ((conv => whnf); (try dsimp only))
    rw [decide_eq_false hlt]
    ((conv => whnf); (try dsimp only))
    refine ⟨.inl rfl, back0 rfl ?_⟩
    have e : (decide (node = high)) = decide (high ∈ A ups low) := by
      rw [decide_eq_decide, ← n3]
      constructor
      · rintro rfl; exact A_self hT h3 n2
      · intro m
        have := A_le hT _ node high (Nat.lt_succ_self _) n2 m
        omega
    show P (.bl (eqd (.int node) (.int high))) st'
    rw [eqi, e]
    exact k
end K05

set_option Elab.async false
set_option linter.all false
set_option maxRecDepth 100000
set_option maxHeartbeats 4000000
namespace K05
open PySem L2 DL
/-! ### books, rules, questions -/
structure Sc where
  role : Int
  verbs : List Int
  node : Int
  deep : Int
  hours : List Int
  places : List Int
def scL (s : Sc) : List Val := [.int s.role, tI s.verbs, .int s.node, .int s.deep, tI s.hours, tI s.places]
structure Rule where
  eff : Int
  rank : Int
  sc : Sc
def ruleV (r : Rule) : Val := .tup (.int r.eff :: .int r.rank :: scL r.sc)
structure Door where
  rank : Int
  sc : Sc
  life : Int
def doorV (d : Door) : Val := .tup (.int d.rank :: (scL d.sc ++ [.int d.life]))
structure Lot where
  node : Int
  verbs : List Int
  rank : Int
  depth : Int
  life : Int
  r1 : Int
  r2 : Int
  passes : List (Int × Int)
def lotV (l : Lot) : Val := .tup [.int l.node, tI l.verbs, .int l.rank, .int l.depth, .int l.life, .int l.r1, .int l.r2, .tup (l.passes.map pairD)]
structure Ask where
  verb : Int
  node : Int
  hour : Int
  place : Int
def askV (a : Ask) : Val := .tup [.int a.verb, .int a.node, .int a.hour, .int a.place]
structure Side where
  roles : List Int
  lots : List Int
  doors : List Int
def sideV (s : Side) : Val := .tup [tI s.roles, tI s.lots, tI s.doors]
inductive It where
  | rule (i : Nat) | door (i : Nat) | lot (i : Nat)
def itV : It → Val
  | .rule i => .tup [.str "rule", .int i]
  | .door i => .tup [.str "door", .int i]
  | .lot i => .tup [.str "lot", .int i]
def rulesV (rs : List Rule) : Val := .tup (rs.map ruleV)
/-- what a book tells of its rows -/
structure Bk (C : Addr) (st : Store) (b : Nat) (ups : List Int) (doors : List Door) (lots : List Lot) : Prop where
  ob : ∃ fs, st[b]? = some (.obj C fs) ∧ fs.lookup ("parents" : Str) = some (tI ups) ∧ fs.lookup ("doors" : Str) = some (Val.tup (doors.map doorV)) ∧ fs.lookup ("lots" : Str) = some (Val.tup (lots.map lotV))
  tr : Tr ups
  scD : ∀ d ∈ doors, 0 ≤ d.sc.node ∧ (d.sc.deep = 0 ∨ d.sc.deep = 1)
  scL : ∀ l ∈ lots, 0 ≤ l.node
structure RuOk (rs : List Rule) : Prop where
  sc : ∀ r ∈ rs, 0 ≤ r.sc.node ∧ (r.sc.deep = 0 ∨ r.sc.deep = 1)
def ItOk (rs : List Rule) (doors : List Door) (lots : List Lot) : It → Prop
  | .rule i => i < rs.length
  | .door i => i < doors.length
  | .lot i => i < lots.length
theorem atD {α : Type} {f : α → Val} {xs : List α} {i : Nat} {x : α} (h : xs[i]? = some x) : atI (xs.map f) (i : Int) = some (f x) := by
  refine atI_nat (by omega) ?_
  rw [Int.toNat_natCast, List.getElem?_map, h]
  rfl
/-! ### why not -/
def unl (b : Bool) (s : Str) : List Str := if b then [] else [s]
def scWhy (ups : List Int) (s : Sc) (had : List Int) (a : Ask) : List Str :=
  unl (decide (s.role = -1) || decide (s.role ∈ had)) "role" ++ unl (decide (a.verb ∈ s.verbs)) "verb" ++ unl (decide (s.node = a.node) || (decide (s.deep = 1) && decide (s.node ∈ A ups a.node))) "node" ++
    unl (decide (a.hour ∈ s.hours)) "hour" ++ unl (decide (a.place ∈ s.places)) "place"
def lotWhy (ups : List Int) (i : Nat) (l : Lot) (held : List Int) (a : Ask) : List Str :=
  unl (decide ((i : Int) ∈ held)) "unheld" ++ unl (decide (a.verb ∈ l.verbs)) "verb" ++ unl (decide (l.node ∈ A ups a.node)) "node"
def strsV (xs : List Str) : Val := .tup (xs.map Val.str)
def s_scope_of (C : Addr) : DSp := fun ds st P => ∃ b ups doors lots rs it s, ds = [.loc b, rulesV rs, itV it] ∧ Bk C st b ups doors lots ∧
  ((∃ i r, it = .rule i ∧ rs[i]? = some r ∧ s = r.sc) ∨ (∃ i d, it = .door i ∧ doors[i]? = some d ∧ s = d.sc)) ∧ P (.tup (scL s)) st
theorem q_rr : eqd (.str "rule") (.str "rule") = true := by decide +kernel
theorem q_dr : eqd (.str "door") (.str "rule") = false := by decide +kernel
theorem q_lr : eqd (.str "lot") (.str "rule") = false := by decide +kernel
theorem q_rd : eqd (.str "rule") (.str "door") = false := by decide +kernel
theorem q_dd : eqd (.str "door") (.str "door") = true := by decide +kernel
theorem q_ld : eqd (.str "lot") (.str "door") = false := by decide +kernel
theorem q_rl : eqd (.str "rule") (.str "lot") = false := by decide +kernel
theorem q_dl : eqd (.str "door") (.str "lot") = false := by decide +kernel
theorem q_ll : eqd (.str "lot") (.str "lot") = true := by decide +kernel
theorem v_scope_of (C : Addr) (ds : List Val) (st : Store) (P : DK) (h : s_scope_of C ds st P) : w_scope_of C (defE st P) (startD N_scope_of ds) st := by
  obtain ⟨b, ups, doors, lots, rs, it, s, rfl, B, hi, k⟩ := h
  obtain ⟨fs, h1, h2, h3, h4⟩ := B.ob
  have cl : clV st.length (.tup (scL s)) = true := by
    simp [scL, clV, clVs, tI, clVs_ints]
  rw [e_scope_of]
  unfold w_scope_of
  rcases hi with ⟨i, r, rfl, hr, rfl⟩ | ⟨i, d, rfl, hd, rfl⟩
  · ((conv => whnf); (try dsimp only))
    refine ⟨.inl rfl, ?_⟩
    rw [q_rr]
    ((conv => whnf); (try dsimp only))
    rw [atD hr]
    ((conv => whnf); (try dsimp only))
    exact back0 cl k
  · ((conv => whnf); (try dsimp only))
    refine ⟨.inl rfl, ?_⟩
    rw [q_dr]
    ((conv => whnf); (try dsimp only))
    rw [h1]
    refine ⟨rfl, ?_⟩
    rw [h3]
    ((conv => whnf); (try dsimp only))
    rw [atD hd]
    ((conv => whnf); (try dsimp only))
    exact back0 cl k
theorem eqd_int (a b : Int) : eqd (.int a) (.int b) = decide (a = b) := rfl
def s_covers (C : Addr) : DSp := fun ds st P => ∃ b ups doors lots s had a, ds = [.loc b, .tup (scL s), tI had, askV a] ∧ Bk C st b ups doors lots ∧ 0 ≤ s.node ∧ (s.deep = 0 ∨ s.deep = 1) ∧ 0 ≤ a.node ∧ a.node < ups.length ∧
  P (.bl (decide (scWhy ups s had a = []))) st
theorem scWhy_nil {ups : List Int} {s : Sc} {had : List Int} {a : Ask} : (scWhy ups s had a = []) ↔ (s.role = -1 ∨ s.role ∈ had) ∧ a.verb ∈ s.verbs ∧ (s.node = a.node ∨ s.deep = 1 ∧ s.node ∈ A ups a.node) ∧ a.hour ∈ s.hours ∧ a.place ∈ s.places := by
  unfold scWhy unl
  simp only [Decidable.or_iff_not_imp_left, List.append_eq_nil_iff]
  simp
  constructor
  · rintro ⟨⟨⟨⟨h1, h2⟩, h3⟩, h4⟩, h5⟩
    exact ⟨h1, h2, h3, h4, h5⟩
  · rintro ⟨h1, h2, h3, h4, h5⟩
    exact ⟨⟨⟨⟨h1, h2⟩, h3⟩, h4⟩, h5⟩
theorem v_covers (C : Addr) (ds : List Val) (st : Store) (P : DK) (h : s_covers C ds st P) : w_covers C s_under (defE st P) (startD N_covers ds) st := by
  obtain ⟨b, ups, doors, lots, s, had, a, rfl, B, hn, hd, a1, a2, k⟩ := h
  obtain ⟨fs, h1, h2, h3, h4⟩ := B.ob
  have no : ¬ (scWhy ups s had a = []) → Back st P (.bl false) st := fun h => back0 rfl (by rw [decide_eq_false h] at k; exact k)
  have yes : scWhy ups s had a = [] → Back st P (.bl true) st := fun h => back0 rfl (by rw [decide_eq_true h] at k; exact k)
  rw [scWhy_nil] at no yes
  rw [e_covers]
  unfold w_covers
  ((conv => whnf); (try dsimp only))
  refine ⟨rfl, flatAll_ints _, ?_⟩
  simp only [memd_ints, if_true]
  by_cases c1 : a.verb ∈ s.verbs
  case neg =>
    rw [decide_eq_false c1]
    ((conv => whnf); (try dsimp only))
    exact no fun h => c1 h.2.1
  rw [decide_eq_true c1]
  ((conv => whnf); (try dsimp only))
  refine ⟨rfl, flatAll_ints _, ?_⟩
  simp only [memd_ints, if_true]
  by_cases c2 : a.hour ∈ s.hours
  case neg =>
    rw [decide_eq_false c2]
    ((conv => whnf); (try dsimp only))
    exact no fun h => c2 h.2.2.2.1
  rw [decide_eq_true c2]
  ((conv => whnf); (try dsimp only))
  refine ⟨rfl, flatAll_ints _, ?_⟩
  simp only [memd_ints, if_true]
  by_cases c3 : a.place ∈ s.places
  case neg =>
    rw [decide_eq_false c3]
    ((conv => whnf); (try dsimp only))
    exact no fun h => c3 h.2.2.2.2
  rw [decide_eq_true c3]
  ((conv => whnf); (try dsimp only))
  have last : (s.role = -1 ∨ s.role ∈ had) → wRet (wOrV (wBin (eqW false) (wVar 6) (wVar 11)) (wAndV (wBin (eqW false) (wVar 7) (wC (Val.int 1))) (wCB s_under (wCons (wUn (fldV C "parents") (wVar 0)) (wCons (wVar 11) (wCons (wVar 6) wNil))))))
      (defE st P) [some (.loc b), some (.tup (scL s)), some (tI had), some (askV a), some (.int s.role), some (tI s.verbs), some (.int s.node), some (.int s.deep), some (tI s.hours), some (tI s.places), some (.int a.verb), some (.int a.node), some (.int a.hour), some (.int a.place)] st := by
    intro c4
    ((conv => whnf); (try dsimp only))
    refine ⟨.inl rfl, ?_⟩
    simp only [eqd_int, Bool.false_eq_true, if_false]
    by_cases c5 : s.node = a.node
    · rw [decide_eq_true c5]
      ((conv => whnf); (try dsimp only))
      exact yes ⟨c4, c1, .inl c5, c2, c3⟩
    · rw [decide_eq_false c5]
      ((conv => whnf); (try dsimp only))
      refine ⟨.inl rfl, ?_⟩
      simp only [eqd_int, Bool.false_eq_true, if_false]
      by_cases c6 : s.deep = 1
      · rw [decide_eq_true c6]
        ((conv => whnf); (try dsimp only))
        rw [h1]
        refine ⟨rfl, ?_⟩
        rw [h2]
        refine ⟨ups, a.node, s.node, rfl, B.tr, by omega, a2, hn, ?_⟩
        by_cases c7 : s.node ∈ A ups a.node
        · rw [decide_eq_true c7]
          exact yes ⟨c4, c1, .inr ⟨c6, c7⟩, c2, c3⟩
        · rw [decide_eq_false c7]
          exact no fun h => h.2.2.1.elim c5 fun h => c7 h.2
      · rw [decide_eq_false c6]
        ((conv => whnf); (try dsimp only))
        exact no fun h => h.2.2.1.elim c5 fun h => c6 h.1
  refine ⟨.inl rfl, ?_⟩
  simp only [eqd_int, if_true]
  by_cases c4 : s.role = -1
  · rw [decide_eq_true c4]
    exact last (.inl c4)
  · rw [decide_eq_false c4]
    ((conv => whnf); (try dsimp only))
    refine ⟨rfl, flatAll_ints _, ?_⟩
    simp only [memd_ints, if_true]
    by_cases c5 : s.role ∈ had
    · rw [decide_eq_true c5]
      exact last (.inr c5)
    · rw [decide_eq_false c5]
      ((conv => whnf); (try dsimp only))
      exact no fun h => h.1.elim c4 c5
/-- why not, of an item -/
def why (ups : List Int) (doors : List Door) (lots : List Lot) (rs : List Rule) (sd : Side) (a : Ask) : It → List Str
  | .rule i => match rs[i]? with
    | some r => scWhy ups r.sc sd.roles a
    | none => []
  | .door i => match doors[i]? with
    | some d => unl (decide ((i : Int) ∈ sd.doors)) "shut" ++ scWhy ups d.sc sd.roles a
    | none => []
  | .lot i => match lots[i]? with
    | some l => lotWhy ups i l sd.lots a
    | none => []
def pre_ar (C : Addr) (st : Store) (ds : List Val) (b : Nat) (ups : List Int) (doors : List Door) (lots : List Lot) (rs : List Rule) (sd : Side) (it : It) (a : Ask) : Prop :=
  ds = [.loc b, rulesV rs, sideV sd, itV it, askV a] ∧ Bk C st b ups doors lots ∧ RuOk rs ∧ ItOk rs doors lots it ∧ 0 ≤ a.node ∧ a.node < ups.length
def s_applies (C : Addr) : DSp := fun ds st P => ∃ b ups doors lots rs sd it a, pre_ar C st ds b ups doors lots rs sd it a ∧ P (.bl (decide (why ups doors lots rs sd a it = []))) st
theorem lotWhy_nil {ups : List Int} {i : Nat} {l : Lot} {held : List Int} {a : Ask} : (lotWhy ups i l held a = []) ↔ (i : Int) ∈ held ∧ a.verb ∈ l.verbs ∧ l.node ∈ A ups a.node := by
  unfold lotWhy unl
  simp only [List.append_eq_nil_iff]
  simp
  constructor
  · rintro ⟨⟨h1, h2⟩, h3⟩
    exact ⟨h1, h2, h3⟩
  · rintro ⟨h1, h2, h3⟩
    exact ⟨⟨h1, h2⟩, h3⟩
theorem v_applies (C : Addr) (ds : List Val) (st : Store) (P : DK) (h : s_applies C ds st P) : w_applies C (s_covers C) (s_scope_of C) s_under (defE st P) (startD N_applies ds) st := by
  obtain ⟨b, ups, doors, lots, rs, sd, it, a, ⟨rfl, B, hR, hi, a1, a2⟩, k⟩ := h
  obtain ⟨fs, h1, h2, h3, h4⟩ := B.ob
  rw [e_applies]
  unfold w_applies
  cases it with
  | rule i =>
    have hr : rs[i]? = some rs[i] := List.getElem?_eq_getElem hi
    have hs := hR.sc rs[i] (List.getElem_mem hi)
    simp only [why, hr] at k
    ((conv => whnf); (try dsimp only))
    refine ⟨.inl rfl, ?_⟩
    rw [q_rl]
    ((conv => whnf); (try dsimp only))
    refine ⟨.inl rfl, ?_⟩
    rw [q_rd]
    ((conv => whnf); (try dsimp only))
    refine ⟨b, ups, doors, lots, rs, .rule i, rs[i].sc, rfl, B, .inl ⟨i, _, rfl, hr, rfl⟩, ?_⟩
    exact ⟨b, ups, doors, lots, _, _, a, rfl, B, hs.1, hs.2, a1, a2, back0 rfl k⟩
  | door i =>
    have hr : doors[i]? = some doors[i] := List.getElem?_eq_getElem hi
    have hs := B.scD doors[i] (List.getElem_mem hi)
    simp only [why, hr] at k
    ((conv => whnf); (try dsimp only))
    refine ⟨.inl rfl, ?_⟩
    rw [q_dl]
    ((conv => whnf); (try dsimp only))
    refine ⟨.inl rfl, ?_⟩
    rw [q_dd]
    ((conv => whnf); (try dsimp only))
    refine ⟨rfl, flatAll_ints _, ?_⟩
    simp only [memd_ints, if_true]
    by_cases c : (i : Int) ∈ sd.doors
    · rw [decide_eq_true c]
      ((conv => whnf); (try dsimp only))
      refine ⟨b, ups, doors, lots, rs, .door i, doors[i].sc, rfl, B, .inr ⟨i, _, rfl, hr, rfl⟩, ?_⟩
      refine ⟨b, ups, doors, lots, _, _, a, rfl, B, hs.1, hs.2, a1, a2, back0 rfl ?_⟩
      simp only [decide_eq_true c, unl, if_true, List.nil_append] at k
      exact k
    · rw [decide_eq_false c]
      ((conv => whnf); (try dsimp only))
      refine back0 rfl ?_
      simp only [decide_eq_false c, unl, Bool.false_eq_true, if_false, List.cons_append, List.cons_ne_nil, decide_false] at k
      exact k
  | lot i =>
    have hr : lots[i]? = some lots[i] := List.getElem?_eq_getElem hi
    have hs := B.scL lots[i] (List.getElem_mem hi)
    simp only [why, hr] at k
    have no : ¬ (lotWhy ups i lots[i] sd.lots a = []) → Back st P (.bl false) st := fun h => back0 rfl (by rw [decide_eq_false h] at k; exact k)
    have yes : lotWhy ups i lots[i] sd.lots a = [] → Back st P (.bl true) st := fun h => back0 rfl (by rw [decide_eq_true h] at k; exact k)
    rw [lotWhy_nil] at no yes
    ((conv => whnf); (try dsimp only))
    refine ⟨.inl rfl, ?_⟩
    rw [q_ll]
    ((conv => whnf); (try dsimp only))
    rw [h1]
    refine ⟨rfl, ?_⟩
    rw [h4]
    ((conv => whnf); (try dsimp only))
    rw [atD hr]
    ((conv => whnf); (try dsimp only))
    refine ⟨rfl, flatAll_ints _, ?_⟩
    simp only [memd_ints, Bool.false_eq_true, if_false]
    by_cases c : (i : Int) ∈ sd.lots
    case neg =>
      rw [decide_eq_false c]
      ((conv => whnf); (try dsimp only))
      exact no fun h => c h.1
    rw [decide_eq_true c]
    ((conv => whnf); (try dsimp only))
    refine ⟨rfl, flatAll_ints _, ?_⟩
    simp only [memd_ints, Bool.false_eq_true, if_false]
    by_cases c2 : a.verb ∈ lots[i].verbs
    case neg =>
      rw [decide_eq_false c2]
      ((conv => whnf); (try dsimp only))
      exact no fun h => c2 h.2.1
    rw [decide_eq_true c2]
    ((conv => whnf); (try dsimp only))
    rw [h1]
    refine ⟨rfl, ?_⟩
    rw [h2]
    refine ⟨ups, a.node, lots[i].node, rfl, B.tr, by omega, a2, hs, ?_⟩
    by_cases c3 : lots[i].node ∈ A ups a.node
    · rw [decide_eq_true c3]
      exact yes ⟨c, c2, c3⟩
    · rw [decide_eq_false c3]
      exact no fun h => c3 h.2.2
end K05

set_option Elab.async false
set_option linter.all false
set_option maxRecDepth 100000
set_option maxHeartbeats 4000000
namespace K05
open PySem L2 DL
theorem step_app {wt : WT} {E0 : Slots} {st : Store} {L : List Str} {j : Nat} {x : Str} {E : DEnds} (b : Bool) (hj : E0[j]? = some (some (.loc st.length))) (hl : L.length < 100)
    (ht : ∀ Q : Bool → Store → Prop, Q (!b) (st ++ [.lst (L.map Val.str)]) → wt E0 (st ++ [.lst (L.map Val.str)]) Q) (k : E.nx E0 (st ++ [.lst ((L ++ unl b x).map Val.str)])) :
    wIfS wt (wDrop (wMt appV (wVar j) (wCons (wC (.str x)) wNil))) wNext E E0 (st ++ [.lst (L.map Val.str)]) := by
  refine ht _ ?_
  cases b with
  | true =>
    have e : L ++ unl true x = L := by simp [unl]
    rw [e] at k
    exact k
  | false =>
    have e : (L ++ unl false x).map Val.str = L.map Val.str ++ [.str x] := by simp [unl]
    rw [e] at k
    ((conv => whnf); (try dsimp only))
    rw [hj]
    ((conv => whnf); (try dsimp only))
    refine ⟨isLst0, ?_⟩
    ((conv => whnf); (try dsimp only))
    rw [look0]
    refine app0 ?_ k
    rw [List.length_map]
    have : sizeLine = 2 ^ 24 := rfl
    omega
/-- tuple(found) handed back -/
theorem ret_tup {E0 : Slots} {st : Store} {L : List Str} {j : Nat} {P : DK} (hj : E0[j]? = some (some (.loc st.length))) (k : P (strsV L) st) :
    wRet (wCB tupV (wCons (wVar j) wNil)) (defE st P) E0 (st ++ [.lst (L.map Val.str)]) := by
  show (wVar j) E0 _ _
  unfold wVar
  rw [hj]
  show match itemsOf (st ++ [Cell.lst (L.map Val.str)]) (.loc st.length) with
      | some ds => Back st P (.tup ds) (st ++ [Cell.lst (L.map Val.str)])
      | none => False
  unfold itemsOf
  dsimp only
  rw [look0]
  exact back_same _ (clVs_strs _ _) k
theorem unl_len (b : Bool) (x : Str) : (unl b x).length ≤ 1 := by cases b <;> simp [unl]
theorem nd1 (b : Bool) : (!!b) = b := by cases b <;> rfl
def s_scope_reasons (C : Addr) : DSp := fun ds st P => ∃ b ups doors lots s had a, ds = [.loc b, .tup (scL s), tI had, askV a] ∧ Bk C st b ups doors lots ∧ 0 ≤ s.node ∧ (s.deep = 0 ∨ s.deep = 1) ∧ 0 ≤ a.node ∧ a.node < ups.length ∧
  P (strsV (scWhy ups s had a)) st
theorem v_scope_reasons (C : Addr) (ds : List Val) (st : Store) (P : DK) (h : s_scope_reasons C ds st P) : w_scope_reasons C s_under (defE st P) (startD N_scope_reasons ds) st := by
  obtain ⟨b, ups, doors, lots, s, had, a, rfl, B, hn, hd, a1, a2, k⟩ := h
  obtain ⟨fs, h1, h2, h3, h4⟩ := B.ob
  rw [e_scope_reasons]
  unfold w_scope_reasons
  ((conv => whnf); (try dsimp only))
  refine ⟨Nat.zero_le _, ?_⟩
  have lk : ∀ L : List Cell, (st ++ L)[b]? = some (.obj C fs) := fun L => by
    rw [lookA (List.getElem?_eq_some_iff.mp h1).1]
    exact h1
  have E0 : Slots := [some (.loc b), some (.tup (scL s)), some (tI had), some (askV a), some (.int s.role), some (tI s.verbs), some (.int s.node), some (.int s.deep), some (tI s.hours), some (tI s.places), some (.int a.verb), some (.int a.node), some (.int a.hour), some (.int a.place), some (.loc st.length)]
  have u1 := unl_len (decide (s.role = -1) || decide (s.role ∈ had)) "role"
  have u2 := unl_len (decide (a.verb ∈ s.verbs)) "verb"
  have u3 := unl_len (decide (s.node = a.node) || (decide (s.deep = 1) && decide (s.node ∈ A ups a.node))) "node"
  have u4 := unl_len (decide (a.hour ∈ s.hours)) "hour"
  refine ⟨fun e' st' => e' = [some (.loc b), some (.tup (scL s)), some (tI had), some (askV a), some (.int s.role), some (tI s.verbs), some (.int s.node), some (.int s.deep), some (tI s.hours), some (tI s.places), some (.int a.verb), some (.int a.node), some (.int a.hour), some (.int a.place), some (.loc st.length)] ∧
    st' = st ++ [.lst ((unl (decide (s.role = -1) || decide (s.role ∈ had)) "role").map Val.str)], ?_, ?_⟩
  · refine step_app (L := []) (decide (s.role = -1) || decide (s.role ∈ had)) rfl (by decide) (fun Q q => ?_) ⟨rfl, rfl⟩
    ((conv => whnf); (try dsimp only))
    refine ⟨.inl rfl, ?_⟩
    simp only [eqd_int, if_true]
    by_cases c : s.role = -1
    · rw [decide_eq_true c] at q ⊢
      exact q
    · rw [decide_eq_false c] at q ⊢
      ((conv => whnf); (try dsimp only))
      refine ⟨rfl, flatAll_ints _, ?_⟩
      simp only [memd_ints, if_true]
      exact q
  rintro _ _ ⟨rfl, rfl⟩
  refine ⟨fun e' st' => e' = [some (.loc b), some (.tup (scL s)), some (tI had), some (askV a), some (.int s.role), some (tI s.verbs), some (.int s.node), some (.int s.deep), some (tI s.hours), some (tI s.places), some (.int a.verb), some (.int a.node), some (.int a.hour), some (.int a.place), some (.loc st.length)] ∧
    st' = st ++ [.lst ((unl (decide (s.role = -1) || decide (s.role ∈ had)) "role" ++ unl (decide (a.verb ∈ s.verbs)) "verb").map Val.str)], ?_, ?_⟩
  · refine step_app (decide (a.verb ∈ s.verbs)) rfl (by omega) (fun Q q => ?_) ⟨rfl, rfl⟩
    refine ⟨rfl, flatAll_ints _, ?_⟩
    simp only [memd_ints, if_true]
    exact q
  rintro _ _ ⟨rfl, rfl⟩
  refine ⟨fun e' st' => e' = [some (.loc b), some (.tup (scL s)), some (tI had), some (askV a), some (.int s.role), some (tI s.verbs), some (.int s.node), some (.int s.deep), some (tI s.hours), some (tI s.places), some (.int a.verb), some (.int a.node), some (.int a.hour), some (.int a.place), some (.loc st.length)] ∧
    st' = st ++ [.lst ((unl (decide (s.role = -1) || decide (s.role ∈ had)) "role" ++ unl (decide (a.verb ∈ s.verbs)) "verb" ++ unl (decide (s.node = a.node) || (decide (s.deep = 1) && decide (s.node ∈ A ups a.node))) "node").map Val.str)], ?_, ?_⟩
  · refine step_app (decide (s.node = a.node) || (decide (s.deep = 1) && decide (s.node ∈ A ups a.node))) rfl (by simp only [List.length_append]; omega) (fun Q q => ?_) ⟨rfl, rfl⟩
    ((conv => whnf); (try dsimp only))
    refine ⟨.inl rfl, ?_⟩
    simp only [eqd_int, if_true]
    by_cases c : s.node = a.node
    · rw [decide_eq_true c] at q ⊢
      exact q
    · rw [decide_eq_false c] at q ⊢
      ((conv => whnf); (try dsimp only))
      refine ⟨.inl rfl, ?_⟩
      simp only [eqd_int, Bool.false_eq_true, if_false]
      rcases hd with hd | hd
      · rw [hd] at q ⊢
        exact q
      · rw [hd] at q ⊢
        ((conv => whnf); (try dsimp only))
        rw [lk]
        refine ⟨rfl, ?_⟩
        rw [h2]
        exact ⟨ups, a.node, s.node, rfl, B.tr, by omega, a2, hn, q⟩
  rintro _ _ ⟨rfl, rfl⟩
  refine ⟨fun e' st' => e' = [some (.loc b), some (.tup (scL s)), some (tI had), some (askV a), some (.int s.role), some (tI s.verbs), some (.int s.node), some (.int s.deep), some (tI s.hours), some (tI s.places), some (.int a.verb), some (.int a.node), some (.int a.hour), some (.int a.place), some (.loc st.length)] ∧
    st' = st ++ [.lst ((unl (decide (s.role = -1) || decide (s.role ∈ had)) "role" ++ unl (decide (a.verb ∈ s.verbs)) "verb" ++ unl (decide (s.node = a.node) || (decide (s.deep = 1) && decide (s.node ∈ A ups a.node))) "node" ++ unl (decide (a.hour ∈ s.hours)) "hour").map Val.str)], ?_, ?_⟩
  · refine step_app (decide (a.hour ∈ s.hours)) rfl (by simp only [List.length_append]; omega) (fun Q q => ?_) ⟨rfl, rfl⟩
    refine ⟨rfl, flatAll_ints _, ?_⟩
    simp only [memd_ints, if_true]
    exact q
  rintro _ _ ⟨rfl, rfl⟩
  refine ⟨fun e' st' => e' = [some (.loc b), some (.tup (scL s)), some (tI had), some (askV a), some (.int s.role), some (tI s.verbs), some (.int s.node), some (.int s.deep), some (tI s.hours), some (tI s.places), some (.int a.verb), some (.int a.node), some (.int a.hour), some (.int a.place), some (.loc st.length)] ∧
    st' = st ++ [.lst ((scWhy ups s had a).map Val.str)], ?_, ?_⟩
  · refine step_app (decide (a.place ∈ s.places)) rfl (by simp only [List.length_append]; omega) (fun Q q => ?_) ⟨rfl, rfl⟩
    refine ⟨rfl, flatAll_ints _, ?_⟩
    simp only [memd_ints, if_true]
    exact q
  rintro _ _ ⟨rfl, rfl⟩
  exact ret_tup rfl k
def s_lot_reasons (C : Addr) : DSp := fun ds st P => ∃ b ups doors lots i l held a, ds = [.loc b, .int (i : Nat), tI held, askV a] ∧ Bk C st b ups doors lots ∧ lots[i]? = some l ∧ 0 ≤ a.node ∧ a.node < ups.length ∧
  P (strsV (lotWhy ups i l held a)) st
theorem v_lot_reasons (C : Addr) (ds : List Val) (st : Store) (P : DK) (h : s_lot_reasons C ds st P) : w_lot_reasons C s_under (defE st P) (startD N_lot_reasons ds) st := by
  obtain ⟨b, ups, doors, lots, i, l, held, a, rfl, B, hl, a1, a2, k⟩ := h
  obtain ⟨fs, h1, h2, h3, h4⟩ := B.ob
  have hn := B.scL l (List.mem_of_getElem? hl)
  rw [e_lot_reasons]
  unfold w_lot_reasons
  ((conv => whnf); (try dsimp only))
  rw [h1]
  refine ⟨rfl, ?_⟩
  rw [h4]
  ((conv => whnf); (try dsimp only))
  rw [atD hl]
  ((conv => whnf); (try dsimp only))
  refine ⟨Nat.zero_le _, ?_⟩
  have lk : ∀ L : List Cell, (st ++ L)[b]? = some (.obj C fs) := fun L => by
    rw [lookA (List.getElem?_eq_some_iff.mp h1).1]
    exact h1
  have u1 := unl_len (decide ((i : Int) ∈ held)) "unheld"
  have u2 := unl_len (decide (a.verb ∈ l.verbs)) "verb"
  refine ⟨fun e' st' => e' = [some (.loc b), some (.int i), some (tI held), some (askV a), some (lotV l), some (.loc st.length)] ∧ st' = st ++ [.lst ((unl (decide ((i : Int) ∈ held)) "unheld").map Val.str)], ?_, ?_⟩
  · refine step_app (L := []) (decide ((i : Int) ∈ held)) rfl (by decide) (fun Q q => ?_) ⟨rfl, rfl⟩
    refine ⟨rfl, flatAll_ints _, ?_⟩
    simp only [memd_ints, if_true]
    exact q
  rintro _ _ ⟨rfl, rfl⟩
  refine ⟨fun e' st' => e' = [some (.loc b), some (.int i), some (tI held), some (askV a), some (lotV l), some (.loc st.length)] ∧ st' = st ++ [.lst ((unl (decide ((i : Int) ∈ held)) "unheld" ++ unl (decide (a.verb ∈ l.verbs)) "verb").map Val.str)], ?_, ?_⟩
  · refine step_app (decide (a.verb ∈ l.verbs)) rfl (by omega) (fun Q q => ?_) ⟨rfl, rfl⟩
    refine ⟨rfl, flatAll_ints _, ?_⟩
    simp only [memd_ints, if_true]
    exact q
  rintro _ _ ⟨rfl, rfl⟩
  refine ⟨fun e' st' => e' = [some (.loc b), some (.int i), some (tI held), some (askV a), some (lotV l), some (.loc st.length)] ∧ st' = st ++ [.lst ((lotWhy ups i l held a).map Val.str)], ?_, ?_⟩
  · refine step_app (decide (l.node ∈ A ups a.node)) rfl (by simp only [List.length_append]; omega) (fun Q q => ?_) ⟨rfl, rfl⟩
    ((conv => whnf); (try dsimp only))
    rw [lk]
    refine ⟨rfl, ?_⟩
    rw [h2]
    exact ⟨ups, a.node, l.node, rfl, B.tr, by omega, a2, hn, q⟩
  rintro _ _ ⟨rfl, rfl⟩
  exact ret_tup rfl k
def s_reasons (C : Addr) : DSp := fun ds st P => ∃ b ups doors lots rs sd it a, pre_ar C st ds b ups doors lots rs sd it a ∧ P (strsV (why ups doors lots rs sd a it)) st
theorem v_reasons (C : Addr) (ds : List Val) (st : Store) (P : DK) (h : s_reasons C ds st P) : w_reasons (s_lot_reasons C) (s_scope_of C) (s_scope_reasons C) (defE st P) (startD N_reasons ds) st := by
  obtain ⟨b, ups, doors, lots, rs, sd, it, a, ⟨rfl, B, hR, hi, a1, a2⟩, k⟩ := h
  obtain ⟨fs, h1, h2, h3, h4⟩ := B.ob
  have len : ∀ ups s had a, (scWhy ups s had a).length ≤ 5 := fun ups s had a => by
    unfold scWhy
    simp only [List.length_append]
    have u1 := unl_len (decide (s.role = -1) || decide (s.role ∈ had)) "role"
    have u2 := unl_len (decide (a.verb ∈ s.verbs)) "verb"
    have u3 := unl_len (decide (s.node = a.node) || (decide (s.deep = 1) && decide (s.node ∈ A ups a.node))) "node"
    have u4 := unl_len (decide (a.hour ∈ s.hours)) "hour"
    have u5 := unl_len (decide (a.place ∈ s.places)) "place"
    omega
  rw [e_reasons]
  unfold w_reasons
  cases it with
  | rule i =>
    have hr : rs[i]? = some rs[i] := List.getElem?_eq_getElem hi
    have hs := hR.sc rs[i] (List.getElem_mem hi)
    simp only [why, hr] at k
    ((conv => whnf); (try dsimp only))
    refine ⟨.inl rfl, ?_⟩
    rw [q_rl]
    ((conv => whnf); (try dsimp only))
    refine ⟨b, ups, doors, lots, rs, .rule i, rs[i].sc, rfl, B, .inl ⟨i, _, rfl, hr, rfl⟩, ?_⟩
    refine ⟨b, ups, doors, lots, _, _, a, rfl, B, hs.1, hs.2, a1, a2, ?_⟩
    ((conv => whnf); (try dsimp only))
    refine ⟨.inl rfl, ?_⟩
    rw [q_rd]
    exact back0 (clVs_strs _ _) k
  | door i =>
    have hr : doors[i]? = some doors[i] := List.getElem?_eq_getElem hi
    have hs := B.scD doors[i] (List.getElem_mem hi)
    simp only [why, hr] at k
    ((conv => whnf); (try dsimp only))
    refine ⟨.inl rfl, ?_⟩
    rw [q_dl]
    ((conv => whnf); (try dsimp only))
    refine ⟨b, ups, doors, lots, rs, .door i, doors[i].sc, rfl, B, .inr ⟨i, _, rfl, hr, rfl⟩, ?_⟩
    refine ⟨b, ups, doors, lots, _, _, a, rfl, B, hs.1, hs.2, a1, a2, ?_⟩
    ((conv => whnf); (try dsimp only))
    refine ⟨.inl rfl, ?_⟩
    rw [q_dd]
    ((conv => whnf); (try dsimp only))
    refine ⟨rfl, flatAll_ints _, ?_⟩
    simp only [memd_ints, if_true]
    by_cases c : (i : Int) ∈ sd.doors
    · rw [decide_eq_true c]
      simp only [decide_eq_true c, unl, if_true, List.nil_append] at k
      exact back0 (clVs_strs _ _) k
    · rw [decide_eq_false c]
      simp only [decide_eq_false c, unl, Bool.false_eq_true, if_false] at k
      ((conv => whnf); (try dsimp only))
      have hl := len ups doors[i].sc sd.roles a
      refine ⟨by show 1 ≤ sizeLine; decide, ?_⟩
      have : sizeLine = 2 ^ 24 := rfl
      refine ⟨?_, back0 (clVs_strs _ ("shut" :: scWhy ups doors[i].sc sd.roles a)) k⟩
      rw [List.length_map]
      show 1 + _ ≤ sizeLine
      omega
  | lot i =>
    have hr : lots[i]? = some lots[i] := List.getElem?_eq_getElem hi
    simp only [why, hr] at k
    ((conv => whnf); (try dsimp only))
    refine ⟨.inl rfl, ?_⟩
    rw [q_ll]
    ((conv => whnf); (try dsimp only))
    exact ⟨b, ups, doors, lots, i, _, _, a, rfl, B, hr, a1, a2, back0 (clVs_strs _ _) k⟩
end K05

set_option Elab.async false
set_option linter.all false
set_option maxRecDepth 100000
set_option maxHeartbeats 4000000
namespace K05
open PySem L2 DL
/-! ### forms: what is in form is found in form -/
theorem isa_of {d : Val} {S T : String} {b : Bool} {st : Store} {Q : DK} (h : tyName st d = some S) (k : kitB S T = some b) : isaV [d, .ty T] st Q = Q (.bl b) st := by
  unfold isaV
  simp only [h, k]
theorem isa_ii {i : Int} {st : Store} {Q : DK} : isaV [.int i, .ty "int"] st Q = Q (.bl true) st := isa_of rfl (by decide +kernel)
theorem isa_ib {i : Int} {st : Store} {Q : DK} : isaV [.int i, .ty "bool"] st Q = Q (.bl false) st := isa_of rfl (by decide +kernel)
theorem isa_it {i : Int} {st : Store} {Q : DK} : isaV [.int i, .ty "tuple"] st Q = Q (.bl false) st := isa_of rfl (by decide +kernel)
theorem isa_is {i : Int} {st : Store} {Q : DK} : isaV [.int i, .ty "str"] st Q = Q (.bl false) st := isa_of rfl (by decide +kernel)
theorem isa_tt {i : List Val} {st : Store} {Q : DK} : isaV [.tup i, .ty "tuple"] st Q = Q (.bl true) st := isa_of rfl (by decide +kernel)
theorem isa_bb {i : Bool} {st : Store} {Q : DK} : isaV [.bl i, .ty "bool"] st Q = Q (.bl true) st := isa_of rfl (by decide +kernel)
theorem isa_bt {i : Bool} {st : Store} {Q : DK} : isaV [.bl i, .ty "tuple"] st Q = Q (.bl false) st := isa_of rfl (by decide +kernel)
theorem isa_bs {i : Bool} {st : Store} {Q : DK} : isaV [.bl i, .ty "str"] st Q = Q (.bl false) st := isa_of rfl (by decide +kernel)
theorem isa_ss {i : Str} {st : Store} {Q : DK} : isaV [.str i, .ty "str"] st Q = Q (.bl true) st := isa_of rfl (by decide +kernel)
theorem isa_st {i : Str} {st : Store} {Q : DK} : isaV [.str i, .ty "tuple"] st Q = Q (.bl false) st := isa_of rfl (by decide +kernel)
def s_whole : DSp := fun ds st P => ∃ i : Int, ds = [.int i] ∧ P (.bl true) st
theorem v_whole (ds : List Val) (st : Store) (P : DK) (h : s_whole ds st P) : w_whole (defE st P) (startD N_whole ds) st := by
  obtain ⟨i, rfl, k⟩ := h
  rw [e_whole]
  unfold w_whole
  simp only [wRet, wAndV, wNotV, wCB, wCons, wVar, wC, wNil, List.getElem?_cons_zero, isa_ii, isa_ib]
  exact back0 rfl k
def s_in_range : DSp := fun ds st P => ∃ i lo hi : Int, ds = [.int i, .int lo, .int hi] ∧ lo ≤ i ∧ i ≤ hi ∧ P (.bl true) st
theorem v_in_range (ds : List Val) (st : Store) (P : DK) (h : s_in_range ds st P) : w_in_range s_whole (defE st P) (startD N_in_range ds) st := by
  obtain ⟨i, lo, hi, rfl, h1, h2, k⟩ := h
  rw [e_in_range]
  unfold w_in_range
  refine ⟨i, rfl, ?_⟩
  ((conv => whnf); (try dsimp only))
  rw [decide_eq_true h1]
  ((conv => whnf); (try dsimp only))
  rw [decide_eq_true h2]
  exact back0 rfl k
def s_is_row : DSp := fun ds st P => ∃ xs, ds = [.tup xs] ∧ P (.bl true) st
theorem v_is_row (ds : List Val) (st : Store) (P : DK) (h : s_is_row ds st P) : w_is_row (defE st P) (startD N_is_row ds) st := by
  obtain ⟨xs, rfl, k⟩ := h
  rw [e_is_row]
  unfold w_is_row
  simp only [wRet, wCB, wCons, wVar, wC, wNil, List.getElem?_cons_zero, isa_tt]
  exact back0 rfl k
def s_is_row_of : DSp := fun ds st P => ∃ xs n, ds = [.tup xs, .int n] ∧ n = xs.length ∧ P (.bl true) st
theorem v_is_row_of (ds : List Val) (st : Store) (P : DK) (h : s_is_row_of ds st P) : w_is_row_of s_is_row (defE st P) (startD N_is_row_of ds) st := by
  obtain ⟨xs, n, rfl, rfl, k⟩ := h
  rw [e_is_row_of]
  unfold w_is_row_of
  refine ⟨xs, rfl, ?_⟩
  ((conv => whnf); (try dsimp only))
  refine ⟨.inl rfl, ?_⟩
  simp only [eqd_int, Bool.false_eq_true, if_false, decide_true]
  exact back0 rfl k
def Asc (hi : Int) : Int → List Int → Prop
  | _, [] => True
  | lo, n :: ns => lo ≤ n ∧ n ≤ hi ∧ Asc hi (n + 1) ns
theorem Asc.mono {hi : Int} : ∀ {lo lo' : Int} {ns : List Int}, Asc hi lo ns → lo' ≤ lo → Asc hi lo' ns
  | _, _, [], _, _ => trivial
  | _, _, n :: ns, h, e => ⟨Int.le_trans e h.1, h.2⟩
theorem Asc.drop {hi : Int} : ∀ {lo : Int} {ns : List Int} (i : Nat), Asc hi lo ns → ∃ lo', lo ≤ lo' ∧ Asc hi lo' (ns.drop i)
  | lo, ns, 0, h => ⟨lo, Int.le_refl _, h⟩
  | lo, [], i + 1, h => ⟨lo, Int.le_refl _, trivial⟩
  | lo, n :: ns, i + 1, h => by
    obtain ⟨l, h1, h2⟩ := Asc.drop i h.2.2
    exact ⟨l, by have := h.1; omega, h2⟩
def s_ascending_row : DSp := fun ds st P => ∃ ns lo hi, ds = [tI ns, .int lo, .int hi] ∧ Asc hi lo ns ∧ P (.bl true) st
theorem v_ascending_row (ds : List Val) (st : Store) (P : DK) (h : s_ascending_row ds st P) : w_ascending_row s_in_range s_is_row (defE st P) (startD N_ascending_row ds) st := by
  obtain ⟨ns, lo, hi, rfl, ha, k⟩ := h
  rw [e_ascending_row]
  unfold w_ascending_row
  refine ⟨ns.map Val.int, rfl, ?_⟩
  ((conv => whnf); (try dsimp only))
  refine forD_ind (fun i env s => s = st ∧ ∃ (least : Int) (m : Option Val), env = [some (tI ns), some (.int lo), some (.int hi), some (.int least), m] ∧ Asc hi least (ns.drop i)) (fun _ _ _ _ => rfl) ?_ ?_ ⟨rfl, lo, none, rfl, ha⟩
  · rintro i d env s hd ⟨rfl, least, m, rfl, hs⟩ N hN
    rw [List.getElem?_map] at hd
    obtain ⟨n, hn, rfl⟩ := Option.map_eq_some_iff.mp hd
    have hlt := (List.getElem?_eq_some_iff.mp hn).1
    rw [List.drop_eq_getElem_cons hlt] at hs
    have e : ns[i] = n := (List.getElem?_eq_some_iff.mp hn).2
    rw [e] at hs
    refine ⟨_, rfl, ?_⟩
    refine ⟨n, least, hi, rfl, hs.1, hs.2.1, ?_⟩
    ((conv => whnf); (try dsimp only))
    exact hN _ _ ⟨rfl, n + 1, _, rfl, hs.2.2⟩
  · rintro env s ⟨rfl, least, m, rfl, hs⟩
    exact back0 rfl k
def ScOk (h p n r : Int) (s : Sc) : Prop := -1 ≤ s.role ∧ s.role ≤ r - 1 ∧ Asc 12 0 s.verbs ∧ 0 ≤ s.node ∧ s.node ≤ n - 1 ∧ 0 ≤ s.deep ∧ s.deep ≤ 1 ∧ Asc (h - 1) 0 s.hours ∧ Asc (p - 1) 0 s.places
def cntV (h p n r : Int) : Val := .tup [.int h, .int p, .int n, .int r]
def s_scope_form : DSp := fun ds st P => ∃ h p n r k s, ds = [cntV h p n r, .tup (.int k :: scL s)] ∧ 0 ≤ k ∧ k ≤ 3 ∧ ScOk h p n r s ∧ P (.bl true) st
theorem v_scope_form (ds : List Val) (st : Store) (P : DK) (h : s_scope_form ds st P) : w_scope_form s_ascending_row s_in_range (defE st P) (startD N_scope_form ds) st := by
  obtain ⟨h, p, n, r, kk, s, rfl, k0, k1, ⟨s1, s2, s3, s4, s5, s6, s7, s8, s9⟩, k⟩ := h
  rw [e_scope_form]
  unfold w_scope_form
  refine ⟨kk, 0, 3, rfl, k0, k1, ?_⟩
  refine ⟨s.role, -1, r - 1, rfl, s1, s2, ?_⟩
  refine ⟨s.verbs, 0, 12, rfl, s3, ?_⟩
  refine ⟨s.node, 0, n - 1, rfl, s4, s5, ?_⟩
  refine ⟨s.deep, 0, 1, rfl, s6, s7, ?_⟩
  refine ⟨s.hours, 0, h - 1, rfl, s8, ?_⟩
  refine ⟨s.places, 0, p - 1, rfl, s9, ?_⟩
  exact back0 rfl k
def RuleOk (h p n r : Int) (x : Rule) : Prop := 0 ≤ x.eff ∧ x.eff ≤ 1 ∧ 0 ≤ x.rank ∧ x.rank ≤ 3 ∧ ScOk h p n r x.sc
def DoorOk (h p n r : Int) (x : Door) : Prop := 0 ≤ x.rank ∧ x.rank ≤ 3 ∧ ScOk h p n r x.sc ∧ 1 ≤ x.life ∧ x.life ≤ 6
def s_rule_form : DSp := fun ds st P => ∃ h p n r x, ds = [cntV h p n r, ruleV x] ∧ RuleOk h p n r x ∧ P (.bl true) st
theorem v_rule_form (ds : List Val) (st : Store) (P : DK) (h : s_rule_form ds st P) : w_rule_form s_in_range s_is_row_of s_scope_form (defE st P) (startD N_rule_form ds) st := by
  obtain ⟨h, p, n, r, x, rfl, ⟨x1, x2, x3, x4, x5⟩, k⟩ := h
  rw [e_rule_form]
  unfold w_rule_form
  refine ⟨_, 8, rfl, rfl, ?_⟩
  refine ⟨x.eff, 0, 1, rfl, x1, x2, ?_⟩
  exact ⟨h, p, n, r, x.rank, x.sc, rfl, x3, x4, x5, back0 rfl k⟩
def s_door_form : DSp := fun ds st P => ∃ h p n r x, ds = [cntV h p n r, doorV x] ∧ DoorOk h p n r x ∧ P (.bl true) st
theorem v_door_form (ds : List Val) (st : Store) (P : DK) (h : s_door_form ds st P) : w_door_form s_in_range s_is_row_of s_scope_form (defE st P) (startD N_door_form ds) st := by
  obtain ⟨h, p, n, r, x, rfl, ⟨x1, x2, x3, x4, x5⟩, k⟩ := h
  rw [e_door_form]
  unfold w_door_form
  refine ⟨_, 8, rfl, rfl, ?_⟩
  refine ⟨x.life, 1, 6, rfl, x4, x5, ?_⟩
  exact ⟨h, p, n, r, x.rank, x.sc, rfl, x1, x2, x3, back0 rfl k⟩
end K05

set_option Elab.async false
set_option linter.all false
set_option maxRecDepth 100000
set_option maxHeartbeats 4000000
namespace K05
open PySem L2 DL
/-! ### comprehensions without a draw -/
theorem lc_filter {α : Type} {g : DTg} {wt : WT} {we : WE} {ok : Store → Prop} {env0 : Slots} {st : Store} {Q : List Val → Store → Prop} {e e2 : α → Val} (p : α → Bool) (hok : ok st) : ∀ (xs : List α) (acc : List Val),
    (∀ x ∈ xs, ∃ env, g (e x) env0 = some env ∧ (∀ T : Bool → Store → Prop, T (p x) st → wt env st T) ∧ (p x = true → ∀ Q' : DK, Q' (e2 x) st → we env st Q')) → Q (acc ++ (xs.filter p).map e2) st → lcD g wt we ok env0 (xs.map e) acc st Q
  | [], acc, _, q => by
    show Q acc st
    simpa using q
  | x :: xs, acc, h, q => by
    obtain ⟨env, h1, h2, h3⟩ := h x List.mem_cons_self
    refine ⟨env, h1, h2 _ ?_⟩
    cases c : p x with
    | true =>
      refine h3 c _ ⟨hok, lc_filter p hok xs _ (fun y hy => h y (List.mem_cons_of_mem _ hy)) ?_⟩
      rw [List.filter_cons_of_pos c] at q
      simpa using q
    | false =>
      refine ⟨hok, lc_filter p hok xs _ (fun y hy => h y (List.mem_cons_of_mem _ hy)) ?_⟩
      rw [List.filter_cons_of_neg (by rw [c]; decide)] at q
      exact q
theorem lc_maps {α : Type} {g : DTg} {we : WE} {ok : Store → Prop} {env0 : Slots} {st : Store} {Q : List Val → Store → Prop} {e e2 : α → Val} (hok : ok st) (xs : List α) (acc : List Val)
    (h : ∀ x ∈ xs, ∃ env, g (e x) env0 = some env ∧ ∀ Q' : DK, Q' (e2 x) st → we env st Q') (q : Q (acc ++ xs.map e2) st) : lcD g wYes we ok env0 (xs.map e) acc st Q := by
  refine lc_filter (e2 := e2) (fun _ => true) hok xs acc (fun x hx => ?_) (by rw [show xs.filter (fun _ => true) = xs by simp]; exact q)
  obtain ⟨env, h1, h2⟩ := h x hx
  exact ⟨env, h1, fun T t => t, fun _ => h2⟩
theorem blsOf_map {α : Type} (f : α → Bool) : ∀ xs : List α, blsOf (xs.map fun x => Val.bl (f x)) = some (xs.map f)
  | [] => rfl
  | x :: xs => by
    show (blsOf (xs.map fun x => Val.bl (f x))).map (f x :: ·) = _
    rw [blsOf_map f xs]
    rfl
theorem all_map {α : Type} {f : α → Bool} {xs : List α} {st : Store} {Q : DK} (h : Q (.bl (xs.all f)) st) : allW (xs.map fun x => Val.bl (f x)) st Q := by
  unfold allW
  rw [blsOf_map]
  simpa [List.all_map] using h
theorem any_map {α : Type} {f : α → Bool} {xs : List α} {st : Store} {Q : DK} (h : Q (.bl (xs.any f)) st) : anyW (xs.map fun x => Val.bl (f x)) st Q := by
  unfold anyW
  rw [blsOf_map]
  simpa [List.any_map] using h
/-! ### frames -/
structure Cl where
  kind : Int
  team : Int
  has : List Int
  hasnot : List Int
  below : Int
def clauseV (c : Cl) : Val := .tup [.int c.kind, .int c.team, tI c.has, tI c.hasnot, .int c.below]
def quadV (q : Int × Int × Int × Int) : Val := .tup [.int q.1, .int q.2.1, .int q.2.2.1, .int q.2.2.2]
def tripV (q : Int × Int × Int) : Val := .tup [.int q.1, .int q.2.1, .int q.2.2]
def kindV (k : Int × List Int) : Val := .tup [.int k.1, tI k.2]
def roleV (cs : List Cl) : Val := .tup (cs.map clauseV)
structure Fr where
  nums : List Int
  ups : List Int
  teams : List (Int × Int × Int × Int)
  marks : List (Int × Int × Int × Int)
  kinds : List (Int × List Int)
  roles : List (List Cl)
  parted : List (Int × Int)
  lots : List Lot
  doors : List Door
  glass : List (Int × Int × Int)
  cases : List (Int × List Int)
  homes : List Int
def frL (f : Fr) : List Val := [tI f.nums, tI f.ups, .tup (f.teams.map quadV), .tup (f.marks.map quadV), .tup (f.kinds.map kindV), .tup (f.roles.map roleV), .tup (f.parted.map pairD), .tup (f.lots.map lotV), .tup (f.doors.map doorV), .tup (f.glass.map tripV), .tup (f.cases.map kindV), tI f.homes]
def frV (f : Fr) : Val := .tup (frL f)
def Rl (f : Fr) (x : Int) : Prop := -1 ≤ x ∧ x < f.roles.length
def Mk (f : Fr) (ns : List Int) : Prop := Asc ((f.marks.length : Int) - 1) 0 ns
def Nd (f : Fr) (x : Int) : Prop := 0 ≤ x ∧ x < f.ups.length
def ClOk (f : Fr) (i : Nat) (c : Cl) : Prop := (-1 ≤ c.kind ∧ c.kind < f.kinds.length) ∧ (-1 ≤ c.team ∧ c.team < f.teams.length) ∧ Mk f c.has ∧ Mk f c.hasnot ∧ -1 ≤ c.below ∧ c.below < i
def LotOk (f : Fr) (l : Lot) : Prop := Nd f l.node ∧ Asc 12 0 l.verbs ∧ (0 ≤ l.rank ∧ l.rank ≤ 3) ∧ (0 ≤ l.depth ∧ l.depth ≤ 2) ∧ (1 ≤ l.life ∧ l.life ≤ 6) ∧ Rl f l.r1 ∧ Rl f l.r2 ∧ l.passes.length ≤ 3 ∧ ∀ p ∈ l.passes, Rl f p.1 ∧ Rl f p.2
def hoursOf (f : Fr) : Int := f.nums.getD 0 0
def placesOf (f : Fr) : Int := f.nums.getD 1 0
def pointsOf (f : Fr) : Int := f.nums.getD 2 0
structure FrOk (f : Fr) : Prop where
  nums : ∃ h p q a g l t, f.nums = [h, p, q, a, g, l, t] ∧ (1 ≤ h ∧ h ≤ 4) ∧ (1 ≤ p ∧ p ≤ 2) ∧ (1 ≤ q ∧ q ≤ 3) ∧ (1 ≤ a ∧ a ≤ 4) ∧ (1 ≤ g ∧ g ≤ 8) ∧ (1 ≤ l ∧ l ≤ 4) ∧ (1 ≤ t ∧ t ≤ 6) ∧ a ≤ g
  cUps : 1 ≤ f.ups.length ∧ f.ups.length ≤ 8
  cTeams : 1 ≤ f.teams.length ∧ f.teams.length ≤ 3
  cMarks : f.marks.length ≤ 3
  cKinds : 1 ≤ f.kinds.length ∧ f.kinds.length ≤ 3
  cRoles : f.roles.length ≤ 6
  cParted : f.parted.length ≤ 3
  cLots : f.lots.length ≤ 2
  cDoors : f.doors.length ≤ 2
  cGlass : f.glass.length ≤ 3
  cCases : f.cases.length ≤ 2
  cHomes : f.homes.length = f.ups.length
  ups0 : f.ups[0]? = some (-1)
  ups : ∀ (i : Nat) (x : Int), 0 < i → f.ups[i]? = some x → 0 ≤ x ∧ x < i
  teams : ∀ (i : Nat) q, f.teams[i]? = some q → -1 ≤ q.1 ∧ q.1 < i ∧ Nd f q.2.1 ∧ Rl f q.2.2.1 ∧ Rl f q.2.2.2
  marks : ∀ q ∈ f.marks, Nd f q.1 ∧ Rl f q.2.1 ∧ Rl f q.2.2.1 ∧ 1 ≤ q.2.2.2 ∧ q.2.2.2 ≤ 2
  kinds : ∀ k ∈ f.kinds, (0 ≤ k.1 ∧ k.1 < f.teams.length) ∧ Mk f k.2
  roles : ∀ (i : Nat) cs, f.roles[i]? = some cs → (1 ≤ cs.length ∧ cs.length ≤ 3) ∧ ∀ c ∈ cs, ClOk f i c
  parted : ∀ p ∈ f.parted, 0 ≤ p.1 ∧ p.1 < p.2 ∧ p.2 < f.roles.length
  partedUp : ∀ (i : Nat) p q, f.parted[i]? = some p → f.parted[i + 1]? = some q → p.1 < q.1 ∨ p.1 = q.1 ∧ p.2 < q.2
  lots : ∀ l ∈ f.lots, LotOk f l
  doors : ∀ d ∈ f.doors, DoorOk (hoursOf f) (placesOf f) f.ups.length f.roles.length d
  glass : ∀ q ∈ f.glass, Rl f q.1 ∧ (9 ≤ q.2.1 ∧ q.2.1 ≤ 12) ∧ Nd f q.2.2
  cases : ∀ (i : Nat) q, f.cases[i]? = some q → Nd f q.1 ∧ (1 ≤ q.2.length ∧ q.2.length ≤ 3) ∧ (∀ v ∈ q.2, 9 ≤ v ∧ v ≤ 12) ∧ ∀ j r, j < i → f.cases[j]? = some r → q.1 ≠ r.1
  homes : ∀ x ∈ f.homes, 0 ≤ x ∧ x < pointsOf f
def s_is_entry : DSp := fun ds st P => ∃ (f : Fr) (p : Nat) (xs : List Val) (x : Int), ds = [frV f, .int (p : Int), .int x] ∧ (frL f)[p]? = some (.tup xs) ∧ 0 ≤ x ∧ x < xs.length ∧ P (.bl true) st
def s_is_entry_or_none : DSp := fun ds st P => ∃ (f : Fr) (p : Nat) (xs : List Val) (x : Int), ds = [frV f, .int (p : Int), .int x] ∧ (frL f)[p]? = some (.tup xs) ∧ -1 ≤ x ∧ x < xs.length ∧ P (.bl true) st
theorem v_is_entry (ds : List Val) (st : Store) (P : DK) (h : s_is_entry ds st P) : w_is_entry s_in_range (defE st P) (startD N_is_entry ds) st := by
  obtain ⟨f, p, xs, x, rfl, hp, h1, h2, k⟩ := h
  rw [e_is_entry]
  unfold w_is_entry
  refine ixT (atI_nat (Int.natCast_nonneg p) (by rw [Int.toNat_natCast]; exact hp)) ?_
  exact ⟨x, 0, (xs.length : Int) - 1, rfl, h1, by omega, back0 rfl k⟩
theorem v_is_entry_or_none (ds : List Val) (st : Store) (P : DK) (h : s_is_entry_or_none ds st P) : w_is_entry_or_none s_in_range (defE st P) (startD N_is_entry_or_none ds) st := by
  obtain ⟨f, p, xs, x, rfl, hp, h1, h2, k⟩ := h
  rw [e_is_entry_or_none]
  unfold w_is_entry_or_none
  refine ixT (atI_nat (Int.natCast_nonneg p) (by rw [Int.toNat_natCast]; exact hp)) ?_
  exact ⟨x, -1, (xs.length : Int) - 1, rfl, h1, by omega, back0 rfl k⟩
def s_is_mark_row : DSp := fun ds st P => ∃ f ns, ds = [frV f, tI ns] ∧ Mk f ns ∧ P (.bl true) st
theorem v_is_mark_row (ds : List Val) (st : Store) (P : DK) (h : s_is_mark_row ds st P) : w_is_mark_row s_ascending_row (defE st P) (startD N_is_mark_row ds) st := by
  obtain ⟨f, ns, rfl, h1, k⟩ := h
  rw [e_is_mark_row]
  unfold w_is_mark_row
  refine ⟨ns, 0, ((f.marks.map quadV).length : Int) - 1, rfl, ?_, back0 rfl k⟩
  rw [List.length_map]
  exact h1
def s_is_verb_row : DSp := fun ds st P => ∃ ns, ds = [tI ns] ∧ Asc 12 0 ns ∧ P (.bl true) st
theorem v_is_verb_row (ds : List Val) (st : Store) (P : DK) (h : s_is_verb_row ds st P) : w_is_verb_row s_ascending_row (defE st P) (startD N_is_verb_row ds) st := by
  obtain ⟨ns, rfl, h1, k⟩ := h
  rw [e_is_verb_row]
  unfold w_is_verb_row
  exact ⟨ns, 0, 12, rfl, h1, back0 rfl k⟩
def s_are_roles : DSp := fun ds st P => ∃ f ns, ds = [frV f, tI ns] ∧ (∀ x ∈ ns, Rl f x) ∧ P (.bl true) st
theorem v_are_roles (ds : List Val) (st : Store) (P : DK) (h : s_are_roles ds st P) : w_are_roles s_is_entry_or_none (defE st P) (startD N_are_roles ds) st := by
  obtain ⟨f, ns, rfl, h1, k⟩ := h
  rw [e_are_roles]
  unfold w_are_roles
  ((conv => whnf); (try dsimp only))
  refine lc_maps (e2 := fun _ => Val.bl true) (by rfl) ns [] (fun x hx => ⟨_, rfl, fun Q' q => ?_⟩) ?_
  · refine ⟨f, 5, _, x, rfl, rfl, (h1 x hx).1, ?_, q⟩
    rw [List.length_map]
    exact (h1 x hx).2
  · refine all_map (f := fun _ => true) ?_
    refine back0 rfl ?_
    have e : (ns.all fun _ => true) = true := by simp
    rw [e]
    exact k
def s_counts_of : DSp := fun ds st P => ∃ f, ds = [frV f] ∧ FrOk f ∧ P (cntV (hoursOf f) (placesOf f) f.ups.length f.roles.length) st
theorem v_counts_of (ds : List Val) (st : Store) (P : DK) (h : s_counts_of ds st P) : w_counts_of (defE st P) (startD N_counts_of ds) st := by
  obtain ⟨f, rfl, F, k⟩ := h
  obtain ⟨h, p, q, a, g, l, t, hn, _⟩ := F.nums
  have e1 : hoursOf f = h := by rw [hoursOf, hn]; rfl
  have e2 : placesOf f = p := by rw [placesOf, hn]; rfl
  rw [e1, e2] at k
  rw [e_counts_of]
  unfold w_counts_of
  have e : frV f = .tup [tI [h, p, q, a, g, l, t], tI f.ups, .tup (f.teams.map quadV), .tup (f.marks.map quadV), .tup (f.kinds.map kindV), .tup (f.roles.map roleV), .tup (f.parted.map pairD), .tup (f.lots.map lotV), .tup (f.doors.map doorV), .tup (f.glass.map tripV), .tup (f.cases.map kindV), tI f.homes] := by
    unfold frV frL
    rw [hn]
  rw [e]
  refine ⟨by show 4 ≤ sizeLine; decide, ?_⟩
  refine back0 rfl ?_
  rw [List.length_map, List.length_map]
  exact k
end K05

set_option Elab.async false
set_option linter.all false
set_option maxRecDepth 100000
set_option maxHeartbeats 4000000
namespace K05
open PySem L2 DL
/-- the entries of part p are in form -/
def s_form (p : Nat) : DSp := fun ds st P => ∃ f xs i x, ds = [frV f, .int ((i : Nat) : Int), x] ∧ FrOk f ∧ (frL f)[p]? = some (.tup xs) ∧ xs[i]? = some x ∧ P (.bl true) st
theorem of_map {α : Type} {e : α → Val} {xs : List α} {ys : List Val} {i : Nat} {d : Val} (h : some (Val.tup (xs.map e)) = some (Val.tup ys)) (hd : ys[i]? = some d) : ∃ x, xs[i]? = some x ∧ d = e x := by
  cases h
  rw [List.getElem?_map] at hd
  obtain ⟨x, h1, h2⟩ := Option.map_eq_some_iff.mp hd
  exact ⟨x, h1, h2.symm⟩
theorem v_node_form (ds : List Val) (st : Store) (P : DK) (h : s_form 1 ds st P) : w_node_form s_in_range (defE st P) (startD N_node_form ds) st := by
  obtain ⟨f, xs, i, x, rfl, F, hp, hx, k⟩ := h
  obtain ⟨n, hn, rfl⟩ := of_map (e := Val.int) hp hx
  rw [e_node_form]
  unfold w_node_form
  refine ⟨.inl rfl, ?_⟩
  simp only [eqd_int, Bool.false_eq_true, if_false]
  by_cases c : i = 0
  · subst c
    rw [F.ups0] at hn
    cases hn
    rw [decide_eq_true (by rfl)]
    exact ⟨-1, -1, -1, rfl, by omega, by omega, back0 rfl k⟩
  · rw [decide_eq_false (by omega)]
    have := F.ups i n (by omega) hn
    exact ⟨n, 0, (i : Int) - 1, rfl, this.1, by omega, back0 rfl k⟩
theorem v_team_form (ds : List Val) (st : Store) (P : DK) (h : s_form 2 ds st P) : w_team_form s_are_roles s_in_range s_is_entry s_is_row_of (defE st P) (startD N_team_form ds) st := by
  obtain ⟨f, xs, i, x, rfl, F, hp, hx, k⟩ := h
  obtain ⟨q, hq, rfl⟩ := of_map (e := quadV) hp hx
  obtain ⟨h1, h2, h3, h4, h5⟩ := F.teams i q hq
  rw [e_team_form]
  unfold w_team_form
  refine ⟨_, 4, rfl, rfl, ?_⟩
  refine ⟨q.1, -1, (i : Int) - 1, rfl, h1, by omega, ?_⟩
  refine ⟨f, 1, _, q.2.1, rfl, rfl, h3.1, by rw [List.length_map]; exact h3.2, ?_⟩
  refine ⟨f, [q.2.2.1, q.2.2.2], rfl, fun x hx => ?_, back0 rfl k⟩
  rcases List.mem_cons.mp hx with rfl | hx
  · exact h4
  · rw [List.mem_singleton.mp hx]; exact h5
theorem v_mark_form (ds : List Val) (st : Store) (P : DK) (h : s_form 3 ds st P) : w_mark_form s_are_roles s_in_range s_is_entry s_is_row_of (defE st P) (startD N_mark_form ds) st := by
  obtain ⟨f, xs, i, x, rfl, F, hp, hx, k⟩ := h
  obtain ⟨q, hq, rfl⟩ := of_map (e := quadV) hp hx
  obtain ⟨h1, h2, h3, h4, h5⟩ := F.marks q (List.mem_of_getElem? hq)
  rw [e_mark_form]
  unfold w_mark_form
  refine ⟨_, 4, rfl, rfl, ?_⟩
  refine ⟨f, 1, _, q.1, rfl, rfl, h1.1, by rw [List.length_map]; exact h1.2, ?_⟩
  refine ⟨f, [q.2.1, q.2.2.1], rfl, fun x hx => ?_, ?_⟩
  · rcases List.mem_cons.mp hx with rfl | hx
    · exact h2
    · rw [List.mem_singleton.mp hx]; exact h3
  exact ⟨q.2.2.2, 1, 2, rfl, h4, h5, back0 rfl k⟩
theorem v_kind_form (ds : List Val) (st : Store) (P : DK) (h : s_form 4 ds st P) : w_kind_form s_is_entry s_is_mark_row s_is_row_of (defE st P) (startD N_kind_form ds) st := by
  obtain ⟨f, xs, i, x, rfl, F, hp, hx, k⟩ := h
  obtain ⟨q, hq, rfl⟩ := of_map (e := kindV) hp hx
  obtain ⟨h1, h2⟩ := F.kinds q (List.mem_of_getElem? hq)
  rw [e_kind_form]
  unfold w_kind_form
  refine ⟨_, 2, rfl, rfl, ?_⟩
  refine ⟨f, 2, _, q.1, rfl, rfl, h1.1, by rw [List.length_map]; exact h1.2, ?_⟩
  exact ⟨f, q.2, rfl, h2, back0 rfl k⟩
def s_clause_form : DSp := fun ds st P => ∃ f i c, ds = [frV f, .int ((i : Nat) : Int), clauseV c] ∧ FrOk f ∧ ClOk f i c ∧ P (.bl true) st
theorem v_clause_form (ds : List Val) (st : Store) (P : DK) (h : s_clause_form ds st P) : w_clause_form s_in_range s_is_entry_or_none s_is_mark_row s_is_row_of (defE st P) (startD N_clause_form ds) st := by
  obtain ⟨f, i, c, rfl, F, ⟨h1, h2, h3, h4, h5, h6⟩, k⟩ := h
  rw [e_clause_form]
  unfold w_clause_form
  refine ⟨_, 5, rfl, rfl, ?_⟩
  refine ⟨f, 4, _, c.kind, rfl, rfl, h1.1, by rw [List.length_map]; exact h1.2, ?_⟩
  refine ⟨f, 2, _, c.team, rfl, rfl, h2.1, by rw [List.length_map]; exact h2.2, ?_⟩
  refine ⟨f, c.has, rfl, h3, ?_⟩
  refine ⟨f, c.hasnot, rfl, h4, ?_⟩
  exact ⟨c.below, -1, (i : Int) - 1, rfl, h5, by omega, back0 rfl k⟩
theorem v_role_form (ds : List Val) (st : Store) (P : DK) (h : s_form 5 ds st P) : w_role_form s_clause_form s_is_row (defE st P) (startD N_role_form ds) st := by
  obtain ⟨f, xs, i, x, rfl, F, hp, hx, k⟩ := h
  obtain ⟨cs, hq, rfl⟩ := of_map (e := roleV) hp hx
  obtain ⟨h1, h2⟩ := F.roles i cs hq
  rw [e_role_form]
  unfold w_role_form
  refine ⟨_, rfl, ?_⟩
  ((conv => whnf); (try dsimp only))
  rw [List.length_map, decide_eq_true (by omega)]
  ((conv => whnf); (try dsimp only))
  rw [decide_eq_true (by omega)]
  ((conv => whnf); (try dsimp only))
  refine lc_maps (e2 := fun _ => Val.bl true) (by rfl) cs [] (fun c hc => ⟨_, rfl, fun Q' q => ?_⟩) ?_
  · exact ⟨f, i, c, rfl, F, h2 c hc, q⟩
  · refine all_map (f := fun _ => true) ?_
    have e : (cs.all fun _ => true) = true := by simp
    rw [e]
    exact back0 rfl k
theorem v_parted_form (ds : List Val) (st : Store) (P : DK) (h : s_form 6 ds st P) : w_parted_form s_in_range s_is_entry s_is_row_of (defE st P) (startD N_parted_form ds) st := by
  obtain ⟨f, xs, i, x, rfl, F, hp, hx, k⟩ := h
  obtain ⟨q, hq, rfl⟩ := of_map (e := pairD) hp hx
  obtain ⟨h1, h2, h3⟩ := F.parted q (List.mem_of_getElem? hq)
  rw [e_parted_form]
  unfold w_parted_form
  refine ⟨_, 2, rfl, rfl, ?_⟩
  refine ⟨f, 5, _, q.1, rfl, rfl, h1, by rw [List.length_map]; omega, ?_⟩
  refine ⟨q.2, q.1 + 1, ((f.roles.map roleV).length : Int) - 1, rfl, by omega, by rw [List.length_map]; omega, ?_⟩
  refine ⟨.inl rfl, ?_⟩
  simp only [eqd_int, Bool.false_eq_true, if_false]
  by_cases c : i = 0
  · subst c
    exact back0 rfl k
  · rw [decide_eq_false (by omega)]
    have hj : i - 1 < f.parted.length := by
      have := (List.getElem?_eq_some_iff.mp hq).1
      omega
    have hr := List.getElem?_eq_getElem hj
    have up := F.partedUp (i - 1) _ q hr (by rw [show i - 1 + 1 = i by omega]; exact hq)
    ((conv => whnf); (try dsimp only))
    rw [show ((i : Int) - 1) = ((i - 1 : Nat) : Int) by omega, atD hr]
    have e : gtI [q.1, q.2] [f.parted[i - 1].1, f.parted[i - 1].2] = true := by
      show (if decide (q.1 = f.parted[i - 1].1) = true then (if decide (q.2 = f.parted[i - 1].2) = true then decide (2 > 2) else decide (f.parted[i - 1].2 < q.2)) else decide (f.parted[i - 1].1 < q.1)) = true
      rcases up with u | ⟨u1, u2⟩
      · rw [if_neg (by simp; omega)]
        exact decide_eq_true u
      · rw [if_pos (by simp; omega), if_neg (by simp; omega)]
        exact decide_eq_true u2
    show Back st P (.bl (gtI [q.1, q.2] [f.parted[i - 1].1, f.parted[i - 1].2])) st
    rw [e]
    exact back0 rfl k
def s_pass_form : DSp := fun ds st P => ∃ f p, ds = [frV f, pairD p] ∧ Rl f p.1 ∧ Rl f p.2 ∧ P (.bl true) st
theorem v_pass_form (ds : List Val) (st : Store) (P : DK) (h : s_pass_form ds st P) : w_pass_form s_are_roles s_is_row_of (defE st P) (startD N_pass_form ds) st := by
  obtain ⟨f, p, rfl, h1, h2, k⟩ := h
  rw [e_pass_form]
  unfold w_pass_form
  refine ⟨_, 2, rfl, rfl, ?_⟩
  refine ⟨f, [p.1, p.2], rfl, fun x hx => ?_, back0 rfl k⟩
  rcases List.mem_cons.mp hx with rfl | hx
  · exact h1
  · rw [List.mem_singleton.mp hx]; exact h2
theorem v_lot_form (ds : List Val) (st : Store) (P : DK) (h : s_form 7 ds st P) : w_lot_form s_are_roles s_in_range s_is_entry s_is_row s_is_row_of s_is_verb_row s_pass_form (defE st P) (startD N_lot_form ds) st := by
  obtain ⟨f, xs, i, x, rfl, F, hp, hx, k⟩ := h
  obtain ⟨l, hq, rfl⟩ := of_map (e := lotV) hp hx
  obtain ⟨h1, h2, h3, h4, h5, h6, h7, h8, h9⟩ := F.lots l (List.mem_of_getElem? hq)
  rw [e_lot_form]
  unfold w_lot_form
  refine ⟨_, 8, rfl, rfl, ?_⟩
  refine ⟨f, 1, _, l.node, rfl, rfl, h1.1, by rw [List.length_map]; exact h1.2, ?_⟩
  refine ⟨l.verbs, rfl, h2, ?_⟩
  refine ⟨l.rank, 0, 3, rfl, h3.1, h3.2, ?_⟩
  refine ⟨l.depth, 0, 2, rfl, h4.1, h4.2, ?_⟩
  refine ⟨l.life, 1, 6, rfl, h5.1, h5.2, ?_⟩
  refine ⟨f, [l.r1, l.r2], rfl, fun x hx => ?_, ?_⟩
  · rcases List.mem_cons.mp hx with rfl | hx
    · exact h6
    · rw [List.mem_singleton.mp hx]; exact h7
  refine ⟨_, rfl, ?_⟩
  ((conv => whnf); (try dsimp only))
  rw [List.length_map, decide_eq_false (by omega)]
  ((conv => whnf); (try dsimp only))
  refine lc_maps (e2 := fun _ => Val.bl true) (by rfl) l.passes [] (fun c hc => ⟨_, rfl, fun Q' q => ?_⟩) ?_
  · exact ⟨f, c, rfl, (h9 c hc).1, (h9 c hc).2, q⟩
  · refine all_map (f := fun _ => true) ?_
    have e : (l.passes.all fun _ => true) = true := by simp
    rw [e]
    exact back0 rfl k
theorem v_door_entry_form (ds : List Val) (st : Store) (P : DK) (h : s_form 8 ds st P) : w_door_entry_form s_counts_of s_door_form (defE st P) (startD N_door_entry_form ds) st := by
  obtain ⟨f, xs, i, x, rfl, F, hp, hx, k⟩ := h
  obtain ⟨d, hq, rfl⟩ := of_map (e := doorV) hp hx
  have h1 := F.doors d (List.mem_of_getElem? hq)
  rw [e_door_entry_form]
  unfold w_door_entry_form
  refine ⟨f, rfl, F, ?_⟩
  exact ⟨_, _, _, _, d, rfl, h1, back0 rfl k⟩
def s_is_ordinary : DSp := fun ds st P => ∃ x : Int, ds = [.int x] ∧ 9 ≤ x ∧ x ≤ 12 ∧ P (.bl true) st
theorem v_is_ordinary (ds : List Val) (st : Store) (P : DK) (h : s_is_ordinary ds st P) : w_is_ordinary s_in_range (defE st P) (startD N_is_ordinary ds) st := by
  obtain ⟨x, rfl, h1, h2, k⟩ := h
  rw [e_is_ordinary]
  unfold w_is_ordinary
  exact ⟨x, 9, 12, rfl, h1, h2, back0 rfl k⟩
theorem v_glass_form (ds : List Val) (st : Store) (P : DK) (h : s_form 9 ds st P) : w_glass_form s_is_entry s_is_entry_or_none s_is_ordinary s_is_row_of (defE st P) (startD N_glass_form ds) st := by
  obtain ⟨f, xs, i, x, rfl, F, hp, hx, k⟩ := h
  obtain ⟨q, hq, rfl⟩ := of_map (e := tripV) hp hx
  obtain ⟨h1, h2, h3⟩ := F.glass q (List.mem_of_getElem? hq)
  rw [e_glass_form]
  unfold w_glass_form
  refine ⟨_, 3, rfl, rfl, ?_⟩
  refine ⟨f, 5, _, q.1, rfl, rfl, h1.1, by rw [List.length_map]; exact h1.2, ?_⟩
  refine ⟨q.2.1, rfl, h2.1, h2.2, ?_⟩
  exact ⟨f, 1, _, q.2.2, rfl, rfl, h3.1, by rw [List.length_map]; exact h3.2, back0 rfl k⟩
theorem cutD_to {xs : List Val} {i : Nat} (h : i ≤ xs.length) : cutD xs none (some (i : Int)) = xs.take i := by
  unfold cutD
  rw [HT.sIx_none, HT.sIx_nat, List.drop_zero, Nat.sub_zero, Nat.min_eq_left h]
theorem v_case_form (ds : List Val) (st : Store) (P : DK) (h : s_form 10 ds st P) : w_case_form s_is_entry s_is_ordinary s_is_row s_is_row_of (defE st P) (startD N_case_form ds) st := by
  obtain ⟨f, xs, i, x, rfl, F, hp, hx, k⟩ := h
  obtain ⟨q, hq, rfl⟩ := of_map (e := kindV) hp hx
  obtain ⟨h1, h2, h3, h4⟩ := F.cases i q hq
  have hi := (List.getElem?_eq_some_iff.mp hq).1
  rw [e_case_form]
  unfold w_case_form
  refine ⟨_, 2, rfl, rfl, ?_⟩
  refine ⟨f, 1, _, q.1, rfl, rfl, h1.1, by rw [List.length_map]; exact h1.2, ?_⟩
  ((conv => whnf); (try dsimp only))
  rw [cutD_to (by rw [List.length_map]; omega), ← List.map_take]
  refine lc_maps (e2 := fun r => Val.int r.1) (by rfl) (f.cases.take i) [] (fun c hc => ⟨_, rfl, fun Q' q' => by ((conv => whnf); (try dsimp only)); exact q'⟩) ?_
  ((conv => whnf); (try dsimp only))
  have em : ((f.cases.take i).map fun r => Val.int r.1) = ((f.cases.take i).map Prod.fst).map Val.int := by rw [List.map_map]; rfl
  refine ⟨rfl, ?_, ?_⟩
  · show flatAll ((f.cases.take i).map fun r => Val.int r.1) = true
    rw [em]
    exact flatAll_ints _
  show match memd (Val.int q.1) ((f.cases.take i).map fun r => Val.int r.1) with | true => _ | false => _
  have nm : ¬ q.1 ∈ (f.cases.take i).map Prod.fst := by
    intro m
    obtain ⟨r, hr, e⟩ := List.mem_map.mp m
    obtain ⟨j, hj⟩ := List.mem_iff_getElem?.mp hr
    rw [List.getElem?_take] at hj
    by_cases c : j < i
    · rw [if_pos c] at hj
      exact h4 j r c hj e.symm
    · rw [if_neg c] at hj; cases hj
  rw [em, memd_ints, decide_eq_false nm]
  ((conv => whnf); (try dsimp only))
  refine ⟨_, rfl, ?_⟩
  ((conv => whnf); (try dsimp only))
  rw [List.length_map, decide_eq_true (by omega)]
  ((conv => whnf); (try dsimp only))
  rw [decide_eq_true (by omega)]
  ((conv => whnf); (try dsimp only))
  refine lc_maps (e2 := fun _ => Val.bl true) (by rfl) q.2 [] (fun v hv => ⟨_, rfl, fun Q' q' => ?_⟩) ?_
  · exact ⟨v, rfl, (h3 v hv).1, (h3 v hv).2, q'⟩
  · refine all_map (f := fun _ => true) ?_
    have e : (q.2.all fun _ => true) = true := by simp
    rw [e]
    exact back0 rfl k
theorem v_home_form (ds : List Val) (st : Store) (P : DK) (h : s_form 11 ds st P) : w_home_form s_in_range (defE st P) (startD N_home_form ds) st := by
  obtain ⟨f, xs, i, x, rfl, F, hp, hx, k⟩ := h
  obtain ⟨n, hn, rfl⟩ := of_map (e := Val.int) hp hx
  obtain ⟨h1, h2⟩ := F.homes n (List.mem_of_getElem? hn)
  obtain ⟨hh, p, q, a, g, l, t, en, _⟩ := F.nums
  rw [e_home_form]
  unfold w_home_form
  ((conv => whnf); (try dsimp only))
  rw [en]
  have eq : pointsOf f = q := by rw [pointsOf, en]; rfl
  exact ⟨n, 0, q - 1, rfl, h1, by omega, back0 rfl k⟩
end K05

set_option Elab.async false
set_option linter.all false
set_option maxRecDepth 100000
set_option maxHeartbeats 4000000
namespace K05
open PySem L2 DL
/-! ### the counts, the numbers -/
def NRl : List (Int × Int) := [(1, 4), (1, 2), (1, 3), (1, 4), (1, 8), (1, 4), (1, 6)]
def CRl : List (Int × Int) := [(1, 8), (1, 3), (0, 3), (1, 3), (0, 6), (0, 3), (0, 2), (0, 2), (0, 3), (0, 2)]
theorem upTo_get' {lo : Int} {n i : Nat} {d : Val} (h : (DL.upTo lo n)[i]? = some d) : i < n ∧ d = .int (lo + (i : Int)) := upTo_get h
def s_numbers_form : DSp := fun ds st P => ∃ f, ds = [tI f.nums] ∧ FrOk f ∧ P (.bl true) st
theorem v_numbers_form (ds : List Val) (st : Store) (P : DK) (h : s_numbers_form ds st P) : w_numbers_form s_in_range (defE st P) (startD N_numbers_form ds) st := by
  obtain ⟨f, rfl, F, k⟩ := h
  obtain ⟨hh, p, q, a, g, l, t, en, h1, h2, h3, h4, h5, h6, h7, h8⟩ := F.nums
  have hR : ∀ (i : Nat) (n : Int) (r : Int × Int), f.nums[i]? = some n → NRl[i]? = some r → r.1 ≤ n ∧ n ≤ r.2 := by
    intro i n r e1 e2
    rw [en] at e1
    match i, e1, e2 with
    | 0, e1, e2 => cases e1; cases e2; exact h1
    | 1, e1, e2 => cases e1; cases e2; exact h2
    | 2, e1, e2 => cases e1; cases e2; exact h3
    | 3, e1, e2 => cases e1; cases e2; exact h4
    | 4, e1, e2 => cases e1; cases e2; exact h5
    | 5, e1, e2 => cases e1; cases e2; exact h6
    | 6, e1, e2 => cases e1; cases e2; exact h7
    | i + 7, e1, e2 => cases e1
  rw [e_numbers_form]
  unfold w_numbers_form
  have hl : f.nums.length = 7 := by rw [en]; rfl
  ((conv => whnf); (try dsimp only))
  rw [List.length_map, hl]
  refine ⟨.inl rfl, ?_⟩
  ((conv => whnf); (try dsimp only))
  refine ⟨rfl, ?_⟩
  refine forD_ind (fun i env s => s = st ∧ ∃ x y z, env = [some (tI f.nums), x, y, z]) (fun _ _ _ _ => ⟨rfl, rfl⟩) ?_ ?_ ⟨rfl, none, none, none, rfl⟩
  · rintro i d env s hd ⟨rfl, x, y, z, rfl⟩ N hN
    obtain ⟨e, e2, h1, h2, rfl⟩ := zipD_get hd
    rw [List.getElem?_map] at h1 h2
    obtain ⟨n, hn, rfl⟩ := Option.map_eq_some_iff.mp h1
    obtain ⟨r, hr, rfl⟩ := Option.map_eq_some_iff.mp h2
    have := hR i n r hn hr
    refine ⟨_, rfl, ?_⟩
    exact ⟨n, r.1, r.2, rfl, this.1, this.2, hN _ _ ⟨rfl, _, _, _, rfl⟩⟩
  · rintro env s ⟨rfl, x, y, z, rfl⟩
    ((conv => whnf); (try dsimp only))
    rw [en]
    ((conv => whnf); (try dsimp only))
    rw [decide_eq_true h8]
    exact back0 rfl k
theorem cnt_ok {f : Fr} (F : FrOk f) : ∀ i, i < 10 → ∃ xs r, (frL f)[i + 1]? = some (.tup xs) ∧ CRl[i]? = some r ∧ r.1 ≤ (xs.length : Int) ∧ (xs.length : Int) ≤ r.2 := by
  have c1 := F.cUps
  have c2 := F.cTeams
  have c3 := F.cMarks
  have c4 := F.cKinds
  have c5 := F.cRoles
  have c6 := F.cParted
  have c7 := F.cLots
  have c8 := F.cDoors
  have c9 := F.cGlass
  have c10 := F.cCases
  intro i hi
  match i, hi with
  | 0, _ => exact ⟨_, _, rfl, rfl, by rw [List.length_map]; show (1 : Int) ≤ _; omega, by rw [List.length_map]; show _ ≤ (8 : Int); omega⟩
  | 1, _ => exact ⟨_, _, rfl, rfl, by rw [List.length_map]; show (1 : Int) ≤ _; omega, by rw [List.length_map]; show _ ≤ (3 : Int); omega⟩
  | 2, _ => exact ⟨_, _, rfl, rfl, by rw [List.length_map]; show (0 : Int) ≤ _; omega, by rw [List.length_map]; show _ ≤ (3 : Int); omega⟩
  | 3, _ => exact ⟨_, _, rfl, rfl, by rw [List.length_map]; show (1 : Int) ≤ _; omega, by rw [List.length_map]; show _ ≤ (3 : Int); omega⟩
  | 4, _ => exact ⟨_, _, rfl, rfl, by rw [List.length_map]; show (0 : Int) ≤ _; omega, by rw [List.length_map]; show _ ≤ (6 : Int); omega⟩
  | 5, _ => exact ⟨_, _, rfl, rfl, by rw [List.length_map]; show (0 : Int) ≤ _; omega, by rw [List.length_map]; show _ ≤ (3 : Int); omega⟩
  | 6, _ => exact ⟨_, _, rfl, rfl, by rw [List.length_map]; show (0 : Int) ≤ _; omega, by rw [List.length_map]; show _ ≤ (2 : Int); omega⟩
  | 7, _ => exact ⟨_, _, rfl, rfl, by rw [List.length_map]; show (0 : Int) ≤ _; omega, by rw [List.length_map]; show _ ≤ (2 : Int); omega⟩
  | 8, _ => exact ⟨_, _, rfl, rfl, by rw [List.length_map]; show (0 : Int) ≤ _; omega, by rw [List.length_map]; show _ ≤ (3 : Int); omega⟩
  | 9, _ => exact ⟨_, _, rfl, rfl, by rw [List.length_map]; show (0 : Int) ≤ _; omega, by rw [List.length_map]; show _ ≤ (2 : Int); omega⟩
def emptyS : Val := .str ""
def s_count_fault : DSp := fun ds st P => ∃ f rs, ds = [frV f, rulesV rs] ∧ FrOk f ∧ rs.length ≤ 12 ∧ P emptyS st
theorem v_count_fault (ds : List Val) (st : Store) (P : DK) (h : s_count_fault ds st P) : w_count_fault (defE st P) (startD N_count_fault ds) st := by
  obtain ⟨f, rs, rfl, F, hr, k⟩ := h
  have c11 := F.cHomes
  rw [e_count_fault]
  unfold w_count_fault
  ((conv => whnf); (try dsimp only))
  refine ⟨⟨by decide, by decide, by decide, by decide, by decide⟩, ?_⟩
  refine forD_ind (fun i env s => s = st ∧ ∃ x y z, env = [some (frV f), some (rulesV rs), x, y, z]) (fun _ _ _ _ => trivial) ?_ ?_ ⟨rfl, none, none, none, rfl⟩
  · rintro i d env s hd ⟨rfl, x, y, z, rfl⟩ N hN
    obtain ⟨hi, rfl⟩ := upTo_get' hd
    have hi : i < 10 := hi
    obtain ⟨xs, r, e1, e2, e3, e4⟩ := cnt_ok F i hi
    refine ⟨_, rfl, ?_⟩
    have eC : atI (CRl.map pairD) ((1 : Int) + (i : Int) - 1) = some (pairD r) := by
      refine atI_nat (by omega) ?_
      rw [show ((1 : Int) + (i : Int) - 1).toNat = i by omega, List.getElem?_map, e2]
      rfl
    ((conv => whnf); (try dsimp only))
    erw [eC]
    ((conv => whnf); (try dsimp only))
    rw [show atI (frL f) ((1 : Int) + (i : Int)) = some (.tup xs) from atI_nat (by omega) (by rw [show ((1 : Int) + (i : Int)).toNat = i + 1 by omega]; exact e1)]
    ((conv => whnf); (try dsimp only))
    rw [decide_eq_true e3]
    ((conv => whnf); (try dsimp only))
    rw [decide_eq_true e4]
    exact hN _ _ ⟨rfl, _, _, _, rfl⟩
  · rintro env s ⟨rfl, x, y, z, rfl⟩
    ((conv => whnf); (try dsimp only))
    refine ⟨.inl rfl, ?_⟩
    rw [List.length_map, List.length_map, F.cHomes]
    simp only [eqd_int, if_true, decide_true]
    ((conv => whnf); (try dsimp only))
    rw [List.length_map, decide_eq_false (by omega)]
    exact back0 rfl k
/-! ### the entries -/
def eNm (i : Nat) : Str := eNames.getD i ""
/-- which defs the forms are -/
def tblE (K : PySem.W.Frag) (a : Addr) (s : DSp) : Prop := ∃ i, i < 11 ∧ a = He.ga K (eNm i) ∧ s = s_form (i + 1)
theorem ent_ok {f : Fr} (F : FrOk f) : ∀ i, i < 11 → ∃ xs, (frL f)[i + 1]? = some (.tup xs) := by
  intro i hi
  match i, hi with
  | 0, _ => exact ⟨_, rfl⟩
  | 1, _ => exact ⟨_, rfl⟩
  | 2, _ => exact ⟨_, rfl⟩
  | 3, _ => exact ⟨_, rfl⟩
  | 4, _ => exact ⟨_, rfl⟩
  | 5, _ => exact ⟨_, rfl⟩
  | 6, _ => exact ⟨_, rfl⟩
  | 7, _ => exact ⟨_, rfl⟩
  | 8, _ => exact ⟨_, rfl⟩
  | 9, _ => exact ⟨_, rfl⟩
  | 10, _ => exact ⟨_, rfl⟩
theorem ef_ok (K : PySem.W.Frag) {i : Nat} (hi : i < 11) : atI (eNames.map fun x => Val.adr (He.ga K x)) ((1 : Int) + (i : Int) - 1) = some (.adr (He.ga K (eNm i))) := by
  refine atI_nat (by omega) ?_
  have h : i < eNames.length := hi
  rw [show ((1 : Int) + (i : Int) - 1).toNat = i by omega, List.getElem?_map, List.getElem?_eq_getElem h]
  unfold eNm
  rw [List.getD_eq_getElem?_getD, List.getElem?_eq_getElem h]
  rfl
def RsOk (f : Fr) (rs : List Rule) : Prop := ∀ r ∈ rs, RuleOk (hoursOf f) (placesOf f) f.ups.length f.roles.length r
def s_entry_fault : DSp := fun ds st P => ∃ f rs, ds = [frV f, rulesV rs] ∧ FrOk f ∧ RsOk f rs ∧ P emptyS st
theorem v_entry_fault (K : PySem.W.Frag) (ds : List Val) (st : Store) (P : DK) (h : s_entry_fault ds st P) : w_entry_fault K (tblE K) s_counts_of s_rule_form (defE st P) (startD N_entry_fault ds) st := by
  obtain ⟨f, rs, rfl, F, hr, k⟩ := h
  rw [e_entry_fault]
  unfold w_entry_fault
  ((conv => whnf); (try dsimp only))
  refine ⟨⟨by decide, by decide, by decide, by decide, by decide⟩, ?_⟩
  refine forD_ind (fun i env s => s = st ∧ ∃ a b c d, env = [some (frV f), some (rulesV rs), a, b, c, d, none]) (fun _ _ _ _ => trivial) ?_ ?_ ⟨rfl, none, none, none, none, rfl⟩
  · rintro i d env s hd ⟨rfl, a, b, c, e, rfl⟩ N hN
    obtain ⟨hi, rfl⟩ := upTo_get' hd
    have hi : i < 11 := hi
    obtain ⟨xs, e1⟩ := ent_ok F i hi
    refine ⟨_, rfl, ?_⟩
    ((conv => whnf); (try dsimp only))
    erw [ef_ok K hi]
    ((conv => whnf); (try dsimp only))
    erw [show atI (frL f) ((1 : Int) + (i : Int)) = some (.tup xs) from atI_nat (by omega) (by rw [show ((1 : Int) + (i : Int)).toNat = i + 1 by omega]; exact e1)]
    ((conv => whnf); (try dsimp only))
    refine forD_ind (fun j env' s' => s' = s ∧ ∃ c d, env' = [some (frV f), some (rulesV rs), some (.int (1 + (i : Int))), some (.adr (He.ga K (eNm i))), c, d, none]) (fun _ _ _ _ => rfl) ?_ ?_ ⟨rfl, c, e, rfl⟩
    · rintro j d env' s' hd ⟨rfl, c, e, rfl⟩ N' hN'
      obtain ⟨x, hx, rfl⟩ := enumD_get hd
      refine ⟨_, rfl, ?_⟩
      refine ⟨s_form (i + 1), ⟨i, hi, rfl, rfl⟩, ?_⟩
      refine ⟨f, xs, j, x, ?_, F, e1, hx, ?_⟩
      · rw [Nat.zero_add]
      exact hN' _ _ ⟨rfl, _, _, rfl⟩
    · rintro env' s' ⟨rfl, c, e, rfl⟩
      exact hN _ _ ⟨rfl, _, _, _, _, rfl⟩
  · rintro env s ⟨rfl, a, b, c, e, rfl⟩
    ((conv => whnf); (try dsimp only))
    refine lc_maps (e2 := fun _ => Val.bl true) (by rfl) rs [] (fun r hx => ⟨_, rfl, fun Q' q => ?_⟩) ?_
    · refine ⟨f, rfl, F, ?_⟩
      exact ⟨_, _, _, _, r, rfl, hr r hx, q⟩
    · refine all_map (f := fun _ => true) ?_
      have e : (rs.all fun _ => true) = true := by simp
      rw [e]
      exact back0 rfl k
end K05

set_option Elab.async false
set_option linter.all false
set_option maxRecDepth 100000
set_option maxHeartbeats 4000000
namespace K05
open PySem L2 DL
/-! ### who has which role -/
theorem itemsL {st : Store} {n : Nat} {ds : List Val} (h : st[n]? = some (Cell.lst ds)) : itemsOf st (.loc n) = some ds := by
  unfold itemsOf
  simp only [h]
abbrev Base := Int × Int × List Int
def baseV (b : Base) : Val := .tup [.int b.1, .int b.2.1, tI b.2.2]
def clH (tp : List Int) (b : Base) (had : List Int) (c : Cl) : Bool :=
  (decide (c.kind = -1) || decide (c.kind = b.1)) && (decide (c.team = -1) || decide (c.team ∈ A tp b.2.1)) && (decide (c.below = -1) || decide (c.below ∈ had)) &&
    (c.has.all (fun m => decide (m ∈ b.2.2)) && !(c.hasnot.any fun m => decide (m ∈ b.2.2)))
def hadL (tp : List Int) (b : Base) : Nat → List Int → List (List Cl) → List Int
  | _, had, [] => had
  | i, had, cs :: rs => hadL tp b (i + 1) (if cs.any (clH tp b had) then had ++ [(i : Int)] else had) rs
def s_clause_holds : DSp := fun ds st P => ∃ tp c b n had, ds = [tI tp, clauseV c, baseV b, .loc n] ∧ st[n]? = some (Cell.lst (had.map Val.int)) ∧ Tr tp ∧ 0 ≤ b.2.1 ∧ b.2.1 < tp.length ∧ -1 ≤ c.team ∧ P (.bl (clH tp b had c)) st
theorem in_items {st : Store} {Q : DK} {x : Int} {hv : Val} {ns : List Int} {neg : Bool} (h : itemsOf st hv = some (ns.map Val.int)) (q : Q (.bl (if neg then !decide (x ∈ ns) else decide (x ∈ ns))) st) : inW neg (.int x) hv st Q := by
  unfold inW
  rw [h]
  refine ⟨rfl, flatAll_ints _, ?_⟩
  rw [memd_ints]
  exact q
theorem marks_lc {g : DTg} {ok : Store → Prop} {we : WE} {env0 : Slots} {st : Store} {ms : List Int} {Q : List Val → Store → Prop} (hok : ok st) (ns : List Int)
    (h : ∀ m, ∃ env, g (.int m) env0 = some env ∧ ∀ Q' : DK, Q' (.bl (decide (m ∈ ms))) st → we env st Q') (q : Q (ns.map fun m => Val.bl (decide (m ∈ ms))) st) : lcD g wYes we ok env0 (ns.map Val.int) [] st Q :=
  lc_maps (e2 := fun m => Val.bl (decide (m ∈ ms))) hok ns [] (fun m _ => h m) q
theorem v_clause_holds (ds : List Val) (st : Store) (P : DK) (h : s_clause_holds ds st P) : w_clause_holds s_under (defE st P) (startD N_clause_holds ds) st := by
  obtain ⟨tp, c, b, n, had, rfl, hh, hT, b1, b2, b3, k⟩ := h
  have no : clH tp b had c = false → Back st P (.bl false) st := fun h => back0 rfl (by rw [h] at k; exact k)
  rw [e_clause_holds]
  unfold w_clause_holds
  ((conv => whnf); (try dsimp only))
  -- the last part
  have last : (decide (c.kind = -1) || decide (c.kind = b.1)) = true → (decide (c.team = -1) || decide (c.team ∈ A tp b.2.1)) = true → (decide (c.below = -1) || decide (c.below ∈ had)) = true →
      wSeq (wAsg (wBin ixV (wVar 2) (wC (Val.int 2))) (gN 9)) (wRet (wAndV (wCL allW (wLc (wIt (wVar 6)) (gN 10) wYes (wBin (inW false) (wVar 10) (wVar 9)) [10])) (wNotV (wCL anyW (wLc (wIt (wVar 7)) (gN 10) wYes (wBin (inW false) (wVar 10) (wVar 9)) [10])))))
        (defE st P) [some (tI tp), some (clauseV c), some (baseV b), some (.loc n), some (.int c.kind), some (.int c.team), some (tI c.has), some (tI c.hasnot), some (.int c.below), none, none] st := by
    intro c1 c2 c3
    unfold clH at k
    rw [c1, c2, c3, Bool.true_and, Bool.true_and, Bool.true_and] at k
    ((conv => whnf); (try dsimp only))
    refine marks_lc (ms := b.2.2) (by rfl) c.has (fun m => ⟨_, rfl, fun Q' q => ?_⟩) ?_
    · refine in_items (hv := tI b.2.2) (ns := b.2.2) rfl q
    refine all_map ?_
    cases e : c.has.all (fun m => decide (m ∈ b.2.2)) with
    | false =>
      rw [e] at k
      exact back0 rfl k
    | true =>
      rw [e, Bool.true_and] at k
      ((conv => whnf); (try dsimp only))
      refine marks_lc (ms := b.2.2) (by rfl) c.hasnot (fun m => ⟨_, rfl, fun Q' q => ?_⟩) ?_
      · refine in_items (hv := tI b.2.2) (ns := b.2.2) rfl q
      refine any_map ?_
      exact back0 rfl k
  have mid : (decide (c.kind = -1) || decide (c.kind = b.1)) = true → (decide (c.team = -1) || decide (c.team ∈ A tp b.2.1)) = true →
      wSeq (wIfS (wAnd (wTest (wBin (eqW true) (wVar 8) (wUn negV (wC (Val.int 1))))) (wTest (wBin (inW true) (wVar 8) (wVar 3)))) (wRet (wC (Val.bl false))) wNext)
        (wSeq (wAsg (wBin ixV (wVar 2) (wC (Val.int 2))) (gN 9)) (wRet (wAndV (wCL allW (wLc (wIt (wVar 6)) (gN 10) wYes (wBin (inW false) (wVar 10) (wVar 9)) [10])) (wNotV (wCL anyW (wLc (wIt (wVar 7)) (gN 10) wYes (wBin (inW false) (wVar 10) (wVar 9)) [10]))))))
        (defE st P) [some (tI tp), some (clauseV c), some (baseV b), some (.loc n), some (.int c.kind), some (.int c.team), some (tI c.has), some (tI c.hasnot), some (.int c.below), none, none] st := by
    intro c1 c2
    ((conv => whnf); (try dsimp only))
    refine ⟨.inl rfl, ?_⟩
    simp only [eqd_int, if_true]
    by_cases q : c.below = -1
    · rw [decide_eq_true q]
      exact last c1 c2 (by rw [decide_eq_true q]; rfl)
    · rw [decide_eq_false q]
      ((conv => whnf); (try dsimp only))
      rw [itemsL hh]
      refine ⟨rfl, flatAll_ints _, ?_⟩
      rw [memd_ints]
      by_cases q2 : c.below ∈ had
      · simp only [if_true, decide_eq_true q2]
        exact last c1 c2 (by rw [decide_eq_true q2, Bool.or_true])
      · simp only [if_true, decide_eq_false q2]
        refine no ?_
        unfold clH
        rw [decide_eq_false q, decide_eq_false q2]
        simp
  have two : (decide (c.kind = -1) || decide (c.kind = b.1)) = true →
      wSeq (wIfS (wAnd (wTest (wBin (eqW true) (wVar 5) (wUn negV (wC (Val.int 1))))) (wNot (wTest (wCB s_under (wCons (wVar 0) (wCons (wBin ixV (wVar 2) (wC (Val.int 1))) (wCons (wVar 5) wNil))))))) (wRet (wC (Val.bl false))) wNext)
      (wSeq (wIfS (wAnd (wTest (wBin (eqW true) (wVar 8) (wUn negV (wC (Val.int 1))))) (wTest (wBin (inW true) (wVar 8) (wVar 3)))) (wRet (wC (Val.bl false))) wNext)
        (wSeq (wAsg (wBin ixV (wVar 2) (wC (Val.int 2))) (gN 9)) (wRet (wAndV (wCL allW (wLc (wIt (wVar 6)) (gN 10) wYes (wBin (inW false) (wVar 10) (wVar 9)) [10])) (wNotV (wCL anyW (wLc (wIt (wVar 7)) (gN 10) wYes (wBin (inW false) (wVar 10) (wVar 9)) [10])))))))
        (defE st P) [some (tI tp), some (clauseV c), some (baseV b), some (.loc n), some (.int c.kind), some (.int c.team), some (tI c.has), some (tI c.hasnot), some (.int c.below), none, none] st := by
    intro c1
    ((conv => whnf); (try dsimp only))
    refine ⟨.inl rfl, ?_⟩
    simp only [eqd_int, if_true]
    by_cases q : c.team = -1
    · rw [decide_eq_true q]
      exact mid c1 (by rw [decide_eq_true q]; rfl)
    · rw [decide_eq_false q]
      refine ⟨tp, b.2.1, c.team, rfl, hT, by omega, b2, by omega, ?_⟩
      by_cases q2 : c.team ∈ A tp b.2.1
      · rw [decide_eq_true q2]
        exact mid c1 (by rw [decide_eq_true q2, Bool.or_true])
      · rw [decide_eq_false q2]
        refine no ?_
        unfold clH
        rw [decide_eq_false q, decide_eq_false q2]
        simp
  refine ⟨.inl rfl, ?_⟩
  simp only [eqd_int, if_true]
  by_cases q : c.kind = -1
  · rw [decide_eq_true q]
    exact two (by rw [decide_eq_true q]; rfl)
  · rw [decide_eq_false q]
    ((conv => whnf); (try dsimp only))
    refine ⟨.inl rfl, ?_⟩
    simp only [eqd_int, if_true]
    by_cases q2 : c.kind = b.1
    · rw [decide_eq_true q2]
      exact two (by rw [decide_eq_true q2, Bool.or_true])
    · rw [decide_eq_false q2]
      refine no ?_
      unfold clH
      rw [decide_eq_false q, decide_eq_false q2]
      simp
theorem hadL_cons (tp : List Int) (b : Base) (i : Nat) (had : List Int) (cs : List Cl) (rs : List (List Cl)) : hadL tp b i had (cs :: rs) = hadL tp b (i + 1) (if cs.any (clH tp b had) then had ++ [(i : Int)] else had) rs := rfl
theorem hadL_len (tp : List Int) (b : Base) : ∀ (rs : List (List Cl)) (i : Nat) (had : List Int), (hadL tp b i had rs).length ≤ had.length + rs.length
  | [], _, _ => Nat.le_refl _
  | cs :: rs, i, had => by
    unfold hadL
    split
    · have := hadL_len tp b rs (i + 1) (had ++ [(i : Int)])
      simp only [List.length_append, List.length_cons, List.length_nil] at this ⊢
      omega
    · have := hadL_len tp b rs (i + 1) had
      simp only [List.length_cons]
      omega
def s_roles_had : DSp := fun ds st P => ∃ tp roles b, ds = [.tup (roles.map roleV), tI tp, baseV b] ∧ Tr tp ∧ 0 ≤ b.2.1 ∧ b.2.1 < tp.length ∧ roles.length ≤ 100 ∧ (∀ cs ∈ roles, ∀ c ∈ cs, -1 ≤ c.team) ∧ P (tI (hadL tp b 0 [] roles)) st
theorem v_roles_had (ds : List Val) (st : Store) (P : DK) (h : s_roles_had ds st P) : w_roles_had s_clause_holds (defE st P) (startD N_roles_had ds) st := by
  obtain ⟨tp, roles, b, rfl, hT, b1, b2, hl, hc, k⟩ := h
  rw [e_roles_had]
  unfold w_roles_had
  ((conv => whnf); (try dsimp only))
  refine ⟨Nat.zero_le _, ?_⟩
  ((conv => whnf); (try dsimp only))
  refine forD_ind (fun i env s => ∃ h x y, s = st ++ [.lst (h.map Val.int)] ∧ env = [some (.tup (roles.map roleV)), some (tI tp), some (baseV b), some (.loc st.length), x, y, none] ∧ hadL tp b i h (roles.drop i) = hadL tp b 0 [] roles ∧ h.length ≤ i) (fun _ _ _ _ => rfl) ?_ ?_ ⟨[], none, none, rfl, rfl, rfl, Nat.le_refl _⟩
  · rintro i d env s hd ⟨h, x, y, rfl, rfl, e, hh⟩ N hN
    obtain ⟨r, hr, rfl⟩ := enumD_get hd
    rw [List.getElem?_map] at hr
    obtain ⟨cs, hcs, rfl⟩ := Option.map_eq_some_iff.mp hr
    have hi := (List.getElem?_eq_some_iff.mp hcs).1
    rw [List.drop_eq_getElem_cons hi, (List.getElem?_eq_some_iff.mp hcs).2] at e
    rw [hadL_cons] at e
    refine ⟨_, rfl, ?_⟩
    rw [Nat.zero_add]
    ((conv => whnf); (try dsimp only))
    refine lc_maps (e2 := fun c => Val.bl (clH tp b h c)) (by rfl) cs [] (fun c hcm => ⟨_, rfl, fun Q' q => ?_⟩) ?_
    · exact ⟨tp, c, b, st.length, h, rfl, look0, hT, b1, b2, hc cs (List.mem_of_getElem? hcs) c hcm, q⟩
    refine any_map ?_
    cases t : cs.any (clH tp b h) with
    | false =>
      rw [t, if_neg (by decide)] at e
      ((conv => whnf); (try dsimp only))
      exact hN _ _ ⟨h, _, _, rfl, rfl, e, by omega⟩
    | true =>
      rw [t, if_pos rfl] at e
      ((conv => whnf); (try dsimp only))
      refine ⟨isLst0, ?_⟩
      ((conv => whnf); (try dsimp only))
      rw [look0]
      refine app0 ?_ ?_
      · rw [List.length_map]
        have : sizeLine = 2 ^ 24 := rfl
        omega
      · refine hN _ _ ⟨h ++ [(i : Int)], _, _, ?_, rfl, e, by rw [List.length_append]; simp; omega⟩
        rw [List.map_append]
        rfl
  · rintro env s ⟨h, x, y, rfl, rfl, e, hh⟩
    rw [show (enumD 0 (roles.map roleV)).length = roles.length by rw [enumD_len, List.length_map]] at e
    rw [List.drop_length] at e
    have e : h = hadL tp b 0 [] roles := e
    ((conv => whnf); (try dsimp only))
    rw [itemsL look0]
    rw [← e] at k
    exact back_same _ (clVs_ints _ _) k
def tps (f : Fr) : List Int := f.teams.map Prod.fst
def hadF (f : Fr) (b : Base) : List Int := hadL (tps f) b 0 [] f.roles
def NoClash (f : Fr) : Prop := ∀ (i : Nat) k, f.kinds[i]? = some k → ∀ p ∈ f.parted, ¬ (p.1 ∈ hadF f ((i : Int), k.1, k.2) ∧ p.2 ∈ hadF f ((i : Int), k.1, k.2))
theorem tps_tr {f : Fr} (F : FrOk f) : Tr (tps f) := by
  intro i h
  unfold tps at h ⊢
  rw [List.length_map] at h
  have := F.teams i _ (List.getElem?_eq_getElem h)
  rw [List.getElem_map]
  exact ⟨this.1, this.2.1⟩
def s_clashes : DSp := fun ds st P => ∃ f, ds = [frV f] ∧ FrOk f ∧ NoClash f ∧ P (.bl false) st
theorem v_clashes (ds : List Val) (st : Store) (P : DK) (h : s_clashes ds st P) : w_clashes s_roles_had (defE st P) (startD N_clashes ds) st := by
  obtain ⟨f, rfl, F, nc, k⟩ := h
  have c5 := F.cRoles
  rw [e_clashes]
  unfold w_clashes
  ((conv => whnf); (try dsimp only))
  refine lc_maps (e2 := fun q => Val.int q.1) (by rfl) f.teams [] (fun q _ => ⟨_, rfl, fun Q' h => by ((conv => whnf); (try dsimp only)); exact h⟩) ?_
  ((conv => whnf); (try dsimp only))
  have et : (f.teams.map fun q => Val.int q.1) = (tps f).map Val.int := by rw [tps, List.map_map]; rfl
  rw [List.nil_append, et]
  ((conv => whnf); (try dsimp only))
  refine forD_ind (fun i env s => s = st ∧ ∃ a b c d, env = [some (frV f), some (tI (tps f)), a, b, c, d, none, none]) (fun _ _ _ _ => rfl) ?_ ?_ ⟨rfl, none, none, none, none, rfl⟩
  · rintro i d env s hd ⟨rfl, a, b, c, e, rfl⟩ N hN
    obtain ⟨r, hr, rfl⟩ := enumD_get hd
    rw [List.getElem?_map] at hr
    obtain ⟨kd, hkd, rfl⟩ := Option.map_eq_some_iff.mp hr
    have hk := F.kinds kd (List.mem_of_getElem? hkd)
    refine ⟨_, rfl, ?_⟩
    rw [Nat.zero_add]
    refine ⟨by show 3 ≤ sizeLine; decide, ?_⟩
    refine ⟨tps f, f.roles, ((i : Int), kd.1, kd.2), rfl, tps_tr F, hk.1.1, ?_, by omega, ?_, ?_⟩
    · show kd.1 < ((tps f).length : Int)
      rw [tps, List.length_map]
      exact hk.1.2
    · intro cs hcs c hc
      obtain ⟨j, hj⟩ := List.mem_iff_getElem?.mp hcs
      exact ((F.roles j cs hj).2 c hc).2.1.1
    ((conv => whnf); (try dsimp only))
    refine lc_maps (e2 := fun p => Val.bl (decide (p.1 ∈ hadF f ((i : Int), kd.1, kd.2) ∧ p.2 ∈ hadF f ((i : Int), kd.1, kd.2)))) (by rfl) f.parted [] (fun p _ => ⟨_, rfl, fun Q' q => ?_⟩) ?_
    · ((conv => whnf); (try dsimp only))
      refine ⟨rfl, flatAll_ints _, ?_⟩
      rw [memd_ints]
      simp only [Bool.false_eq_true, if_false]
      by_cases q1 : p.1 ∈ hadF f ((i : Int), kd.1, kd.2)
      · rw [show decide (p.1 ∈ hadL (tps f) ((i : Int), kd.1, kd.2) 0 [] f.roles) = true from decide_eq_true q1]
        ((conv => whnf); (try dsimp only))
        refine ⟨rfl, flatAll_ints _, ?_⟩
        rw [memd_ints]
        simp only [q1, true_and] at q
        exact q
      · rw [show decide (p.1 ∈ hadL (tps f) ((i : Int), kd.1, kd.2) 0 [] f.roles) = false from decide_eq_false q1]
        simp only [q1, false_and, decide_false] at q
        exact q
    refine any_map ?_
    have e : (f.parted.any fun p => decide (p.1 ∈ hadF f ((i : Int), kd.1, kd.2) ∧ p.2 ∈ hadF f ((i : Int), kd.1, kd.2))) = false := by
      rw [List.any_eq_false]
      intro p hp
      simpa using nc i kd hkd p hp
    rw [e]
    exact hN _ _ ⟨rfl, _, _, _, _, rfl⟩
  · rintro env s ⟨rfl, a, b, c, e, rfl⟩
    exact back0 rfl k
end K05

set_option Elab.async false
set_option linter.all false
set_option maxRecDepth 100000
set_option maxHeartbeats 4000000
namespace K05
open PySem L2 DL
theorem q_e : eqd (.str "") (.str "") = true := by decide +kernel
def s_faulty_part : DSp := fun ds st P => ∃ f rs, ds = [frV f, rulesV rs] ∧ FrOk f ∧ NoClash f ∧ RsOk f rs ∧ rs.length ≤ 12 ∧ P emptyS st
theorem v_faulty_part (ds : List Val) (st : Store) (P : DK) (h : s_faulty_part ds st P) : w_faulty_part s_clashes s_count_fault s_entry_fault s_is_row s_is_row_of s_numbers_form (defE st P) (startD N_faulty_part ds) st := by
  obtain ⟨f, rs, rfl, F, nc, hr, hl, k⟩ := h
  rw [e_faulty_part]
  unfold w_faulty_part
  refine ⟨frL f, 12, rfl, rfl, ?_⟩
  ((conv => whnf); (try dsimp only))
  refine lc_maps (e := fun d => d) (e2 := fun _ => Val.bl true) (by rfl) (frL f) [] (fun d hd => ⟨_, rfl, fun Q' q => ?_⟩) ?_
  · have : ∃ xs, d = .tup xs := by
      unfold frL at hd
      simp only [List.mem_cons, List.not_mem_nil, or_false, tI] at hd
      rcases hd with rfl | rfl | rfl | rfl | rfl | rfl | rfl | rfl | rfl | rfl | rfl | rfl <;> exact ⟨_, rfl⟩
    obtain ⟨xs, rfl⟩ := this
    exact ⟨xs, rfl, q⟩
  refine all_map (f := fun _ => true) ?_
  have e : ((frL f).all fun _ => true) = true := by simp
  rw [e]
  refine ⟨_, rfl, ?_⟩
  refine ⟨f, rfl, F, ?_⟩
  refine ⟨f, rs, rfl, F, hl, ?_⟩
  refine ⟨fun e' s' => s' = st ∧ ∃ a, e' = [some (frV f), some (rulesV rs), some emptyS, a], ?_, ?_⟩
  · ((conv => whnf); (try dsimp only))
    refine ⟨.inl rfl, ?_⟩
    rw [show eqd emptyS (.str "") = true from q_e]
    simp only [Bool.false_eq_true, if_false]
    refine ⟨f, rs, rfl, F, hr, ?_⟩
    exact ⟨rfl, _, rfl⟩
  rintro _ s1 ⟨rfl, a, rfl⟩
  refine ⟨fun e' s' => s' = s1 ∧ ∃ a, e' = [some (frV f), some (rulesV rs), some emptyS, a], ?_, ?_⟩
  · ((conv => whnf); (try dsimp only))
    refine ⟨.inl rfl, ?_⟩
    rw [show eqd emptyS (.str "") = true from q_e]
    simp only [Bool.false_eq_true, if_false]
    refine ⟨f, rfl, F, nc, ?_⟩
    exact ⟨rfl, _, rfl⟩
  rintro _ s2 ⟨rfl, a, rfl⟩
  exact back0 rfl k
/-! ### a book is made -/
theorem put_le (f : Str) (v : Val) : ∀ fs : List (Str × Val), (putD f v fs).length ≤ fs.length + 1
  | [] => by simp [putD]
  | (g, x) :: r => by
    unfold putD
    split
    · simp
    · simpa using put_le f v r
theorem pl {f : Str} {v : Val} {fs : List (Str × Val)} {k : Nat} (h : fs.length ≤ k) : (putD f v fs).length ≤ k + 1 := Nat.le_trans (put_le f v fs) (Nat.succ_le_succ h)
theorem lookup_put (f g : Str) (v : Val) : ∀ fs : List (Str × Val), (putD f v fs).lookup g = if g = f then some v else fs.lookup g
  | [] => by
    show List.lookup g [(f, v)] = _
    rw [List.lookup_cons]
    by_cases h : g = f
    · rw [if_pos h, beq_iff_eq.mpr h]
    · rw [if_neg h, beq_eq_false_iff_ne.mpr h]
  | (k, x) :: r => by
    unfold putD
    by_cases hk : k = f
    · subst hk
      rw [if_pos rfl, List.lookup_cons, List.lookup_cons]
      by_cases h : g = k
      · rw [if_pos h, beq_iff_eq.mpr h]
      · rw [if_neg h, beq_eq_false_iff_ne.mpr h]
    · rw [if_neg hk, List.lookup_cons, List.lookup_cons, lookup_put f g v r]
      by_cases h : g = k
      · have h2 : ¬ g = f := fun e => hk (h ▸ e)
        rw [beq_iff_eq.mpr h]
        simp only [if_neg h2]
      · rw [beq_eq_false_iff_ne.mpr h]
theorem cl_put {k : Nat} {f : Str} {v : Val} (hv : clV k v = true) : ∀ {fs : List (Str × Val)}, clVs k (fs.map Prod.snd) = true → clVs k ((putD f v fs).map Prod.snd) = true
  | [], _ => by
    show (clV k v && true) = true
    rw [hv]
    rfl
  | (g, x) :: r, h => by
    have h : (clV k x && clVs k (r.map Prod.snd)) = true := h
    rw [Bool.and_eq_true] at h
    unfold putD
    split
    · show (clV k v && clVs k (r.map Prod.snd)) = true
      rw [hv, h.2]
      rfl
    · show (clV k x && clVs k ((putD f v r).map Prod.snd)) = true
      rw [h.1, cl_put hv h.2]
      rfl
theorem clVs_map {α : Type} {k : Nat} {e : α → Val} : ∀ {xs : List α}, (∀ x, clV k (e x) = true) → clVs k (xs.map e) = true
  | [], _ => rfl
  | x :: xs, h => by
    show (clV k (e x) && clVs k (xs.map e)) = true
    rw [h x, clVs_map h]
    rfl
theorem cl_I (k : Nat) (ns : List Int) : clV k (tI ns) = true := clVs_ints k ns
theorem cl_sc (k : Nat) (s : Sc) : clVs k (scL s) = true := by simp [scL, clVs, clV, cl_I]
theorem cl_rule (k : Nat) (r : Rule) : clV k (ruleV r) = true := by
  show clVs k (.int r.eff :: .int r.rank :: scL r.sc) = true
  simp [clVs, clV, cl_sc]
theorem cl_rules (k : Nat) (rs : List Rule) : clV k (rulesV rs) = true := clVs_map fun r => cl_rule k r
theorem cl_door (k : Nat) (d : Door) : clV k (doorV d) = true := by
  show clVs k (.int d.rank :: (scL d.sc ++ [.int d.life])) = true
  simp [clVs, clV, scL, cl_I]
theorem cl_lot (k : Nat) (l : Lot) : clV k (lotV l) = true := by
  have : clVs k (l.passes.map pairD) = true := clVs_map fun p => rfl
  simp [lotV, clV, clVs, cl_I, this]
theorem cl_cl (k : Nat) (c : Cl) : clV k (clauseV c) = true := by simp [clauseV, clV, clVs, cl_I]
theorem cl_role (k : Nat) (cs : List Cl) : clV k (roleV cs) = true := clVs_map fun c => cl_cl k c
theorem cl_kind (k : Nat) (q : Int × List Int) : clV k (kindV q) = true := by simp [kindV, clV, clVs, cl_I]
theorem cl_fr (k : Nat) (f : Fr) : clVs k (frL f) = true := by
  have h1 : ∀ xs : List (Int × Int × Int × Int), clVs k (xs.map quadV) = true := fun xs => clVs_map fun q => rfl
  have h2 : ∀ xs : List (Int × List Int), clVs k (xs.map kindV) = true := fun xs => clVs_map fun q => cl_kind k q
  have h3 : clVs k (f.roles.map roleV) = true := clVs_map fun q => cl_role k q
  have h4 : clVs k (f.parted.map pairD) = true := clVs_map fun q => rfl
  have h5 : clVs k (f.lots.map lotV) = true := clVs_map fun q => cl_lot k q
  have h6 : clVs k (f.doors.map doorV) = true := clVs_map fun q => cl_door k q
  have h7 : clVs k (f.glass.map tripV) = true := clVs_map fun q => rfl
  simp [frL, clV, clVs, cl_I, h1, h2, h3, h4, h5, h6, h7]
theorem cl_frV (k : Nat) (f : Fr) : clV k (frV f) = true := cl_fr k f
/-- the fields of a book -/
@[irreducible] def bookFs (f : Fr) (rs : List Rule) : List (Str × Val) :=
  putD "homes" (tI f.homes) (putD "cases" (.tup (f.cases.map kindV)) (putD "glass_rows" (.tup (f.glass.map tripV)) (putD "doors" (.tup (f.doors.map doorV)) (putD "lots" (.tup (f.lots.map lotV)) (putD "parted" (.tup (f.parted.map pairD))
    (putD "roles" (.tup (f.roles.map roleV)) (putD "kinds" (.tup (f.kinds.map kindV)) (putD "marks" (.tup (f.marks.map quadV)) (putD "teams" (.tup (f.teams.map quadV)) (putD "parents" (tI f.ups)
    (putD "look_time" (.int (f.nums.getD 6 0)) (putD "glass_life" (.int (f.nums.getD 5 0)) (putD "glass_age" (.int (f.nums.getD 4 0)) (putD "age" (.int (f.nums.getD 3 0)) (putD "points" (.int (f.nums.getD 2 0)) (putD "places" (.int (f.nums.getD 1 0)) (putD "hours" (.int (f.nums.getD 0 0))
    (putD "rules" (rulesV rs) (putD "frame" (frV f) [])))))))))))))))))))
theorem book_parents (f : Fr) (rs : List Rule) : (bookFs f rs).lookup ("parents" : Str) = some (tI f.ups) := by
  unfold bookFs
  simp only [lookup_put]
  rfl
theorem book_doors (f : Fr) (rs : List Rule) : (bookFs f rs).lookup ("doors" : Str) = some (.tup (f.doors.map doorV)) := by
  unfold bookFs
  simp only [lookup_put]
  rfl
theorem book_lots (f : Fr) (rs : List Rule) : (bookFs f rs).lookup ("lots" : Str) = some (.tup (f.lots.map lotV)) := by
  unfold bookFs
  simp only [lookup_put]
  rfl
theorem book_frame (f : Fr) (rs : List Rule) : (bookFs f rs).lookup ("frame" : Str) = some (frV f) := by
  unfold bookFs
  simp only [lookup_put]
  rfl
theorem book_rules (f : Fr) (rs : List Rule) : (bookFs f rs).lookup ("rules" : Str) = some (rulesV rs) := by
  unfold bookFs
  simp only [lookup_put]
  rfl
theorem cl_book (k : Nat) (f : Fr) (rs : List Rule) : clVs k ((bookFs f rs).map Prod.snd) = true := by
  have h1 : ∀ xs : List (Int × Int × Int × Int), clV k (.tup (xs.map quadV)) = true := fun xs => clVs_map fun q => rfl
  have h2 : ∀ xs : List (Int × List Int), clV k (.tup (xs.map kindV)) = true := fun xs => clVs_map fun q => cl_kind k q
  have h3 : clV k (.tup (f.roles.map roleV)) = true := clVs_map fun q => cl_role k q
  have h4 : clV k (.tup (f.parted.map pairD)) = true := clVs_map fun q => rfl
  have h5 : clV k (.tup (f.lots.map lotV)) = true := clVs_map fun q => cl_lot k q
  have h6 : clV k (.tup (f.doors.map doorV)) = true := clVs_map fun q => cl_door k q
  have h7 : clV k (.tup (f.glass.map tripV)) = true := clVs_map fun q => rfl
  unfold bookFs
  exact cl_put (cl_I k _) (cl_put (h2 _) (cl_put h7 (cl_put h6 (cl_put h5 (cl_put h4 (cl_put h3 (cl_put (h2 _) (cl_put (h1 _) (cl_put (h1 _) (cl_put (cl_I k _) (cl_put rfl (cl_put rfl (cl_put rfl (cl_put rfl (cl_put rfl (cl_put rfl (cl_put rfl (cl_put (cl_rules k rs) (cl_put (cl_frV k f) rfl)))))))))))))))))))
theorem back_chg {st0 st1 : Store} {P : DK} {d : Val} (g : Store) (hl : st1.length = st0.length) (hc : ∀ (n : Nat) (c : Cell), st1[n]? = some c → st0[n]? = some c ∨ clC st0.length c = true) (c : clV st0.length d = true) (p : P d st1) : Back st0 P d (st1 ++ g) := by
  unfold Back
  refine ⟨by rw [List.length_append]; omega, fun n c hn e => ?_, .inl ⟨c, ?_⟩⟩
  · rw [List.getElem?_append_left (by omega)] at e
    exact hc n c e
  · rw [← hl, List.take_append_of_le_length (Nat.le_refl _), List.take_length]
    exact p
theorem back_set {st0 : Store} {P : DK} {d : Val} {n : Nat} {x : Cell} (g : Store) (hx : clC st0.length x = true) (c : clV st0.length d = true) (p : P d (st0.set n x)) : Back st0 P d (st0.set n x ++ g) := by
  refine back_chg g List.length_set (fun m y e => ?_) c p
  by_cases h : n = m
  · subst h
    by_cases hl : n < st0.length
    · rw [List.getElem?_set_self hl] at e
      cases e
      exact .inr hx
    · rw [List.getElem?_eq_none (by rw [List.length_set]; omega)] at e
      cases e
  · rw [List.getElem?_set_ne h] at e
    exact .inl e
def s_Book___init__ (C : Addr) : DSp := fun ds st P => ∃ n f rs, ds = [.loc n, frV f, rulesV rs] ∧ st[n]? = some (.obj C []) ∧ FrOk f ∧ NoClash f ∧ RsOk f rs ∧ rs.length ≤ 12 ∧ P .non (st.set n (.obj C (bookFs f rs)))
theorem v_Book___init__ (C : Addr) (ds : List Val) (st : Store) (P : DK) (h : s_Book___init__ C ds st P) : w_Book___init__ C s_faulty_part (defE st P) (startD N_Book___init__ ds) st := by
  obtain ⟨n, f, rs, rfl, hs, F, nc, hr, hl, k⟩ := h
  have hn := (List.getElem?_eq_some_iff.mp hs).1
  obtain ⟨hh, p, q, a, g, l, t, en, _⟩ := F.nums
  rw [e_Book___init__]
  unfold w_Book___init__
  refine ⟨f, rs, rfl, F, nc, hr, hl, ?_⟩
  ((conv => whnf); (try dsimp only))
  refine ⟨.inl rfl, ?_⟩
  rw [show eqd emptyS (.str "") = true from q_e]
  simp only [if_true]
  ((conv => whnf); (try dsimp only))
  rw [hs]
  refine ⟨rfl, by decide, ?_⟩
  have e1 : cutD (f.nums.map Val.int) none (some 4) = [.int (f.nums.getD 0 0), .int (f.nums.getD 1 0), .int (f.nums.getD 2 0), .int (f.nums.getD 3 0)] := by rw [en]; rfl
  have e2 : cutD (f.nums.map Val.int) (some 4) none = [.int (f.nums.getD 4 0), .int (f.nums.getD 5 0), .int (f.nums.getD 6 0)] := by rw [en]; rfl
  ((conv => whnf); (try dsimp only))
  rw [List.getElem?_set_self hn]
  refine ⟨rfl, (Nat.lt_of_le_of_lt (pl (Nat.le_refl 0)) (by decide)), ?_⟩
  rw [List.set_set]
  ((conv => whnf); (try dsimp only))
  rw [e1]
  refine ⟨rfl, ?_⟩
  ((conv => whnf); (try dsimp only))
  rw [List.getElem?_set_self hn]
  refine ⟨rfl, (Nat.lt_of_le_of_lt (pl (pl (Nat.le_refl 0))) (by decide)), ?_⟩
  rw [List.set_set]
  ((conv => whnf); (try dsimp only))
  rw [List.getElem?_set_self hn]
  refine ⟨rfl, (Nat.lt_of_le_of_lt (pl (pl (pl (Nat.le_refl 0)))) (by decide)), ?_⟩
  rw [List.set_set]
  ((conv => whnf); (try dsimp only))
  rw [List.getElem?_set_self hn]
  refine ⟨rfl, (Nat.lt_of_le_of_lt (pl (pl (pl (pl (Nat.le_refl 0))))) (by decide)), ?_⟩
  rw [List.set_set]
  ((conv => whnf); (try dsimp only))
  rw [List.getElem?_set_self hn]
  refine ⟨rfl, (Nat.lt_of_le_of_lt (pl (pl (pl (pl (pl (Nat.le_refl 0)))))) (by decide)), ?_⟩
  rw [List.set_set]
  ((conv => whnf); (try dsimp only))
  rw [e2]
  refine ⟨rfl, ?_⟩
  ((conv => whnf); (try dsimp only))
  rw [List.getElem?_set_self hn]
  refine ⟨rfl, (Nat.lt_of_le_of_lt (pl (pl (pl (pl (pl (pl (Nat.le_refl 0))))))) (by decide)), ?_⟩
  rw [List.set_set]
  ((conv => whnf); (try dsimp only))
  rw [List.getElem?_set_self hn]
  refine ⟨rfl, (Nat.lt_of_le_of_lt (pl (pl (pl (pl (pl (pl (pl (Nat.le_refl 0)))))))) (by decide)), ?_⟩
  rw [List.set_set]
  ((conv => whnf); (try dsimp only))
  rw [List.getElem?_set_self hn]
  refine ⟨rfl, (Nat.lt_of_le_of_lt (pl (pl (pl (pl (pl (pl (pl (pl (Nat.le_refl 0))))))))) (by decide)), ?_⟩
  rw [List.set_set]
  ((conv => whnf); (try dsimp only))
  rw [List.getElem?_set_self hn]
  refine ⟨rfl, (Nat.lt_of_le_of_lt (pl (pl (pl (pl (pl (pl (pl (pl (pl (Nat.le_refl 0)))))))))) (by decide)), ?_⟩
  rw [List.set_set]
  ((conv => whnf); (try dsimp only))
  rw [List.getElem?_set_self hn]
  refine ⟨rfl, (Nat.lt_of_le_of_lt (pl (pl (pl (pl (pl (pl (pl (pl (pl (pl (Nat.le_refl 0))))))))))) (by decide)), ?_⟩
  rw [List.set_set]
  ((conv => whnf); (try dsimp only))
  rw [List.getElem?_set_self hn]
  refine ⟨rfl, (Nat.lt_of_le_of_lt (pl (pl (pl (pl (pl (pl (pl (pl (pl (pl (pl (Nat.le_refl 0)))))))))))) (by decide)), ?_⟩
  rw [List.set_set]
  ((conv => whnf); (try dsimp only))
  rw [List.getElem?_set_self hn]
  refine ⟨rfl, (Nat.lt_of_le_of_lt (pl (pl (pl (pl (pl (pl (pl (pl (pl (pl (pl (pl (Nat.le_refl 0))))))))))))) (by decide)), ?_⟩
  rw [List.set_set]
  ((conv => whnf); (try dsimp only))
  rw [List.getElem?_set_self hn]
  refine ⟨rfl, (Nat.lt_of_le_of_lt (pl (pl (pl (pl (pl (pl (pl (pl (pl (pl (pl (pl (pl (Nat.le_refl 0)))))))))))))) (by decide)), ?_⟩
  rw [List.set_set]
  ((conv => whnf); (try dsimp only))
  rw [List.getElem?_set_self hn]
  refine ⟨rfl, (Nat.lt_of_le_of_lt (pl (pl (pl (pl (pl (pl (pl (pl (pl (pl (pl (pl (pl (pl (Nat.le_refl 0))))))))))))))) (by decide)), ?_⟩
  rw [List.set_set]
  ((conv => whnf); (try dsimp only))
  rw [List.getElem?_set_self hn]
  refine ⟨rfl, (Nat.lt_of_le_of_lt (pl (pl (pl (pl (pl (pl (pl (pl (pl (pl (pl (pl (pl (pl (pl (Nat.le_refl 0)))))))))))))))) (by decide)), ?_⟩
  rw [List.set_set]
  ((conv => whnf); (try dsimp only))
  rw [List.getElem?_set_self hn]
  refine ⟨rfl, (Nat.lt_of_le_of_lt (pl (pl (pl (pl (pl (pl (pl (pl (pl (pl (pl (pl (pl (pl (pl (pl (Nat.le_refl 0))))))))))))))))) (by decide)), ?_⟩
  rw [List.set_set]
  ((conv => whnf); (try dsimp only))
  rw [List.getElem?_set_self hn]
  refine ⟨rfl, (Nat.lt_of_le_of_lt (pl (pl (pl (pl (pl (pl (pl (pl (pl (pl (pl (pl (pl (pl (pl (pl (pl (Nat.le_refl 0)))))))))))))))))) (by decide)), ?_⟩
  rw [List.set_set]
  ((conv => whnf); (try dsimp only))
  rw [List.getElem?_set_self hn]
  refine ⟨rfl, (Nat.lt_of_le_of_lt (pl (pl (pl (pl (pl (pl (pl (pl (pl (pl (pl (pl (pl (pl (pl (pl (pl (pl (Nat.le_refl 0))))))))))))))))))) (by decide)), ?_⟩
  rw [List.set_set]
  ((conv => whnf); (try dsimp only))
  rw [List.getElem?_set_self hn]
  refine ⟨rfl, (Nat.lt_of_le_of_lt (pl (pl (pl (pl (pl (pl (pl (pl (pl (pl (pl (pl (pl (pl (pl (pl (pl (pl (pl (Nat.le_refl 0)))))))))))))))))))) (by decide)), ?_⟩
  rw [List.set_set]
  have hx : clC st.length (.obj C (bookFs f rs)) = true := by
    unfold clC
    exact cl_book _ f rs
  have q := back_set (d := .non) [] hx (by rfl) k
  rw [List.append_nil] at q
  unfold bookFs at q
  exact q
end K05

set_option Elab.async false
set_option linter.all false
set_option maxRecDepth 100000
set_option maxHeartbeats 4000000
namespace K05
open PySem L2 DL
/-! ### draws -/
def poolC (a b c : Int) : Cell := .lst [.int a, .int b, .int c]
theorem cl_pool (k : Nat) (a b c : Int) : clC k (poolC a b c) = true := rfl
/-- a draw of fewer than m: any of them, the pool is another -/
@[irreducible] def s__law_draw : DSp := fun ds st P => ∃ p a b c m, ds = [.loc p, .int m] ∧ st[p]? = some (poolC a b c) ∧ 0 < m ∧ m < 1000000 ∧ ∀ x a' b' c', 0 ≤ x → x < m → P (.int x) (st.set p (poolC a' b' c'))
theorem v__law_draw (ds : List Val) (st : Store) (P : DK) (h : s__law_draw ds st P) : w__law_draw (defE st P) (startD N__law_draw ds) st := by
  unfold s__law_draw at h
  obtain ⟨p, a, b, c, m, rfl, hp, h1, h2, k⟩ := h
  have hn := (List.getElem?_eq_some_iff.mp hp).1
  have fin : ∀ x a' b' c', 0 ≤ x → x < m → Back st P (.int x) (st.set p (poolC a' b' c')) := fun x a' b' c' e1 e2 => by
    have q := back_set (d := .int x) [] (cl_pool st.length a' b' c') rfl (k x a' b' c' e1 e2)
    rw [List.append_nil] at q
    exact q
  have it : ∀ ds : List Val, itemsOf (st.set p (.lst ds)) (.loc p) = some ds := fun ds => itemsL (List.getElem?_set_self hn)
  have hp : st[p]? = some (Cell.lst [.int a, .int b, .int c]) := hp
  rw [e__law_draw]
  unfold w__law_draw
  ((conv => whnf); (try dsimp only))
  rw [itemsL hp]
  ((conv => whnf); (try dsimp only))
  rw [hp]
  ((conv => whnf); (try dsimp only))
  rw [it]
  ((conv => whnf); (try dsimp only))
  by_cases hb : 0 < b
  · rw [decide_eq_true hb]
    ((conv => whnf); (try dsimp only))
    rw [it]
    ((conv => whnf); (try dsimp only))
    refine ⟨h1, ?_⟩
    ((conv => whnf); (try dsimp only))
    rw [it]
    ((conv => whnf); (try dsimp only))
    refine ⟨⟨h1, by omega⟩, ?_⟩
    ((conv => whnf); (try dsimp only))
    rw [List.getElem?_set_self hn]
    ((conv => whnf); (try dsimp only))
    rw [List.set_set]
    exact fin _ a _ _ (Int.emod_nonneg _ (by omega)) (Int.emod_lt_of_pos _ h1)
  · rw [decide_eq_false hb]
    ((conv => whnf); (try dsimp only))
    rw [it]
    ((conv => whnf); (try dsimp only))
    refine ⟨.inr ⟨by decide, by decide⟩, ?_⟩
    ((conv => whnf); (try dsimp only))
    rw [it]
    ((conv => whnf); (try dsimp only))
    refine ⟨.inr ⟨by decide, by decide⟩, ?_⟩
    ((conv => whnf); (try dsimp only))
    refine ⟨by decide, ?_⟩
    have o1 : ∀ x : Int, 0 ≤ x % 2147483647 ∧ x % 2147483647 < 2147483647 := fun x => ⟨Int.emod_nonneg _ (by decide), Int.emod_lt_of_pos _ (by decide)⟩
    have o2 : ∀ x : Int, 0 ≤ x % 2147483629 ∧ x % 2147483629 < 2147483629 := fun x => ⟨Int.emod_nonneg _ (by decide), Int.emod_lt_of_pos _ (by decide)⟩
    generalize hy : (((a + 1) * 48271 + (c + 1) * 69621 + 11) % 2147483647 : Int) = y
    have hy2 := o1 ((a + 1) * 48271 + (c + 1) * 69621 + 11)
    rw [hy] at hy2
    ((conv => whnf); (try dsimp only))
    refine ⟨.inl ⟨by omega, by omega⟩, ?_⟩
    ((conv => whnf); (try dsimp only))
    rw [it]
    ((conv => whnf); (try dsimp only))
    refine ⟨by decide, ?_⟩
    generalize hz : ((y * y + (c + 1)) % 2147483629 : Int) = z
    have hz2 := o2 (y * y + (c + 1))
    rw [hz] at hz2
    ((conv => whnf); (try dsimp only))
    refine ⟨.inl ⟨by omega, by omega⟩, ?_⟩
    ((conv => whnf); (try dsimp only))
    rw [it]
    ((conv => whnf); (try dsimp only))
    refine ⟨by decide, ?_⟩
    ((conv => whnf); (try dsimp only))
    refine ⟨⟨by decide, by decide⟩, ?_⟩
    ((conv => whnf); (try dsimp only))
    refine ⟨h1, ?_⟩
    exact fin _ a _ _ (Int.emod_nonneg _ (by omega)) (Int.emod_lt_of_pos _ h1)
/-- what a def that draws does to the store -/
def Dr (p : Nat) (st st' : Store) : Prop := ∃ a b c, st' = st.set p (poolC a b c)
theorem Dr.trans {p : Nat} {s1 s2 s3 : Store} (x : Dr p s1 s2) (y : Dr p s2 s3) : Dr p s1 s3 := by
  obtain ⟨a, b, c, rfl⟩ := x
  obtain ⟨a', b', c', rfl⟩ := y
  exact ⟨a', b', c', List.set_set _ ..⟩
/-- p is a pool -/
def Po (st : Store) (p : Nat) : Prop := ∃ a b c, st[p]? = some (poolC a b c)
theorem Po.lt {st : Store} {p : Nat} (h : Po st p) : p < st.length := by
  obtain ⟨a, b, c, h⟩ := h
  exact (List.getElem?_eq_some_iff.mp h).1
theorem Dr.po {st st' : Store} {p : Nat} (h : Po st p) (d : Dr p st st') : Po st' p := by
  obtain ⟨a, b, c, rfl⟩ := d
  exact ⟨a, b, c, List.getElem?_set_self h.lt⟩
theorem Dr.refl {st : Store} {p : Nat} (h : Po st p) : Dr p st st := by
  obtain ⟨a, b, c, e⟩ := h
  refine ⟨a, b, c, ?_⟩
  obtain ⟨h1, h2⟩ := List.getElem?_eq_some_iff.mp e
  rw [← h2, List.set_getElem_self]
theorem Dr.len {st st' : Store} {p : Nat} (d : Dr p st st') : st'.length = st.length := by
  obtain ⟨a, b, c, rfl⟩ := d
  exact List.length_set
theorem Dr.get {st st' : Store} {p n : Nat} (d : Dr p st st') (h : n ≠ p) : st'[n]? = st[n]? := by
  obtain ⟨a, b, c, rfl⟩ := d
  exact List.getElem?_set_ne (Ne.symm h)
/-- a draw with more cells behind -/
theorem Dr.app {st s' : Store} {L : List Cell} {p : Nat} (h : p < st.length) (d : Dr p (st ++ L) s') : ∃ st', s' = st' ++ L ∧ Dr p st st' := by
  obtain ⟨a, b, c, rfl⟩ := d
  exact ⟨_, setA h, a, b, c, rfl⟩
theorem Po.app {st : Store} {L : List Cell} {p : Nat} (h : Po st p) : Po (st ++ L) p := by
  obtain ⟨a, b, c, e⟩ := h
  exact ⟨a, b, c, by rw [lookA (List.getElem?_eq_some_iff.mp e).1]; exact e⟩
/-- the call of a draw, with the caller's own cells behind -/
theorem draw {st : Store} {L : List Cell} {p : Nat} {m : Int} {Q : DK} (hp : Po st p) (h1 : 0 < m) (h2 : m < 1000000) (k : ∀ x st', 0 ≤ x → x < m → Dr p st st' → Q (.int x) (st' ++ L)) : s__law_draw [.loc p, .int m] (st ++ L) Q := by
  obtain ⟨a, b, c, e⟩ := hp.app (L := L)
  unfold s__law_draw
  refine ⟨p, a, b, c, m, rfl, e, h1, h2, fun x a' b' c' x0 x1 => ?_⟩
  rw [setA hp.lt]
  exact k x _ x0 x1 ⟨a', b', c', rfl⟩
theorem draw0 {st : Store} {p : Nat} {m : Int} {Q : DK} (hp : Po st p) (h1 : 0 < m) (h2 : m < 1000000) (k : ∀ x st', 0 ≤ x → x < m → Dr p st st' → Q (.int x) st') : s__law_draw [.loc p, .int m] st Q := by
  have q := draw (L := []) (Q := Q) hp h1 h2 (fun x st' a b d => by rw [List.append_nil]; exact k x st' a b d)
  rw [List.append_nil] at q
  exact q
/-- back from a def that draws -/
theorem back_dr {st st' : Store} {p : Nat} {P : DK} {d : Val} (L : List Cell) (dr : Dr p st st') (c : clV st.length d = true) (k : P d st') : Back st P d (st' ++ L) := by
  obtain ⟨a, b, c', rfl⟩ := dr
  exact back_set L (cl_pool _ _ _ _) c k
theorem back_dr0 {st st' : Store} {p : Nat} {P : DK} {d : Val} (dr : Dr p st st') (c : clV st.length d = true) (k : P d st') : Back st P d st' := by
  have q := back_dr [] dr c k
  rw [List.append_nil] at q
  exact q
@[irreducible] def s__law_or_none : DSp := fun ds st P => ∃ p m n, ds = [.loc p, .int m, .int n] ∧ Po st p ∧ 0 ≤ m ∧ m < 1000000 ∧ 0 < n ∧ n < 1000000 ∧ ∀ x st', -1 ≤ x → x < m ∨ x = -1 → Dr p st st' → P (.int x) st'
theorem v__law_or_none (ds : List Val) (st : Store) (P : DK) (h : s__law_or_none ds st P) : w__law_or_none s__law_draw (defE st P) (startD N__law_or_none ds) st := by
  unfold s__law_or_none at h
  obtain ⟨p, m, n, rfl, hp, h1, h2, h3, h4, k⟩ := h
  rw [e__law_or_none]
  unfold w__law_or_none
  ((conv => whnf); (try dsimp only))
  refine ⟨.inl rfl, ?_⟩
  simp only [eqd_int, Bool.false_eq_true, if_false]
  by_cases c : m = 0
  · rw [decide_eq_true c]
    exact back_dr0 (.refl hp) rfl (k (-1) st (by omega) (.inr rfl) (.refl hp))
  · rw [decide_eq_false c]
    refine draw0 hp h3 h4 fun x st' x0 x1 d => ?_
    ((conv => whnf); (try dsimp only))
    by_cases q : 0 < x
    · rw [decide_eq_true q]
      exact back_dr0 d rfl (k (-1) _ (by omega) (.inr rfl) d)
    · rw [decide_eq_false q]
      refine draw0 (d.po hp) (by omega) h2 fun y st2 y0 y1 d2 => ?_
      exact back_dr0 (d.trans d2) rfl (k y _ (by omega) (.inl y1) (d.trans d2))
theorem ornone {st : Store} {L : List Cell} {p : Nat} {m n : Int} {Q : DK} (hp : Po st p) (h1 : 0 ≤ m) (h2 : m < 1000000) (h3 : 0 < n) (h4 : n < 1000000) (k : ∀ x st', -1 ≤ x → (x < m ∨ x = -1) → Dr p st st' → Q (.int x) (st' ++ L)) : s__law_or_none [.loc p, .int m, .int n] (st ++ L) Q := by
  unfold s__law_or_none
  refine ⟨p, m, n, rfl, hp.app, h1, h2, h3, h4, fun x s' x0 x1 d => ?_⟩
  obtain ⟨st', rfl, d'⟩ := d.app hp.lt
  exact k x st' x0 x1 d'
theorem ornone0 {st : Store} {p : Nat} {m n : Int} {Q : DK} (hp : Po st p) (h1 : 0 ≤ m) (h2 : m < 1000000) (h3 : 0 < n) (h4 : n < 1000000) (k : ∀ x st', -1 ≤ x → (x < m ∨ x = -1) → Dr p st st' → Q (.int x) st') : s__law_or_none [.loc p, .int m, .int n] st Q := by
  have q := ornone (L := []) (Q := Q) hp h1 h2 h3 h4 (fun x st' a b d => by rw [List.append_nil]; exact k x st' a b d)
  rw [List.append_nil] at q
  exact q
/-- a comprehension whose items are drawn one by one -/
theorem lc_draw {α : Type} {g : DTg} {we : WE} {ok : Store → Prop} {env0 : Slots} {p : Nat} {L : List Cell} {e2 : α → Val} (R : Nat → α → Prop) {Q : List Val → Store → Prop} (hok : ∀ s, ok s) : ∀ (ds : List Val) (i : Nat) (st : Store) (acc : List α), Po st p →
    (∀ (j : Nat) d st1, ds[j]? = some d → Dr p st st1 → ∃ env, g d env0 = some env ∧ ∀ Q' : DK, (∀ x st2, R (i + j) x → Dr p st1 st2 → Q' (e2 x) (st2 ++ L)) → we env (st1 ++ L) Q') →
    (∀ (xs : List α) st', xs.length = ds.length → (∀ (j : Nat) x, xs[j]? = some x → R (i + j) x) → Dr p st st' → Q ((acc ++ xs).map e2) (st' ++ L)) → lcD g wYes we ok env0 ds (acc.map e2) (st ++ L) Q
  | [], i, st, acc, hp, _, q => by
    show Q (acc.map e2) (st ++ L)
    have := q [] st rfl (fun j x h => by simp at h) (.refl hp)
    rwa [List.append_nil] at this
  | d :: ds, i, st, acc, hp, h, q => by
    obtain ⟨env, h1, h2⟩ := h 0 d st rfl (.refl hp)
    refine ⟨env, h1, h2 _ fun x st2 rx dr => ⟨hok _, ?_⟩⟩
    have ea : acc.map e2 ++ [e2 x] = (acc ++ [x]).map e2 := by simp
    rw [ea]
    refine lc_draw R hok ds (i + 1) st2 (acc ++ [x]) (dr.po hp) (fun j d' st1 hd dr1 => ?_) fun xs st' hl hx dr2 => ?_
    · have := h (j + 1) d' st1 (by simpa using hd) (dr.trans dr1)
      rw [show i + 1 + j = i + (j + 1) by omega]
      exact this
    · have := q (x :: xs) st' (by simp [hl]) (fun j y hy => ?_) (dr.trans dr2)
      · rw [List.append_assoc]
        exact this
      · cases j with
        | zero =>
          cases hy
          exact rx
        | succ j =>
          have := hx j y (by simpa using hy)
          rw [show i + 1 + j = i + (j + 1) by omega] at this
          exact this
/-- .. with a draw as the test: some of the items -/
theorem lc_some {α : Type} {g : DTg} {wt : WT} {we : WE} {ok : Store → Prop} {env0 : Slots} {p : Nat} {L : List Cell} {e e2 : α → Val} {Q : List Val → Store → Prop} (hok : ∀ s, ok s) : ∀ (xs : List α) (st : Store) (acc : List α), Po st p →
    (∀ x ∈ xs, ∀ st1, Dr p st st1 → ∃ env, g (e x) env0 = some env ∧ (∀ T : Bool → Store → Prop, (∀ b st2, Dr p st1 st2 → T b (st2 ++ L)) → wt env (st1 ++ L) T) ∧ ∀ st2 (Q' : DK), Q' (e2 x) (st2 ++ L) → we env (st2 ++ L) Q') →
    (∀ (ys : List α) st', ys.Sublist xs → Dr p st st' → Q ((acc ++ ys).map e2) (st' ++ L)) → lcD g wt we ok env0 (xs.map e) (acc.map e2) (st ++ L) Q
  | [], st, acc, hp, _, q => by
    show Q (acc.map e2) (st ++ L)
    have := q [] st (List.Sublist.refl _) (.refl hp)
    rwa [List.append_nil] at this
  | x :: xs, st, acc, hp, h, q => by
    obtain ⟨env, h1, h2, h3⟩ := h x List.mem_cons_self st (.refl hp)
    refine ⟨env, h1, h2 _ fun b st2 dr => ?_⟩
    cases b with
    | true =>
      refine h3 st2 _ ⟨hok _, ?_⟩
      have ea : acc.map e2 ++ [e2 x] = (acc ++ [x]).map e2 := by simp
      rw [ea]
      refine lc_some hok xs st2 (acc ++ [x]) (dr.po hp) (fun y hy st1 dr1 => h y (List.mem_cons_of_mem _ hy) st1 (dr.trans dr1)) fun ys st' hs dr2 => ?_
      rw [List.append_assoc]
      exact q (x :: ys) st' (hs.cons₂ x) (dr.trans dr2)
    | false =>
      refine ⟨hok _, ?_⟩
      exact lc_some hok xs st2 acc (dr.po hp) (fun y hy st1 dr1 => h y (List.mem_cons_of_mem _ hy) st1 (dr.trans dr1)) fun ys st' hs dr2 => q ys st' (hs.cons x) (dr.trans dr2)
/-- some of 0 .. m - 1, ascending -/
@[irreducible] def s__law_some : DSp := fun ds st P => ∃ p m n, ds = [.loc p, .int m, .int n] ∧ Po st p ∧ 0 ≤ m ∧ m < 1000 ∧ 0 < n ∧ n < 1000000 ∧ ∀ (ns : List Int) st', Asc (m - 1) 0 ns → Dr p st st' → P (tI ns) st'
theorem asc_ge {hi : Int} : ∀ {ns : List Int} {lo lo' : Int}, Asc hi lo ns → (∀ x ∈ ns, lo' ≤ x) → Asc hi lo' ns
  | [], _, _, _, _ => trivial
  | n :: ns, lo, lo', h, k => ⟨k n List.mem_cons_self, h.2⟩
theorem asc_mem {hi : Int} : ∀ {ns : List Int} {lo x : Int}, Asc hi lo ns → x ∈ ns → lo ≤ x ∧ x ≤ hi
  | n :: ns, lo, x, h, m => by
    rcases List.mem_cons.mp m with rfl | m
    · exact ⟨h.1, h.2.1⟩
    · have := asc_mem h.2.2 m
      have := h.1
      omega
theorem asc_sub {hi : Int} : ∀ {xs ys : List Int} {lo : Int}, ys.Sublist xs → Asc hi lo xs → Asc hi lo ys
  | _, _, _, .slnil, h => h
  | _ :: xs, ys, lo, .cons x s, h => by
    have := asc_sub s h.2.2
    exact this.mono (by have := h.1; omega)
  | _ :: xs, _ :: ys, lo, .cons₂ x s, h => ⟨h.1, h.2.1, asc_sub s h.2.2⟩
def upI (lo : Int) (n : Nat) : List Int := (List.range n).map fun (i : Nat) => lo + (i : Int)
theorem upTo_upI (lo : Int) (n : Nat) : DL.upTo lo n = (upI lo n).map Val.int := by
  unfold DL.upTo upI
  rw [List.map_map]
  rfl
theorem upI_succ (lo : Int) (n : Nat) : upI lo (n + 1) = lo :: upI (lo + 1) n := by
  unfold upI
  rw [List.range_succ_eq_map, List.map_cons, List.map_map]
  congr 1
  · simp
  · refine List.map_congr_left fun i _ => ?_
    show lo + ((i + 1 : Nat) : Int) = lo + 1 + (i : Int)
    omega
theorem upI_asc (hi : Int) : ∀ (n : Nat) (lo : Int), lo + (n : Int) ≤ hi + 1 → Asc hi lo (upI lo n)
  | 0, lo, _ => trivial
  | n + 1, lo, h => by
    rw [upI_succ]
    exact ⟨Int.le_refl _, by omega, upI_asc hi n (lo + 1) (by omega)⟩
theorem v__law_some (ds : List Val) (st : Store) (P : DK) (h : s__law_some ds st P) : w__law_some s__law_draw (defE st P) (startD N__law_some ds) st := by
  unfold s__law_some at h
  obtain ⟨p, m, n, rfl, hp, h1, h2, h3, h4, k⟩ := h
  rw [e__law_some]
  unfold w__law_some
  have hz : sizeLine = 2 ^ 24 := rfl
  ((conv => whnf); (try dsimp only))
  refine ⟨by omega, by omega, ?_⟩
  ((conv => whnf); (try dsimp only))
  rw [upTo_upI]
  have key := lc_some (e := Val.int) (e2 := Val.int) (L := []) (ok := fun _ => True) (p := p) (Q := fun acc s => tupW acc s (Back st P)) (g := gN 3) (wt := wTest (wBin gtV (wCB s__law_draw (wCons (wVar 0) (wCons (wVar 2) wNil))) (wC (Val.int 0)))) (we := wVar 3)
    (env0 := wipeD [some (Val.loc p), some (Val.int m), some (Val.int n), none] [3]) (fun _ => trivial) (upI 0 m.toNat) st [] hp (fun x _ st1 dr1 => ⟨_, rfl, fun T ht => ?_, fun st2 Q' q => q⟩) fun ys st' hs dr => ?_
  · rw [List.append_nil] at key
    exact key
  · rw [List.append_nil]
    refine draw0 (dr1.po hp) h3 h4 fun x st' x0 x1 d => ?_
    have := ht (decide (0 < x)) st' d
    rw [List.append_nil] at this
    exact this
  · rw [List.append_nil, List.nil_append]
    refine back_dr0 dr (clVs_ints _ _) (k ys st' ?_ dr)
    exact asc_sub hs (upI_asc _ _ _ (by omega))
theorem someL {st : Store} {L : List Cell} {p : Nat} {m n : Int} {Q : DK} (hp : Po st p) (h1 : 0 ≤ m) (h2 : m < 1000) (h3 : 0 < n) (h4 : n < 1000000) (k : ∀ ns st', Asc (m - 1) 0 ns → Dr p st st' → Q (tI ns) (st' ++ L)) : s__law_some [.loc p, .int m, .int n] (st ++ L) Q := by
  unfold s__law_some
  refine ⟨p, m, n, rfl, hp.app, h1, h2, h3, h4, fun ns s' ha d => ?_⟩
  obtain ⟨st', rfl, d'⟩ := d.app hp.lt
  exact k ns st' ha d'
end K05

set_option Elab.async false
set_option linter.all false
set_option maxRecDepth 100000
set_option maxHeartbeats 4000000
namespace K05
open PySem L2 DL
structure Mn where
  m0 : Int
  m1 : Int
  m2 : Int
  m3 : Int
  m4 : Int
  m5 : Int
  m6 : Int
  m7 : Int
  m8 : Int
  m9 : Int
  m10 : Int
  m11 : Int
  m12 : Int
  m13 : Int
  m14 : Int
def Mn.l (m : Mn) : List Val := [.int m.m0, .int m.m1, .int m.m2, .int m.m3, .int m.m4, .int m.m5, .int m.m6, .int m.m7, .int m.m8, .int m.m9, .int m.m10, .int m.m11, .int m.m12, .int m.m13, .int m.m14]
structure MnOk (m : Mn) : Prop where
  h0 : 1 ≤ m.m0 ∧ m.m0 ≤ 4
  h1 : 1 ≤ m.m1 ∧ m.m1 ≤ 2
  h2 : 1 ≤ m.m2 ∧ m.m2 ≤ 3
  h3 : 1 ≤ m.m3 ∧ m.m3 ≤ 8
  h4 : 1 ≤ m.m4 ∧ m.m4 ≤ 3
  h5 : 0 ≤ m.m5 ∧ m.m5 ≤ 3
  h6 : 1 ≤ m.m6 ∧ m.m6 ≤ 3
  h7 : 0 ≤ m.m7 ∧ m.m7 ≤ 6
  h8 : 1 ≤ m.m8 ∧ m.m8 ≤ 3
  h9 : 0 ≤ m.m9 ∧ m.m9 ≤ 3
  h10 : 0 ≤ m.m10 ∧ m.m10 ≤ 2
  h11 : 0 ≤ m.m11 ∧ m.m11 ≤ 3
  h12 : 0 ≤ m.m12 ∧ m.m12 ≤ 2
  h13 : 0 ≤ m.m13 ∧ m.m13 ≤ 3
  h14 : 0 ≤ m.m14 ∧ m.m14 ≤ 2
/-- the sizes stand at q -/
def My (st : Store) (p q : Nat) (m : Mn) : Prop := st[q]? = some (.lst m.l) ∧ q ≠ p
theorem My.dr {st st' : Store} {p q : Nat} {m : Mn} (h : My st p q m) (d : Dr p st st') : My st' p q m := ⟨by rw [d.get h.2]; exact h.1, h.2⟩
theorem My.it {st : Store} {L : List Cell} {p q : Nat} {m : Mn} (h : My st p q m) : itemsOf (st ++ L) (.loc q) = some m.l := itemsL (by rw [lookA (List.getElem?_eq_some_iff.mp h.1).1]; exact h.1)
theorem My.it0 {st : Store} {p q : Nat} {m : Mn} (h : My st p q m) : itemsOf st (.loc q) = some m.l := itemsL h.1
/-- ascending rows, read from the end -/
theorem asc_snoc {hi : Int} : ∀ {ns : List Int} {lo x : Int}, Asc hi lo ns → (∀ y ∈ ns, y < x) → lo ≤ x → x ≤ hi → Asc hi lo (ns ++ [x])
  | [], _, _, _, _, h1, h2 => ⟨h1, h2, trivial⟩
  | n :: ns, lo, x, h, k, h1, h2 => ⟨h.1, h.2.1, asc_snoc h.2.2 (fun y hy => k y (List.mem_cons_of_mem _ hy)) (by have := k n List.mem_cons_self; omega) h2⟩
/-- a clause in form, for sizes -/
def ClIn (m : Mn) (r : Int) (c : Cl) : Prop := (-1 ≤ c.kind ∧ c.kind < m.m6) ∧ (-1 ≤ c.team ∧ c.team < m.m4) ∧ Asc (m.m5 - 1) 0 c.has ∧ Asc (m.m5 - 1) 0 c.hasnot ∧ -1 ≤ c.below ∧ c.below < r
@[irreducible] def s__law_clause : DSp := fun ds st P => ∃ p q m r, ds = [.loc p, .loc q, .int r] ∧ Po st p ∧ My st p q m ∧ MnOk m ∧ 0 ≤ r ∧ r < 1000 ∧ ∀ c st', ClIn m r c → Dr p st st' → P (clauseV c) st'
theorem v__law_clause (ds : List Val) (st : Store) (P : DK) (h : s__law_clause ds st P) : w__law_clause s__law_draw s__law_or_none (defE st P) (startD N__law_clause ds) st := by
  unfold s__law_clause at h
  obtain ⟨p, q, m, r, rfl, hp, hm, M, r0, r1, k⟩ := h
  have h5 := M.h5
  have h6 := M.h6
  have h4 := M.h4
  have hz : sizeLine = 2 ^ 24 := rfl
  rw [e__law_clause]
  unfold w__law_clause
  ((conv => whnf); (try dsimp only))
  refine ⟨Nat.zero_le _, ?_⟩
  ((conv => whnf); (try dsimp only))
  refine ⟨Nat.zero_le _, ?_⟩
  ((conv => whnf); (try dsimp only))
  rw [List.append_assoc, hm.it]
  ((conv => whnf); (try dsimp only))
  refine ⟨by omega, by omega, ?_⟩
  have eL : (st ++ [Cell.lst []]).length = st.length + 1 := by simp
  rw [eL]
  refine forD_ind (fun i env s => ∃ (st1 : Store) (xs ys : List Int) (x y : Option Val), s = st1 ++ [.lst (xs.map Val.int), .lst (ys.map Val.int)] ∧ Dr p st st1 ∧ env = [some (.loc p), some (.loc q), some (.int r), some (.loc st.length), some (.loc (st.length + 1)), x, y] ∧
    Asc (m.m5 - 1) 0 xs ∧ Asc (m.m5 - 1) 0 ys ∧ (∀ z ∈ xs, z < i) ∧ (∀ z ∈ ys, z < i) ∧ xs.length ≤ i ∧ ys.length ≤ i) (fun _ _ _ _ => trivial) ?_ ?_ ⟨st, [], [], none, none, rfl, .refl hp, rfl, trivial, trivial, (fun _ h => by cases h), (fun _ h => by cases h), Nat.zero_le _, Nat.zero_le _⟩
  · rintro i d env s hd ⟨st1, xs, ys, x, y, rfl, dr, rfl, a1, a2, b1, b2, c1, c2⟩ N hN
    obtain ⟨hi, rfl⟩ := upTo_get' hd
    have hlen : st.length = st1.length := dr.len.symm
    refine ⟨_, rfl, ?_⟩
    refine draw (dr.po hp) (by decide) (by decide) fun w st2 w0 w1 d2 => ?_
    have hlen2 : st.length = st2.length := by rw [hlen]; exact d2.len.symm
    rw [hlen2]
    have dr2 := dr.trans d2
    -- the first test
    refine ⟨fun e' s' => e' = [some (.loc p), some (.loc q), some (.int r), some (.loc st2.length), some (.loc (st2.length + 1)), some (.int (0 + (i : Int))), some (.int w)] ∧ ∃ xs' : List Int, s' = st2 ++ [.lst (xs'.map Val.int), .lst (ys.map Val.int)] ∧ Asc (m.m5 - 1) 0 xs' ∧ (∀ z ∈ xs', z < i + 1) ∧ xs'.length ≤ i + 1, ?_, ?_⟩
    · have add : (wDrop (wMt appV (wVar 3) (wCons (wVar 5) wNil))) { nx := fun e' s' => e' = [some (.loc p), some (.loc q), some (.int r), some (.loc st2.length), some (.loc (st2.length + 1)), some (.int (0 + (i : Int))), some (.int w)] ∧ ∃ xs' : List Int, s' = st2 ++ [.lst (xs'.map Val.int), .lst (ys.map Val.int)] ∧ Asc (m.m5 - 1) 0 xs' ∧ (∀ z ∈ xs', z < i + 1) ∧ xs'.length ≤ i + 1, rt := Back st P }
          [some (.loc p), some (.loc q), some (.int r), some (.loc st2.length), some (.loc (st2.length + 1)), some (.int (0 + (i : Int))), some (.int w)] (st2 ++ [.lst (xs.map Val.int), .lst (ys.map Val.int)]) := by
        ((conv => whnf); (try dsimp only))
        refine ⟨isLst0, ?_⟩
        ((conv => whnf); (try dsimp only))
        rw [look0]
        refine app0 (by rw [List.length_map]; omega) ⟨rfl, xs ++ [0 + (i : Int)], ?_, asc_snoc a1 (fun z hz => by have := b1 z hz; omega) (by omega) (by omega), fun z hz => ?_, by simp; omega⟩
        · rw [List.map_append]
          rfl
        · rcases List.mem_append.mp hz with hz | hz
          · have := b1 z hz
            omega
          · have := List.mem_singleton.mp hz
            omega
      ((conv => whnf); (try dsimp only))
      by_cases t1 : w < 6
      · rw [decide_eq_true t1]
        exact add
      · rw [decide_eq_false t1]
        ((conv => whnf); (try dsimp only))
        refine ⟨.inl rfl, ?_⟩
        simp only [eqd_int, Bool.false_eq_true, if_false]
        by_cases t2 : w = 10
        · rw [decide_eq_true t2]
          exact add
        · rw [decide_eq_false t2]
          exact ⟨rfl, xs, rfl, a1, fun z hz => by have := b1 z hz; omega, by omega⟩
    rintro _ _ ⟨rfl, xs', rfl, a1', b1', c1'⟩
    have fin : ∀ ys' : List Int, Asc (m.m5 - 1) 0 ys' → (∀ z ∈ ys', z < i + 1) → ys'.length ≤ i + 1 → N [some (.loc p), some (.loc q), some (.int r), some (.loc st2.length), some (.loc (st2.length + 1)), some (.int (0 + (i : Int))), some (.int w)] (st2 ++ [.lst (xs'.map Val.int), .lst (ys'.map Val.int)]) := fun ys' g1 g2 g3 =>
      hN _ _ ⟨st2, xs', ys', _, _, rfl, dr2, by rw [hlen2], a1', g1, fun z hz => by have := b1' z hz; omega, fun z hz => by have := g2 z hz; omega, c1', g3⟩
    have stay := fin ys a2 (fun z hz => by have := b2 z hz; omega) (by omega)
    ((conv => whnf); (try dsimp only))
    by_cases t1 : 6 ≤ w
    · rw [decide_eq_true t1]
      ((conv => whnf); (try dsimp only))
      by_cases t2 : w ≤ 10
      · rw [decide_eq_true t2]
        ((conv => whnf); (try dsimp only))
        refine ⟨isLstK (k := 1) rfl, ?_⟩
        ((conv => whnf); (try dsimp only))
        rw [lookK]
        ((conv => whnf); (try dsimp only))
        refine ⟨by rw [List.length_map]; omega, ?_⟩
        rw [setK]
        have := fin (ys ++ [0 + (i : Int)]) (asc_snoc a2 (fun z hz => by have := b2 z hz; omega) (by omega) (by omega)) (fun z hz => ?_) (by simp; omega)
        · rw [List.map_append] at this
          exact this
        · rcases List.mem_append.mp hz with hz | hz
          · have := b2 z hz
            omega
          · have := List.mem_singleton.mp hz
            omega
      · rw [decide_eq_false t2]
        exact stay
    · rw [decide_eq_false t1]
      exact stay
  · rintro env s ⟨st1, xs, ys, x, y, rfl, dr, rfl, a1, a2, b1, b2, c1, c2⟩
    have hlen : st.length = st1.length := dr.len.symm
    ((conv => whnf); (try dsimp only))
    rw [(hm.dr dr).it]
    ((conv => whnf); (try dsimp only))
    refine ornone (dr.po hp) (by omega) (by omega) (by decide) (by decide) fun z1 st2 z10 z11 d2 => ?_
    ((conv => whnf); (try dsimp only))
    rw [((hm.dr dr).dr d2).it]
    ((conv => whnf); (try dsimp only))
    have dr2 := dr.trans d2
    refine ornone (dr2.po hp) (by omega) (by omega) (by decide) (by decide) fun z2 st3 z20 z21 d3 => ?_
    have dr3 := dr2.trans d3
    rw [show st.length = st3.length from dr3.len.symm]
    ((conv => whnf); (try dsimp only))
    rw [itemsL look0]
    ((conv => whnf); (try dsimp only))
    rw [itemsL (n := st3.length + 1) (ds := ys.map Val.int) (lookK (k := 1))]
    ((conv => whnf); (try dsimp only))
    refine ornone (dr3.po hp) r0 (by omega) (by decide) (by decide) fun z3 st4 z30 z31 d4 => ?_
    refine ⟨by show 5 ≤ sizeLine; decide, ?_⟩
    have k1 : z1 < m.m6 := by omega
    have k2 : z2 < m.m4 := by omega
    have k3 : z3 < r := by omega
    exact back_dr _ (dr3.trans d4) (cl_cl _ ⟨z1, z2, xs, ys, z3⟩) (k ⟨z1, z2, xs, ys, z3⟩ _ ⟨⟨z10, k1⟩, ⟨z20, k2⟩, a1, a2, z30, k3⟩ (dr3.trans d4))
end K05

set_option Elab.async false
set_option linter.all false
set_option maxRecDepth 100000
set_option maxHeartbeats 4000000
namespace K05
open PySem L2 DL
theorem clauseL {st : Store} {L : List Cell} {p q : Nat} {m : Mn} {r : Int} {Q : DK} (hp : Po st p) (hm : My st p q m) (M : MnOk m) (r0 : 0 ≤ r) (r1 : r < 1000) (k : ∀ c st', ClIn m r c → Dr p st st' → Q (clauseV c) (st' ++ L)) : s__law_clause [.loc p, .loc q, .int r] (st ++ L) Q := by
  unfold s__law_clause
  refine ⟨p, q, m, r, rfl, hp.app, ⟨by rw [lookA (List.getElem?_eq_some_iff.mp hm.1).1]; exact hm.1, hm.2⟩, M, r0, r1, fun c s' hc d => ?_⟩
  obtain ⟨st', rfl, d'⟩ := d.app hp.lt
  exact k c st' hc d'
theorem upTo_len (lo : Int) (n : Nat) : (DL.upTo lo n).length = n := DL.upTo_len lo n
@[irreducible] def s__law_ladder : DSp := fun ds st P => ∃ p q m, ds = [.loc p, .loc q] ∧ Po st p ∧ My st p q m ∧ MnOk m ∧ ∀ (rs : List (List Cl)) st', (rs.length : Int) = m.m7 → (∀ (i : Nat) cs, rs[i]? = some cs → (1 ≤ cs.length ∧ cs.length ≤ 3) ∧ ∀ c ∈ cs, ClIn m i c) → Dr p st st' → P (.tup (rs.map roleV)) st'
theorem v__law_ladder (ds : List Val) (st : Store) (P : DK) (h : s__law_ladder ds st P) : w__law_ladder s__law_clause s__law_draw (defE st P) (startD N__law_ladder ds) st := by
  unfold s__law_ladder at h
  obtain ⟨p, q, m, rfl, hp, hm, M, k⟩ := h
  have h7 := M.h7
  have h8 := M.h8
  have hz : sizeLine = 2 ^ 24 := rfl
  rw [e__law_ladder]
  unfold w__law_ladder
  ((conv => whnf); (try dsimp only))
  refine ⟨Nat.zero_le _, ?_⟩
  ((conv => whnf); (try dsimp only))
  rw [hm.it]
  ((conv => whnf); (try dsimp only))
  refine ⟨by omega, by omega, ?_⟩
  refine forD_ind (fun i env s => ∃ (st1 : Store) (rs : List (List Cl)) (x : Option Val), s = st1 ++ [.lst (rs.map roleV)] ∧ Dr p st st1 ∧ env = [some (.loc p), some (.loc q), some (.loc st.length), x, none] ∧
    rs.length = i ∧ ∀ (j : Nat) cs, rs[j]? = some cs → (1 ≤ cs.length ∧ cs.length ≤ 3) ∧ ∀ c ∈ cs, ClIn m j c) (fun _ _ _ _ => trivial) ?_ ?_ ⟨st, [], none, rfl, .refl hp, rfl, rfl, fun j cs h => by simp at h⟩
  · rintro i d env s hd ⟨st1, rs, x, rfl, dr, rfl, hl, hr⟩ N hN
    obtain ⟨hi, rfl⟩ := upTo_get' hd
    have hlen : st.length = st1.length := dr.len.symm
    refine ⟨_, rfl, ?_⟩
    ((conv => whnf); (try dsimp only))
    rw [hlen]
    refine ⟨isLst0, ?_⟩
    ((conv => whnf); (try dsimp only))
    rw [(hm.dr dr).it]
    ((conv => whnf); (try dsimp only))
    refine draw (dr.po hp) (by omega) (by omega) fun w st2 w0 w1 d2 => ?_
    ((conv => whnf); (try dsimp only))
    refine ⟨by omega, by omega, ?_⟩
    ((conv => whnf); (try dsimp only))
    have dr2 := dr.trans d2
    have key := lc_draw (e2 := clauseV) (L := [.lst (rs.map roleV)]) (p := p) (g := gN 4) (ok := fun _ => True) (we := wCB s__law_clause (wCons (wVar 0) (wCons (wVar 1) (wCons (wVar 3) wNil))))
      (env0 := wipeD [some (Val.loc p), some (Val.loc q), some (Val.loc st1.length), some (.int (0 + (i : Int))), none] [4]) (fun _ c => ClIn m i c)
      (Q := fun acc s => tupW acc s fun d s2 => match s2[st1.length]? with
        | some (.lst ds) => appV st1.length ds [d] s2 fun _ s3 => N [some (Val.loc p), some (Val.loc q), some (Val.loc st1.length), some (.int (0 + (i : Int))), none] s3
        | _ => False) (fun _ => trivial) (DL.upTo 0 (1 + w).toNat) 0 st2 [] (dr2.po hp) ?_ ?_
    · exact key
    · intro j d st3 hd dr3
      refine ⟨_, rfl, fun Q' hQ => ?_⟩
      ((conv => whnf); (try dsimp only))
      rw [Int.zero_add]
      exact clauseL (dr3.po (dr2.po hp)) (hm.dr (dr2.trans dr3)) M (by omega) (by omega) fun c st' hc d' => hQ c st' hc d'
    · intro xs st' hxl hx dr3
      have dr4 := dr2.trans dr3
      have hl4 : st1.length = st'.length := by rw [dr3.len, d2.len]
      show match (st' ++ [Cell.lst (rs.map roleV)])[st1.length]? with
        | some (.lst ds) => appV st1.length ds [.tup (([] ++ xs).map clauseV)] (st' ++ [Cell.lst (rs.map roleV)]) fun _ s3 => N [some (Val.loc p), some (Val.loc q), some (Val.loc st1.length), some (.int (0 + (i : Int))), none] s3
        | _ => False
      rw [hl4, look0, List.nil_append]
      refine app0 (by rw [List.length_map]; omega) (hN _ _ ⟨st', rs ++ [xs], _, ?_, dr4, by rw [← hl4, hlen], by simp [hl], fun j cs hj => ?_⟩)
      · rw [List.map_append]
        rfl
      · by_cases e : j < rs.length
        · rw [List.getElem?_append_left e] at hj
          exact hr j cs hj
        · rw [List.getElem?_append_right (by omega)] at hj
          have : j - rs.length = 0 := by
            have := (List.getElem?_eq_some_iff.mp hj).1
            simp at this
            omega
          rw [this] at hj
          cases hj
          have ej : j = i := by omega
          subst ej
          rw [DL.upTo_len] at hxl
          refine ⟨⟨by omega, by omega⟩, fun c hc => ?_⟩
          obtain ⟨n, hn⟩ := List.mem_iff_getElem?.mp hc
          exact hx n c hn
  · rintro env s ⟨st1, rs, x, rfl, dr, rfl, hl, hr⟩
    rw [DL.upTo_len] at hl
    have hlen : st.length = st1.length := dr.len.symm
    ((conv => whnf); (try dsimp only))
    rw [hlen, itemsL look0]
    exact back_dr _ dr (clVs_map fun cs => cl_role _ cs) (k rs st1 (by omega) hr dr)
theorem ladderL {st : Store} {L : List Cell} {p q : Nat} {m : Mn} {Q : DK} (hp : Po st p) (hm : My st p q m) (M : MnOk m) (k : ∀ (rs : List (List Cl)) st', (rs.length : Int) = m.m7 → (∀ (i : Nat) cs, rs[i]? = some cs → (1 ≤ cs.length ∧ cs.length ≤ 3) ∧ ∀ c ∈ cs, ClIn m i c) → Dr p st st' → Q (.tup (rs.map roleV)) (st' ++ L)) : s__law_ladder [.loc p, .loc q] (st ++ L) Q := by
  unfold s__law_ladder
  refine ⟨p, q, m, rfl, hp.app, ⟨by rw [lookA (List.getElem?_eq_some_iff.mp hm.1).1]; exact hm.1, hm.2⟩, M, fun rs s' h1 h2 d => ?_⟩
  obtain ⟨st', rfl, d'⟩ := d.app hp.lt
  exact k rs st' h1 h2 d'
/-! ### a reach, a lot -/
@[irreducible] def s__law_reach : DSp := fun ds st P => ∃ p q xs h pl n, ds = [.loc p, .loc q] ∧ Po st p ∧ st[q]? = some (.lst xs) ∧ q ≠ p ∧ atI xs 3 = some (.int n) ∧ atI xs 0 = some (.int h) ∧ atI xs 1 = some (.int pl) ∧ 1 ≤ n ∧ n ≤ 8 ∧ 1 ≤ h ∧ h ≤ 4 ∧ 1 ≤ pl ∧ pl ≤ 2 ∧
  ∀ vs (node deep : Int) hs ps st', Asc 12 0 vs → 0 ≤ node → node < n → 0 ≤ deep → deep ≤ 1 → Asc (h - 1) 0 hs → Asc (pl - 1) 0 ps → Dr p st st' → P (.tup [tI vs, .int node, .int deep, tI hs, tI ps]) st'
theorem some0 {st : Store} {p : Nat} {m n : Int} {Q : DK} (hp : Po st p) (h1 : 0 ≤ m) (h2 : m < 1000) (h3 : 0 < n) (h4 : n < 1000000) (k : ∀ ns st', Asc (m - 1) 0 ns → Dr p st st' → Q (tI ns) st') : s__law_some [.loc p, .int m, .int n] st Q := by
  have q := someL (L := []) (Q := Q) hp h1 h2 h3 h4 (fun ns st' a d => by rw [List.append_nil]; exact k ns st' a d)
  rw [List.append_nil] at q
  exact q
theorem v__law_reach (ds : List Val) (st : Store) (P : DK) (h : s__law_reach ds st P) : w__law_reach s__law_draw s__law_some (defE st P) (startD N__law_reach ds) st := by
  unfold s__law_reach at h
  obtain ⟨p, q, xs, h, pl, n, rfl, hp, hq, hne, e3, e0, e1, n0, n1, h0, h1, p0, p1, k⟩ := h
  have it : ∀ st', Dr p st st' → itemsOf st' (.loc q) = some xs := fun st' d => itemsL (by rw [d.get hne]; exact hq)
  rw [e__law_reach]
  unfold w__law_reach
  ((conv => whnf); (try dsimp only))
  rw [it st (.refl hp)]
  ((conv => whnf); (try dsimp only))
  rw [e3]
  ((conv => whnf); (try dsimp only))
  refine draw0 hp (by omega) (by omega) fun x st1 x0 x1 d1 => ?_
  ((conv => whnf); (try dsimp only))
  refine draw0 (d1.po hp) (by omega) (by omega) fun y st2 y0 y1 d2 => ?_
  have d12 := d1.trans d2
  ((conv => whnf); (try dsimp only))
  refine draw0 (d12.po hp) (by decide) (by decide) fun z st3 z0 z1 d3 => ?_
  have d13 := d12.trans d3
  ((conv => whnf); (try dsimp only))
  refine some0 (d13.po hp) (by decide) (by decide) (by decide) (by decide) fun vs st4 hv d4 => ?_
  have d14 := d13.trans d4
  ((conv => whnf); (try dsimp only))
  rw [it st4 d14]
  ((conv => whnf); (try dsimp only))
  rw [e0]
  ((conv => whnf); (try dsimp only))
  refine some0 (d14.po hp) (by omega) (by omega) (by decide) (by decide) fun hs st5 hh d5 => ?_
  have d15 := d14.trans d5
  ((conv => whnf); (try dsimp only))
  rw [it st5 d15]
  ((conv => whnf); (try dsimp only))
  rw [e1]
  ((conv => whnf); (try dsimp only))
  refine some0 (d15.po hp) (by omega) (by omega) (by decide) (by decide) fun ps st6 hps d6 => ?_
  have d16 := d15.trans d6
  refine ⟨by show 5 ≤ sizeLine; decide, ?_⟩
  refine back_dr0 d16 (by simp [clV, clVs, cl_I]) (k vs y _ hs ps st6 hv y0 (by omega) ?_ ?_ hh hps d16)
  · split <;> omega
  · split <;> omega
end K05

set_option Elab.async false
set_option linter.all false
set_option maxRecDepth 100000
set_option maxHeartbeats 4000000
namespace K05
open PySem L2 DL
def RlM (m : Mn) (x : Int) : Prop := -1 ≤ x ∧ x < m.m7
def LotIn (m : Mn) (l : Lot) : Prop := (0 ≤ l.node ∧ l.node < m.m3) ∧ Asc 12 0 l.verbs ∧ (0 ≤ l.rank ∧ l.rank ≤ 3) ∧ (0 ≤ l.depth ∧ l.depth ≤ 2) ∧ (1 ≤ l.life ∧ l.life ≤ 6) ∧ RlM m l.r1 ∧ RlM m l.r2 ∧ l.passes.length ≤ 3 ∧ ∀ p ∈ l.passes, RlM m p.1 ∧ RlM m p.2
@[irreducible] def s__law_lot : DSp := fun ds st P => ∃ p q m, ds = [.loc p, .loc q] ∧ Po st p ∧ My st p q m ∧ MnOk m ∧ ∀ l st', LotIn m l → Dr p st st' → P (lotV l) st'
theorem v__law_lot (ds : List Val) (st : Store) (P : DK) (h : s__law_lot ds st P) : w__law_lot s__law_draw s__law_or_none s__law_some (defE st P) (startD N__law_lot ds) st := by
  unfold s__law_lot at h
  obtain ⟨p, q, m, rfl, hp, hm, M, k⟩ := h
  have h3 := M.h3
  have h7 := M.h7
  have h11 := M.h11
  have hz : sizeLine = 2 ^ 24 := rfl
  rw [e__law_lot]
  unfold w__law_lot
  ((conv => whnf); (try dsimp only))
  refine ⟨Nat.zero_le _, ?_⟩
  ((conv => whnf); (try dsimp only))
  rw [hm.it]
  ((conv => whnf); (try dsimp only))
  refine draw hp (by omega) (by omega) fun x1 st1 a1 b1 d1 => ?_
  ((conv => whnf); (try dsimp only))
  rw [(hm.dr d1).it]
  ((conv => whnf); (try dsimp only))
  refine draw (d1.po hp) (by omega) (by omega) fun x2 st2 a2 b2 d2 => ?_
  have dr2 := d1.trans d2
  ((conv => whnf); (try dsimp only))
  generalize hr : (if (if x2 < m.m11 then x2 else m.m11) > x1 then (if x2 < m.m11 then x2 else m.m11) else x1) = rh
  have hr1 : 0 ≤ rh ∧ rh ≤ 3 := by
    rw [← hr]
    split <;> split <;> omega
  refine ⟨by omega, by omega, ?_⟩
  refine forD_ind (fun i env s => ∃ (st3 : Store) (ps : List (Int × Int)) (x : Option Val), s = st3 ++ [.lst (ps.map pairD)] ∧ Dr p st st3 ∧ env = [some (.loc p), some (.loc q), some (.loc st.length), some (.int rh), x, none, none, none, none] ∧
    ps.length = i ∧ ∀ r ∈ ps, RlM m r.1 ∧ RlM m r.2) (fun _ _ _ _ => trivial) ?_ ?_ ⟨st2, [], none, rfl, dr2, rfl, rfl, fun r h => by cases h⟩
  · rintro i d env s hd ⟨st3, ps, x, rfl, dr, rfl, hl, hps⟩ N hN
    obtain ⟨hi, rfl⟩ := upTo_get' hd
    have hlen : st.length = st3.length := dr.len.symm
    refine ⟨_, rfl, ?_⟩
    ((conv => whnf); (try dsimp only))
    rw [hlen]
    refine ⟨isLst0, ?_⟩
    ((conv => whnf); (try dsimp only))
    rw [(hm.dr dr).it]
    ((conv => whnf); (try dsimp only))
    refine ornone (dr.po hp) (by omega) (by omega) (by decide) (by decide) fun y1 st4 c1 e1 d4 => ?_
    have dr4 := dr.trans d4
    ((conv => whnf); (try dsimp only))
    rw [(hm.dr dr4).it]
    ((conv => whnf); (try dsimp only))
    refine ornone (dr4.po hp) (by omega) (by omega) (by decide) (by decide) fun y2 st5 c2 e2 d5 => ?_
    have dr5 := dr4.trans d5
    refine ⟨by show 2 ≤ sizeLine; decide, ?_⟩
    ((conv => whnf); (try dsimp only))
    rw [show st3.length = st5.length by rw [d5.len, d4.len], look0]
    refine app0 (by rw [List.length_map]; omega) (hN _ _ ⟨st5, ps ++ [(y1, y2)], _, ?_, dr5, by rw [show st.length = st5.length from dr5.len.symm]; rfl, by simp [hl], fun r hr => ?_⟩)
    · rw [List.map_append]
      rfl
    · rcases List.mem_append.mp hr with hr | hr
      · exact hps r hr
      · rw [List.mem_singleton.mp hr]
        exact ⟨⟨c1, by show y1 < m.m7; omega⟩, c2, by show y2 < m.m7; omega⟩
  · rintro env s ⟨st3, ps, x, rfl, dr, rfl, hl, hps⟩
    rw [DL.upTo_len] at hl
    ((conv => whnf); (try dsimp only))
    rw [(hm.dr dr).it]
    ((conv => whnf); (try dsimp only))
    refine draw (dr.po hp) (by omega) (by omega) fun y1 st4 c1 e1 d4 => ?_
    have dr4 := dr.trans d4
    ((conv => whnf); (try dsimp only))
    refine draw (dr4.po hp) (by omega) (by omega) fun node st5 c2 e2 d5 => ?_
    have dr5 := dr4.trans d5
    ((conv => whnf); (try dsimp only))
    refine someL (dr5.po hp) (by decide) (by decide) (by decide) (by decide) fun vs st6 hv d6 => ?_
    have dr6 := dr5.trans d6
    ((conv => whnf); (try dsimp only))
    refine draw (dr6.po hp) (by decide) (by decide) fun z st7 c3 e3 d7 => ?_
    have dr7 := dr6.trans d7
    ((conv => whnf); (try dsimp only))
    refine ⟨⟨by decide, by decide⟩, ?_⟩
    ((conv => whnf); (try dsimp only))
    refine ⟨by decide, ?_⟩
    ((conv => whnf); (try dsimp only))
    refine draw (dr7.po hp) (by decide) (by decide) fun l1 st8 c4 e4 d8 => ?_
    have dr8 := dr7.trans d8
    ((conv => whnf); (try dsimp only))
    refine draw (dr8.po hp) (by decide) (by decide) fun l2 st9 c5 e5 d9 => ?_
    have dr9 := dr8.trans d9
    ((conv => whnf); (try dsimp only))
    refine draw (dr9.po hp) (by decide) (by decide) fun rk st10 c6 e6 d10 => ?_
    have dr10 := dr9.trans d10
    ((conv => whnf); (try dsimp only))
    rw [(hm.dr dr10).it]
    ((conv => whnf); (try dsimp only))
    refine ornone (dr10.po hp) (by omega) (by omega) (by decide) (by decide) fun r1 st11 c7 e7 d11 => ?_
    have dr11 := dr10.trans d11
    ((conv => whnf); (try dsimp only))
    rw [(hm.dr dr11).it]
    ((conv => whnf); (try dsimp only))
    refine ornone (dr11.po hp) (by omega) (by omega) (by decide) (by decide) fun r2 st12 c8 e8 d12 => ?_
    have dr12 := dr11.trans d12
    ((conv => whnf); (try dsimp only))
    rw [show st.length = st12.length from dr12.len.symm, itemsL look0]
    refine ⟨by show 8 ≤ sizeLine; decide, ?_⟩
    have k1 : 0 ≤ 2 - z / 2 % 3 ∧ 2 - z / 2 % 3 ≤ 2 := by omega
    have k2 : 1 ≤ 1 + (if l2 > l1 then l2 else l1) ∧ 1 + (if l2 > l1 then l2 else l1) ≤ 6 := by split <;> omega
    have k3 : r1 < m.m7 := by omega
    have k4 : r2 < m.m7 := by omega
    have k5 : ps.length ≤ 3 := by omega
    have k6 : rk ≤ 3 := by omega
    exact back_dr _ dr12 (cl_lot _ ⟨node, vs, rk, 2 - z / 2 % 3, 1 + (if l2 > l1 then l2 else l1), r1, r2, ps⟩)
      (k ⟨node, vs, rk, 2 - z / 2 % 3, 1 + (if l2 > l1 then l2 else l1), r1, r2, ps⟩ _ ⟨⟨c2, by show node < m.m3; omega⟩, hv, ⟨c6, k6⟩, k1, k2, ⟨c7, k3⟩, ⟨c8, k4⟩, k5, hps⟩ dr12)
theorem lotL {st : Store} {L : List Cell} {p q : Nat} {m : Mn} {Q : DK} (hp : Po st p) (hm : My st p q m) (M : MnOk m) (k : ∀ l st', LotIn m l → Dr p st st' → Q (lotV l) (st' ++ L)) : s__law_lot [.loc p, .loc q] (st ++ L) Q := by
  unfold s__law_lot
  refine ⟨p, q, m, rfl, hp.app, ⟨by rw [lookA (List.getElem?_eq_some_iff.mp hm.1).1]; exact hm.1, hm.2⟩, M, fun l s' h d => ?_⟩
  obtain ⟨st', rfl, d'⟩ := d.app hp.lt
  exact k l st' h d'
end K05

set_option Elab.async false
set_option linter.all false
set_option maxRecDepth 100000
set_option maxHeartbeats 4000000
namespace K05
open PySem L2 DL
structure CsOk (n : Int) (fs : List (Int × List Int)) : Prop where
  nd : ∀ q ∈ fs, 0 ≤ q.1 ∧ q.1 < n
  vs : ∀ q ∈ fs, (1 ≤ q.2.length ∧ q.2.length ≤ 3) ∧ ∀ v ∈ q.2, 9 ≤ v ∧ v ≤ 12
  df : (fs.map Prod.fst).Nodup
@[irreducible] def s__law_cases : DSp := fun ds st P => ∃ p q m, ds = [.loc p, .loc q] ∧ Po st p ∧ My st p q m ∧ MnOk m ∧ ∀ fs st', CsOk m.m3 fs → fs.length ≤ 2 → Dr p st st' → P (.tup (fs.map kindV)) st'
theorem nodup_erase {ns : List Int} (h : ns.Nodup) (i : Nat) : (ns.eraseIdx i).Nodup := h.sublist (List.eraseIdx_sublist ns i)
theorem nodup_erase_not {ns : List Int} {x : Int} : ∀ {i : Nat}, ns.Nodup → ns[i]? = some x → x ∉ ns.eraseIdx i := by
  induction ns with
  | nil => intro i _ h; simp at h
  | cons n ns ih =>
    intro i hn h
    obtain ⟨h1, h2⟩ := List.nodup_cons.mp hn
    cases i with
    | zero =>
      cases h
      exact h1
    | succ i =>
      rw [List.eraseIdx_cons_succ]
      intro m
      have h : ns[i]? = some x := by simpa using h
      rcases List.mem_cons.mp m with rfl | m
      · exact h1 (List.mem_of_getElem? h)
      · exact ih h2 h m
theorem erase_map : ∀ (ls : List Int) (i : Nat), (ls.map Val.int).eraseIdx i = (ls.eraseIdx i).map Val.int
  | [], _ => rfl
  | _ :: _, 0 => rfl
  | n :: ls, i + 1 => by
    rw [List.map_cons, List.eraseIdx_cons_succ, List.eraseIdx_cons_succ, List.map_cons, erase_map ls i]
theorem upI_nodup (n : Nat) (lo : Int) : (upI lo n).Nodup := by
  have := upI_asc (lo + n) n lo (by omega)
  have key : ∀ {ns : List Int} {lo : Int} {hi : Int}, Asc hi lo ns → ns.Nodup := by
    intro ns
    induction ns with
    | nil => intro _ _ _; exact List.nodup_nil
    | cons n ns ih =>
      intro lo hi h
      refine List.nodup_cons.mpr ⟨fun m => ?_, ih h.2.2⟩
      have := asc_mem h.2.2 m
      omega
  exact key this
theorem upI_len (lo : Int) (n : Nat) : (upI lo n).length = n := by simp [upI]
theorem v__law_cases (ds : List Val) (st : Store) (P : DK) (h : s__law_cases ds st P) : w__law_cases s__law_draw (defE st P) (startD N__law_cases ds) st := by
  unfold s__law_cases at h
  obtain ⟨p, q, m, rfl, hp, hm, M, k⟩ := h
  have h3 := M.h3
  have h14 := M.h14
  have hz : sizeLine = 2 ^ 24 := rfl
  rw [e__law_cases]
  unfold w__law_cases
  ((conv => whnf); (try dsimp only))
  refine ⟨Nat.zero_le _, ?_⟩
  ((conv => whnf); (try dsimp only))
  rw [hm.it]
  ((conv => whnf); (try dsimp only))
  refine ⟨by omega, by omega, ?_⟩
  rw [upTo_upI, List.append_assoc]
  ((conv => whnf); (try dsimp only))
  rw [hm.it]
  ((conv => whnf); (try dsimp only))
  rw [hm.it]
  ((conv => whnf); (try dsimp only))
  generalize hr : (if m.m3 < m.m14 then m.m3 else m.m14) = n
  have hr1 : 0 ≤ n ∧ n ≤ 2 ∧ n ≤ m.m3 := by
    rw [← hr]
    split <;> omega
  have eL : (st ++ [Cell.lst []]).length = st.length + 1 := by simp
  rw [eL]
  refine ⟨by omega, by omega, ?_⟩
  refine forD_ind (fun i env s => ∃ (st1 : Store) (fs : List (Int × List Int)) (ls : List Int) (x y : Option Val), s = st1 ++ [.lst (fs.map kindV), .lst (ls.map Val.int)] ∧ Dr p st st1 ∧ env = [some (.loc p), some (.loc q), some (.loc st.length), some (.loc (st.length + 1)), x, y, none] ∧
    fs.length = i ∧ ls.length + i = m.m3.toNat ∧ ls.Nodup ∧ (∀ z ∈ ls, 0 ≤ z ∧ z < m.m3) ∧ CsOk m.m3 fs ∧ ∀ r ∈ fs, r.1 ∉ ls) (fun _ _ _ _ => trivial) ?_ ?_
    ⟨st, [], upI 0 m.m3.toNat, none, none, rfl, .refl hp, rfl, rfl, upI_len _ _, upI_nodup _ _, fun z hz => ?_, ⟨fun r h => (by cases h), fun r h => (by cases h), List.nodup_nil⟩, fun r h => (by cases h)⟩
  · rintro i d env s hd ⟨st1, fs, ls, x, y, rfl, dr, rfl, c1, c2, c3, c4, c5, c6⟩ N hN
    obtain ⟨hi, rfl⟩ := upTo_get' hd
    have hlen : st.length = st1.length := dr.len.symm
    refine ⟨_, rfl, ?_⟩
    ((conv => whnf); (try dsimp only))
    rw [hlen]
    refine ⟨isLstK (k := 1) rfl, ?_⟩
    ((conv => whnf); (try dsimp only))
    rw [itemsL (n := st1.length + 1) (ds := ls.map Val.int) (lookK (k := 1))]
    ((conv => whnf); (try dsimp only))
    rw [List.length_map]
    refine draw (dr.po hp) (by omega) (by omega) fun w st2 w0 w1 d2 => ?_
    have dr2 := dr.trans d2
    have hl2 : st1.length = st2.length := d2.len.symm
    ((conv => whnf); (try dsimp only))
    rw [hl2, lookK]
    ((conv => whnf); (try dsimp only))
    refine ⟨by omega, by omega, ?_⟩
    have hw : w.toNat < ls.length := by omega
    have ew : ls[w.toNat]? = some ls[w.toNat] := List.getElem?_eq_getElem hw
    have eix : ixN (ls.map Val.int).length w = some w.toNat := by
      unfold ixN
      rw [List.length_map, if_pos w0, if_pos w1]
    rw [eix]
    ((conv => whnf); (try dsimp only))
    rw [List.getElem?_map, ew]
    ((conv => whnf); (try dsimp only))
    rw [setK]
    refine ⟨isLst0, ?_⟩
    ((conv => whnf); (try dsimp only))
    refine draw (dr2.po hp) (by decide) (by decide) fun u st3 u0 u1 d3 => ?_
    have dr3 := dr2.trans d3
    have hl3 : st2.length = st3.length := d3.len.symm
    ((conv => whnf); (try dsimp only))
    refine ⟨by omega, by omega, ?_⟩
    rw [erase_map ls w.toNat]
    have key := lc_draw (e2 := Val.int) (L := [Cell.lst (fs.map kindV), .lst ((ls.eraseIdx w.toNat).map Val.int)]) (p := p) (g := gN 6) (ok := fun _ => True) (we := wBin addV (wC (.int 9)) (wCB s__law_draw (wCons (wVar 0) (wCons (wC (.int 4)) wNil))))
      (env0 := wipeD [some (Val.loc p), some (Val.loc q), some (Val.loc st2.length), some (.loc (st2.length + 1)), some (.int (0 + (i : Int))), some (.int ls[w.toNat]), none] [6]) (fun _ c => 9 ≤ c ∧ c ≤ 12)
      (Q := fun acc s => tupW acc s fun d s2 => 2 ≤ sizeLine ∧ match s2[st2.length]? with
        | some (.lst ds) => appV st2.length ds [.tup [.int ls[w.toNat], d]] s2 fun _ s3 => N [some (Val.loc p), some (Val.loc q), some (Val.loc st2.length), some (.loc (st2.length + 1)), some (.int (0 + (i : Int))), some (.int ls[w.toNat]), none] s3
        | _ => False) (fun _ => trivial) (DL.upTo 0 (1 + u).toNat) 0 st3 [] (dr3.po hp) ?_ ?_
    · exact key
    · intro j d st4 hd dr4
      refine ⟨_, rfl, fun Q' hQ => ?_⟩
      ((conv => whnf); (try dsimp only))
      exact draw (dr4.po (dr3.po hp)) (by decide) (by decide) fun v st5 v0 v1 d5 => hQ (9 + v) st5 ⟨by omega, by omega⟩ d5
    · intro xs st4 hxl hx d4
      have dr4 := dr3.trans d4
      have hl4 : st3.length = st4.length := d4.len.symm
      refine ⟨by decide, ?_⟩
      rw [hl3, hl4, look0, List.nil_append]
      rw [DL.upTo_len] at hxl
      have hxm : ∀ v ∈ xs, 9 ≤ v ∧ v ≤ 12 := fun v hv => by
        obtain ⟨n, hn⟩ := List.mem_iff_getElem?.mp hv
        exact hx n v hn
      have hnode := c4 _ (List.getElem_mem hw)
      refine app0 (by rw [List.length_map]; omega) (hN _ _ ⟨st4, fs ++ [(ls[w.toNat], xs)], ls.eraseIdx w.toNat, _, _, ?_, dr4, by rw [show st.length = st4.length from dr4.len.symm], by simp [c1], ?_, nodup_erase c3 _, fun z hz => c4 z (List.mem_of_mem_eraseIdx hz), ⟨?_, ?_, ?_⟩, ?_⟩)
      · rw [List.map_append]
        rfl
      · rw [List.length_eraseIdx, if_pos hw]
        omega
      · intro r hr
        rcases List.mem_append.mp hr with hr | hr
        · exact c5.nd r hr
        · rw [List.mem_singleton.mp hr]; exact hnode
      · intro r hr
        rcases List.mem_append.mp hr with hr | hr
        · exact c5.vs r hr
        · rw [List.mem_singleton.mp hr]
          exact ⟨⟨by show 1 ≤ xs.length; omega, by show xs.length ≤ 3; omega⟩, hxm⟩
      · rw [List.map_append]
        refine List.nodup_append.mpr ⟨c5.df, by simp, fun a ha b hb e => ?_⟩
        have hb : b = ls[w.toNat] := by simpa using hb
        subst e hb
        obtain ⟨r, hr, e⟩ := List.mem_map.mp ha
        exact c6 r hr (by rw [e]; exact List.getElem_mem hw)
      · intro r hr
        rcases List.mem_append.mp hr with hr | hr
        · exact fun m => c6 r hr (List.mem_of_mem_eraseIdx m)
        · rw [List.mem_singleton.mp hr]
          exact nodup_erase_not c3 ew
  · rintro env s ⟨st1, fs, ls, x, y, rfl, dr, rfl, c1, c2, c3, c4, c5, c6⟩
    rw [DL.upTo_len] at c1
    ((conv => whnf); (try dsimp only))
    rw [show st.length = st1.length from dr.len.symm, itemsL look0]
    exact back_dr _ dr (clVs_map fun r => cl_kind _ r) (k fs st1 c5 (by omega) dr)
  · obtain ⟨j, hj⟩ := List.mem_iff_getElem?.mp hz
    have := asc_mem (upI_asc (m.m3 - 1) m.m3.toNat 0 (by omega)) hz
    omega
theorem casesL {st : Store} {L : List Cell} {p q : Nat} {m : Mn} {Q : DK} (hp : Po st p) (hm : My st p q m) (M : MnOk m) (k : ∀ fs st', CsOk m.m3 fs → fs.length ≤ 2 → Dr p st st' → Q (.tup (fs.map kindV)) (st' ++ L)) : s__law_cases [.loc p, .loc q] (st ++ L) Q := by
  unfold s__law_cases
  refine ⟨p, q, m, rfl, hp.app, ⟨by rw [lookA (List.getElem?_eq_some_iff.mp hm.1).1]; exact hm.1, hm.2⟩, M, fun fs s' h h2 d => ?_⟩
  obtain ⟨st', rfl, d'⟩ := d.app hp.lt
  exact k fs st' h h2 d'
end K05

set_option Elab.async false
set_option linter.all false
set_option maxRecDepth 100000
set_option maxHeartbeats 4000000
namespace K05
open PySem L2 DL
def s__law_below : DSp := fun ds st P => ∃ n ups low high, ds = [.loc n, .int low, .int high] ∧ st[n]? = some (Cell.lst (ups.map Val.int)) ∧ Tr ups ∧ -1 ≤ low ∧ low < ups.length ∧ 0 ≤ high ∧ P (.bl (decide (high ∈ A ups low))) st
theorem v__law_below (ds : List Val) (st : Store) (P : DK) (h : s__law_below ds st P) : w__law_below (defE st P) (startD N__law_below ds) st := by
  obtain ⟨n, ups, low, high, rfl, hn, hT, h1, h2, h3, k⟩ := h
  rw [e__law_below]
  unfold w__law_below
  refine ⟨fun m env st' => ∃ node : Int, env = [some (.loc n), some (.int node), some (.int high)] ∧ st' = st ∧ m = (node + 1).toNat ∧ -1 ≤ node ∧ node < ups.length ∧ (high ∈ A ups node ↔ high ∈ A ups low), ⟨_, low, rfl, rfl, rfl, h1, h2, Iff.rfl⟩, ?_⟩
  rintro m env st' ⟨node, rfl, rfl, rfl, n1, n2, n3⟩
  ((conv => whnf); (try dsimp only))
  refine ⟨.inl rfl, ?_⟩
  simp only [eqd_int, if_true]
  by_cases c : node = -1
  · rw [decide_eq_true c]
    subst c
    refine back0 rfl ?_
    rw [A_neg (by decide)] at n3
    rw [decide_eq_false (fun h => by have := n3.mpr h; cases this)] at k
    exact k
  · rw [decide_eq_false c]
    ((conv => whnf); (try dsimp only))
    refine ⟨.inl rfl, ?_⟩
    simp only [eqd_int, Bool.false_eq_true, if_false]
    by_cases c2 : node = high
    · rw [decide_eq_true c2]
      refine back0 rfl ?_
      rw [decide_eq_true (n3.mp (by rw [c2]; exact A_self hT h3 (by omega)))] at k
      exact k
    · rw [decide_eq_false c2]
      ((conv => whnf); (try dsimp only))
      rw [itemsL hn]
      ((conv => whnf); (try dsimp only))
      rw [at_ints (by omega) n2]
      have t := tr_get hT (x := node) (by omega) n2
      exact ⟨_, by omega, _, rfl, rfl, rfl, by omega, by omega, by rw [A_up hT (by omega) n2 (Ne.symm c2)]; exact n3⟩
/-- behind the first word of a clause -/
def clRest : WS := (wMid (wIfS (wAnd (wTest (wBin (eqW true) (wBin ixV (wVar 6) (wC (.int 1))) (wUn negV (wC (.int 1))))) (wNot (wTest (wCB s__law_below (wCons (wVar 2) (wCons (wBin ixV (wVar 1) (wC (.int 1))) (wCons (wBin ixV (wVar 6) (wC (.int 1))) wNil))))))) (wAsg (wC (.bl false)) (gN 7)) wNext)
  (wSeq (wFor (wIt (wBin ixV (wVar 6) (wC (.int 2)))) (gN 8) (wIfS (wTest (wBin (inW true) (wVar 8) (wBin ixV (wVar 1) (wC (.int 2))))) (wAsg (wC (.bl false)) (gN 7)) wNext))
  (wSeq (wFor (wIt (wBin ixV (wVar 6) (wC (.int 3)))) (gN 8) (wIfS (wTest (wBin (inW false) (wVar 8) (wBin ixV (wVar 1) (wC (.int 2))))) (wAsg (wC (.bl false)) (gN 7)) wNext))
  (wMid (wIfS (wAnd (wTest (wBin (eqW true) (wBin ixV (wVar 6) (wC (.int 4))) (wUn negV (wC (.int 1))))) (wTest (wBin (inW true) (wBin ixV (wVar 6) (wC (.int 4))) (wVar 3)))) (wAsg (wC (.bl false)) (gN 7)) wNext)
  (wIfS (wTest (wVar 7)) (wAsg (wC (.bl true)) (gN 5)) wNext)))))
theorem clRest_ok {E : DEnds} {st : Store} {n nh : Nat} {tp had : List Int} {b : Base} {c : Cl} {fv r4 : Val} {x8 row : Option Val} (b0 holds : Bool) (hn : st[n]? = some (Cell.lst (tp.map Val.int))) (hh : st[nh]? = some (Cell.lst (had.map Val.int))) (hT : Tr tp) (g1 : 0 ≤ b.2.1) (g2 : b.2.1 < tp.length) (g3 : -1 ≤ c.team)
    (k : ∀ y, E.nx [some fv, some (baseV b), some (.loc n), some (.loc nh), some r4, some (.bl (holds || (b0 && ((decide (c.team = -1) || decide (c.team ∈ A tp b.2.1)) && (c.has.all (fun m => decide (m ∈ b.2.2)) && (!(c.hasnot.any fun m => decide (m ∈ b.2.2)) && (decide (c.below = -1) || decide (c.below ∈ had)))))))), some (clauseV c), some (.bl (b0 && ((decide (c.team = -1) || decide (c.team ∈ A tp b.2.1)) && (c.has.all (fun m => decide (m ∈ b.2.2)) && (!(c.hasnot.any fun m => decide (m ∈ b.2.2)) && (decide (c.below = -1) || decide (c.below ∈ had))))))), y, row] st) :
    clRest E [some fv, some (baseV b), some (.loc n), some (.loc nh), some r4, some (.bl holds), some (clauseV c), some (.bl b0), x8, row] st := by
  unfold clRest
  refine ⟨fun e s => s = st ∧ e = [some fv, some (baseV b), some (.loc n), some (.loc nh), some r4, some (.bl holds), some (clauseV c), some (.bl (b0 && (decide (c.team = -1) || decide (c.team ∈ A tp b.2.1)))), x8, row], ?_, ?_⟩
  · ((conv => whnf); (try dsimp only))
    refine ⟨.inl rfl, ?_⟩
    simp only [eqd_int, if_true]
    by_cases c1 : c.team = -1
    · rw [decide_eq_true c1]
      simp only [Bool.true_or, Bool.and_true]
      exact ⟨rfl, rfl⟩
    · rw [decide_eq_false c1]
      simp only [Bool.false_or]
      refine ⟨n, tp, b.2.1, c.team, rfl, hn, hT, by omega, g2, by omega, ?_⟩
      cases decide (c.team ∈ A tp b.2.1) with
      | true =>
        rw [Bool.and_true]
        exact ⟨rfl, rfl⟩
      | false =>
        rw [Bool.and_false]
        exact ⟨rfl, rfl⟩
  rintro _ s ⟨rfl, rfl⟩
  generalize hb1 : (b0 && (decide (c.team = -1) || decide (c.team ∈ A tp b.2.1))) = b1 at k ⊢
  simp only [← Bool.and_assoc] at k
  rw [hb1] at k
  ((conv => whnf); (try dsimp only))
  refine forD_ind (fun i e s' => s' = s ∧ ∃ y, e = [some fv, some (baseV b), some (.loc n), some (.loc nh), some r4, some (.bl holds), some (clauseV c), some (.bl (b1 && (c.has.take i).all (fun m => decide (m ∈ b.2.2)))), y, row]) (fun _ _ _ _ => rfl) ?_ ?_ ⟨rfl, x8, by simp⟩
  · rintro i d e s' hd ⟨rfl, y, rfl⟩ N hN
    rw [List.getElem?_map] at hd
    obtain ⟨z, hz, rfl⟩ := Option.map_eq_some_iff.mp hd
    refine ⟨_, rfl, ?_⟩
    ((conv => whnf); (try dsimp only))
    refine ⟨rfl, flatAll_ints _, ?_⟩
    simp only [memd_ints, if_true]
    have e1 : (c.has.take (i + 1)).all (fun m => decide (m ∈ b.2.2)) = ((c.has.take i).all (fun m => decide (m ∈ b.2.2)) && decide (z ∈ b.2.2)) := by
      rw [List.take_add_one, hz]
      simp
    cases q : decide (z ∈ b.2.2) with
    | true =>
      rw [q, Bool.and_true] at e1
      exact hN _ _ ⟨rfl, _, by rw [e1]; rfl⟩
    | false =>
      rw [q, Bool.and_false] at e1
      exact hN _ _ ⟨rfl, _, by rw [e1, Bool.and_false]; rfl⟩
  rintro _ s2 ⟨rfl, y, rfl⟩
  rw [List.length_map, List.take_length]
  generalize hb2 : (b1 && c.has.all (fun m => decide (m ∈ b.2.2))) = b2 at k ⊢
  ((conv => whnf); (try dsimp only))
  refine forD_ind (fun i e s' => s' = s2 ∧ ∃ y, e = [some fv, some (baseV b), some (.loc n), some (.loc nh), some r4, some (.bl holds), some (clauseV c), some (.bl (b2 && !(c.hasnot.take i).any (fun m => decide (m ∈ b.2.2)))), y, row]) (fun _ _ _ _ => rfl) ?_ ?_ ⟨rfl, y, by simp⟩
  · rintro i d e s' hd ⟨rfl, y, rfl⟩ N hN
    rw [List.getElem?_map] at hd
    obtain ⟨z, hz, rfl⟩ := Option.map_eq_some_iff.mp hd
    refine ⟨_, rfl, ?_⟩
    ((conv => whnf); (try dsimp only))
    refine ⟨rfl, flatAll_ints _, ?_⟩
    simp only [memd_ints, Bool.false_eq_true, if_false]
    have e1 : (c.hasnot.take (i + 1)).any (fun m => decide (m ∈ b.2.2)) = ((c.hasnot.take i).any (fun m => decide (m ∈ b.2.2)) || decide (z ∈ b.2.2)) := by
      rw [List.take_add_one, hz]
      simp
    cases q : decide (z ∈ b.2.2) with
    | true =>
      rw [q, Bool.or_true] at e1
      exact hN _ _ ⟨rfl, _, by rw [e1, Bool.not_true, Bool.and_false]; rfl⟩
    | false =>
      rw [q, Bool.or_false] at e1
      exact hN _ _ ⟨rfl, _, by rw [e1]; rfl⟩
  rintro _ s3 ⟨rfl, y, rfl⟩
  rw [List.length_map, List.take_length]
  generalize hb3 : (b2 && !(c.hasnot.any fun m => decide (m ∈ b.2.2))) = b3 at k ⊢
  refine ⟨fun e s => s = s3 ∧ e = [some fv, some (baseV b), some (.loc n), some (.loc nh), some r4, some (.bl holds), some (clauseV c), some (.bl (b3 && (decide (c.below = -1) || decide (c.below ∈ had)))), y, row], ?_, ?_⟩
  · ((conv => whnf); (try dsimp only))
    refine ⟨.inl rfl, ?_⟩
    simp only [eqd_int, if_true]
    by_cases c1 : c.below = -1
    · rw [decide_eq_true c1]
      simp only [Bool.true_or, Bool.and_true]
      exact ⟨rfl, rfl⟩
    · rw [decide_eq_false c1]
      simp only [Bool.false_or]
      ((conv => whnf); (try dsimp only))
      rw [itemsL hh]
      refine ⟨rfl, flatAll_ints _, ?_⟩
      simp only [memd_ints, if_true]
      cases decide (c.below ∈ had) with
      | true =>
        rw [Bool.and_true]
        exact ⟨rfl, rfl⟩
      | false =>
        rw [Bool.and_false]
        exact ⟨rfl, rfl⟩
  rintro _ s4 ⟨rfl, rfl⟩
  generalize (b3 && (decide (c.below = -1) || decide (c.below ∈ had))) = b4 at k ⊢
  cases b4 with
  | true =>
    rw [Bool.or_true] at k
    exact k y
  | false =>
    rw [Bool.or_false] at k
    exact k y
def frItems (f : Fr) : List Val := frL f
def s__law_roles : DSp := fun ds st P => ∃ n xs teams roles b, ds = [.loc n, baseV b] ∧ st[n]? = some (Cell.lst xs) ∧ xs[2]? = some (.tup ((teams : List (Int × Int × Int × Int)).map quadV)) ∧ xs[5]? = some (.tup (roles.map roleV)) ∧ Tr (teams.map Prod.fst) ∧ 0 ≤ b.2.1 ∧ b.2.1 < teams.length ∧ teams.length ≤ 100 ∧ roles.length ≤ 100 ∧ (∀ cs ∈ roles, ∀ c ∈ cs, -1 ≤ c.team) ∧ P (tI (hadL (teams.map Prod.fst) b 0 [] roles)) st
theorem v__law_roles (ds : List Val) (st : Store) (P : DK) (h : s__law_roles ds st P) : w__law_roles s__law_below (defE st P) (startD N__law_roles ds) st := by
  obtain ⟨n, xs, teams, roles, b, rfl, hn, h2, h5, hT, g1, g2, g3, g4, hc, k⟩ := h
  have hz : sizeLine = 2 ^ 24 := rfl
  have hnl := (List.getElem?_eq_some_iff.mp hn).1
  have a2 : atI xs 2 = some (.tup (teams.map quadV)) := atI_nat (by decide) h2
  have a5 : atI xs 5 = some (.tup (roles.map roleV)) := atI_nat (by decide) h5
  have it : ∀ L : List Cell, itemsOf (st ++ L) (.loc n) = some xs := fun L => itemsL (by rw [lookA hnl]; exact hn)
  rw [e__law_roles]
  unfold w__law_roles
  ((conv => whnf); (try dsimp only))
  rw [itemsL hn]
  ((conv => whnf); (try dsimp only))
  rw [a2]
  ((conv => whnf); (try dsimp only))
  refine lc_maps (e2 := fun q => Val.int q.1) (by rfl) teams [] (fun q _ => ⟨_, rfl, fun Q' h => by ((conv => whnf); (try dsimp only)); exact h⟩) ?_
  rw [List.nil_append, show (teams.map fun q => Val.int q.1) = (teams.map Prod.fst).map Val.int by rw [List.map_map]; rfl]
  ((conv => whnf); (try dsimp only))
  refine ⟨Nat.zero_le _, ?_⟩
  rw [List.append_assoc]
  ((conv => whnf); (try dsimp only))
  rw [it]
  ((conv => whnf); (try dsimp only))
  rw [a5]
  ((conv => whnf); (try dsimp only))
  rw [List.length_map]
  refine ⟨by omega, by omega, ?_⟩
  rw [show (st ++ [Cell.lst ((teams.map Prod.fst).map Val.int)]).length = st.length + 1 by simp]
  refine forD_ind (fun i e s => ∃ (h : List Int) (x4 x5 x6 x7 x8 : Option Val), s = st ++ [.lst ((teams.map Prod.fst).map Val.int), .lst (h.map Val.int)] ∧ e = [some (.loc n), some (baseV b), some (.loc st.length), some (.loc (st.length + 1)), x4, x5, x6, x7, x8, none] ∧ hadL (teams.map Prod.fst) b i h (roles.drop i) = hadL (teams.map Prod.fst) b 0 [] roles ∧ h.length ≤ i) (fun _ _ _ _ => trivial) ?_ ?_ ⟨[], none, none, none, none, none, rfl, rfl, rfl, Nat.le_refl _⟩
  · rintro i d e s hd ⟨h, x4, x5, x6, x7, x8, rfl, rfl, eh, hl⟩ N hN
    obtain ⟨hi, rfl⟩ := upTo_get' hd
    have hi : i < roles.length := by omega
    rw [List.drop_eq_getElem_cons hi, hadL_cons] at eh
    refine ⟨_, rfl, ?_⟩
    ((conv => whnf); (try dsimp only))
    rw [it]
    ((conv => whnf); (try dsimp only))
    rw [a5]
    ((conv => whnf); (try dsimp only))
    rw [show atI (roles.map roleV) ((0 : Int) + (i : Int)) = some (roleV roles[i]) by rw [Int.zero_add]; exact atD (List.getElem?_eq_getElem hi)]
    ((conv => whnf); (try dsimp only))
    refine forD_ind (fun j e s => s = st ++ [.lst ((teams.map Prod.fst).map Val.int), .lst (h.map Val.int)] ∧ ∃ (x6 x7 x8 : Option Val), e = [some (.loc n), some (baseV b), some (.loc st.length), some (.loc (st.length + 1)), some (.int (0 + (i : Int))), some (.bl ((roles[i].take j).any (clH (teams.map Prod.fst) b h))), x6, x7, x8, none]) (fun _ _ _ _ => rfl) ?_ ?_ ⟨rfl, x6, x7, x8, rfl⟩
    · rintro j d e s hd ⟨rfl, y6, y7, y8, rfl⟩ N' hN'
      rw [List.getElem?_map] at hd
      obtain ⟨c, hcj, rfl⟩ := Option.map_eq_some_iff.mp hd
      have hcm := hc roles[i] (List.getElem_mem hi) c (List.mem_of_getElem? hcj)
      have e1 : (roles[i].take (j + 1)).any (clH (teams.map Prod.fst) b h) = ((roles[i].take j).any (clH (teams.map Prod.fst) b h) || clH (teams.map Prod.fst) b h c) := by
        rw [List.take_add_one, hcj]
        simp
      have ec : clH (teams.map Prod.fst) b h c = ((decide (c.kind = -1) || decide (c.kind = b.1)) && ((decide (c.team = -1) || decide (c.team ∈ A (teams.map Prod.fst) b.2.1)) && (c.has.all (fun m => decide (m ∈ b.2.2)) && (!(c.hasnot.any fun m => decide (m ∈ b.2.2)) && (decide (c.below = -1) || decide (c.below ∈ h)))))) := by
        unfold clH
        generalize (decide (c.kind = -1) || decide (c.kind = b.1)) = t1
        generalize (decide (c.team = -1) || decide (c.team ∈ A (teams.map Prod.fst) b.2.1)) = t2
        generalize (decide (c.below = -1) || decide (c.below ∈ h)) = t3
        generalize (c.has.all (fun m => decide (m ∈ b.2.2))) = t4
        generalize (c.hasnot.any (fun m => decide (m ∈ b.2.2))) = t5
        cases t1 <;> cases t2 <;> cases t3 <;> cases t4 <;> cases t5 <;> rfl
      have fin : ∀ b0, (decide (c.kind = -1) || decide (c.kind = b.1)) = b0 → ∀ E : DEnds, E.nx = N' → clRest E [some (.loc n), some (baseV b), some (.loc st.length), some (.loc (st.length + 1)), some (.int (0 + (i : Int))), some (.bl ((roles[i].take j).any (clH (teams.map Prod.fst) b h))), some (clauseV c), some (.bl b0), y8, none] (st ++ [.lst ((teams.map Prod.fst).map Val.int), .lst (h.map Val.int)]) := by
        intro b0 hb0 E hE
        refine clRest_ok b0 _ look0 (lookK (k := 1)) hT g1 (by rw [List.length_map]; exact g2) hcm fun y => ?_
        rw [hE]
        rw [hb0] at ec
        rw [← ec, ← e1]
        exact hN' _ _ ⟨rfl, _, _, _, rfl⟩
      refine ⟨_, rfl, ?_⟩
      ((conv => whnf); (try dsimp only))
      refine ⟨.inl rfl, ?_⟩
      simp only [eqd_int, Bool.false_eq_true, if_false]
      by_cases c1 : c.kind = -1
      · rw [decide_eq_true c1]
        exact fin true (by rw [decide_eq_true c1]; rfl) _ rfl
      · rw [decide_eq_false c1]
        ((conv => whnf); (try dsimp only))
        refine ⟨.inl rfl, ?_⟩
        simp only [eqd_int, Bool.false_eq_true, if_false]
        exact fin _ (by rw [decide_eq_false c1]; rfl) _ rfl
    · rintro e s ⟨rfl, y6, y7, y8, rfl⟩
      rw [List.length_map, List.take_length]
      ((conv => whnf); (try dsimp only))
      cases t : roles[i].any (clH (teams.map Prod.fst) b h) with
      | false =>
        rw [t, if_neg (by decide)] at eh
        exact hN _ _ ⟨h, _, _, _, _, _, rfl, rfl, eh, by omega⟩
      | true =>
        rw [t, if_pos rfl] at eh
        ((conv => whnf); (try dsimp only))
        refine ⟨isLstK (k := 1) rfl, ?_⟩
        ((conv => whnf); (try dsimp only))
        rw [lookK]
        ((conv => whnf); (try dsimp only))
        refine ⟨by rw [List.length_map]; omega, ?_⟩
        rw [setK]
        refine hN _ _ ⟨h ++ [(i : Int)], _, _, _, _, _, ?_, rfl, eh, by simp; omega⟩
        rw [List.map_append, Int.zero_add]
        rfl
  · rintro e s ⟨h, x4, x5, x6, x7, x8, rfl, rfl, eh, hl⟩
    rw [DL.upTo_len, show ((roles.length : Int)).toNat = roles.length by omega, List.drop_length] at eh
    have eh : h = hadL (teams.map Prod.fst) b 0 [] roles := eh
    ((conv => whnf); (try dsimp only))
    rw [itemsL (n := st.length + 1) (ds := h.map Val.int) (lookK (k := 1))]
    rw [← eh] at k
    exact back_same _ (clVs_ints _ _) k
end K05

set_option Elab.async false
set_option linter.all false
set_option maxRecDepth 100000
set_option maxHeartbeats 4000000
namespace K05
open PySem L2 DL
def hadK (tp : List Int) (kinds : List (Int × List Int)) (roles : List (List Cl)) (k : Int) : List Int := match kinds[k.toNat]? with
  | some kd => hadL tp (k, kd.1, kd.2) 0 [] roles
  | none => []
/-- nobody has both -/
def Free (tp : List Int) (kinds : List (Int × List Int)) (roles : List (List Cl)) (p : Int × Int) : Prop := ∀ k ∈ upI 0 kinds.length, ¬ (p.1 ∈ hadK tp kinds roles k ∧ p.2 ∈ hadK tp kinds roles k)
structure PaOk (tp : List Int) (kinds : List (Int × List Int)) (roles : List (List Cl)) (ps : List (Int × Int)) : Prop where
  rg : ∀ p ∈ ps, 0 ≤ p.1 ∧ p.1 < p.2 ∧ p.2 < roles.length
  fr : ∀ p ∈ ps, Free tp kinds roles p
@[irreducible] def s__law_parted : DSp := fun ds st P => ∃ p n xs teams kinds roles most, ds = [.loc p, .loc n, .int most] ∧ Po st p ∧ n ≠ p ∧ st[n]? = some (Cell.lst xs) ∧ xs[2]? = some (.tup ((teams : List (Int × Int × Int × Int)).map quadV)) ∧ xs[4]? = some (.tup (kinds.map kindV)) ∧ xs[5]? = some (.tup (roles.map roleV)) ∧
  Tr (teams.map Prod.fst) ∧ (∀ k ∈ kinds, 0 ≤ k.1 ∧ k.1 < teams.length) ∧ teams.length ≤ 100 ∧ roles.length ≤ 6 ∧ kinds.length ≤ 100 ∧ (∀ cs ∈ roles, ∀ c ∈ cs, -1 ≤ c.team) ∧ 0 ≤ most ∧ most ≤ 100 ∧
  ∀ ps st', PaOk (teams.map Prod.fst) kinds roles ps → (ps.length : Int) ≤ most → ps.Nodup → ps.Pairwise leP → Dr p st st' → P (.tup (ps.map pairD)) st'
theorem v__law_parted (ds : List Val) (st : Store) (P : DK) (h : s__law_parted ds st P) : w__law_parted s__law_draw s__law_roles (defE st P) (startD N__law_parted ds) st := by
  unfold s__law_parted at h
  obtain ⟨p, n, xs, teams, kinds, roles, most, rfl, hp, hne, hn, h2, h4, h5, hT, hk, l1, l2, l3, hc, m0, m1, k⟩ := h
  have hz : sizeLine = 2 ^ 24 := rfl
  have hnl := (List.getElem?_eq_some_iff.mp hn).1
  have a4 : atI xs 4 = some (.tup (kinds.map kindV)) := atI_nat (by decide) h4
  have a5 : atI xs 5 = some (.tup (roles.map roleV)) := atI_nat (by decide) h5
  have it : ∀ st1 (L : List Cell), Dr p st st1 → itemsOf (st1 ++ L) (.loc n) = some xs := fun st1 L d => itemsL (by rw [lookA (by rw [d.len]; exact hnl), d.get hne]; exact hn)
  have it0 : itemsOf st (.loc n) = some xs := itemsL hn
  rw [e__law_parted]
  unfold w__law_parted
  ((conv => whnf); (try dsimp only))
  rw [it0]
  ((conv => whnf); (try dsimp only))
  rw [a4]
  ((conv => whnf); (try dsimp only))
  rw [List.length_map]
  refine ⟨by omega, by omega, ?_⟩
  rw [upTo_upI, show ((kinds.length : Int)).toNat = kinds.length by omega]
  refine lc_maps (e2 := fun k => tI (hadK (teams.map Prod.fst) kinds roles k)) (by trivial) (upI 0 kinds.length) [] (fun kk hkk => ⟨_, rfl, fun Q' q => ?_⟩) ?_
  · have hr := asc_mem (upI_asc ((kinds.length : Int) - 1) kinds.length 0 (by omega)) hkk
    have hlt : kk.toNat < kinds.length := by omega
    have ek : kinds[kk.toNat]? = some kinds[kk.toNat] := List.getElem?_eq_getElem hlt
    have eat : atI (kinds.map kindV) kk = some (kindV kinds[kk.toNat]) := atI_nat hr.1 (by rw [List.getElem?_map, ek]; rfl)
    ((conv => whnf); (try dsimp only))
    rw [it0]
    ((conv => whnf); (try dsimp only))
    rw [a4]
    ((conv => whnf); (try dsimp only))
    rw [eat]
    ((conv => whnf); (try dsimp only))
    rw [it0]
    ((conv => whnf); (try dsimp only))
    rw [a4]
    ((conv => whnf); (try dsimp only))
    rw [eat]
    refine ⟨by show 3 ≤ sizeLine; decide, ?_⟩
    have := hk _ (List.getElem_mem hlt)
    refine ⟨n, xs, teams, roles, (kk, kinds[kk.toNat].1, kinds[kk.toNat].2), rfl, hn, h2, h5, hT, this.1, this.2, l1, by omega, hc, ?_⟩
    have e : hadK (teams.map Prod.fst) kinds roles kk = hadL (teams.map Prod.fst) (kk, kinds[kk.toNat].1, kinds[kk.toNat].2) 0 [] roles := by
      unfold hadK
      rw [ek]
    rw [e] at q
    exact q
  rw [List.nil_append]
  generalize hH : ((upI 0 kinds.length).map fun k => tI (hadK (teams.map Prod.fst) kinds roles k)) = HL
  ((conv => whnf); (try dsimp only))
  refine ⟨Nat.zero_le _, ?_⟩
  rw [List.append_assoc]
  ((conv => whnf); (try dsimp only))
  rw [it st _ (.refl hp)]
  ((conv => whnf); (try dsimp only))
  rw [a5]
  ((conv => whnf); (try dsimp only))
  rw [List.length_map]
  refine ⟨⟨by omega, by omega, by omega, by omega, by omega⟩, ?_⟩
  rw [show (st ++ [Cell.lst HL]).length = st.length + 1 by simp]
  refine forD_ind (fun i e s => ∃ (fs : List (Int × Int)) (x5 x6 : Option Val), s = st ++ [.lst HL, .lst (fs.map pairD)] ∧ e = [some (.loc p), some (.loc n), some (.int most), some (.loc st.length), some (.loc (st.length + 1)), x5, x6, none, none] ∧
    PaOk (teams.map Prod.fst) kinds roles fs ∧ fs.Nodup ∧ (∀ q ∈ fs, q.2 < (i : Int) + 1) ∧ fs.length ≤ 10 * i) (fun _ _ _ _ => trivial) ?_ ?_ ⟨[], none, none, rfl, rfl, ⟨fun q h => (by cases h), fun q h => (by cases h)⟩, List.nodup_nil, fun q h => (by cases h), Nat.zero_le _⟩
  · rintro i d e s hd ⟨fs, x5, x6, rfl, rfl, P1, P2, P3, P4⟩ N hN
    obtain ⟨hi, rfl⟩ := upTo_get' hd
    refine ⟨_, rfl, ?_⟩
    ((conv => whnf); (try dsimp only))
    refine ⟨by omega, by omega, ?_⟩
    refine forD_ind (fun j e s => ∃ (fs : List (Int × Int)) (x6 : Option Val), s = st ++ [.lst HL, .lst (fs.map pairD)] ∧ e = [some (.loc p), some (.loc n), some (.int most), some (.loc st.length), some (.loc (st.length + 1)), some (.int (1 + (i : Int))), x6, none, none] ∧
      PaOk (teams.map Prod.fst) kinds roles fs ∧ fs.Nodup ∧ (∀ q ∈ fs, q.2 < (i : Int) + 1 ∨ (q.2 = (i : Int) + 1 ∧ q.1 < (j : Int))) ∧ fs.length ≤ 10 * i + j) (fun _ _ _ _ => trivial) ?_ ?_ ⟨fs, x6, rfl, rfl, P1, P2, fun q hq => .inl (P3 q hq), by omega⟩
    · rintro j d e s hd ⟨fs, x6, rfl, rfl, P1, P2, P3, P4⟩ N' hN'
      obtain ⟨hj, rfl⟩ := upTo_get' hd
      refine ⟨_, rfl, ?_⟩
      ((conv => whnf); (try dsimp only))
      rw [itemsL (n := st.length) (ds := HL) look0]
      ((conv => whnf); (try dsimp only))
      rw [← hH]
      refine lc_filter (e2 := fun k => tI (hadK (teams.map Prod.fst) kinds roles k)) (fun k => decide ((0 : Int) + (j : Int) ∈ hadK (teams.map Prod.fst) kinds roles k) && decide ((1 : Int) + (i : Int) ∈ hadK (teams.map Prod.fst) kinds roles k)) (by
          show itemsOf _ _ = _
          exact itemsL look0) (upI 0 kinds.length) [] (fun kk hkk => ⟨_, rfl, fun T t => ?_, fun _ Q' q => by ((conv => whnf); (try dsimp only)); exact q⟩) ?_
      · ((conv => whnf); (try dsimp only))
        refine ⟨rfl, flatAll_ints _, ?_⟩
        simp only [memd_ints, Bool.false_eq_true, if_false]
        cases q : decide ((0 : Int) + (j : Int) ∈ hadK (teams.map Prod.fst) kinds roles kk) with
        | false =>
          rw [q] at t
          exact t
        | true =>
          rw [q, Bool.true_and] at t
          ((conv => whnf); (try dsimp only))
          refine ⟨rfl, flatAll_ints _, ?_⟩
          simp only [memd_ints, Bool.false_eq_true, if_false]
          exact t
      rw [hH, List.nil_append]
      ((conv => whnf); (try dsimp only))
      refine ⟨.inl rfl, ?_⟩
      rw [List.length_map]
      simp only [eqd_int, Bool.false_eq_true, if_false]
      by_cases c : (List.length (List.filter (fun k => decide ((0 : Int) + (j : Int) ∈ hadK (teams.map Prod.fst) kinds roles k) && decide ((1 : Int) + (i : Int) ∈ hadK (teams.map Prod.fst) kinds roles k)) (upI 0 kinds.length)) : Int) = 0
      · rw [decide_eq_true c]
        have hnone : ∀ k ∈ upI 0 kinds.length, ¬ ((0 : Int) + (j : Int) ∈ hadK (teams.map Prod.fst) kinds roles k ∧ (1 : Int) + (i : Int) ∈ hadK (teams.map Prod.fst) kinds roles k) := by
          intro k hk2 ⟨m1, m2⟩
          have : k ∈ List.filter (fun k => decide ((0 : Int) + (j : Int) ∈ hadK (teams.map Prod.fst) kinds roles k) && decide ((1 : Int) + (i : Int) ∈ hadK (teams.map Prod.fst) kinds roles k)) (upI 0 kinds.length) := List.mem_filter.mpr ⟨hk2, by rw [decide_eq_true m1, decide_eq_true m2]; rfl⟩
          have := List.length_pos_of_mem this
          omega
        ((conv => whnf); (try dsimp only))
        refine ⟨isLstK (k := 1) rfl, by show 2 ≤ sizeLine; decide, ?_⟩
        ((conv => whnf); (try dsimp only))
        rw [lookK]
        ((conv => whnf); (try dsimp only))
        refine ⟨by rw [List.length_map]; omega, ?_⟩
        rw [setK]
        refine hN' _ _ ⟨fs ++ [((0 : Int) + (j : Int), (1 : Int) + (i : Int))], _, ?_, rfl, ⟨fun q hq => ?_, fun q hq => ?_⟩, List.nodup_append.mpr ⟨P2, by simp, fun a ha b hb e => ?_⟩, fun q hq => ?_, by simp; omega⟩
        · rw [List.map_append]
          rfl
        · rcases List.mem_append.mp hq with hq | hq
          · exact P1.rg q hq
          · rw [List.mem_singleton.mp hq]
            exact ⟨by show (0 : Int) ≤ 0 + (j : Int); omega, by show (0 : Int) + (j : Int) < 1 + (i : Int); omega, by show (1 : Int) + (i : Int) < _; omega⟩
        · rcases List.mem_append.mp hq with hq | hq
          · exact P1.fr q hq
          · rw [List.mem_singleton.mp hq]
            exact hnone
        · have hb := List.mem_singleton.mp hb
          subst e hb
          have : ((1 : Int) + (i : Int)) < (i : Int) + 1 ∨ ((1 : Int) + (i : Int) = (i : Int) + 1 ∧ (0 : Int) + (j : Int) < (j : Int)) := P3 _ ha
          omega
        · rcases List.mem_append.mp hq with hq | hq
          · have := P3 q hq
            omega
          · rw [List.mem_singleton.mp hq]
            exact .inr ⟨by show (1 : Int) + (i : Int) = _; omega, by show (0 : Int) + (j : Int) < _; omega⟩
      · rw [decide_eq_false c]
        exact hN' _ _ ⟨fs, _, rfl, rfl, P1, P2, fun q hq => by have := P3 q hq; omega, by omega⟩
    · rintro e s ⟨fs, x6, rfl, rfl, P1, P2, P3, P4⟩
      rw [DL.upTo_len] at P4
      exact hN _ _ ⟨fs, _, _, rfl, rfl, P1, P2, fun q hq => by have := P3 q hq; omega, by omega⟩
  · rintro e s ⟨fs, x5, x6, rfl, rfl, P1, P2, P3, P4⟩
    rw [DL.upTo_len] at P4
    ((conv => whnf); (try dsimp only))
    rw [itemsL (n := st.length + 1) (ds := fs.map pairD) (lookK (k := 1))]
    ((conv => whnf); (try dsimp only))
    rw [List.length_map]
    refine ⟨by omega, by omega, ?_⟩
    refine forD_ind (fun i e s => ∃ (st1 : Store) (gs : List (Int × Int)) (x7 : Option Val), s = st1 ++ [.lst HL, .lst (gs.map pairD)] ∧ Dr p st st1 ∧ e = [some (.loc p), some (.loc n), some (.int most), some (.loc st.length), some (.loc (st.length + 1)), x5, x6, x7, none] ∧
      PaOk (teams.map Prod.fst) kinds roles gs ∧ gs.Nodup ∧ gs.length + i = fs.length) (fun _ _ _ _ => trivial) ?_ ?_ ⟨st, fs, none, rfl, .refl hp, rfl, P1, P2, rfl⟩
    · rintro i d e s hd ⟨st1, gs, x7, rfl, dr, rfl, Q1, Q2, Q3⟩ N hN
      obtain ⟨hi, rfl⟩ := upTo_get' hd
      have hlen : st.length = st1.length := dr.len.symm
      refine ⟨_, rfl, ?_⟩
      ((conv => whnf); (try dsimp only))
      rw [hlen]
      refine ⟨isLstK (k := 1) rfl, ?_⟩
      ((conv => whnf); (try dsimp only))
      rw [itemsL (n := st1.length + 1) (ds := gs.map pairD) (lookK (k := 1))]
      ((conv => whnf); (try dsimp only))
      rw [List.length_map]
      refine draw (dr.po hp) (by omega) (by omega) fun w st2 w0 w1 d2 => ?_
      have dr2 := dr.trans d2
      ((conv => whnf); (try dsimp only))
      rw [show st1.length = st2.length from d2.len.symm, lookK]
      ((conv => whnf); (try dsimp only))
      refine ⟨by omega, by omega, ?_⟩
      have hw : w.toNat < gs.length := by omega
      have eix : ixN (gs.map pairD).length w = some w.toNat := by
        unfold ixN
        rw [List.length_map, if_pos w0, if_pos w1]
      rw [eix]
      ((conv => whnf); (try dsimp only))
      rw [List.getElem?_map, List.getElem?_eq_getElem hw]
      ((conv => whnf); (try dsimp only))
      rw [setK]
      have er : ∀ (l : List (Int × Int)) (i : Nat), (l.map pairD).eraseIdx i = (l.eraseIdx i).map pairD := by
        intro l
        induction l with
        | nil => intro _; rfl
        | cons x l ih =>
          intro i
          cases i with
          | zero => rfl
          | succ i => rw [List.map_cons, List.eraseIdx_cons_succ, List.eraseIdx_cons_succ, List.map_cons, ih i]
      rw [er]
      refine hN _ _ ⟨st2, gs.eraseIdx w.toNat, _, rfl, dr2, by rw [show st.length = st2.length from dr2.len.symm]; rfl, ⟨fun q hq => Q1.rg q (List.mem_of_mem_eraseIdx hq), fun q hq => Q1.fr q (List.mem_of_mem_eraseIdx hq)⟩, Q2.sublist (List.eraseIdx_sublist _ _), ?_⟩
      rw [List.length_eraseIdx, if_pos hw]
      omega
    · rintro e s ⟨st1, gs, x7, rfl, dr, rfl, Q1, Q2, Q3⟩
      rw [DL.upTo_len] at Q3
      ((conv => whnf); (try dsimp only))
      rw [show st.length = st1.length from dr.len.symm, show lvItems (st1 ++ [Cell.lst HL, Cell.lst (gs.map pairD)]) (LVal.at_ (st1.length + 1)) = some (gs.map pairD) from itemsL (lookK (k := 1))]
      refine .inr ⟨gs, rfl, fun ps hperm hsort => ?_⟩
      have hpl := hperm.length_eq
      exact back_dr _ dr (clVs_map fun q => rfl) (k ps st1 ⟨fun q hq => Q1.rg q (hperm.mem_iff.mp hq), fun q hq => Q1.fr q (hperm.mem_iff.mp hq)⟩ (by omega) (hperm.nodup_iff.mpr Q2) hsort dr)
end K05

set_option Elab.async false
set_option linter.all false
set_option maxRecDepth 100000
set_option maxHeartbeats 4000000
namespace K05
open PySem L2 DL
/-- for k in range(n): xs.append(a drawn thing), xs the last of the cells -/
theorem for_app {α : Type} {p c ks n : Nat} {N : Nat} {we : WE} {e2 : α → Val} (R : Nat → α → Prop) {ok : Store → Prop} {E : DEnds} {L1 : List Cell} {st : Store} {env : Slots} (hok : ∀ s, ok s) (hp : Po st p) (hc : env[c]? = some (some (.loc N))) (hN : N = st.length + L1.length) (hne : ks ≠ c) (hl : n ≤ 1000)
    (item : ∀ (i : Nat) st1 (xs : List α), i < n → xs.length = i → Dr p st st1 → ∀ Q' : DK, (∀ y st2, R i y → Dr p st1 st2 → Q' (e2 y) (st2 ++ (L1 ++ [.lst (xs.map e2)]))) → we (env.set ks (some (.int (0 + (i : Int))))) (st1 ++ (L1 ++ [.lst (xs.map e2)])) Q')
    (fin : ∀ (xs : List α) st1 x, xs.length = n → (∀ (i : Nat) y, xs[i]? = some y → R i y) → Dr p st st1 → E.nx (env.set ks x) (st1 ++ (L1 ++ [.lst (xs.map e2)]))) {x0 : Option Val} (h0 : env[ks]? = some x0) :
    forD (gN ks) (wDrop (wMt appV (wVar c) (wCons we wNil))) ok E (DL.upTo 0 n) env (st ++ (L1 ++ [.lst []])) := by
  have hz : sizeLine = 2 ^ 24 := rfl
  have e0 : env.set ks x0 = env := by
    obtain ⟨h1, h2⟩ := List.getElem?_eq_some_iff.mp h0
    rw [← h2, List.set_getElem_self]
  have lk : ∀ (A : Store) (d : Cell), (A ++ (L1 ++ [d]))[A.length + L1.length]? = some d := fun A d => by
    rw [lookK, List.getElem?_append_right (Nat.le_refl _), Nat.sub_self]
    rfl
  refine forD_ind (fun i e s => ∃ (st1 : Store) (xs : List α) (x : Option Val), s = st1 ++ (L1 ++ [.lst (xs.map e2)]) ∧ Dr p st st1 ∧ e = env.set ks x ∧ xs.length = i ∧ ∀ (j : Nat) y, xs[j]? = some y → R j y) (fun _ _ s _ => hok s) ?_ ?_ ⟨st, [], x0, rfl, .refl hp, e0.symm, rfl, fun j y h => by simp at h⟩
  · rintro i d e s hd ⟨st1, xs, x, rfl, dr, rfl, hxl, hR⟩ Nx hNx
    obtain ⟨hi, rfl⟩ := upTo_get' hd
    refine ⟨_, rfl, ?_⟩
    rw [List.set_set]
    have hg : (env.set ks (some (.int (0 + (i : Int)))))[c]? = some (some (.loc N)) := by
      rw [List.getElem?_set_ne hne]
      exact hc
    ((conv => whnf); (try dsimp only))
    rw [hg]
    ((conv => whnf); (try dsimp only))
    have hNl : N = st1.length + L1.length := by rw [hN, dr.len]
    refine ⟨isLst_of (by rw [hNl]; exact lk st1 _), ?_⟩
    ((conv => whnf); (try dsimp only))
    refine item i st1 xs hi hxl dr _ fun y st2 ry d2 => ?_
    ((conv => whnf); (try dsimp only))
    rw [show N = st2.length + L1.length by rw [hNl, d2.len], lk]
    ((conv => whnf); (try dsimp only))
    refine ⟨by rw [List.length_map]; omega, ?_⟩
    rw [setK, List.set_append_right _ _ (Nat.le_refl _), Nat.sub_self]
    refine hNx _ _ ⟨st2, xs ++ [y], _, ?_, dr.trans d2, rfl, by simp [hxl], fun j z hj => ?_⟩
    · rw [List.map_append]
      rfl
    · by_cases q : j < xs.length
      · rw [List.getElem?_append_left q] at hj
        exact hR j z hj
      · rw [List.getElem?_append_right (by omega)] at hj
        have : j - xs.length = 0 := by
          have := (List.getElem?_eq_some_iff.mp hj).1
          simp at this
          omega
        rw [this] at hj
        cases hj
        have ej : j = i := by omega
        subst ej
        exact ry
  · rintro e s ⟨st1, xs, x, rfl, dr, rfl, hxl, hR⟩
    rw [DL.upTo_len] at hxl
    exact fin xs st1 x hxl hR dr
theorem lc_draw0 {α : Type} {g : DTg} {we : WE} {ok : Store → Prop} {env0 : Slots} {p : Nat} {e2 : α → Val} (R : Nat → α → Prop) {Q : List Val → Store → Prop} (hok : ∀ s, ok s) (ds : List Val) (st : Store) (hp : Po st p)
    (h : ∀ (j : Nat) d st1, ds[j]? = some d → Dr p st st1 → ∃ env, g d env0 = some env ∧ ∀ Q' : DK, (∀ x st2, R j x → Dr p st1 st2 → Q' (e2 x) st2) → we env st1 Q')
    (q : ∀ (xs : List α) st', xs.length = ds.length → (∀ (j : Nat) x, xs[j]? = some x → R j x) → Dr p st st' → Q (xs.map e2) st') : lcD g wYes we ok env0 ds [] st Q := by
  have key := lc_draw (L := []) (e2 := e2) (g := g) (we := we) (env0 := env0) (Q := Q) R hok ds 0 st [] hp (fun j d st1 hd d1 => ?_) (fun xs st' hl hx d1 => ?_)
  · rw [List.append_nil] at key
    exact key
  · obtain ⟨env, e1, e3⟩ := h j d st1 hd d1
    refine ⟨env, e1, fun Q' hQ => ?_⟩
    rw [List.append_nil]
    refine e3 Q' fun x st2 rx d2 => ?_
    have := hQ x st2 (by rw [Nat.zero_add]; exact rx) d2
    rwa [List.append_nil] at this
  · rw [List.append_nil, List.nil_append]
    exact q xs st' hl (fun j x hj => by have := hx j x hj; rwa [Nat.zero_add] at this) d1
theorem reachL {st : Store} {L : List Cell} {p q : Nat} {m : Mn} {Q : DK} (hp : Po st p) (hm : My st p q m) (M : MnOk m) (k : ∀ vs (node deep : Int) hs ps st', Asc 12 0 vs → 0 ≤ node → node < m.m3 → 0 ≤ deep → deep ≤ 1 → Asc (m.m0 - 1) 0 hs → Asc (m.m1 - 1) 0 ps → Dr p st st' → Q (.tup [tI vs, .int node, .int deep, tI hs, tI ps]) (st' ++ L)) : s__law_reach [.loc p, .loc q] (st ++ L) Q := by
  unfold s__law_reach
  refine ⟨p, q, m.l, m.m0, m.m1, m.m3, rfl, hp.app, by rw [lookA (List.getElem?_eq_some_iff.mp hm.1).1]; exact hm.1, hm.2, rfl, rfl, rfl, M.h3.1, M.h3.2, M.h0.1, M.h0.2, M.h1.1, M.h1.2, fun vs node deep hs ps s' e1 e2 e3 e4 e5 e6 e7 d => ?_⟩
  obtain ⟨st', rfl, d'⟩ := d.app hp.lt
  exact k vs node deep hs ps st' e1 e2 e3 e4 e5 e6 e7 d'
theorem itK {A : Store} {L : List Cell} {k N : Nat} {ds : List Val} (hN : N = A.length + k) (hL : L[k]? = some (Cell.lst ds)) : itemsOf (A ++ L) (.loc N) = some ds := itemsL (by rw [hN, lookK]; exact hL)
theorem frMake {m : Mn} (M : MnOk m) {w0 w1 w2 w3 : Int} (a0 : 0 ≤ w0) (b0 : w0 < 4) (a1 : 0 ≤ w1) (b1 : w1 < 9 - (1 + w0)) (a2 : 0 ≤ w2) (b2 : w2 < 4) (a3 : 0 ≤ w3) (b3 : w3 < 6)
    {us : List Int} {cr sg : List (Int × Int × Int × Int)} {jo : List (Int × List Int)} {rs : List (List Cl)} {ls : List Lot} {gs : List Door} {pn : List (Int × Int × Int)} {cs : List (Int × List Int)} {hm2 : List Int} {ps : List (Int × Int)}
    (hul : us.length = (m.m3 - 1).toNat) (hus : ∀ (j : Nat) (x : Int), us[j]? = some x → 0 ≤ x ∧ x < 1 + (j : Int)) (hcl : cr.length = m.m4.toNat)
    (hcr : ∀ (i : Nat) (y : Int × Int × Int × Int), cr[i]? = some y → (-1 ≤ y.1 ∧ y.1 < (i : Int)) ∧ (0 ≤ y.2.1 ∧ y.2.1 < m.m3) ∧ RlM m y.2.2.1 ∧ RlM m y.2.2.2)
    (hsl : sg.length = m.m5.toNat) (hsg : ∀ (i : Nat) (y : Int × Int × Int × Int), sg[i]? = some y → (0 ≤ y.1 ∧ y.1 < m.m3) ∧ RlM m y.2.1 ∧ RlM m y.2.2.1 ∧ 1 ≤ y.2.2.2 ∧ y.2.2.2 ≤ 2)
    (hjl : jo.length = m.m6.toNat) (hjo : ∀ (i : Nat) (y : Int × List Int), jo[i]? = some y → (0 ≤ y.1 ∧ y.1 < m.m4) ∧ Asc (m.m5 - 1) 0 y.2)
    (hrl : (rs.length : Int) = m.m7) (hrs : ∀ (i : Nat) (cs : List Cl), rs[i]? = some cs → (1 ≤ cs.length ∧ cs.length ≤ 3) ∧ ∀ c ∈ cs, ClIn m (i : Int) c)
    (hll : ls.length = m.m10.toNat) (hls : ∀ (j : Nat) (x : Lot), ls[j]? = some x → LotIn m x)
    (hgl : gs.length = m.m12.toNat) (hgs : ∀ d ∈ gs, DoorOk m.m0 m.m1 m.m3 m.m7 d)
    (hpl : pn.length = m.m13.toNat) (hpn : ∀ (j : Nat) (x : Int × Int × Int), pn[j]? = some x → RlM m x.1 ∧ (9 ≤ x.2.1 ∧ x.2.1 ≤ 12) ∧ 0 ≤ x.2.2 ∧ x.2.2 < m.m3)
    (hcs : CsOk m.m3 cs) (hcl2 : cs.length ≤ 2) (hhl : hm2.length = m.m3.toNat) (hho : ∀ (j : Nat) (x : Int), hm2[j]? = some x → 0 ≤ x ∧ x < m.m2)
    (hps : PaOk (cr.map Prod.fst) jo rs ps) (hpl2 : (ps.length : Int) ≤ m.m9) (hnd : ps.Nodup) (hup : ps.Pairwise leP) :
    FrOk ⟨[m.m0, m.m1, m.m2, 1 + w0, 1 + w0 + w1, 1 + w2, 1 + w3], -1 :: us, cr, sg, jo, rs, ps, ls, gs, pn, cs, hm2⟩ := by
  have h0 := M.h0
  have h1 := M.h1
  have h2 := M.h2
  have h3 := M.h3
  have h4 := M.h4
  have h5 := M.h5
  have h6 := M.h6
  have h7 := M.h7
  have h9 := M.h9
  have h10 := M.h10
  have h12 := M.h12
  have h13 := M.h13
  have eU : ((-1 :: us : List Int).length : Int) = m.m3 := by simp [hul]; omega
  have eT : (cr.length : Int) = m.m4 := by omega
  have eM : (sg.length : Int) = m.m5 := by omega
  have eK : (jo.length : Int) = m.m6 := by omega
  refine ⟨⟨_, _, _, _, _, _, _, rfl, h0, h1, h2, by omega, by omega, by omega, by omega, by omega⟩, ?_, ?_, ?_, ?_, ?_, ?_, ?_, ?_, ?_, ?_, ?_, rfl, ?_, ?_, ?_, ?_, ?_, ?_, ?_, ?_, ?_, ?_, ?_, ?_⟩
  · show 1 ≤ (-1 :: us : List Int).length ∧ (-1 :: us : List Int).length ≤ 8
    omega
  · show 1 ≤ cr.length ∧ cr.length ≤ 3
    omega
  · show sg.length ≤ 3
    omega
  · show 1 ≤ jo.length ∧ jo.length ≤ 3
    omega
  · show rs.length ≤ 6
    omega
  · show ps.length ≤ 3
    omega
  · show ls.length ≤ 2
    omega
  · show gs.length ≤ 2
    omega
  · show pn.length ≤ 3
    omega
  · exact hcl2
  · show hm2.length = (-1 :: us : List Int).length
    omega
  · intro i x hi hx
    obtain ⟨j, rfl⟩ := Nat.exists_eq_succ_of_ne_zero (Nat.ne_of_gt hi)
    have := hus j x (by simpa using hx)
    omega
  · intro i q hq
    have g := hcr i q hq
    exact ⟨g.1.1, g.1.2, by show 0 ≤ _ ∧ _ < ((-1 :: us : List Int).length : Int); rw [eU]; exact g.2.1, by show -1 ≤ _ ∧ _ < (rs.length : Int); rw [hrl]; exact g.2.2.1, by show -1 ≤ _ ∧ _ < (rs.length : Int); rw [hrl]; exact g.2.2.2⟩
  · intro q hq
    obtain ⟨i, hi⟩ := List.getElem?_of_mem hq
    have g := hsg i q hi
    exact ⟨by show 0 ≤ _ ∧ _ < ((-1 :: us : List Int).length : Int); rw [eU]; exact g.1, by show -1 ≤ _ ∧ _ < (rs.length : Int); rw [hrl]; exact g.2.1, by show -1 ≤ _ ∧ _ < (rs.length : Int); rw [hrl]; exact g.2.2.1, g.2.2.2⟩
  · intro q hq
    obtain ⟨i, hi⟩ := List.getElem?_of_mem hq
    have g := hjo i q hi
    exact ⟨by show 0 ≤ _ ∧ _ < (cr.length : Int); rw [eT]; exact g.1, by show Asc ((sg.length : Int) - 1) 0 _; rw [eM]; exact g.2⟩
  · intro i c hc
    have g := hrs i c hc
    refine ⟨g.1, fun x hx => ?_⟩
    obtain ⟨c1, c2, c3, c4, c5, c6⟩ := g.2 x hx
    exact ⟨by show -1 ≤ _ ∧ _ < (jo.length : Int); rw [eK]; exact c1, by show -1 ≤ _ ∧ _ < (cr.length : Int); rw [eT]; exact c2, by show Asc ((sg.length : Int) - 1) 0 _; rw [eM]; exact c3, by show Asc ((sg.length : Int) - 1) 0 _; rw [eM]; exact c4, c5, c6⟩
  · exact fun p hp => hps.rg p hp
  · intro i p q hp hq
    obtain ⟨i1, e1⟩ := List.getElem?_eq_some_iff.mp hp
    obtain ⟨i2, e2⟩ := List.getElem?_eq_some_iff.mp hq
    have g := List.pairwise_iff_getElem.mp hup i (i + 1) i1 i2 (Nat.lt_succ_self i)
    have n := List.pairwise_iff_getElem.mp hnd i (i + 1) i1 i2 (Nat.lt_succ_self i)
    rw [e1, e2] at g n
    rcases g with g | ⟨g1, g2⟩
    · exact .inl g
    · refine .inr ⟨g1, Int.lt_iff_le_and_ne.mpr ⟨g2, fun e => n (Prod.ext g1 e)⟩⟩
  · intro l hl
    obtain ⟨i, hi⟩ := List.getElem?_of_mem hl
    obtain ⟨c1, c2, c3, c4, c5, c6, c7, c8, c9⟩ := hls i l hi
    exact ⟨by show 0 ≤ _ ∧ _ < ((-1 :: us : List Int).length : Int); rw [eU]; exact c1, c2, c3, c4, c5, by show -1 ≤ _ ∧ _ < (rs.length : Int); rw [hrl]; exact c6, by show -1 ≤ _ ∧ _ < (rs.length : Int); rw [hrl]; exact c7, c8, fun p hp => ⟨by show -1 ≤ _ ∧ _ < (rs.length : Int); rw [hrl]; exact (c9 p hp).1, by show -1 ≤ _ ∧ _ < (rs.length : Int); rw [hrl]; exact (c9 p hp).2⟩⟩
  · intro d hd
    show DoorOk m.m0 m.m1 ((-1 :: us : List Int).length : Int) (rs.length : Int) d
    rw [eU, hrl]
    exact hgs d hd
  · intro q hq
    obtain ⟨i, hi⟩ := List.getElem?_of_mem hq
    have g := hpn i q hi
    exact ⟨by show -1 ≤ _ ∧ _ < (rs.length : Int); rw [hrl]; exact g.1, g.2.1, by show 0 ≤ _ ∧ _ < ((-1 :: us : List Int).length : Int); rw [eU]; exact g.2.2⟩
  · intro i q hq
    have hm := List.mem_of_getElem? hq
    refine ⟨by show 0 ≤ _ ∧ _ < ((-1 :: us : List Int).length : Int); rw [eU]; exact hcs.nd q hm, (hcs.vs q hm).1, (hcs.vs q hm).2, fun j r hj hr => ?_⟩
    obtain ⟨i1, e1⟩ := List.getElem?_eq_some_iff.mp hq
    obtain ⟨i2, e2⟩ := List.getElem?_eq_some_iff.mp hr
    have n := List.pairwise_iff_getElem.mp hcs.df j i (by rw [List.length_map]; exact i2) (by rw [List.length_map]; exact i1) hj
    rw [List.getElem_map, List.getElem_map, e1, e2] at n
    exact fun e => n e.symm
  · intro x hx
    obtain ⟨i, hi⟩ := List.getElem?_of_mem hx
    exact hho i x hi
@[irreducible] def s__law_frame : DSp := fun ds st P => ∃ p q m, ds = [.loc p, .loc q] ∧ Po st p ∧ My st p q m ∧ MnOk m ∧ ∀ f st', FrOk f → NoClash f → Dr p st st' → P (frV f) st'
theorem v__law_frame (ds : List Val) (st : Store) (P : DK) (h : s__law_frame ds st P) : w__law_frame s__law_cases s__law_draw s__law_ladder s__law_lot s__law_or_none s__law_parted s__law_reach (defE st P) (startD N__law_frame ds) st := by
  unfold s__law_frame at h
  obtain ⟨p, q, m, rfl, hp, hm, M, k⟩ := h
  have hz : sizeLine = 2 ^ 24 := rfl
  have h0 := M.h0
  have h1 := M.h1
  have h2 := M.h2
  have h3 := M.h3
  have h4 := M.h4
  have h5 := M.h5
  have h6 := M.h6
  have h7 := M.h7
  have h9 := M.h9
  have h10 := M.h10
  have h12 := M.h12
  have h13 := M.h13
  rw [e__law_frame]
  unfold w__law_frame
  ((conv => whnf); (try dsimp only))
  refine draw0 hp (by decide) (by decide) fun w0 s1 a0 b0 d1 => ?_
  ((conv => whnf); (try dsimp only))
  rw [(hm.dr d1).it0]
  ((conv => whnf); (try dsimp only))
  rw [(hm.dr d1).it0]
  ((conv => whnf); (try dsimp only))
  rw [(hm.dr d1).it0]
  ((conv => whnf); (try dsimp only))
  refine draw0 (d1.po hp) (by omega) (by omega) fun w1 s2 a1 b1 d2' => ?_
  have d2 := d1.trans d2'
  ((conv => whnf); (try dsimp only))
  refine draw0 (d2.po hp) (by decide) (by decide) fun w2 s3 a2 b2 d3' => ?_
  have d3 := d2.trans d3'
  ((conv => whnf); (try dsimp only))
  refine draw0 (d3.po hp) (by decide) (by decide) fun w3 s4 a3 b3 d4' => ?_
  have d4 := d3.trans d4'
  clear d2' d3' d4'
  refine ⟨by show 7 ≤ sizeLine; decide, ?_⟩
  ((conv => whnf); (try dsimp only))
  refine ⟨by show 1 ≤ sizeLine; decide, ?_⟩
  ((conv => whnf); (try dsimp only))
  rw [(hm.dr d4).it0]
  ((conv => whnf); (try dsimp only))
  refine ⟨⟨by omega, by omega, by omega, by omega, by omega⟩, ?_⟩
  refine lc_draw0 (e2 := Val.int) (fun j x => 0 ≤ x ∧ x < 1 + (j : Int)) (fun _ => trivial) _ s4 (d4.po hp) (fun j d s5 hd d5 => ?_) fun us s5 hul hus d5' => ?_
  · obtain ⟨hj, rfl⟩ := upTo_get' hd
    refine ⟨_, rfl, fun Q' hQ => ?_⟩
    ((conv => whnf); (try dsimp only))
    exact draw0 (d5.po (d4.po hp)) (by omega) (by omega) fun x s6 x0 x1 d6 => hQ x s6 ⟨x0, x1⟩ d6
  have d5 := d4.trans d5'
  rw [DL.upTo_len] at hul
  ((conv => whnf); (try dsimp only))
  refine ⟨by rw [List.length_map]; show 1 + _ ≤ _; omega, ?_⟩
  ((conv => whnf); (try dsimp only))
  refine ⟨Nat.zero_le _, ?_⟩
  ((conv => whnf); (try dsimp only))
  rw [(hm.dr d5).it]
  ((conv => whnf); (try dsimp only))
  refine ⟨by omega, by omega, ?_⟩
  refine for_app (p := p) (c := 5) (ks := 6) (e2 := quadV) (L1 := []) (fun i y => (-1 ≤ y.1 ∧ y.1 < i) ∧ (0 ≤ y.2.1 ∧ y.2.1 < m.m3) ∧ RlM m y.2.2.1 ∧ RlM m y.2.2.2) (fun _ => trivial) (d5.po hp) (N := List.length s5) rfl rfl (by decide) (by omega) (fun i st1 xs hi hxl dx Q' hQ => ?_) ?_ rfl
  · have dd := d5.trans dx
    ((conv => whnf); (try dsimp only))
    refine draw (dd.po hp) (by omega) (by omega) fun y1 t1 g1 f1 e1 => ?_
    ((conv => whnf); (try dsimp only))
    rw [((hm.dr dd).dr e1).it]
    ((conv => whnf); (try dsimp only))
    refine draw (e1.po (dd.po hp)) (by omega) (by omega) fun y2 t2 g2 f2 e2' => ?_
    have e2 := e1.trans e2'
    ((conv => whnf); (try dsimp only))
    rw [((hm.dr dd).dr e2).it]
    ((conv => whnf); (try dsimp only))
    refine ornone (e2.po (dd.po hp)) (by omega) (by omega) (by decide) (by decide) fun y3 t3 g3 f3 e3' => ?_
    have e3 := e2.trans e3'
    ((conv => whnf); (try dsimp only))
    rw [((hm.dr dd).dr e3).it]
    ((conv => whnf); (try dsimp only))
    refine ornone (e3.po (dd.po hp)) (by omega) (by omega) (by decide) (by decide) fun y4 t4 g4 f4 e4' => ?_
    refine ⟨by show 4 ≤ sizeLine; decide, ?_⟩
    exact hQ (y1 - 1, y2, y3, y4) t4 ⟨⟨by show -1 ≤ y1 - 1; omega, by show y1 - 1 < _; omega⟩, ⟨g2, f2⟩, ⟨g3, by show y3 < _; omega⟩, g4, by show y4 < _; omega⟩ (e3.trans e4')
  intro cr s6 x6 hcl hcr d6'
  have d6 := d5.trans d6'
  rw [List.nil_append]
  ((conv => whnf); (try dsimp only))
  refine ⟨Nat.zero_le _, ?_⟩
  rw [List.append_assoc]
  ((conv => whnf); (try dsimp only))
  rw [(hm.dr d6).it]
  ((conv => whnf); (try dsimp only))
  refine ⟨by omega, by omega, ?_⟩
  refine for_app (p := p) (c := 7) (ks := 6) (e2 := quadV) (L1 := [Cell.lst (cr.map quadV)]) (fun _ y => (0 ≤ y.1 ∧ y.1 < m.m3) ∧ RlM m y.2.1 ∧ RlM m y.2.2.1 ∧ 1 ≤ y.2.2.2 ∧ y.2.2.2 ≤ 2) (fun _ => trivial) (d6.po hp) (N := List.length (s6 ++ [Cell.lst (cr.map quadV)])) rfl (by simp) (by decide) (by omega) (fun i st1 xs hi hxl dx Q' hQ => ?_) ?_ rfl
  · have dd := d6.trans dx
    ((conv => whnf); (try dsimp only))
    rw [(hm.dr dd).it]
    ((conv => whnf); (try dsimp only))
    refine draw (dd.po hp) (by omega) (by omega) fun y1 t1 g1 f1 e1 => ?_
    ((conv => whnf); (try dsimp only))
    rw [((hm.dr dd).dr e1).it]
    ((conv => whnf); (try dsimp only))
    refine ornone (e1.po (dd.po hp)) (by omega) (by omega) (by decide) (by decide) fun y3 t3 g3 f3 e3' => ?_
    have e3 := e1.trans e3'
    ((conv => whnf); (try dsimp only))
    rw [((hm.dr dd).dr e3).it]
    ((conv => whnf); (try dsimp only))
    refine ornone (e3.po (dd.po hp)) (by omega) (by omega) (by decide) (by decide) fun y4 t4 g4 f4 e4' => ?_
    have e4 := e3.trans e4'
    ((conv => whnf); (try dsimp only))
    refine draw (e4.po (dd.po hp)) (by decide) (by decide) fun y5 t5 g5 f5 e5' => ?_
    refine ⟨.inl rfl, ?_⟩
    simp only [eqd_int, Bool.false_eq_true, if_false]
    ((conv => whnf); (try dsimp only))
    refine ⟨by show 4 ≤ sizeLine; decide, ?_⟩
    refine hQ (y1, y3, y4, 1 + (if decide (y5 = 0) = true then 1 else 0)) t5 ⟨⟨g1, f1⟩, ⟨g3, by show y3 < _; omega⟩, ⟨g4, by show y4 < _; omega⟩, ?_, ?_⟩ (e4.trans e5')
    · show 1 ≤ 1 + (if decide (y5 = 0) = true then (1 : Int) else 0)
      split <;> omega
    · show 1 + (if decide (y5 = 0) = true then (1 : Int) else 0) ≤ 2
      split <;> omega
  intro sg s7 x7 hsl hsg d7'
  have d7 := d6.trans d7'
  ((conv => whnf); (try dsimp only))
  refine ⟨Nat.zero_le _, ?_⟩
  rw [List.append_assoc]
  ((conv => whnf); (try dsimp only))
  rw [(hm.dr d7).it]
  ((conv => whnf); (try dsimp only))
  refine ⟨by omega, by omega, ?_⟩
  refine for_app (p := p) (c := 8) (ks := 6) (e2 := kindV) (L1 := [Cell.lst (cr.map quadV)] ++ [Cell.lst (sg.map quadV)]) (fun _ y => (0 ≤ y.1 ∧ y.1 < m.m4) ∧ Asc (m.m5 - 1) 0 y.2) (fun _ => trivial) (d7.po hp) (N := List.length (s7 ++ ([Cell.lst (cr.map quadV)] ++ [Cell.lst (sg.map quadV)]))) rfl (by simp) (by decide) (by omega) (fun i st1 xs hi hxl dx Q' hQ => ?_) ?_ rfl
  · have dd := d7.trans dx
    ((conv => whnf); (try dsimp only))
    rw [(hm.dr dd).it]
    ((conv => whnf); (try dsimp only))
    refine draw (dd.po hp) (by omega) (by omega) fun y1 t1 g1 f1 e1 => ?_
    ((conv => whnf); (try dsimp only))
    rw [((hm.dr dd).dr e1).it]
    ((conv => whnf); (try dsimp only))
    refine ⟨by omega, by omega, ?_⟩
    rw [upTo_upI]
    refine lc_some (e := Val.int) (e2 := Val.int) (p := p) (fun _ => trivial) (upI 0 m.m5.toNat) t1 [] (e1.po (dd.po hp)) (fun x _ t2 e2 => ⟨_, rfl, fun T ht => ?_, fun t3 Q'' q => by ((conv => whnf); (try dsimp only)); exact q⟩) fun ys t2 hs e2' => ?_
    · ((conv => whnf); (try dsimp only))
      refine draw (e2.po (e1.po (dd.po hp))) (by decide) (by decide) fun y5 t5 g5 f5 e5' => ?_
      refine ⟨.inl rfl, ?_⟩
      simp only [eqd_int, Bool.false_eq_true, if_false]
      exact ht _ t5 e5'
    ((conv => whnf); (try dsimp only))
    refine ⟨by show 2 ≤ sizeLine; decide, ?_⟩
    exact hQ (y1, ys) t2 ⟨⟨g1, f1⟩, asc_sub hs (upI_asc _ _ _ (by omega))⟩ (e1.trans e2')
  intro jo s8 x8 hjl hjo d8'
  have d8 := d7.trans d8'
  ((conv => whnf); (try dsimp only))
  refine ladderL (d8.po hp) (hm.dr d8) M fun rs s9 hrl hrs d9' => ?_
  have d9 := d8.trans d9'
  ((conv => whnf); (try dsimp only))
  rw [(hm.dr d9).it]
  ((conv => whnf); (try dsimp only))
  refine ⟨by omega, by omega, ?_⟩
  refine lc_draw (e2 := lotV) (p := p) (fun _ l => LotIn m l) (fun _ => trivial) _ 0 s9 [] (d9.po hp) (fun j d t1 hd e1 => ⟨_, rfl, fun Q' hQ => ?_⟩) fun ls s10 hll hls d10' => ?_
  · ((conv => whnf); (try dsimp only))
    exact lotL (e1.po (d9.po hp)) (hm.dr (d9.trans e1)) M fun l t2 hl e2 => hQ l t2 hl e2
  have d10 := d9.trans d10'
  rw [DL.upTo_len] at hll
  rw [List.nil_append]
  ((conv => whnf); (try dsimp only))
  refine ⟨Nat.zero_le _, ?_⟩
  rw [List.append_assoc s10 _ [Cell.lst []]]
  ((conv => whnf); (try dsimp only))
  rw [(hm.dr d10).it]
  ((conv => whnf); (try dsimp only))
  refine ⟨by omega, by omega, ?_⟩
  have L5 : st.length = s5.length := d5.len.symm
  have L6 : st.length = s6.length := d6.len.symm
  have L7 : st.length = s7.length := d7.len.symm
  have L10 : st.length = s10.length := d10.len.symm
  have hc5 : List.length s5 = st.length := L5.symm
  have hc7 : List.length (s6 ++ [Cell.lst (cr.map quadV)]) = st.length + 1 := by rw [List.length_append, ← L6]; rfl
  have hc8 : List.length (s7 ++ ([Cell.lst (cr.map quadV)] ++ [Cell.lst (sg.map quadV)])) = st.length + 2 := by rw [List.length_append, ← L7]; rfl
  have hc11 : List.length (s10 ++ (([Cell.lst (cr.map quadV)] ++ [Cell.lst (sg.map quadV)]) ++ [Cell.lst (jo.map kindV)])) = st.length + 3 := by rw [List.length_append, ← L10]; rfl
  rw [hc5, hc7, hc8, hc11]
  refine forD_ind (fun i e s => ∃ (st1 : Store) (gs : List Door) (x y : Option Val), s = st1 ++ ((([Cell.lst (cr.map quadV)] ++ [Cell.lst (sg.map quadV)]) ++ [Cell.lst (jo.map kindV)]) ++ [Cell.lst (gs.map doorV)]) ∧ Dr p st st1 ∧
    e = [some (.loc p), some (.loc q), some (.int (1 + w0)), some (.tup [.int m.m0, .int m.m1, .int m.m2, .int (1 + w0), .int (1 + w0 + w1), .int (1 + w2), .int (1 + w3)]), some (.tup ([.int (-1)] ++ us.map Val.int)), some (.loc st.length), x, some (.loc (st.length + 1)), some (.loc (st.length + 2)), some (.tup (rs.map roleV)), some (.tup (ls.map lotV)), some (.loc (st.length + 3)), y, none, none, none, none, none] ∧
    gs.length = i ∧ ∀ d ∈ gs, DoorOk m.m0 m.m1 m.m3 m.m7 d) (fun _ _ _ _ => trivial) ?_ ?_ ⟨s10, [], x8, none, rfl, d10, rfl, rfl, fun d h => (by cases h)⟩
  · rintro i d e s hd ⟨st1, gs, x, y, rfl, dx, rfl, hgl, hgs⟩ Nx hNx
    obtain ⟨hi, rfl⟩ := upTo_get' hd
    refine ⟨_, rfl, ?_⟩
    ((conv => whnf); (try dsimp only))
    refine reachL (dx.po hp) (hm.dr dx) M fun vs node deep hs ps t1 v1 v2 v3 v4 v5 v6 v7 e1' => ?_
    have e1 := dx.trans e1'
    ((conv => whnf); (try dsimp only))
    rw [show st.length + 3 = t1.length + 3 by rw [e1.len]]
    refine ⟨isLst_of (by rw [lookK]; rfl), ?_⟩
    ((conv => whnf); (try dsimp only))
    refine draw (e1.po hp) (by decide) (by decide) fun y1 t2 g1 f1 e2' => ?_
    have e2 := e1.trans e2'
    ((conv => whnf); (try dsimp only))
    rw [(hm.dr e2).it]
    ((conv => whnf); (try dsimp only))
    refine ornone (e2.po hp) (by omega) (by omega) (by decide) (by decide) fun y2 t3 g2 f2 e3' => ?_
    have e3 := e2.trans e3'
    ((conv => whnf); (try dsimp only))
    refine draw (e3.po hp) (by decide) (by decide) fun y3 t4 g3 f3 e4' => ?_
    have e4 := e3.trans e4'
    refine ⟨by show 8 ≤ sizeLine; decide, ?_⟩
    ((conv => whnf); (try dsimp only))
    rw [show t1.length = t4.length by rw [e1.len, e4.len], lookK]
    ((conv => whnf); (try dsimp only))
    refine ⟨by rw [List.length_map]; omega, ?_⟩
    rw [setK]
    refine hNx _ _ ⟨t4, gs ++ [⟨y1, ⟨y2, vs, node, deep, hs, ps⟩, 1 + y3⟩], _, _, ?_, e4, by rw [show st.length = t4.length from e4.len.symm]; rfl, by simp [hgl], fun d hd => ?_⟩
    · rw [List.map_append]
      rfl
    · rcases List.mem_append.mp hd with hd | hd
      · exact hgs d hd
      · rw [List.mem_singleton.mp hd]
        exact ⟨g1, by show y1 ≤ 3; omega, ⟨g2, by show y2 ≤ m.m7 - 1; omega, v1, v2, by show node ≤ m.m3 - 1; omega, v4, v5, v6, v7⟩, by show 1 ≤ 1 + y3; omega, by show 1 + y3 ≤ 6; omega⟩
  rintro e s ⟨s11, gs, x, y, rfl, d11, rfl, hgl, hgs⟩
  rw [DL.upTo_len] at hgl
  ((conv => whnf); (try dsimp only))
  rw [(hm.dr d11).it]
  ((conv => whnf); (try dsimp only))
  refine ⟨by omega, by omega, ?_⟩
  refine lc_draw (e2 := tripV) (p := p) (fun _ y => RlM m y.1 ∧ (9 ≤ y.2.1 ∧ y.2.1 ≤ 12) ∧ 0 ≤ y.2.2 ∧ y.2.2 < m.m3) (fun _ => trivial) _ 0 s11 [] (d11.po hp) (fun j d t1 hd e1' => ⟨_, rfl, fun Q' hQ => ?_⟩) fun pn s12 hpl hpn d12' => ?_
  · have e1 := d11.trans e1'
    ((conv => whnf); (try dsimp only))
    rw [(hm.dr e1).it]
    ((conv => whnf); (try dsimp only))
    refine ornone (e1.po hp) (by omega) (by omega) (by decide) (by decide) fun y1 t2 g1 f1 e2' => ?_
    have e2 := e1.trans e2'
    ((conv => whnf); (try dsimp only))
    refine draw (e2.po hp) (by decide) (by decide) fun y2 t3 g2 f2 e3' => ?_
    have e3 := e2.trans e3'
    ((conv => whnf); (try dsimp only))
    rw [(hm.dr e3).it]
    ((conv => whnf); (try dsimp only))
    refine draw (e3.po hp) (by omega) (by omega) fun y3 t4 g3 f3 e4' => ?_
    refine ⟨by show 3 ≤ sizeLine; decide, ?_⟩
    exact hQ (y1, 9 + y2, y3) t4 ⟨⟨g1, by show y1 < _; omega⟩, ⟨by show 9 ≤ 9 + y2; omega, by show 9 + y2 ≤ 12; omega⟩, g3, f3⟩ ((e2'.trans e3').trans e4')
  have d12 := d11.trans d12'
  rw [DL.upTo_len] at hpl
  rw [List.nil_append]
  ((conv => whnf); (try dsimp only))
  refine casesL (d12.po hp) (hm.dr d12) M fun cs s13 hcs hcl2 d13' => ?_
  have d13 := d12.trans d13'
  ((conv => whnf); (try dsimp only))
  rw [(hm.dr d13).it]
  ((conv => whnf); (try dsimp only))
  refine ⟨by omega, by omega, ?_⟩
  refine lc_draw (e2 := Val.int) (p := p) (fun _ y => 0 ≤ y ∧ y < m.m2) (fun _ => trivial) _ 0 s13 [] (d13.po hp) (fun j d t1 hd e1' => ⟨_, rfl, fun Q' hQ => ?_⟩) fun hm2 s14 hhl hho d14' => ?_
  · have e1 := d13.trans e1'
    ((conv => whnf); (try dsimp only))
    rw [(hm.dr e1).it]
    ((conv => whnf); (try dsimp only))
    exact draw (e1.po hp) (by omega) (by omega) fun y1 t2 g1 f1 e2' => hQ y1 t2 ⟨g1, f1⟩ e2'
  have d14 := d13.trans d14'
  rw [DL.upTo_len] at hhl
  rw [List.nil_append]
  have L14 : st.length = s14.length := d14.len.symm
  ((conv => whnf); (try dsimp only))
  rw [itK (k := 0) (A := s14) (ds := cr.map quadV) L14 rfl]
  ((conv => whnf); (try dsimp only))
  rw [itK (k := 1) (A := s14) (ds := sg.map quadV) (by rw [L14]) rfl]
  ((conv => whnf); (try dsimp only))
  rw [itK (k := 2) (A := s14) (ds := jo.map kindV) (by rw [L14]) rfl]
  ((conv => whnf); (try dsimp only))
  refine ⟨Nat.zero_le _, ?_⟩
  ((conv => whnf); (try dsimp only))
  rw [itK (k := 3) (A := s14) (ds := gs.map doorV) (by rw [L14]) rfl]
  ((conv => whnf); (try dsimp only))
  refine ⟨by show 12 ≤ sizeLine; decide, ?_⟩
  have hN : List.length (s14 ++ ([Cell.lst (cr.map quadV)] ++ [Cell.lst (sg.map quadV)] ++ [Cell.lst (jo.map kindV)] ++ [Cell.lst (gs.map doorV)])) = s14.length + 4 := by rw [List.length_append]; rfl
  ((conv => whnf); (try dsimp only))
  rw [List.append_assoc, hN]
  rw [(hm.dr d14).it]
  ((conv => whnf); (try dsimp only))
  unfold s__law_parted
  refine ⟨p, s14.length + 4, _, cr, jo, rs, m.m9, rfl, (d14.po hp).app, ?_, lookK, rfl, rfl, rfl, ?_, ?_, ?_, ?_, ?_, ?_, h9.1, ?_, fun ps s' hps hpl2 hnd hup dps => ?_⟩
  · have := (d14.po hp).lt
    omega
  · intro i h
    rw [List.length_map] at h
    have := hcr i _ (List.getElem?_eq_getElem h)
    rw [List.getElem_map]
    exact ⟨this.1.1, this.1.2⟩
  · intro x hx
    obtain ⟨i, hi⟩ := List.getElem?_of_mem hx
    have g := hjo i x hi
    omega
  · omega
  · omega
  · omega
  · intro c hc x hx
    obtain ⟨i, hi⟩ := List.getElem?_of_mem hc
    exact ((hrs i c hi).2 x hx).2.1.1
  · omega
  obtain ⟨s15, rfl, d15'⟩ := dps.app (d14.po hp).lt
  have d15 := d14.trans d15'
  ((conv => whnf); (try dsimp only))
  have L15 : s14.length + 4 = s15.length + 4 := by rw [d15'.len]
  rw [L15, lookK]
  ((conv => whnf); (try dsimp only))
  rw [setK]
  rw [itK (k := 4) (A := s15) (ds := frL ⟨[m.m0, m.m1, m.m2, 1 + w0, 1 + w0 + w1, 1 + w2, 1 + w3], -1 :: us, cr, sg, jo, rs, ps, ls, gs, pn, cs, hm2⟩) rfl rfl]
  ((conv => whnf); (try dsimp only))
  have F := frMake M a0 b0 a1 b1 a2 b2 a3 b3 hul hus hcl hcr hsl hsg hjl hjo hrl hrs hll hls hgl hgs hpl hpn hcs hcl2 hhl hho hps hpl2 hnd hup
  refine back_dr _ d15 (cl_frV _ ⟨_, _, _, _, _, _, _, _, _, _, _, _⟩) (k _ _ F ?_ d15)
  intro i kd hk r hr
  have g := hps.fr r hr (i : Int) (by
    have := (List.getElem?_eq_some_iff.mp hk).1
    unfold upI
    exact List.mem_map.mpr ⟨i, List.mem_range.mpr this, Int.zero_add _⟩)
  unfold hadK at g
  rw [Int.toNat_natCast, show jo[i]? = some kd from hk] at g
  exact g
end K05

set_option Elab.async false
set_option linter.all false
set_option maxRecDepth 100000
set_option maxHeartbeats 4000000
namespace K05
open PySem L2 DL
theorem hrs_at {f : Fr} (F : FrOk f) : atI (f.nums.map Val.int) 0 = some (.int (hoursOf f)) ∧ 1 ≤ hoursOf f ∧ hoursOf f ≤ 4 := by
  obtain ⟨h, p, q, a, g, l, t, e, b, _⟩ := F.nums
  unfold hoursOf
  rw [e]
  exact ⟨rfl, b⟩
theorem pls_at {f : Fr} (F : FrOk f) : atI (f.nums.map Val.int) 1 = some (.int (placesOf f)) ∧ 1 ≤ placesOf f ∧ placesOf f ≤ 2 := by
  obtain ⟨h, p, q, a, g, l, t, e, _, b, _⟩ := F.nums
  unfold placesOf
  rw [e]
  exact ⟨rfl, b⟩
/-- a def that returns a list of its own -/
theorem back_newdr {st st' : Store} {p k N : Nat} {P : DK} {ds : List Val} {L : List Cell} (dr : Dr p st st') (hN : N = st.length + k) (hL : L[k]? = some (.lst ds)) (c : clVs st.length ds = true) (q : P (.loc st.length) (st' ++ [.lst ds])) : Back st P (.loc N) (st' ++ L) := by
  have hl := dr.len
  obtain ⟨a, b, c', rfl⟩ := dr
  unfold Back
  refine ⟨by rw [List.length_append, hl]; omega, fun n x hn e => ?_, .inr ⟨N, ds, rfl, by omega, by rw [hN, ← hl, lookK]; exact hL, c, by rw [← hl, List.take_left' rfl, hl]; exact q⟩⟩
  rw [List.getElem?_append_left (by omega)] at e
  by_cases h : p = n
  · subst h
    rw [List.getElem?_set_self hn] at e
    cases e
    exact .inr (cl_pool _ _ _ _)
  · rw [List.getElem?_set_ne h] at e
    exact .inl e
theorem back_new {st : Store} {k N : Nat} {P : DK} {ds : List Val} {L : List Cell} (hN : N = st.length + k) (hL : L[k]? = some (.lst ds)) (c : clVs st.length ds = true) (q : P (.loc st.length) (st ++ [.lst ds])) : Back st P (.loc N) (st ++ L) := by
  unfold Back
  refine ⟨by rw [List.length_append]; omega, fun n x hn e => ?_, .inr ⟨N, ds, rfl, by omega, by rw [hN, lookK]; exact hL, c, by rw [List.take_left' rfl]; exact q⟩⟩
  rw [List.getElem?_append_left (by omega)] at e
  exact .inl e
def RuF (f : Fr) (x : Rule) : Prop := RuleOk (hoursOf f) (placesOf f) f.ups.length f.roles.length x
@[irreducible] def s__law_rule : DSp := fun ds st P => ∃ p f e, ds = [.loc p, frV f, .int e] ∧ Po st p ∧ FrOk f ∧ 0 ≤ e ∧ e ≤ 1 ∧ ∀ x st', RuF f x → Dr p st st' → P (ruleV x) st'
theorem v__law_rule (ds : List Val) (st : Store) (P : DK) (h : s__law_rule ds st P) : w__law_rule s__law_draw s__law_or_none s__law_reach (defE st P) (startD N__law_rule ds) st := by
  unfold s__law_rule at h
  obtain ⟨p, f, e, rfl, hp, F, e0, e1, k⟩ := h
  have hz : sizeLine = 2 ^ 24 := rfl
  have g0 := hrs_at F
  have g1 := pls_at F
  have cU := F.cUps
  have cR := F.cRoles
  rw [e__law_rule]
  unfold w__law_rule
  ((conv => whnf); (try dsimp only))
  rw [g0.1]
  ((conv => whnf); (try dsimp only))
  rw [g1.1]
  ((conv => whnf); (try dsimp only))
  rw [List.length_map]
  refine ⟨by show 4 ≤ sizeLine; decide, ?_⟩
  ((conv => whnf); (try dsimp only))
  unfold s__law_reach
  refine ⟨p, st.length, _, hoursOf f, placesOf f, f.ups.length, rfl, hp.app, look0, Nat.ne_of_gt hp.lt, rfl, rfl, rfl, by omega, by omega, g0.2.1, g0.2.2, g1.2.1, g1.2.2, fun vs node deep hs ps s' v1 v2 v3 v4 v5 v6 v7 d => ?_⟩
  obtain ⟨s1, rfl, d1⟩ := d.app hp.lt
  ((conv => whnf); (try dsimp only))
  refine draw (d1.po hp) (by decide) (by decide) fun y2 s2 g2 f2 d2' => ?_
  have d2 := d1.trans d2'
  ((conv => whnf); (try dsimp only))
  rw [List.length_map]
  refine ornone (d2.po hp) (by omega) (by omega) (by decide) (by decide) fun y3 s3 g3 f3 d3' => ?_
  have d3 := d2.trans d3'
  refine ⟨by show 8 ≤ sizeLine; decide, ?_⟩
  have q := k ⟨e, y2, ⟨y3, vs, node, deep, hs, ps⟩⟩ s3 ⟨e0, e1, g2, by show y2 ≤ 3; omega, g3, by show y3 ≤ _; omega, v1, v2, by show node ≤ _; omega, v4, v5, v6, v7⟩ d3
  exact back_dr _ d3 (cl_rule _ ⟨e, y2, ⟨y3, vs, node, deep, hs, ps⟩⟩) q
theorem ruleL {st : Store} {L : List Cell} {p : Nat} {f : Fr} {e : Int} {Q : DK} (hp : Po st p) (F : FrOk f) (e0 : 0 ≤ e) (e1 : e ≤ 1) (k : ∀ x st', RuF f x → Dr p st st' → Q (ruleV x) (st' ++ L)) : s__law_rule [.loc p, frV f, .int e] (st ++ L) Q := by
  unfold s__law_rule
  refine ⟨p, f, e, rfl, hp.app, F, e0, e1, fun x s' hx d => ?_⟩
  obtain ⟨st', rfl, d'⟩ := d.app hp.lt
  exact k x st' hx d'
theorem rule0 {st : Store} {p : Nat} {f : Fr} {e : Int} {Q : DK} (hp : Po st p) (F : FrOk f) (e0 : 0 ≤ e) (e1 : e ≤ 1) (k : ∀ x st', RuF f x → Dr p st st' → Q (ruleV x) st') : s__law_rule [.loc p, frV f, .int e] st Q := by
  unfold s__law_rule
  exact ⟨p, f, e, rfl, hp, F, e0, e1, k⟩
@[irreducible] def s__law_other_tree : DSp := fun ds st P => ∃ p f, ds = [.loc p, frV f] ∧ Po st p ∧ FrOk f ∧ ∀ (us : List Int) st', us.length = f.ups.length - 1 → (∀ (j : Nat) (x : Int), us[j]? = some x → 0 ≤ x ∧ x < 1 + (j : Int)) → Dr p st st' → P (frV { f with ups := -1 :: us }) st'
theorem v__law_other_tree (ds : List Val) (st : Store) (P : DK) (h : s__law_other_tree ds st P) : w__law_other_tree s__law_draw (defE st P) (startD N__law_other_tree ds) st := by
  unfold s__law_other_tree at h
  obtain ⟨p, f, rfl, hp, F, k⟩ := h
  have hz : sizeLine = 2 ^ 24 := rfl
  have cU := F.cUps
  rw [e__law_other_tree]
  unfold w__law_other_tree
  ((conv => whnf); (try dsimp only))
  refine ⟨by show 1 ≤ sizeLine; decide, ?_⟩
  ((conv => whnf); (try dsimp only))
  rw [List.length_map]
  refine ⟨⟨by omega, by omega, by omega, by omega, by omega⟩, ?_⟩
  refine lc_draw0 (e2 := Val.int) (fun j x => 0 ≤ x ∧ x < 1 + (j : Int)) (fun _ => trivial) _ st hp (fun j d s5 hd d5 => ?_) fun us s5 hul hus d5 => ?_
  · obtain ⟨hj, rfl⟩ := upTo_get' hd
    refine ⟨_, rfl, fun Q' hQ => ?_⟩
    ((conv => whnf); (try dsimp only))
    exact draw0 (d5.po hp) (by omega) (by omega) fun x s6 x0 x1 d6 => hQ x s6 ⟨x0, x1⟩ d6
  rw [DL.upTo_len] at hul
  ((conv => whnf); (try dsimp only))
  refine ⟨by rw [List.length_map]; show 1 + _ ≤ _; omega, ?_⟩
  ((conv => whnf); (try dsimp only))
  refine ⟨by show 1 ≤ sizeLine; decide, ?_⟩
  ((conv => whnf); (try dsimp only))
  refine ⟨by show 2 ≤ sizeLine; decide, ?_⟩
  ((conv => whnf); (try dsimp only))
  refine ⟨by show 12 ≤ sizeLine; decide, ?_⟩
  exact back_dr0 d5 (cl_frV _ { f with ups := -1 :: us }) (k us s5 (by omega) hus d5)
theorem atI_last {α : Type} (ys : List α) (x : α) : atI (ys ++ [x]) (-1) = some x := by
  unfold atI ixN
  simp
  rw [if_pos (by omega), show (-1 + ((ys.length : Int) + 1)).toNat = ys.length by omega]
  simp
@[irreducible] def s__law_up : DSp := fun ds st P => ∃ ups n, ds = [tI ups, .int n] ∧ Tr ups ∧ 0 ≤ n ∧ n < ups.length ∧ ups.length ≤ 100 ∧ P (.loc st.length) (st ++ [.lst ((A ups n).map Val.int)])
theorem v__law_up (ds : List Val) (st : Store) (P : DK) (h : s__law_up ds st P) : w__law_up (defE st P) (startD N__law_up ds) st := by
  unfold s__law_up at h
  obtain ⟨ups, n, rfl, hT, n0, n1, hl, k⟩ := h
  have hz : sizeLine = 2 ^ 24 := rfl
  rw [e__law_up]
  unfold w__law_up
  ((conv => whnf); (try dsimp only))
  refine ⟨by show 1 ≤ sizeLine; decide, ?_⟩
  ((conv => whnf); (try dsimp only))
  rw [List.length_map]
  refine ⟨by omega, by omega, ?_⟩
  refine forD_ind (fun i e s => ∃ (ys : List Int) (x : Int) (v : Option Val), s = st ++ [.lst ((ys ++ [x]).map Val.int)] ∧ e = [some (tI ups), some (.int n), some (.loc st.length), v] ∧ 0 ≤ x ∧ x < ups.length ∧ ys ++ A ups x = A ups n ∧ (ups.getD x.toNat (-1) = -1 ∨ x + (i : Int) ≤ n) ∧ ys.length ≤ i) (fun _ _ _ _ => trivial) ?_ ?_ ⟨[], n, none, rfl, rfl, n0, n1, rfl, .inr (by omega), Nat.le_refl _⟩
  · rintro i d e s hd ⟨ys, x, v, rfl, rfl, x0, x1, hA, hx, hyl⟩ Nx hNx
    obtain ⟨hi, rfl⟩ := upTo_get' hd
    refine ⟨_, rfl, ?_⟩
    have gA : atI ((ys ++ [x]).map Val.int) (-1) = some (.int x) := by
      rw [List.map_append]
      exact atI_last _ _
    have gU : atI (ups.map Val.int) x = some (.int (ups.getD x.toNat (-1))) := by
      refine atI_nat x0 ?_
      have hx : x.toNat < ups.length := by omega
      rw [List.getElem?_map, List.getD_eq_getElem?_getD, List.getElem?_eq_getElem hx]
      rfl
    have t := tr_get hT x0 x1
    have hA' := hA
    rw [A_pos hT x0 x1] at hA'
    obtain ⟨u, hu⟩ : ∃ u, ups.getD x.toNat (-1) = u := ⟨_, rfl⟩
    rw [hu] at gU t hA' hx
    ((conv => whnf); (try dsimp only))
    rw [itemsL look0]
    ((conv => whnf); (try dsimp only))
    rw [gA]
    ((conv => whnf); (try dsimp only))
    rw [gU]
    ((conv => whnf); (try dsimp only))
    refine ⟨.inl rfl, ?_⟩
    simp only [eqd_int]
    by_cases q : u = -1
    · rw [decide_eq_true q]
      ((conv => whnf); (try dsimp only))
      exact hNx _ _ ⟨ys, x, _, rfl, rfl, x0, x1, hA, .inl (by rw [hu]; exact q), by omega⟩
    · rw [decide_eq_false q]
      ((conv => whnf); (try dsimp only))
      refine ⟨isLst0, ?_⟩
      ((conv => whnf); (try dsimp only))
      rw [itemsL look0]
      ((conv => whnf); (try dsimp only))
      rw [gA]
      ((conv => whnf); (try dsimp only))
      rw [gU]
      ((conv => whnf); (try dsimp only))
      rw [look0]
      ((conv => whnf); (try dsimp only))
      refine ⟨by rw [List.length_map, List.length_append]; show ys.length + 1 < _; omega, ?_⟩
      rw [set0]
      refine hNx _ _ ⟨ys ++ [x], u, _, ?_, rfl, by omega, by omega, by rw [List.append_assoc]; exact hA', .inr (by omega), by rw [List.length_append]; show ys.length + 1 ≤ _; omega⟩
      rw [List.map_append (l₁ := ys ++ [x])]
      rfl
  · rintro e s ⟨ys, x, v, rfl, rfl, x0, x1, hA, hx, hyl⟩
    rw [DL.upTo_len] at hx
    have hu : ups.getD x.toNat (-1) = -1 := by
      rcases hx with h | h
      · exact h
      · omega
    ((conv => whnf); (try dsimp only))
    rw [A_pos hT x0 x1, hu, A_neg (by decide)] at hA
    refine back_new (k := 0) rfl rfl ?_ ?_
    · exact clVs_ints _ _
    · rw [hA]
      exact k
theorem getI {ns : List Int} {i : Int} (h0 : 0 ≤ i) (h1 : i < ns.length) : ∃ x, x ∈ ns ∧ atI (ns.map Val.int) i = some (.int x) := by
  have h : i.toNat < ns.length := by omega
  refine ⟨ns[i.toNat], List.getElem_mem h, atI_nat h0 ?_⟩
  rw [List.getElem?_map, List.getElem?_eq_getElem h]
  rfl
@[irreducible] def s__law_beneath : DSp := fun ds st P => ∃ ups n, ds = [tI ups, .int n] ∧ 0 ≤ n ∧ n < ups.length ∧ ups.length ≤ 100 ∧ ∀ ns : List Int, 1 ≤ ns.length → ns.length ≤ 200 → (∀ y ∈ ns, 0 ≤ y ∧ y < ups.length) → P (.loc st.length) (st ++ [.lst (ns.map Val.int)])
theorem v__law_beneath (ds : List Val) (st : Store) (P : DK) (h : s__law_beneath ds st P) : w__law_beneath (defE st P) (startD N__law_beneath ds) st := by
  unfold s__law_beneath at h
  obtain ⟨ups, n, rfl, n0, n1, hl, k⟩ := h
  have hz : sizeLine = 2 ^ 24 := rfl
  rw [e__law_beneath]
  unfold w__law_beneath
  ((conv => whnf); (try dsimp only))
  refine ⟨by show 1 ≤ sizeLine; decide, ?_⟩
  ((conv => whnf); (try dsimp only))
  rw [List.length_map]
  refine ⟨⟨by omega, by omega, by omega, by omega, by omega⟩, ?_⟩
  refine forD_ind (fun i e s => ∃ (ns : List Int) (v : Option Val), s = st ++ [.lst (ns.map Val.int)] ∧ e = [some (tI ups), some (.int n), some (.loc st.length), v] ∧ 1 ≤ ns.length ∧ ns.length ≤ i + 1 ∧ ∀ y ∈ ns, 0 ≤ y ∧ y < ups.length) (fun _ _ _ _ => trivial) ?_ ?_ ⟨[n], none, rfl, rfl, Nat.le_refl _, Nat.le_refl _, fun y hy => by rw [List.mem_singleton.mp hy]; exact ⟨n0, n1⟩⟩
  · rintro i d e s hd ⟨ns, v, rfl, rfl, l1, l2, hy⟩ Nx hNx
    obtain ⟨hi, rfl⟩ := upTo_get' hd
    refine ⟨_, rfl, ?_⟩
    obtain ⟨u, _, gU⟩ := getI (ns := ups) (i := n + 1 + (i : Int)) (by omega) (by omega)
    ((conv => whnf); (try dsimp only))
    rw [gU]
    ((conv => whnf); (try dsimp only))
    rw [itemsL look0]
    ((conv => whnf); (try dsimp only))
    refine ⟨rfl, flatAll_ints _, ?_⟩
    rw [memd_ints]
    by_cases q : u ∈ ns
    · simp only [decide_eq_true q]
      ((conv => whnf); (try dsimp only))
      refine ⟨isLst0, ?_⟩
      ((conv => whnf); (try dsimp only))
      rw [look0]
      ((conv => whnf); (try dsimp only))
      refine ⟨by rw [List.length_map]; omega, ?_⟩
      rw [set0]
      refine hNx _ _ ⟨ns ++ [n + 1 + (i : Int)], _, ?_, rfl, by rw [List.length_append]; show 1 ≤ ns.length + 1; omega, by rw [List.length_append]; show ns.length + 1 ≤ _; omega, fun y h => ?_⟩
      · rw [List.map_append]
        rfl
      · rcases List.mem_append.mp h with h | h
        · exact hy y h
        · rw [List.mem_singleton.mp h]
          omega
    · simp only [decide_eq_false q]
      ((conv => whnf); (try dsimp only))
      exact hNx _ _ ⟨ns, _, rfl, rfl, l1, by omega, hy⟩
  · rintro e s ⟨ns, v, rfl, rfl, l1, l2, hy⟩
    rw [DL.upTo_len] at l2
    ((conv => whnf); (try dsimp only))
    exact back_new (k := 0) rfl rfl (clVs_ints _ _) (k ns l1 (by omega) hy)
end K05

set_option Elab.async false
set_option linter.all false
set_option maxRecDepth 100000
set_option maxHeartbeats 4000000
namespace K05
open PySem L2 DL
theorem asc_of_pw {hi : Int} : ∀ {ns : List Int} {lo : Int}, ns.Pairwise (· < ·) → (∀ y ∈ ns, lo ≤ y ∧ y ≤ hi) → Asc hi lo ns
  | [], _, _, _ => trivial
  | n :: ns, lo, h, r => by
    obtain ⟨h1, h2⟩ := List.pairwise_cons.mp h
    have g := r n List.mem_cons_self
    exact ⟨g.1, g.2, asc_of_pw h2 fun y hy => ⟨by have := h1 y hy; omega, (r y (List.mem_cons_of_mem _ hy)).2⟩⟩
theorem asc_rng {hi : Int} : ∀ {ns : List Int} {lo : Int}, Asc hi lo ns → ∀ y ∈ ns, lo ≤ y ∧ y ≤ hi
  | n :: ns, lo, h, y, hy => by
    rcases List.mem_cons.mp hy with rfl | hy
    · exact ⟨h.1, h.2.1⟩
    · have g := asc_rng h.2.2 y hy
      have := h.1
      omega
theorem asc_cnt {hi : Int} : ∀ {ns : List Int} {lo : Int}, Asc hi lo ns → ns = [] ∨ (ns.length : Int) ≤ hi + 1 - lo
  | [], _, _ => .inl rfl
  | n :: ns, lo, h => by
    refine .inr ?_
    have h1 := h.1
    have h2 := h.2.1
    rcases asc_cnt h.2.2 with e | e
    · subst e
      show ((0 + 1 : Nat) : Int) ≤ _
      omega
    · rw [List.length_cons]
      omega
theorem asc_len {m : Int} {ns : List Int} (h : Asc (m - 1) 0 ns) (h0 : 0 ≤ m) : (ns.length : Int) ≤ m := by
  rcases asc_cnt h with e | e
  · subst e
    exact h0
  · omega
@[irreducible] def s__law_with : DSp := fun ds st P => ∃ ns x m, ds = [tI ns, .int x] ∧ Asc (m - 1) 0 ns ∧ 0 ≤ x ∧ x < m ∧ m ≤ 60 ∧ ∀ ns' : List Int, Asc (m - 1) 0 ns' → P (tI ns') st
theorem v__law_with (ds : List Val) (st : Store) (P : DK) (h : s__law_with ds st P) : w__law_with (defE st P) (startD N__law_with ds) st := by
  unfold s__law_with at h
  obtain ⟨ns, x, m, rfl, ha, x0, x1, m1, k⟩ := h
  have hz : sizeLine = 2 ^ 24 := rfl
  have hl := asc_len ha (by omega)
  rw [e__law_with]
  unfold w__law_with
  ((conv => whnf); (try dsimp only))
  refine ⟨by show 1 ≤ sizeLine; decide, ?_⟩
  ((conv => whnf); (try dsimp only))
  refine ⟨by simp; omega, ?_⟩
  ((conv => whnf); (try dsimp only))
  refine ⟨ns ++ [x], by rw [List.map_append]; rfl, by rw [List.length_append]; show ns.length + 1 < 63; omega, fun ns' hp hm => ?_⟩
  have hA : Asc (m - 1) 0 ns' := asc_of_pw hp fun y hy => by
    rcases List.mem_append.mp ((hm y).mp hy) with h | h
    · exact asc_rng ha y h
    · rw [List.mem_singleton.mp h]
      omega
  have hl' := asc_len hA (by omega)
  exact back0 (clVs_ints _ _) (k ns' hA)
@[irreducible] def s__law_toggled : DSp := fun ds st P => ∃ p ns m, ds = [.loc p, tI ns, .int m] ∧ Po st p ∧ Asc (m - 1) 0 ns ∧ 0 ≤ m ∧ m ≤ 60 ∧ ∀ (ns' : List Int) st', Asc (m - 1) 0 ns' → Dr p st st' → P (tI ns') st'
theorem v__law_toggled (ds : List Val) (st : Store) (P : DK) (h : s__law_toggled ds st P) : w__law_toggled s__law_draw s__law_with (defE st P) (startD N__law_toggled ds) st := by
  unfold s__law_toggled at h
  obtain ⟨p, ns, m, rfl, hp, ha, m0, m1, k⟩ := h
  have hz : sizeLine = 2 ^ 24 := rfl
  have hl := asc_len ha (by omega)
  rw [e__law_toggled]
  unfold w__law_toggled
  ((conv => whnf); (try dsimp only))
  refine ⟨.inl rfl, ?_⟩
  simp only [eqd_int]
  by_cases q : m = 0
  · rw [decide_eq_true q]
    ((conv => whnf); (try dsimp only))
    exact back_dr0 (.refl hp) (clVs_ints _ _) (k ns st ha (.refl hp))
  rw [decide_eq_false q]
  ((conv => whnf); (try dsimp only))
  refine draw0 hp (by omega) (by omega) fun x s1 x0 x1 d1 => ?_
  ((conv => whnf); (try dsimp only))
  refine ⟨rfl, flatAll_ints _, ?_⟩
  rw [memd_ints]
  by_cases c : x ∈ ns
  · rw [decide_eq_true c]
    ((conv => whnf); (try dsimp only))
    refine lc_filter (e := Val.int) (e2 := Val.int) (ok := fun st => itemsOf st (tI ns) = some (ns.map Val.int)) (fun y => !decide (y = x)) rfl ns [] ?_ ?_
    · intro y hy
      refine ⟨_, rfl, fun T hT => ?_, fun _ Q' hQ => ?_⟩
      · ((conv => whnf); (try dsimp only))
        refine ⟨.inl rfl, ?_⟩
        simp only [eqd_int]
        by_cases e : y = x
        · simp only [e, decide_true] at hT ⊢
          exact hT
        · simp only [decide_eq_false e] at hT ⊢
          exact hT
      · ((conv => whnf); (try dsimp only))
        exact hQ
    have hA : Asc (m - 1) 0 (ns.filter fun y => !decide (y = x)) := asc_sub List.filter_sublist ha
    generalize (ns.filter fun y => !decide (y = x)) = ns' at hA ⊢
    rw [List.nil_append]
    have hl' := asc_len hA (by omega)
    ((conv => whnf); (try dsimp only))
    exact back_dr0 d1 (clVs_ints _ _) (k ns' s1 hA d1)
  · rw [decide_eq_false c]
    ((conv => whnf); (try dsimp only))
    unfold s__law_with
    refine ⟨ns, x, m, rfl, ha, x0, x1, m1, fun ns' hA => ?_⟩
    exact back_dr0 d1 (clVs_ints _ _) (k ns' s1 hA d1)
@[irreducible] def s__law_one_of : DSp := fun ds st P => ∃ p xs m, ds = [.loc p, .tup xs, .int m] ∧ Po st p ∧ xs.length ≤ 1000 ∧ (∀ n, ∀ x ∈ xs, clV n x = true) ∧ 0 < m ∧ m < 1000 ∧ ∀ x st', ((xs = [] ∧ ∃ i : Int, x = .int i ∧ 0 ≤ i ∧ i < m) ∨ x ∈ xs) → Dr p st st' → P x st'
theorem v__law_one_of (ds : List Val) (st : Store) (P : DK) (h : s__law_one_of ds st P) : w__law_one_of s__law_draw (defE st P) (startD N__law_one_of ds) st := by
  unfold s__law_one_of at h
  obtain ⟨p, xs, m, rfl, hp, hl, hc, m0, m1, k⟩ := h
  have hz : sizeLine = 2 ^ 24 := rfl
  rw [e__law_one_of]
  unfold w__law_one_of
  ((conv => whnf); (try dsimp only))
  refine ⟨.inl rfl, ?_⟩
  simp only [eqd_int]
  by_cases q : (xs.length : Int) = 0
  · rw [decide_eq_true q]
    ((conv => whnf); (try dsimp only))
    refine draw0 hp (by omega) (by omega) fun x s1 x0 x1 d1 => ?_
    exact back_dr0 d1 rfl (k _ s1 (.inl ⟨List.eq_nil_of_length_eq_zero (by omega), x, rfl, x0, x1⟩) d1)
  rw [decide_eq_false q]
  ((conv => whnf); (try dsimp only))
  refine draw0 hp (by omega) (by omega) fun x s1 x0 x1 d1 => ?_
  ((conv => whnf); (try dsimp only))
  have h : x.toNat < xs.length := by omega
  rw [atI_nat x0 (List.getElem?_eq_getElem h)]
  have hm := List.getElem_mem h
  generalize xs[x.toNat] = y at hm
  exact back_dr0 d1 (hc _ y hm) (k y s1 (.inr hm) d1)
theorem one0 {st : Store} {p : Nat} {xs : List Val} {m : Int} {Q : DK} (hp : Po st p) (hl : xs.length ≤ 1000) (hc : ∀ n, ∀ x ∈ xs, clV n x = true) (m0 : 0 < m) (m1 : m < 1000) (k : ∀ x st', ((xs = [] ∧ ∃ i : Int, x = .int i ∧ 0 ≤ i ∧ i < m) ∨ x ∈ xs) → Dr p st st' → Q x st') : s__law_one_of [.loc p, .tup xs, .int m] st Q := by
  unfold s__law_one_of
  exact ⟨p, xs, m, rfl, hp, hl, hc, m0, m1, k⟩
/-- of a row of ints -/
theorem oneI {st : Store} {L : List Cell} {p : Nat} {ns : List Int} {m : Int} {Q : DK} (hp : Po st p) (hl : ns.length ≤ 1000) (m0 : 0 < m) (m1 : m < 1000) (k : ∀ (x : Int) st', (∀ lo hi, Asc hi lo ns → lo ≤ 0 → m ≤ hi + 1 → lo ≤ x ∧ x ≤ hi) → Dr p st st' → Q (.int x) (st' ++ L)) : s__law_one_of [.loc p, tI ns, .int m] (st ++ L) Q := by
  unfold s__law_one_of
  refine ⟨p, ns.map Val.int, m, rfl, hp.app, by rw [List.length_map]; exact hl, fun n x hx => ?_, m0, m1, fun x s' hx d => ?_⟩
  · obtain ⟨i, _, rfl⟩ := List.mem_map.mp hx
    rfl
  · obtain ⟨st', rfl, d'⟩ := d.app hp.lt
    rcases hx with ⟨_, i, rfl, i0, i1⟩ | hx
    · exact k i st' (fun lo hi _ h1 h2 => ⟨by omega, by omega⟩) d'
    · obtain ⟨i, hm, rfl⟩ := List.mem_map.mp hx
      exact k i st' (fun lo hi ha _ _ => asc_rng ha i hm) d'
end K05

set_option Elab.async false
set_option linter.all false
set_option maxRecDepth 100000
set_option maxHeartbeats 4000000
namespace K05
open PySem L2 DL
def SdF (f : Fr) (s : Side) : Prop := Asc ((f.roles.length : Int) - 1) 0 s.roles ∧ Asc ((f.lots.length : Int) - 1) 0 s.lots ∧ Asc ((f.doors.length : Int) - 1) 0 s.doors
def AkF (f : Fr) (a : Ask) : Prop := 0 ≤ a.node ∧ a.node < f.ups.length
theorem cl_side (k : Nat) (s : Side) : clV k (sideV s) = true := by simp [sideV, clV, clVs, cl_I]
theorem cl_ask (k : Nat) (a : Ask) : clV k (askV a) = true := by simp [askV, clV, clVs]
theorem cl_both (k : Nat) (s : Side) (a : Ask) : clVs k [sideV s, askV a] = true := by simp [clVs, cl_side, cl_ask]
theorem togL {st : Store} {L : List Cell} {p : Nat} {ns : List Int} {m : Int} {Q : DK} (hp : Po st p) (ha : Asc (m - 1) 0 ns) (m0 : 0 ≤ m) (m1 : m ≤ 60) (k : ∀ (ns' : List Int) st', Asc (m - 1) 0 ns' → Dr p st st' → Q (tI ns') (st' ++ L)) : s__law_toggled [.loc p, tI ns, .int m] (st ++ L) Q := by
  unfold s__law_toggled
  refine ⟨p, ns, m, rfl, hp.app, ha, m0, m1, fun x s' hx d => ?_⟩
  obtain ⟨st', rfl, d'⟩ := d.app hp.lt
  exact k x st' hx d'
theorem tog0 {st : Store} {p : Nat} {ns : List Int} {m : Int} {Q : DK} (hp : Po st p) (ha : Asc (m - 1) 0 ns) (m0 : 0 ≤ m) (m1 : m ≤ 60) (k : ∀ (ns' : List Int) st', Asc (m - 1) 0 ns' → Dr p st st' → Q (tI ns') st') : s__law_toggled [.loc p, tI ns, .int m] st Q := by
  unfold s__law_toggled
  exact ⟨p, ns, m, rfl, hp, ha, m0, m1, k⟩
@[irreducible] def s__law_moved : DSp := fun ds st P => ∃ p f sd a, ds = [.loc p, frV f, sideV sd, askV a] ∧ Po st p ∧ FrOk f ∧ SdF f sd ∧ AkF f a ∧ ∀ sd' a' st', SdF f sd' → AkF f a' → Dr p st st' → P (.loc st.length) (st' ++ [.lst [sideV sd', askV a']])
theorem v__law_moved (ds : List Val) (st : Store) (P : DK) (h : s__law_moved ds st P) : w__law_moved s__law_draw s__law_toggled (defE st P) (startD N__law_moved ds) st := by
  unfold s__law_moved at h
  obtain ⟨p, f, sd, a, rfl, hp, F, S, A, k⟩ := h
  have hz : sizeLine = 2 ^ 24 := rfl
  have g0 := hrs_at F
  have g1 := pls_at F
  have cU := F.cUps
  have cR := F.cRoles
  have cL := F.cLots
  have cD := F.cDoors
  have fin : ∀ sd' a' st', SdF f sd' → AkF f a' → Dr p st st' → Back st P (.loc st'.length) (st' ++ [.lst [sideV sd', askV a']]) := fun sd' a' st' S' A' d => back_newdr (k := 0) d d.len rfl (cl_both _ sd' a') (k sd' a' st' S' A' d)
  rw [e__law_moved]
  unfold w__law_moved
  ((conv => whnf); (try dsimp only))
  refine draw0 hp (by decide) (by decide) fun w s0 w0 w1 d0 => ?_
  ((conv => whnf); (try dsimp only))
  refine ⟨.inl rfl, ?_⟩
  simp only [eqd_int]
  by_cases c0 : w = 0
  · rw [decide_eq_true c0]
    ((conv => whnf); (try dsimp only))
    refine draw0 (d0.po hp) (by decide) (by decide) fun x s1 x0 x1 d1 => ?_
    ((conv => whnf); (try dsimp only))
    refine ⟨by decide, ?_⟩
    ((conv => whnf); (try dsimp only))
    refine ⟨by show 1 ≤ sizeLine; decide, ?_⟩
    ((conv => whnf); (try dsimp only))
    refine ⟨by show 4 ≤ sizeLine; decide, ?_⟩
    ((conv => whnf); (try dsimp only))
    refine ⟨by show 2 ≤ sizeLine; decide, ?_⟩
    exact fin sd ⟨(a.verb + 1 + x) % 13, a.node, a.hour, a.place⟩ s1 S A (d0.trans d1)
  rw [decide_eq_false c0]
  ((conv => whnf); (try dsimp only))
  refine ⟨.inl rfl, ?_⟩
  simp only [eqd_int]
  by_cases c1 : w = 1
  · rw [decide_eq_true c1]
    ((conv => whnf); (try dsimp only))
    rw [List.length_map]
    refine draw0 (d0.po hp) (by omega) (by omega) fun x s1 x0 x1 d1 => ?_
    ((conv => whnf); (try dsimp only))
    refine ⟨by show 4 ≤ sizeLine; decide, ?_⟩
    ((conv => whnf); (try dsimp only))
    refine ⟨by show 2 ≤ sizeLine; decide, ?_⟩
    exact fin sd ⟨a.verb, x, a.hour, a.place⟩ s1 S ⟨x0, x1⟩ (d0.trans d1)
  rw [decide_eq_false c1]
  ((conv => whnf); (try dsimp only))
  refine ⟨.inl rfl, ?_⟩
  simp only [eqd_int]
  by_cases c2 : w = 2
  · rw [decide_eq_true c2]
    ((conv => whnf); (try dsimp only))
    rw [g0.1]
    ((conv => whnf); (try dsimp only))
    refine draw0 (d0.po hp) (by omega) (by omega) fun x s1 x0 x1 d1 => ?_
    ((conv => whnf); (try dsimp only))
    refine ⟨by show 4 ≤ sizeLine; decide, ?_⟩
    ((conv => whnf); (try dsimp only))
    refine ⟨by show 2 ≤ sizeLine; decide, ?_⟩
    exact fin sd ⟨a.verb, a.node, x, a.place⟩ s1 S A (d0.trans d1)
  rw [decide_eq_false c2]
  ((conv => whnf); (try dsimp only))
  refine ⟨.inl rfl, ?_⟩
  simp only [eqd_int]
  by_cases c3 : w = 3
  · rw [decide_eq_true c3]
    ((conv => whnf); (try dsimp only))
    rw [g1.1]
    ((conv => whnf); (try dsimp only))
    refine draw0 (d0.po hp) (by omega) (by omega) fun x s1 x0 x1 d1 => ?_
    ((conv => whnf); (try dsimp only))
    refine ⟨by show 1 ≤ sizeLine; decide, ?_⟩
    ((conv => whnf); (try dsimp only))
    refine ⟨by show 4 ≤ sizeLine; decide, ?_⟩
    ((conv => whnf); (try dsimp only))
    refine ⟨by show 2 ≤ sizeLine; decide, ?_⟩
    exact fin sd ⟨a.verb, a.node, a.hour, x⟩ s1 S A (d0.trans d1)
  rw [decide_eq_false c3]
  ((conv => whnf); (try dsimp only))
  refine ⟨.inl rfl, ?_⟩
  simp only [eqd_int]
  by_cases c4 : w = 4
  · rw [decide_eq_true c4]
    ((conv => whnf); (try dsimp only))
    rw [List.length_map]
    refine tog0 (d0.po hp) S.1 (by omega) (by omega) fun ns s1 hn d1 => ?_
    ((conv => whnf); (try dsimp only))
    refine ⟨by show 3 ≤ sizeLine; decide, ?_⟩
    ((conv => whnf); (try dsimp only))
    refine ⟨by show 2 ≤ sizeLine; decide, ?_⟩
    exact fin ⟨ns, sd.lots, sd.doors⟩ a s1 ⟨hn, S.2.1, S.2.2⟩ A (d0.trans d1)
  rw [decide_eq_false c4]
  ((conv => whnf); (try dsimp only))
  refine ⟨.inl rfl, ?_⟩
  simp only [eqd_int]
  by_cases c5 : w = 5
  · rw [decide_eq_true c5]
    ((conv => whnf); (try dsimp only))
    rw [List.length_map]
    refine tog0 (d0.po hp) S.2.1 (by omega) (by omega) fun ns s1 hn d1 => ?_
    ((conv => whnf); (try dsimp only))
    refine ⟨by show 3 ≤ sizeLine; decide, ?_⟩
    ((conv => whnf); (try dsimp only))
    refine ⟨by show 2 ≤ sizeLine; decide, ?_⟩
    exact fin ⟨sd.roles, ns, sd.doors⟩ a s1 ⟨S.1, hn, S.2.2⟩ A (d0.trans d1)
  rw [decide_eq_false c5]
  ((conv => whnf); (try dsimp only))
  rw [List.length_map]
  refine tog0 (d0.po hp) S.2.2 (by omega) (by omega) fun ns s1 hn d1 => ?_
  ((conv => whnf); (try dsimp only))
  refine ⟨by show 3 ≤ sizeLine; decide, ?_⟩
  ((conv => whnf); (try dsimp only))
  refine ⟨by show 2 ≤ sizeLine; decide, ?_⟩
  exact fin ⟨sd.roles, sd.lots, ns⟩ a s1 ⟨S.1, S.2.1, hn⟩ A (d0.trans d1)
theorem cl_it (k : Nat) (i : It) : clV k (itV i) = true := by cases i <;> rfl
def itemsF (f : Fr) (rs : List Rule) : List It := (List.range rs.length).map .rule ++ (List.range f.doors.length).map .door ++ (List.range f.lots.length).map .lot
theorem lc_tag {e : Nat → It} {g : DTg} {we : WE} {env0 : Slots} {st : Store} {Q : List Val → Store → Prop} (n : Nat) (h : ∀ i : Nat, i < n → ∃ env, g (.int (i : Int)) env0 = some env ∧ ∀ Q' : DK, Q' (itV (e i)) st → we env st Q') (q : Q (((List.range n).map e).map itV) st) : lcD g wYes we (fun _ => True) env0 (DL.upTo 0 n) [] st Q := by
  have e0 : DL.upTo 0 n = (List.range n).map fun i : Nat => Val.int (i : Int) := by
    unfold DL.upTo
    refine List.map_congr_left fun i _ => ?_
    rw [Int.zero_add]
  rw [e0]
  refine lc_maps (e := fun i : Nat => Val.int (i : Int)) (e2 := fun i => itV (e i)) (ok := fun _ => True) trivial (List.range n) [] (fun i hi => h i (List.mem_range.mp hi)) ?_
  rw [List.nil_append]
  rw [List.map_map] at q
  exact q
end K05

set_option Elab.async false
set_option linter.all false
set_option maxRecDepth 100000
set_option maxHeartbeats 4000000
namespace K05
open PySem L2 DL
@[irreducible] def s__law_items : DSp := fun ds st P => ∃ f rs, ds = [frV f, rulesV rs] ∧ FrOk f ∧ rs.length ≤ 100 ∧ P (.loc st.length) (st ++ [.lst ((itemsF f rs).map itV)])
theorem v__law_items (ds : List Val) (st : Store) (P : DK) (h : s__law_items ds st P) : w__law_items (defE st P) (startD N__law_items ds) st := by
  unfold s__law_items at h
  obtain ⟨f, rs, rfl, F, hr, k⟩ := h
  have hz : sizeLine = 2 ^ 24 := rfl
  have cL := F.cLots
  have cD := F.cDoors
  rw [e__law_items]
  unfold w__law_items
  ((conv => whnf); (try dsimp only))
  rw [List.length_map]
  refine ⟨by omega, by omega, ?_⟩
  rw [Int.toNat_natCast]
  refine lc_tag (e := It.rule) rs.length (fun i hi => ⟨_, rfl, fun Q' hQ => ?_⟩) ?_
  · ((conv => whnf); (try dsimp only))
    refine ⟨by show 2 ≤ sizeLine; decide, ?_⟩
    exact hQ
  ((conv => whnf); (try dsimp only))
  rw [List.length_map]
  refine ⟨by omega, by omega, ?_⟩
  rw [Int.toNat_natCast]
  refine lc_tag (e := It.door) f.doors.length (fun i hi => ⟨_, rfl, fun Q' hQ => ?_⟩) ?_
  · ((conv => whnf); (try dsimp only))
    refine ⟨by show 2 ≤ sizeLine; decide, ?_⟩
    exact hQ
  ((conv => whnf); (try dsimp only))
  refine ⟨by simp; omega, ?_⟩
  ((conv => whnf); (try dsimp only))
  rw [List.length_map]
  refine ⟨by omega, by omega, ?_⟩
  rw [Int.toNat_natCast]
  refine lc_tag (e := It.lot) f.lots.length (fun i hi => ⟨_, rfl, fun Q' hQ => ?_⟩) ?_
  · ((conv => whnf); (try dsimp only))
    refine ⟨by show 2 ≤ sizeLine; decide, ?_⟩
    exact hQ
  ((conv => whnf); (try dsimp only))
  have e : ∀ xs : List Val, lvLst (st ++ [Cell.lst xs]) (.at_ st.length) = some xs := fun xs => by
    unfold lvLst
    show (match (st ++ [Cell.lst xs])[st.length]? with
      | some (.lst ds) => some ds
      | _ => none) = some xs
    rw [look0]
  rw [e]
  ((conv => whnf); (try dsimp only))
  refine ⟨by simp; omega, ?_⟩
  rw [List.append_assoc]
  refine back_new (k := 1) (List.length_append ..) rfl ?_ ?_
  · show clVs st.length (_ ++ _ ++ _) = true
    rw [← List.map_append, ← List.map_append]
    exact clVs_map fun x => cl_it _ x
  · rw [← List.map_append, ← List.map_append]
    exact k
@[irreducible] def s__law_rules : DSp := fun ds st P => ∃ p f m, ds = [.loc p, frV f, .int m] ∧ Po st p ∧ FrOk f ∧ 0 ≤ m ∧ m ≤ 30 ∧ ∀ (rs : List Rule) st', (rs.length : Int) ≤ m → RsOk f rs → Dr p st st' → P (rulesV rs) st'
theorem v__law_rules (ds : List Val) (st : Store) (P : DK) (h : s__law_rules ds st P) : w__law_rules s__law_draw s__law_rule (defE st P) (startD N__law_rules ds) st := by
  unfold s__law_rules at h
  obtain ⟨p, f, m, rfl, hp, F, m0, m1, k⟩ := h
  have hz : sizeLine = 2 ^ 24 := rfl
  have g0 := hrs_at F
  have g1 := pls_at F
  have cU := F.cUps
  rw [e__law_rules]
  unfold w__law_rules
  ((conv => whnf); (try dsimp only))
  refine ⟨Nat.zero_le _, ?_⟩
  ((conv => whnf); (try dsimp only))
  refine draw hp (by omega) (by omega) fun n s0 n0 n1 d0 => ?_
  ((conv => whnf); (try dsimp only))
  refine ⟨by omega, by omega, ?_⟩
  refine forD_ind (fun i e s => ∃ (st1 : Store) (rs : List Rule) (x4 x5 x6 : Option Val), s = st1 ++ [.lst (rs.map ruleV)] ∧ Dr p st st1 ∧ e = [some (.loc p), some (frV f), some (.int m), some (.loc st.length), x4, x5, x6, none] ∧ rs.length = i ∧ RsOk f rs) (fun _ _ _ _ => trivial) ?_ ?_ ⟨s0, [], none, none, none, rfl, d0, rfl, rfl, fun r hr => by cases hr⟩
  · rintro i d e s hd ⟨st1, rs, x4, x5, x6, rfl, d1, rfl, hl, hr⟩ Nx hNx
    obtain ⟨hi, rfl⟩ := upTo_get' hd
    refine ⟨_, rfl, ?_⟩
    ((conv => whnf); (try dsimp only))
    refine draw (d1.po hp) (by decide) (by decide) fun w s1 w0 w1 d2' => ?_
    have d2 := d1.trans d2'
    ((conv => whnf); (try dsimp only))
    refine ruleL (d2.po hp) F (by split <;> decide) (by split <;> decide) fun row s3 hrow d3' => ?_
    have d3 := d2.trans d3'
    clear d3' d2' hd
    ((conv => whnf); (try dsimp only))
    refine ⟨fun env s => ∃ (row : Rule) (s' : Store) (x6 : Option Val), RuF f row ∧ Dr p st s' ∧ s = s' ++ [.lst (rs.map ruleV)] ∧ env = [some (.loc p), some (frV f), some (.int m), some (.loc st.length), some (.int (0 + (i : Int))), some (ruleV row), x6, none], ?_, ?_⟩
    · ((conv => whnf); (try dsimp only))
      refine draw (d3.po hp) (by decide) (by decide) fun w5 s4 _ _ d4' => ?_
      have d4 := d3.trans d4'
      ((conv => whnf); (try dsimp only))
      refine ⟨.inl rfl, ?_⟩
      simp only [eqd_int]
      by_cases c5 : w5 = 0
      · rw [decide_eq_true c5]
        ((conv => whnf); (try dsimp only))
        refine ⟨by decide, by decide, ?_⟩
        rw [upTo_upI]
        refine lc_some (e := Val.int) (e2 := Val.int) (p := p) (fun _ => trivial) (upI 0 _) s4 [] (d4.po hp) (fun x _ t2 e2 => ⟨_, rfl, fun T ht => ?_, fun t3 Q'' q => by ((conv => whnf); (try dsimp only)); exact q⟩) fun ys s5 hs d5' => ?_
        · ((conv => whnf); (try dsimp only))
          refine draw (e2.po (d4.po hp)) (by decide) (by decide) fun y5 t5 g5 f5 e5' => ?_
          exact ht _ t5 e5'
        have d5 := d4.trans d5'
        have hys : Asc 12 0 ys := asc_sub hs (upI_asc _ _ _ (by decide))
        have hyl := asc_len (m := 13) hys (by decide)
        rw [List.nil_append]
        ((conv => whnf); (try dsimp only))
        rw [g0.1]
        ((conv => whnf); (try dsimp only))
        refine ⟨by omega, by omega, ?_⟩
        rw [upTo_upI]
        ((conv => whnf); (try dsimp only))
        rw [g1.1]
        ((conv => whnf); (try dsimp only))
        refine ⟨by omega, by omega, ?_⟩
        rw [upTo_upI]
        ((conv => whnf); (try dsimp only))
        refine ⟨by show 8 ≤ sizeLine; decide, ?_⟩
        ((conv => whnf); (try dsimp only))
        refine ⟨⟨1, row.rank, ⟨row.sc.role, ys, 0, 1, upI 0 (hoursOf f).toNat, upI 0 (placesOf f).toNat⟩⟩, s5, _, ?_, d5, rfl, rfl⟩
        obtain ⟨z1, z2, z3, z4, z5, z6, z7, z8, z9, zz⟩ := hrow
        exact ⟨by show (0 : Int) ≤ 1; decide, by show (1 : Int) ≤ 1; decide, z3, z4, z5, z6, hys, by show (0 : Int) ≤ 0; decide, by show (0 : Int) ≤ (f.ups.length : Int) - 1; omega, by show (0 : Int) ≤ 1; decide, by show (1 : Int) ≤ 1; decide, upI_asc _ _ _ (by omega), upI_asc _ _ _ (by omega)⟩
      · rw [decide_eq_false c5]
        ((conv => whnf); (try dsimp only))
        exact ⟨row, s4, _, hrow, d4, rfl, rfl⟩
    clear hrow d3 row s3
    rintro e s ⟨row, s3, y6, hrow, d3, rfl, rfl⟩
    ((conv => whnf); (try dsimp only))
    refine ⟨fun env s => ∃ (row : Rule) (s' : Store) (x6 : Option Val), RuF f row ∧ Dr p st s' ∧ s = s' ++ [.lst (rs.map ruleV)] ∧ env = [some (.loc p), some (frV f), some (.int m), some (.loc st.length), some (.int (0 + (i : Int))), some (ruleV row), x6, none], ?_, ?_⟩
    · ((conv => whnf); (try dsimp only))
      refine draw (d3.po hp) (by decide) (by decide) fun w5 s4 _ _ d4' => ?_
      have d4 := d3.trans d4'
      ((conv => whnf); (try dsimp only))
      refine ⟨.inl rfl, ?_⟩
      simp only [eqd_int]
      by_cases c5 : w5 = 0
      · rw [decide_eq_true c5]
        ((conv => whnf); (try dsimp only))
        refine ⟨by show 0 ≤ sizeLine; decide, ?_⟩
        ((conv => whnf); (try dsimp only))
        refine ⟨by show 1 ≤ sizeLine; decide, ?_⟩
        ((conv => whnf); (try dsimp only))
        refine ⟨by show 4 ≤ sizeLine; decide, ?_⟩
        ((conv => whnf); (try dsimp only))
        refine ⟨by show 8 ≤ sizeLine; decide, ?_⟩
        ((conv => whnf); (try dsimp only))
        refine ⟨⟨row.eff, row.rank, ⟨row.sc.role, [], row.sc.node, row.sc.deep, row.sc.hours, row.sc.places⟩⟩, s4, _, ?_, d4, rfl, rfl⟩
        obtain ⟨z1, z2, z3, z4, z5, z6, z7, z8, z9, zz⟩ := hrow
        exact ⟨z1, z2, z3, z4, z5, z6, trivial, z8, z9, zz⟩
      · rw [decide_eq_false c5]
        ((conv => whnf); (try dsimp only))
        exact ⟨row, s4, _, hrow, d4, rfl, rfl⟩
    clear hrow d3 row s3
    rintro e s ⟨row, s3, y6, hrow, d3, rfl, rfl⟩
    have hl3 : st.length = s3.length := d3.len.symm
    ((conv => whnf); (try dsimp only))
    rw [hl3]
    refine ⟨isLst0, ?_⟩
    ((conv => whnf); (try dsimp only))
    rw [look0]
    ((conv => whnf); (try dsimp only))
    refine ⟨by rw [List.length_map]; omega, ?_⟩
    rw [set0]
    refine hNx _ _ ⟨s3, rs ++ [row], _, _, _, ?_, d3, by rw [hl3], by simp [hl], fun r h => ?_⟩
    · rw [List.map_append]
      rfl
    · rcases List.mem_append.mp h with h | h
      · exact hr r h
      · rw [List.mem_singleton.mp h]
        exact hrow
  · rintro e s ⟨st1, rs, x4, x5, x6, rfl, d1, rfl, hl, hr⟩
    rw [DL.upTo_len] at hl
    ((conv => whnf); (try dsimp only))
    rw [show st.length = st1.length from d1.len.symm, itemsL look0]
    ((conv => whnf); (try dsimp only))
    exact back_dr _ d1 (cl_rules _ rs) (k rs st1 (by omega) hr d1)
end K05

set_option Elab.async false
set_option linter.all false
set_option maxRecDepth 100000
set_option maxHeartbeats 4000000
namespace K05
open PySem L2 DL
theorem cutD_from {xs : List Val} {i : Nat} (h : i ≤ xs.length) : cutD xs (some (i : Int)) none = xs.drop i := by
  unfold cutD
  rw [HT.sIx_none, HT.sIx_nat, Nat.min_eq_left h]
  exact List.take_of_length_le (by rw [List.length_drop]; omega)
@[irreducible] def s__law_other_rule : DSp := fun ds st P => ∃ p f rs, ds = [.loc p, frV f, rulesV rs] ∧ Po st p ∧ FrOk f ∧ RsOk f rs ∧ rs.length ≤ 30 ∧ ∀ (rs' : List Rule) st', rs'.length = rs.length → RsOk f rs' → Dr p st st' → P (rulesV rs') st'
theorem v__law_other_rule (ds : List Val) (st : Store) (P : DK) (h : s__law_other_rule ds st P) : w__law_other_rule s__law_draw s__law_rule (defE st P) (startD N__law_other_rule ds) st := by
  unfold s__law_other_rule at h
  obtain ⟨p, f, rs, rfl, hp, F, hr, hl, k⟩ := h
  have hz : sizeLine = 2 ^ 24 := rfl
  rw [e__law_other_rule]
  unfold w__law_other_rule
  ((conv => whnf); (try dsimp only))
  rw [List.length_map]
  refine ⟨.inl rfl, ?_⟩
  simp only [eqd_int]
  by_cases q : (rs.length : Int) = 0
  · rw [decide_eq_true q]
    ((conv => whnf); (try dsimp only))
    exact back_dr0 (.refl hp) (cl_rules _ rs) (k rs st rfl hr (.refl hp))
  rw [decide_eq_false q]
  ((conv => whnf); (try dsimp only))
  rw [List.length_map]
  refine draw0 hp (by omega) (by omega) fun x s1 x0 x1 d1 => ?_
  ((conv => whnf); (try dsimp only))
  refine draw0 (d1.po hp) (by decide) (by decide) fun e s2 e0 e1 d2' => ?_
  have d2 := d1.trans d2'
  ((conv => whnf); (try dsimp only))
  refine rule0 (d2.po hp) F e0 (by omega) fun row s3 hrow d3' => ?_
  have d3 := d2.trans d3'
  have hx : x = (x.toNat : Int) := by omega
  have hx1 : x + 1 = ((x.toNat + 1 : Nat) : Int) := by omega
  have c1 : cutD (rs.map ruleV) none (some x) = (rs.take x.toNat).map ruleV := by
    rw [hx, cutD_to (by rw [List.length_map]; omega), Int.toNat_natCast, List.map_take]
  have c2 : cutD (rs.map ruleV) (some (x + 1)) none = (rs.drop (x.toNat + 1)).map ruleV := by
    rw [hx1, cutD_from (by rw [List.length_map]; omega), List.map_drop]
  ((conv => whnf); (try dsimp only))
  refine ⟨by show 1 ≤ sizeLine; decide, ?_⟩
  rw [c1]
  ((conv => whnf); (try dsimp only))
  refine ⟨by simp; omega, ?_⟩
  ((conv => whnf); (try dsimp only))
  rw [c2]
  ((conv => whnf); (try dsimp only))
  refine ⟨by simp; omega, ?_⟩
  have e : (rs.take x.toNat).map ruleV ++ [ruleV row] ++ (rs.drop (x.toNat + 1)).map ruleV = (rs.take x.toNat ++ [row] ++ rs.drop (x.toNat + 1)).map ruleV := by
    rw [List.map_append, List.map_append]
    rfl
  rw [e]
  refine back_dr0 d3 (cl_rules _ _) (k _ s3 (by simp; omega) (fun r h => ?_) d3)
  rcases List.mem_append.mp h with h | h
  · rcases List.mem_append.mp h with h | h
    · exact hr r (List.mem_of_mem_take h)
    · rw [List.mem_singleton.mp h]
      exact hrow
  · exact hr r (List.mem_of_mem_drop h)
end K05

set_option Elab.async false
set_option linter.all false
set_option maxRecDepth 100000
set_option maxHeartbeats 4000000
namespace K05
open PySem L2 DL
def ScF (f : Fr) (s : Sc) : Prop := ScOk (hoursOf f) (placesOf f) f.ups.length f.roles.length s
theorem beneathL {st : Store} {ups : List Int} {n : Int} {Q : DK} (n0 : 0 ≤ n) (n1 : n < ups.length) (hl : ups.length ≤ 100) (k : ∀ ns : List Int, 1 ≤ ns.length → ns.length ≤ 200 → (∀ y ∈ ns, 0 ≤ y ∧ y < ups.length) → Q (.loc st.length) (st ++ [.lst (ns.map Val.int)])) : s__law_beneath [tI ups, .int n] st Q := by
  unfold s__law_beneath
  exact ⟨ups, n, rfl, n0, n1, hl, k⟩
@[irreducible] def s__law_aimed : DSp := fun ds st P => ∃ p f rs it, ds = [.loc p, frV f, rulesV rs, itV it] ∧ Po st p ∧ FrOk f ∧ RsOk f rs ∧ rs.length ≤ 30 ∧ ItOk rs f.doors f.lots it ∧ ∀ sd a st', SdF f sd → AkF f a → Dr p st st' → P (.loc st.length) (st' ++ [.lst [sideV sd, askV a]])
theorem v__law_aimed (ds : List Val) (st : Store) (P : DK) (h : s__law_aimed ds st P) : w__law_aimed s__law_beneath s__law_draw s__law_one_of s__law_some s__law_with (defE st P) (startD N__law_aimed ds) st := by
  unfold s__law_aimed at h
  obtain ⟨p, f, rs, it, rfl, hp, F, hr, hl, hi, k⟩ := h
  have hz : sizeLine = 2 ^ 24 := rfl
  have g0 := hrs_at F
  have g1 := pls_at F
  have cU := F.cUps
  have cR := F.cRoles
  have cL := F.cLots
  have cD := F.cDoors
  rw [e__law_aimed]
  unfold w__law_aimed
  ((conv => whnf); (try dsimp only))
  refine ⟨by show 0 ≤ sizeLine; decide, ?_⟩
  ((conv => whnf); (try dsimp only))
  refine ⟨by show 0 ≤ sizeLine; decide, ?_⟩
  ((conv => whnf); (try dsimp only))
  refine ⟨by show 0 ≤ sizeLine; decide, ?_⟩
  ((conv => whnf); (try dsimp only))
  refine ⟨by show 6 ≤ sizeLine; decide, ?_⟩
  ((conv => whnf); (try dsimp only))
  have sc0 : ScF f ⟨-1, [], 0, 1, [], []⟩ := ⟨by show (-1 : Int) ≤ -1; decide, by show (-1 : Int) ≤ (f.roles.length : Int) - 1; omega, trivial, by show (0 : Int) ≤ 0; decide, by show (0 : Int) ≤ (f.ups.length : Int) - 1; omega, by show (0 : Int) ≤ 1; decide, by show (1 : Int) ≤ 1; decide, trivial, trivial⟩
  have lt : ∀ i (h : i < f.lots.length), LotOk f f.lots[i] := fun i h => F.lots _ (List.getElem_mem h)
  have dt : ∀ i (h : i < f.doors.length), DoorOk (hoursOf f) (placesOf f) f.ups.length f.roles.length f.doors[i] := fun i h => F.doors _ (List.getElem_mem h)
  refine ⟨fun env s => s = st ∧ ∃ sc, ScF f sc ∧ env = [some (.loc p), some (frV f), some (rulesV rs), some (itV it), some (.tup (scL sc)), none, none, none, none, none, none], ?_, ?_⟩
  · cases it with
    | rule i =>
      ((conv => whnf); (try dsimp only))
      refine ⟨.inl rfl, ?_⟩
      rw [q_rl]
      ((conv => whnf); (try dsimp only))
      exact ⟨rfl, _, sc0, rfl⟩
    | door i =>
      ((conv => whnf); (try dsimp only))
      refine ⟨.inl rfl, ?_⟩
      rw [q_dl]
      ((conv => whnf); (try dsimp only))
      exact ⟨rfl, _, sc0, rfl⟩
    | lot i =>
      ((conv => whnf); (try dsimp only))
      refine ⟨.inl rfl, ?_⟩
      rw [q_ll]
      ((conv => whnf); (try dsimp only))
      have hi' : i < f.lots.length := hi
      have L := lt i hi'
      rw [atD (List.getElem?_eq_getElem hi')]
      ((conv => whnf); (try dsimp only))
      rw [atD (List.getElem?_eq_getElem hi')]
      ((conv => whnf); (try dsimp only))
      refine ⟨by show 0 ≤ sizeLine; decide, ?_⟩
      ((conv => whnf); (try dsimp only))
      refine ⟨by show 0 ≤ sizeLine; decide, ?_⟩
      ((conv => whnf); (try dsimp only))
      refine ⟨by show 6 ≤ sizeLine; decide, ?_⟩
      ((conv => whnf); (try dsimp only))
      refine ⟨rfl, ⟨-1, f.lots[i].verbs, f.lots[i].node, 1, [], []⟩, ?_, rfl⟩
      exact ⟨by show (-1 : Int) ≤ -1; decide, by show (-1 : Int) ≤ (f.roles.length : Int) - 1; omega, L.2.1, L.1.1, by have := L.1.2; show f.lots[i].node ≤ (f.ups.length : Int) - 1; omega, by show (0 : Int) ≤ 1; decide, by show (1 : Int) ≤ 1; decide, trivial, trivial⟩
  clear sc0
  rintro env s ⟨e0, sc, sc0, rfl⟩
  rw [e0]
  clear e0 s
  ((conv => whnf); (try dsimp only))
  refine ⟨fun env s => s = st ∧ ∃ sc, ScF f sc ∧ env = [some (.loc p), some (frV f), some (rulesV rs), some (itV it), some (.tup (scL sc)), none, none, none, none, none, none], ?_, ?_⟩
  · cases it with
    | rule i =>
      ((conv => whnf); (try dsimp only))
      refine ⟨.inl rfl, ?_⟩
      rw [q_rd]
      ((conv => whnf); (try dsimp only))
      exact ⟨rfl, _, sc0, rfl⟩
    | door i =>
      ((conv => whnf); (try dsimp only))
      refine ⟨.inl rfl, ?_⟩
      rw [q_dd]
      ((conv => whnf); (try dsimp only))
      have hi' : i < f.doors.length := hi
      have D := dt i hi'
      rw [atD (List.getElem?_eq_getElem hi')]
      ((conv => whnf); (try dsimp only))
      exact ⟨rfl, f.doors[i].sc, D.2.2.1, rfl⟩
    | lot i =>
      ((conv => whnf); (try dsimp only))
      refine ⟨.inl rfl, ?_⟩
      rw [q_ld]
      ((conv => whnf); (try dsimp only))
      exact ⟨rfl, _, sc0, rfl⟩
  clear sc0
  rintro env s ⟨e0, sc, sc0, rfl⟩
  rw [e0]
  clear e0 s
  ((conv => whnf); (try dsimp only))
  refine ⟨fun env s => s = st ∧ ∃ sc, ScF f sc ∧ env = [some (.loc p), some (frV f), some (rulesV rs), some (itV it), some (.tup (scL sc)), none, none, none, none, none, none], ?_, ?_⟩
  · cases it with
    | rule i =>
      ((conv => whnf); (try dsimp only))
      refine ⟨.inl rfl, ?_⟩
      rw [q_rr]
      ((conv => whnf); (try dsimp only))
      have hi' : i < rs.length := hi
      have D := hr _ (List.getElem_mem hi')
      rw [atD (List.getElem?_eq_getElem hi')]
      ((conv => whnf); (try dsimp only))
      exact ⟨rfl, rs[i].sc, D.2.2.2.2, rfl⟩
    | door i =>
      ((conv => whnf); (try dsimp only))
      refine ⟨.inl rfl, ?_⟩
      rw [q_dr]
      ((conv => whnf); (try dsimp only))
      exact ⟨rfl, _, sc0, rfl⟩
    | lot i =>
      ((conv => whnf); (try dsimp only))
      refine ⟨.inl rfl, ?_⟩
      rw [q_lr]
      ((conv => whnf); (try dsimp only))
      exact ⟨rfl, _, sc0, rfl⟩
  clear sc0
  rintro env s ⟨e0, sc, sc0, rfl⟩
  rw [e0]
  clear e0 s
  ((conv => whnf); (try dsimp only))
  have sN : 0 ≤ sc.node ∧ sc.node < f.ups.length := ⟨sc0.2.2.2.1, by have := sc0.2.2.2.2.1; omega⟩
  refine ⟨fun env s => ∃ (s' : Store) (L : List Cell) (n : Int) (x6 : Option Val), Dr p st s' ∧ s = s' ++ L ∧ 0 ≤ n ∧ n < f.ups.length ∧ env = [some (.loc p), some (frV f), some (rulesV rs), some (itV it), some (.tup (scL sc)), some (.int n), x6, none, none, none, none], ?_, ?_⟩
  · ((conv => whnf); (try dsimp only))
    refine ⟨.inl rfl, ?_⟩
    simp only [eqd_int]
    by_cases c : sc.deep = 1
    · rw [decide_eq_true c]
      ((conv => whnf); (try dsimp only))
      refine beneathL sN.1 sN.2 (by omega) fun ns l1 l2 hy => ?_
      ((conv => whnf); (try dsimp only))
      rw [itemsL look0]
      ((conv => whnf); (try dsimp only))
      rw [List.length_map]
      refine draw hp (by omega) (by omega) fun x s1 x0 x1 d1 => ?_
      ((conv => whnf); (try dsimp only))
      obtain ⟨u, um, gU⟩ := getI x0 x1
      rw [show st.length = s1.length from d1.len.symm, itemsL look0]
      ((conv => whnf); (try dsimp only))
      rw [gU]
      ((conv => whnf); (try dsimp only))
      exact ⟨s1, _, u, _, d1, rfl, (hy u um).1, (hy u um).2, rfl⟩
    · rw [decide_eq_false c]
      ((conv => whnf); (try dsimp only))
      exact ⟨st, [], _, _, .refl hp, (List.append_nil _).symm, sN.1, sN.2, rfl⟩
  rintro env s ⟨s0, L, n, x6, d0, rfl, n0, n1, rfl⟩
  have aH := sc0.2.2.2.2.2.2.2.1
  have aP := sc0.2.2.2.2.2.2.2.2
  have aV := sc0.2.2.1
  have lV := asc_len (m := 13) aV (by decide)
  have lH := asc_len aH (by omega)
  have lP := asc_len aP (by omega)
  ((conv => whnf); (try dsimp only))
  refine oneI (d0.po hp) (by omega) (by decide) (by decide) fun v s1 _ d1' => ?_
  have d1 := d0.trans d1'
  ((conv => whnf); (try dsimp only))
  rw [g0.1]
  ((conv => whnf); (try dsimp only))
  refine oneI (d1.po hp) (by omega) (by omega) (by omega) fun hh s2 _ d2' => ?_
  have d2 := d1.trans d2'
  ((conv => whnf); (try dsimp only))
  rw [g1.1]
  ((conv => whnf); (try dsimp only))
  refine oneI (d2.po hp) (by omega) (by omega) (by omega) fun pp s3 _ d3' => ?_
  have d3 := d2.trans d3'
  refine ⟨by show 4 ≤ sizeLine; decide, ?_⟩
  ((conv => whnf); (try dsimp only))
  rw [List.length_map]
  refine someL (d3.po hp) (by omega) (by omega) (by decide) (by decide) fun had s4 hA d4' => ?_
  have d4 := d3.trans d4'
  ((conv => whnf); (try dsimp only))
  rw [List.length_map]
  refine someL (d4.po hp) (by omega) (by omega) (by decide) (by decide) fun held s5 hB d5' => ?_
  have d5 := d4.trans d5'
  ((conv => whnf); (try dsimp only))
  rw [List.length_map]
  refine someL (d5.po hp) (by omega) (by omega) (by decide) (by decide) fun ajar s6 hC d6' => ?_
  have d6 := d5.trans d6'
  clear d1' d2' d3' d4' d5' d6'
  ((conv => whnf); (try dsimp only))
  refine ⟨fun env s => s = s6 ++ L ∧ ∃ sd : Side, SdF f sd ∧ env = [some (.loc p), some (frV f), some (rulesV rs), some (itV it), some (.tup (scL sc)), some (.int n), x6, some (askV ⟨v, n, hh, pp⟩), some (tI sd.roles), some (tI sd.lots), some (tI sd.doors)], ?_, ?_⟩
  · ((conv => whnf); (try dsimp only))
    refine ⟨.inl rfl, ?_⟩
    simp only [eqd_int]
    by_cases c : sc.role = -1
    · rw [decide_eq_true c]
      ((conv => whnf); (try dsimp only))
      exact ⟨rfl, ⟨had, held, ajar⟩, ⟨hA, hB, hC⟩, rfl⟩
    · rw [decide_eq_false c]
      ((conv => whnf); (try dsimp only))
      unfold s__law_with
      have r1 := sc0.1
      have r2 := sc0.2.1
      refine ⟨had, sc.role, f.roles.length, rfl, hA, by omega, by omega, by omega, fun ns hN => ?_⟩
      ((conv => whnf); (try dsimp only))
      exact ⟨rfl, ⟨ns, held, ajar⟩, ⟨hN, hB, hC⟩, rfl⟩
  clear hA hB hC
  rintro env s ⟨e0, sd, S, rfl⟩
  rw [e0]
  clear e0 s
  ((conv => whnf); (try dsimp only))
  refine ⟨fun env s => s = s6 ++ L ∧ ∃ sd : Side, SdF f sd ∧ env = [some (.loc p), some (frV f), some (rulesV rs), some (itV it), some (.tup (scL sc)), some (.int n), x6, some (askV ⟨v, n, hh, pp⟩), some (tI sd.roles), some (tI sd.lots), some (tI sd.doors)], ?_, ?_⟩
  · cases it with
    | rule i =>
      ((conv => whnf); (try dsimp only))
      refine ⟨.inl rfl, ?_⟩
      rw [q_rl]
      ((conv => whnf); (try dsimp only))
      exact ⟨rfl, sd, S, rfl⟩
    | door i =>
      ((conv => whnf); (try dsimp only))
      refine ⟨.inl rfl, ?_⟩
      rw [q_dl]
      ((conv => whnf); (try dsimp only))
      exact ⟨rfl, sd, S, rfl⟩
    | lot i =>
      ((conv => whnf); (try dsimp only))
      refine ⟨.inl rfl, ?_⟩
      rw [q_ll]
      ((conv => whnf); (try dsimp only))
      have hi' : i < f.lots.length := hi
      unfold s__law_with
      refine ⟨sd.lots, (i : Int), f.lots.length, rfl, S.2.1, by omega, by omega, by omega, fun ns hN => ?_⟩
      ((conv => whnf); (try dsimp only))
      exact ⟨rfl, ⟨sd.roles, ns, sd.doors⟩, ⟨S.1, hN, S.2.2⟩, rfl⟩
  clear S
  rintro env s ⟨e0, sd, S, rfl⟩
  rw [e0]
  clear e0 s
  ((conv => whnf); (try dsimp only))
  refine ⟨fun env s => s = s6 ++ L ∧ ∃ sd : Side, SdF f sd ∧ env = [some (.loc p), some (frV f), some (rulesV rs), some (itV it), some (.tup (scL sc)), some (.int n), x6, some (askV ⟨v, n, hh, pp⟩), some (tI sd.roles), some (tI sd.lots), some (tI sd.doors)], ?_, ?_⟩
  · cases it with
    | rule i =>
      ((conv => whnf); (try dsimp only))
      refine ⟨.inl rfl, ?_⟩
      rw [q_rd]
      ((conv => whnf); (try dsimp only))
      exact ⟨rfl, sd, S, rfl⟩
    | door i =>
      ((conv => whnf); (try dsimp only))
      refine ⟨.inl rfl, ?_⟩
      rw [q_dd]
      ((conv => whnf); (try dsimp only))
      have hi' : i < f.doors.length := hi
      unfold s__law_with
      refine ⟨sd.doors, (i : Int), f.doors.length, rfl, S.2.2, by omega, by omega, by omega, fun ns hN => ?_⟩
      ((conv => whnf); (try dsimp only))
      exact ⟨rfl, ⟨sd.roles, sd.lots, ns⟩, ⟨S.1, S.2.1, hN⟩, rfl⟩
    | lot i =>
      ((conv => whnf); (try dsimp only))
      refine ⟨.inl rfl, ?_⟩
      rw [q_ld]
      ((conv => whnf); (try dsimp only))
      exact ⟨rfl, sd, S, rfl⟩
  clear S
  rintro env s ⟨e0, sd, S, rfl⟩
  rw [e0]
  clear e0 s
  ((conv => whnf); (try dsimp only))
  refine ⟨by show 3 ≤ sizeLine; decide, ?_⟩
  ((conv => whnf); (try dsimp only))
  refine ⟨by show 2 ≤ sizeLine; decide, ?_⟩
  rw [List.append_assoc]
  have hL : (L ++ [Cell.lst [sideV sd, askV ⟨v, n, hh, pp⟩]])[L.length]? = some (.lst [sideV sd, askV ⟨v, n, hh, pp⟩]) := by
    rw [List.getElem?_append_right (Nat.le_refl _), Nat.sub_self]
    rfl
  exact back_newdr (k := L.length) (N := (s6 ++ L).length) (p := p) (L := L ++ [.lst [sideV sd, askV ⟨v, n, hh, pp⟩]]) d6 (by rw [List.length_append, d6.len]) hL (cl_both _ sd ⟨v, n, hh, pp⟩) (k sd ⟨v, n, hh, pp⟩ s6 S ⟨n0, n1⟩ d6)
end K05

set_option Elab.async false
set_option linter.all false
set_option maxRecDepth 100000
set_option maxHeartbeats 4000000
namespace K05
open PySem L2 DL
theorem items_ok {f : Fr} {rs : List Rule} {it : It} (h : it ∈ itemsF f rs) : ItOk rs f.doors f.lots it := by
  unfold itemsF at h
  rcases List.mem_append.mp h with h | h
  · rcases List.mem_append.mp h with h | h
    · obtain ⟨i, hi, rfl⟩ := List.mem_map.mp h
      exact List.mem_range.mp hi
    · obtain ⟨i, hi, rfl⟩ := List.mem_map.mp h
      exact List.mem_range.mp hi
  · obtain ⟨i, hi, rfl⟩ := List.mem_map.mp h
    exact List.mem_range.mp hi
theorem itemsL_len (f : Fr) (rs : List Rule) : (itemsF f rs).length = rs.length + f.doors.length + f.lots.length := by
  unfold itemsF
  simp
  omega
@[irreducible] def s__law_start : DSp := fun ds st P => ∃ p f rs, ds = [.loc p, frV f, rulesV rs] ∧ Po st p ∧ FrOk f ∧ RsOk f rs ∧ rs.length ≤ 30 ∧ ∀ sd a st', SdF f sd → AkF f a → Dr p st st' → P (.loc st.length) (st' ++ [.lst [sideV sd, askV a]])
theorem v__law_start (ds : List Val) (st : Store) (P : DK) (h : s__law_start ds st P) : w__law_start s__law_aimed s__law_draw s__law_items s__law_one_of s__law_some (defE st P) (startD N__law_start ds) st := by
  unfold s__law_start at h
  obtain ⟨p, f, rs, rfl, hp, F, hr, hl, k⟩ := h
  have hz : sizeLine = 2 ^ 24 := rfl
  have g0 := hrs_at F
  have g1 := pls_at F
  have cU := F.cUps
  have cR := F.cRoles
  have cL := F.cLots
  have cD := F.cDoors
  have il := itemsL_len f rs
  rw [e__law_start]
  unfold w__law_start
  ((conv => whnf); (try dsimp only))
  unfold s__law_items
  refine ⟨f, rs, rfl, F, by omega, ?_⟩
  ((conv => whnf); (try dsimp only))
  rw [itemsL look0]
  ((conv => whnf); (try dsimp only))
  rw [List.length_map]
  by_cases c : (0 : Int) < ((itemsF f rs).length : Int)
  · rw [decide_eq_true c]
    ((conv => whnf); (try dsimp only))
    refine draw hp (by decide) (by decide) fun w s0 w0 w1 d0 => ?_
    ((conv => whnf); (try dsimp only))
    by_cases c2 : 0 < w
    · rw [decide_eq_true c2]
      ((conv => whnf); (try dsimp only))
      unfold s__law_one_of
      refine ⟨p, _, 1, rfl, (d0.po hp).app, by rw [List.length_map]; omega, fun n x hx => ?_, by decide, by decide, fun x s' hx d => ?_⟩
      · obtain ⟨i, _, rfl⟩ := List.mem_map.mp hx
        exact cl_it _ i
      obtain ⟨s1, rfl, d1'⟩ := d.app (d0.po hp).lt
      have d1 := d0.trans d1'
      obtain ⟨it, hit, rfl⟩ : ∃ it, it ∈ itemsF f rs ∧ itV it = x := by
        rcases hx with ⟨e, _⟩ | hx
        · have := congrArg List.length e
          rw [List.length_map] at this
          exact absurd c (by rw [this]; decide)
        · exact List.mem_map.mp hx
      ((conv => whnf); (try dsimp only))
      unfold s__law_aimed
      refine ⟨p, f, rs, it, rfl, (d1.po hp).app, F, hr, hl, items_ok hit, fun sd a s' S A d => ?_⟩
      obtain ⟨s2, rfl, d2'⟩ := d.app (d1.po hp).lt
      have d2 := d1.trans d2'
      rw [List.append_assoc]
      exact back_newdr (k := 1) (N := (s1 ++ [Cell.lst ((itemsF f rs).map itV)]).length) (p := p) (L := [.lst ((itemsF f rs).map itV)] ++ [.lst [sideV sd, askV a]]) d2 (by rw [List.length_append, d1.len]; rfl) rfl (cl_both _ sd a) (k sd a s2 S A d2)
    · rw [decide_eq_false c2]
      ((conv => whnf); (try dsimp only))
      rw [List.length_map]
      refine someL (d0.po hp) (by omega) (by omega) (by decide) (by decide) fun ra s1 hA e1' => ?_
      have e1 := d0.trans e1'
      ((conv => whnf); (try dsimp only))
      rw [List.length_map]
      refine someL (e1.po hp) (by omega) (by omega) (by decide) (by decide) fun rb s2 hB e2' => ?_
      have e2 := e1.trans e2'
      ((conv => whnf); (try dsimp only))
      rw [List.length_map]
      refine someL (e2.po hp) (by omega) (by omega) (by decide) (by decide) fun rc s3 hC e3' => ?_
      have e3 := e2.trans e3'
      ((conv => whnf); (try dsimp only))
      refine ⟨by show 3 ≤ sizeLine; decide, ?_⟩
      ((conv => whnf); (try dsimp only))
      refine draw (e3.po hp) (by decide) (by decide) fun v s4 _ _ e4' => ?_
      have e4 := e3.trans e4'
      ((conv => whnf); (try dsimp only))
      rw [List.length_map]
      refine draw (e4.po hp) (by omega) (by omega) fun n s5 n0 n1 e5' => ?_
      have e5 := e4.trans e5'
      ((conv => whnf); (try dsimp only))
      rw [g0.1]
      ((conv => whnf); (try dsimp only))
      refine draw (e5.po hp) (by omega) (by omega) fun hh s6 _ _ e6' => ?_
      have e6 := e5.trans e6'
      ((conv => whnf); (try dsimp only))
      rw [g1.1]
      ((conv => whnf); (try dsimp only))
      refine draw (e6.po hp) (by omega) (by omega) fun pp s7 _ _ e7' => ?_
      have e7 := e6.trans e7'
      ((conv => whnf); (try dsimp only))
      refine ⟨by show 4 ≤ sizeLine; decide, ?_⟩
      ((conv => whnf); (try dsimp only))
      refine ⟨by show 2 ≤ sizeLine; decide, ?_⟩
      rw [List.append_assoc]
      exact back_newdr (k := 1) (N := (s7 ++ [Cell.lst ((itemsF f rs).map itV)]).length) (p := p) (L := [.lst ((itemsF f rs).map itV)] ++ [.lst [sideV ⟨ra, rb, rc⟩, askV ⟨v, n, hh, pp⟩]]) e7 (by rw [List.length_append, e7.len]; rfl) rfl (cl_both _ ⟨ra, rb, rc⟩ ⟨v, n, hh, pp⟩) (k ⟨ra, rb, rc⟩ ⟨v, n, hh, pp⟩ s7 ⟨hA, hB, hC⟩ ⟨n0, n1⟩ e7)
  · rw [decide_eq_false c]
    have d0 : Dr p st st := .refl hp
    ((conv => whnf); (try dsimp only))
    rw [List.length_map]
    refine someL (d0.po hp) (by omega) (by omega) (by decide) (by decide) fun ra s1 hA e1' => ?_
    have e1 := d0.trans e1'
    ((conv => whnf); (try dsimp only))
    rw [List.length_map]
    refine someL (e1.po hp) (by omega) (by omega) (by decide) (by decide) fun rb s2 hB e2' => ?_
    have e2 := e1.trans e2'
    ((conv => whnf); (try dsimp only))
    rw [List.length_map]
    refine someL (e2.po hp) (by omega) (by omega) (by decide) (by decide) fun rc s3 hC e3' => ?_
    have e3 := e2.trans e3'
    ((conv => whnf); (try dsimp only))
    refine ⟨by show 3 ≤ sizeLine; decide, ?_⟩
    ((conv => whnf); (try dsimp only))
    refine draw (e3.po hp) (by decide) (by decide) fun v s4 _ _ e4' => ?_
    have e4 := e3.trans e4'
    ((conv => whnf); (try dsimp only))
    rw [List.length_map]
    refine draw (e4.po hp) (by omega) (by omega) fun n s5 n0 n1 e5' => ?_
    have e5 := e4.trans e5'
    ((conv => whnf); (try dsimp only))
    rw [g0.1]
    ((conv => whnf); (try dsimp only))
    refine draw (e5.po hp) (by omega) (by omega) fun hh s6 _ _ e6' => ?_
    have e6 := e5.trans e6'
    ((conv => whnf); (try dsimp only))
    rw [g1.1]
    ((conv => whnf); (try dsimp only))
    refine draw (e6.po hp) (by omega) (by omega) fun pp s7 _ _ e7' => ?_
    have e7 := e6.trans e7'
    ((conv => whnf); (try dsimp only))
    refine ⟨by show 4 ≤ sizeLine; decide, ?_⟩
    ((conv => whnf); (try dsimp only))
    refine ⟨by show 2 ≤ sizeLine; decide, ?_⟩
    rw [List.append_assoc]
    exact back_newdr (k := 1) (N := (s7 ++ [Cell.lst ((itemsF f rs).map itV)]).length) (p := p) (L := [.lst ((itemsF f rs).map itV)] ++ [.lst [sideV ⟨ra, rb, rc⟩, askV ⟨v, n, hh, pp⟩]]) e7 (by rw [List.length_append, e7.len]; rfl) rfl (cl_both _ ⟨ra, rb, rc⟩ ⟨v, n, hh, pp⟩) (k ⟨ra, rb, rc⟩ ⟨v, n, hh, pp⟩ s7 ⟨hA, hB, hC⟩ ⟨n0, n1⟩ e7)
end K05

set_option Elab.async false
set_option linter.all false
set_option maxRecDepth 100000
set_option maxHeartbeats 4000000
namespace K05
open PySem L2 DL
def lows (b : Bool) : List Int := if b then [1, 1, 1, 1, 1, 0, 1, 0, 1, 0, 0, 0, 0, 0, 0] else [1, 1, 1, 1, 1, 1, 1, 1, 1, 0, 0, 0, 0, 0, 0]
def tops (b : Bool) : List Int := if b then [4, 2, 3, 8, 3, 3, 3, 6, 3, 3, 2, 3, 2, 3, 2] else [2, 1, 2, 3, 3, 3, 2, 4, 2, 2, 1, 2, 1, 1, 1]
theorem mn_of (b : Bool) (xs : List Int) (hl : xs.length = 15) (h : ∀ (j : Nat) x, xs[j]? = some x → (lows b).getD j 0 ≤ x ∧ x ≤ (tops b).getD j 0) : ∃ m : Mn, MnOk m ∧ m.l = xs.map Val.int := by
  match xs, hl with
  | [x0, x1, x2, x3, x4, x5, x6, x7, x8, x9, x10, x11, x12, x13, x14], _ =>
    have q0 := h 0 x0 rfl
    have q1 := h 1 x1 rfl
    have q2 := h 2 x2 rfl
    have q3 := h 3 x3 rfl
    have q4 := h 4 x4 rfl
    have q5 := h 5 x5 rfl
    have q6 := h 6 x6 rfl
    have q7 := h 7 x7 rfl
    have q8 := h 8 x8 rfl
    have q9 := h 9 x9 rfl
    have q10 := h 10 x10 rfl
    have q11 := h 11 x11 rfl
    have q12 := h 12 x12 rfl
    have q13 := h 13 x13 rfl
    have q14 := h 14 x14 rfl
    refine ⟨⟨x0, x1, x2, x3, x4, x5, x6, x7, x8, x9, x10, x11, x12, x13, x14⟩, ?_, rfl⟩
    cases b <;> simp [lows, tops] at q0 q1 q2 q3 q4 q5 q6 q7 q8 q9 q10 q11 q12 q13 q14 <;> exact ⟨by simp only; omega, by simp only; omega, by simp only; omega, by simp only; omega, by simp only; omega, by simp only; omega, by simp only; omega, by simp only; omega, by simp only; omega, by simp only; omega, by simp only; omega, by simp only; omega, by simp only; omega, by simp only; omega, by simp only; omega⟩
theorem lt_rng : ∀ (c : Bool) (j : Fin 15), (lows c).getD j.val 0 ≤ (tops c).getD j.val 0 ∧ 0 ≤ (lows c).getD j.val 0 ∧ (tops c).getD j.val 0 ≤ 8 := by decide
theorem at_getD {xs : List Int} {j : Nat} (h : j < xs.length) : atI (xs.map Val.int) (0 + (j : Int)) = some (.int (xs.getD j 0)) := by
  refine atI_nat (by omega) ?_
  rw [show (0 + (j : Int)).toNat = j by omega, List.getElem?_map, List.getD_eq_getElem?_getD, List.getElem?_eq_getElem h]
  rfl
@[irreducible] def s__law_sizes : DSp := fun ds st P => ∃ p b, ds = [.loc p, .int b] ∧ Po st p ∧ ∀ m st', MnOk m → Dr p st st' → P (.loc st.length) (st' ++ [.lst m.l])
theorem v__law_sizes (ds : List Val) (st : Store) (P : DK) (h : s__law_sizes ds st P) : w__law_sizes s__law_draw (defE st P) (startD N__law_sizes ds) st := by
  unfold s__law_sizes at h
  obtain ⟨p, b, rfl, hp, k⟩ := h
  have hz : sizeLine = 2 ^ 24 := rfl
  rw [e__law_sizes]
  unfold w__law_sizes
  ((conv => whnf); (try dsimp only))
  refine ⟨by show 15 ≤ sizeLine; decide, ?_⟩
  ((conv => whnf); (try dsimp only))
  refine ⟨by show 15 ≤ sizeLine; decide, ?_⟩
  ((conv => whnf); (try dsimp only))
  refine ⟨fun env s => ∃ (L : List Cell) (c : Bool) (kl kt : Nat), s = st ++ L ∧ L[kl]? = some (.lst ((lows c).map Val.int)) ∧ L[kt]? = some (.lst ((tops c).map Val.int)) ∧ env = [some (.loc p), some (.int b), some (.loc (st.length + kl)), some (.loc (st.length + kt)), none], ?_, ?_⟩
  · ((conv => whnf); (try dsimp only))
    by_cases c : 0 < b
    · rw [decide_eq_true c]
      ((conv => whnf); (try dsimp only))
      refine ⟨by show 15 ≤ sizeLine; decide, ?_⟩
      ((conv => whnf); (try dsimp only))
      refine ⟨by show 15 ≤ sizeLine; decide, ?_⟩
      ((conv => whnf); (try dsimp only))
      rw [List.append_assoc, List.append_assoc, List.append_assoc]
      refine ⟨_, true, 2, 3, rfl, rfl, rfl, ?_⟩
      simp only [List.length_append]
      rfl
    · rw [decide_eq_false c]
      ((conv => whnf); (try dsimp only))
      rw [List.append_assoc]
      refine ⟨_, false, 0, 1, rfl, rfl, rfl, ?_⟩
      simp only [List.length_append]
      rfl
  rintro env s ⟨L, c, kl, kt, rfl, hkl, hkt, rfl⟩
  have ll : (lows c).length = 15 := by cases c <;> rfl
  have lt : (tops c).length = 15 := by cases c <;> rfl
  ((conv => whnf); (try dsimp only))
  refine ⟨by decide, by decide, ?_⟩
  refine lc_draw (e2 := Val.int) (p := p) (fun j x => (lows c).getD j 0 ≤ x ∧ x ≤ (tops c).getD j 0) (fun _ => trivial) _ 0 st [] hp (fun j d t1 hd d1 => ?_) fun xs s1 hxl hx d1 => ?_
  · obtain ⟨hj, rfl⟩ := upTo_get' hd
    have hj' : j < 15 := hj
    have r : (lows c).getD j 0 ≤ (tops c).getD j 0 ∧ 0 ≤ (lows c).getD j 0 ∧ (tops c).getD j 0 ≤ 8 := lt_rng c ⟨j, hj'⟩
    refine ⟨_, rfl, fun Q' hQ => ?_⟩
    ((conv => whnf); (try dsimp only))
    rw [itK (A := t1) (by rw [d1.len]) hkl]
    ((conv => whnf); (try dsimp only))
    rw [at_getD (by omega)]
    ((conv => whnf); (try dsimp only))
    rw [itK (A := t1) (by rw [d1.len]) hkt]
    ((conv => whnf); (try dsimp only))
    rw [at_getD (by omega)]
    ((conv => whnf); (try dsimp only))
    rw [itK (A := t1) (by rw [d1.len]) hkl]
    ((conv => whnf); (try dsimp only))
    rw [at_getD (by omega)]
    ((conv => whnf); (try dsimp only))
    refine draw (d1.po hp) (by omega) (by omega) fun y t2 y0 y1 d2 => ?_
    exact hQ _ t2 (by rw [Nat.zero_add]; omega) d2
  rw [DL.upTo_len] at hxl
  obtain ⟨m, M, em⟩ := mn_of c xs hxl (fun j x hj => by have := hx j x hj; rwa [Nat.zero_add] at this)
  rw [List.nil_append]
  ((conv => whnf); (try dsimp only))
  rw [List.append_assoc]
  have hL : (L ++ [Cell.lst (xs.map Val.int)])[L.length]? = some (.lst (xs.map Val.int)) := by
    rw [List.getElem?_append_right (Nat.le_refl _), Nat.sub_self]
    rfl
  have q := k m s1 M d1
  rw [em] at q
  exact back_newdr (k := L.length) (N := (s1 ++ L).length) (p := p) (L := L ++ [.lst (xs.map Val.int)]) d1 (by rw [List.length_append, d1.len]) hL (clVs_ints _ _) q
end K05

set_option Elab.async false
set_option linter.all false
set_option maxRecDepth 100000
set_option maxHeartbeats 4000000
namespace K05
open PySem L2 DL
@[irreducible] def s__law_pool : DSp := fun ds st P => ∃ (ns : List Int) (at_ : Nat), ds = [.rol (ns.map Val.int), .int at_] ∧ at_ ≤ 100 ∧ ns.length ≤ 100 ∧ ∀ a b c, P (.loc st.length) (st ++ [poolC a b c])
theorem v__law_pool (ds : List Val) (st : Store) (P : DK) (h : s__law_pool ds st P) : w__law_pool (defE st P) (startD N__law_pool ds) st := by
  unfold s__law_pool at h
  obtain ⟨ns, at_, rfl, ha, hl, k⟩ := h
  have hz : sizeLine = 2 ^ 24 := rfl
  rw [e__law_pool]
  unfold w__law_pool
  ((conv => whnf); (try dsimp only))
  refine ⟨fun env s => s = st ∧ ∃ c, env = [some (.rol (ns.map Val.int)), some (.int at_), some (.int c), none], ?_, ?_⟩
  · ((conv => whnf); (try dsimp only))
    rw [List.length_map]
    by_cases c : (at_ : Int) < (ns.length : Int)
    · rw [decide_eq_true c]
      ((conv => whnf); (try dsimp only))
      have hx : at_ < ns.length := by omega
      rw [atI_nat (i := (at_ : Int)) (d := .int ns[at_]) (by omega) (by rw [Int.toNat_natCast, List.getElem?_map, List.getElem?_eq_getElem hx]; rfl)]
      ((conv => whnf); (try dsimp only))
      exact ⟨rfl, _, rfl⟩
    · rw [decide_eq_false c]
      ((conv => whnf); (try dsimp only))
      exact ⟨rfl, _, rfl⟩
  rintro env s ⟨e0, c, rfl⟩
  rw [e0]
  clear e0 s
  ((conv => whnf); (try dsimp only))
  refine ⟨fun env s => s = st ∧ ∃ c, env = [some (.rol (ns.map Val.int)), some (.int at_), some (.int c), none], ?_, ?_⟩
  · ((conv => whnf); (try dsimp only))
    by_cases q : c < 0
    · rw [decide_eq_true q]
      ((conv => whnf); (try dsimp only))
      exact ⟨rfl, _, rfl⟩
    · rw [decide_eq_false q]
      ((conv => whnf); (try dsimp only))
      exact ⟨rfl, _, rfl⟩
  clear c
  rintro env s ⟨e0, c, rfl⟩
  rw [e0]
  clear e0 s
  ((conv => whnf); (try dsimp only))
  refine ⟨fun env s => s = st ∧ ∃ g, env = [some (.rol (ns.map Val.int)), some (.int at_), some (.int c), some (.int g)], ?_, ?_⟩
  · ((conv => whnf); (try dsimp only))
    refine ⟨by unfold CPow; decide, ?_⟩
    generalize (10 : Int) ^ Int.toNat 18 = big
    ((conv => whnf); (try dsimp only))
    by_cases q : big ≤ c
    · rw [decide_eq_true q]
      ((conv => whnf); (try dsimp only))
      exact ⟨rfl, _, rfl⟩
    · rw [decide_eq_false q]
      ((conv => whnf); (try dsimp only))
      exact ⟨rfl, _, rfl⟩
  rintro env s ⟨e0, g, rfl⟩
  rw [e0]
  clear e0 s
  ((conv => whnf); (try dsimp only))
  refine ⟨by decide, ?_⟩
  ((conv => whnf); (try dsimp only))
  refine ⟨by unfold CMul; omega, ?_⟩
  ((conv => whnf); (try dsimp only))
  refine ⟨by show 3 ≤ sizeLine; decide, ?_⟩
  exact back_new (k := 0) (N := st.length) rfl rfl rfl (k _ _ _)
end K05

set_option Elab.async false
set_option linter.all false
set_option maxRecDepth 100000
set_option maxHeartbeats 4000000
namespace K05
open PySem L2 DL
theorem ups_tr' {f : Fr} (F : FrOk f) : Tr f.ups := by
  intro i h
  cases i with
  | zero =>
    have := F.ups0
    rw [List.getElem?_eq_getElem h] at this
    have e := Option.some.inj this
    rw [e]
    exact ⟨by decide, by decide⟩
  | succ i =>
    have := F.ups (i + 1) _ (Nat.succ_pos i) (List.getElem?_eq_getElem h)
    exact ⟨by omega, this.2⟩
theorem cut_up {up rest : List Int} {n d : Int} (h : up = n :: rest) (hd : d = 0 ∨ d = 1) : cutD (up.map Val.int) none (some (1 + d * ((up.map Val.int).length : Int))) = (if d = 1 then up else [n]).map Val.int := by
  rcases hd with rfl | rfl
  · rw [Int.zero_mul, if_neg (by decide), show (1 + 0 : Int) = ((1 : Nat) : Int) from rfl, cutD_to (by rw [h]; simp), h]
    rfl
  · rw [Int.one_mul, if_pos rfl, show (1 + ((up.map Val.int).length : Int)) = ((1 + (up.map Val.int).length : Nat) : Int) by omega]
    unfold cutD
    rw [HT.sIx_none, HT.sIx_nat, List.drop_zero, Nat.sub_zero, Nat.min_eq_right (by omega), List.take_length]
theorem mem_up {up rest : List Int} {n d x : Int} (h : up = n :: rest) (hd : d = 0 ∨ d = 1) : decide (x ∈ (if d = 1 then up else [n])) = (decide (x = n) || (decide (d = 1) && decide (x ∈ up))) := by
  rcases hd with rfl | rfl
  · simp
  · subst h
    simp
theorem anc_len (ups : List Int) : ∀ (n : Nat) (x : Int), (anc ups n x).length ≤ n
  | 0, _ => Nat.le_refl _
  | n + 1, x => by
    unfold anc
    split
    · exact Nat.zero_le _
    · exact Nat.succ_le_succ (anc_len ups n _)
theorem A_cnt {f : Fr} {n : Int} (F : FrOk f) : (K05.A f.ups n).length ≤ n.toNat + 1 := anc_len _ _ _
@[irreducible] def s__law_why : DSp := fun ds st P => ∃ f rs sd it a, ds = [frV f, rulesV rs, sideV sd, itV it, askV a] ∧ FrOk f ∧ RuOk rs ∧ ItOk rs f.doors f.lots it ∧ AkF f a ∧ P (strsV (why f.ups f.doors f.lots rs sd a it)) st
theorem v__law_why (ds : List Val) (st : Store) (P : DK) (h : s__law_why ds st P) : w__law_why s__law_up (defE st P) (startD N__law_why ds) st := by
  unfold s__law_why at h
  obtain ⟨f, rs, sd, it, a, rfl, F, hr, hi, A, k⟩ := h
  have hz : sizeLine = 2 ^ 24 := rfl
  have cU := F.cUps
  rw [e__law_why]
  unfold w__law_why
  ((conv => whnf); (try dsimp only))
  unfold s__law_up
  refine ⟨f.ups, a.node, rfl, ups_tr' F, A.1, A.2, by omega, ?_⟩
  ((conv => whnf); (try dsimp only))
  refine ⟨Nat.zero_le _, ?_⟩
  ((conv => whnf); (try dsimp only))
  cases it with
  | lot i =>
    refine ⟨.inl rfl, ?_⟩
    rw [q_ll]
    ((conv => whnf); (try dsimp only))
    have hi' : i < f.lots.length := hi
    rw [atD (List.getElem?_eq_getElem hi')]
    have ek : why f.ups f.doors f.lots rs sd a (.lot i) = lotWhy f.ups i f.lots[i] sd.lots a := by
      show (match f.lots[i]? with
        | some l => lotWhy f.ups i l sd.lots a
        | none => []) = _
      rw [List.getElem?_eq_getElem hi']
    rw [ek] at k
    obtain ⟨S1, hS⟩ : ∃ S1, st ++ [Cell.lst ((K05.A f.ups a.node).map Val.int)] = S1 := ⟨_, rfl⟩
    have iu : ∀ L : List Cell, itemsOf (S1 ++ L) (.loc st.length) = some ((K05.A f.ups a.node).map Val.int) := fun L => by
      rw [← hS, List.append_assoc]
      exact itemsL look0
    ((conv => whnf); (try dsimp only))
    rw [hS]
    have u1 := unl_len (decide ((i : Int) ∈ sd.lots)) "unheld"
    have u2 := unl_len (decide (a.verb ∈ f.lots[i].verbs)) "verb"
    refine ⟨fun e' st' => e' = [some (frV f), some (rulesV rs), some (sideV sd), some (itV (.lot i)), some (askV a), some (.loc st.length), some (.loc S1.length), some (lotV f.lots[i])] ∧ st' = S1 ++ [.lst ((unl (decide ((i : Int) ∈ sd.lots)) "unheld").map Val.str)], ?_, ?_⟩
    · refine step_app (L := []) (decide ((i : Int) ∈ sd.lots)) rfl (by decide) (fun Q q => ?_) ⟨rfl, rfl⟩
      refine ⟨rfl, flatAll_ints _, ?_⟩
      simp only [memd_ints, if_true]
      exact q
    rintro _ _ ⟨rfl, rfl⟩
    refine ⟨fun e' st' => e' = [some (frV f), some (rulesV rs), some (sideV sd), some (itV (.lot i)), some (askV a), some (.loc st.length), some (.loc S1.length), some (lotV f.lots[i])] ∧ st' = S1 ++ [.lst ((unl (decide ((i : Int) ∈ sd.lots)) "unheld" ++ unl (decide (a.verb ∈ f.lots[i].verbs)) "verb").map Val.str)], ?_, ?_⟩
    · refine step_app (decide (a.verb ∈ f.lots[i].verbs)) rfl (by omega) (fun Q q => ?_) ⟨rfl, rfl⟩
      refine ⟨rfl, flatAll_ints _, ?_⟩
      simp only [memd_ints, if_true]
      exact q
    rintro _ _ ⟨rfl, rfl⟩
    refine ⟨fun e' st' => e' = [some (frV f), some (rulesV rs), some (sideV sd), some (itV (.lot i)), some (askV a), some (.loc st.length), some (.loc S1.length), some (lotV f.lots[i])] ∧ st' = S1 ++ [.lst ((lotWhy f.ups i f.lots[i] sd.lots a).map Val.str)], ?_, ?_⟩
    · refine step_app (decide (f.lots[i].node ∈ K05.A f.ups a.node)) rfl (by simp only [List.length_append]; omega) (fun Q q => ?_) ⟨rfl, rfl⟩
      ((conv => whnf); (try dsimp only))
      rw [iu]
      refine ⟨rfl, flatAll_ints _, ?_⟩
      simp only [memd_ints, if_true]
      exact q
    rintro _ _ ⟨rfl, rfl⟩
    ((conv => whnf); (try dsimp only))
    rw [itemsL look0]
    ((conv => whnf); (try dsimp only))
    rw [← hS, List.append_assoc]
    exact back_same _ (clVs_strs _ _) k
  | door i =>
    refine ⟨.inl rfl, ?_⟩
    rw [q_dl]
    ((conv => whnf); (try dsimp only))
    refine ⟨.inl rfl, ?_⟩
    rw [q_dd]
    have hi' : i < f.doors.length := hi
    ((conv => whnf); (try dsimp only))
    rw [atD (List.getElem?_eq_getElem hi')]
    have ek : why f.ups f.doors f.lots rs sd a (.door i) = unl (decide ((i : Int) ∈ sd.doors)) "shut" ++ scWhy f.ups f.doors[i].sc sd.roles a := by
      show (match f.doors[i]? with
        | some r => unl (decide ((i : Int) ∈ sd.doors)) "shut" ++ scWhy f.ups r.sc sd.roles a
        | none => []) = _
      rw [List.getElem?_eq_getElem hi']
      try rfl
    rw [ek] at k
    obtain ⟨S1, hS⟩ : ∃ S1, st ++ [Cell.lst ((K05.A f.ups a.node).map Val.int)] = S1 := ⟨_, rfl⟩
    have iu : ∀ L : List Cell, itemsOf (S1 ++ L) (.loc st.length) = some ((K05.A f.ups a.node).map Val.int) := fun L => by
      rw [← hS, List.append_assoc]
      exact itemsL look0
    ((conv => whnf); (try dsimp only))
    rw [hS]
    have u0 : (unl (decide ((i : Int) ∈ sd.doors)) "shut").length ≤ 1 := unl_len _ _
    have u1 := unl_len (decide (f.doors[i].sc.role = -1) || decide (f.doors[i].sc.role ∈ sd.roles)) "role"
    have u2 := unl_len (decide (a.verb ∈ f.doors[i].sc.verbs)) "verb"
    have u3 := unl_len (decide (f.doors[i].sc.node = a.node) || (decide (f.doors[i].sc.deep = 1) && decide (f.doors[i].sc.node ∈ K05.A f.ups a.node))) "node"
    have u4 := unl_len (decide (a.hour ∈ f.doors[i].sc.hours)) "hour"
    refine ⟨fun e' st' => e' = [some (frV f), some (rulesV rs), some (sideV sd), some (itV (.door i)), some (askV a), some (.loc st.length), some (.loc S1.length), some (.tup (scL f.doors[i].sc))] ∧ st' = S1 ++ [.lst ((unl (decide ((i : Int) ∈ sd.doors)) "shut").map Val.str)], ?_, ?_⟩
    · refine step_app (L := []) (decide ((i : Int) ∈ sd.doors)) rfl (by decide) (fun Q q => ?_) ⟨rfl, rfl⟩
      ((conv => whnf); (try dsimp only))
      refine ⟨.inl rfl, ?_⟩
      rw [q_dd]
      ((conv => whnf); (try dsimp only))
      refine ⟨rfl, flatAll_ints _, ?_⟩
      simp only [memd_ints, if_true]
      exact q
    rintro _ _ ⟨rfl, rfl⟩
    refine ⟨fun e' st' => e' = [some (frV f), some (rulesV rs), some (sideV sd), some (itV (.door i)), some (askV a), some (.loc st.length), some (.loc S1.length), some (.tup (scL f.doors[i].sc))] ∧ st' = S1 ++ [.lst ((unl (decide ((i : Int) ∈ sd.doors)) "shut" ++ unl (decide (f.doors[i].sc.role = -1) || decide (f.doors[i].sc.role ∈ sd.roles)) "role").map Val.str)], ?_, ?_⟩
    · refine step_app (decide (f.doors[i].sc.role = -1) || decide (f.doors[i].sc.role ∈ sd.roles)) rfl (by omega) (fun Q q => ?_) ⟨rfl, rfl⟩
      ((conv => whnf); (try dsimp only))
      refine ⟨.inl rfl, ?_⟩
      simp only [eqd_int, if_true]
      by_cases c : f.doors[i].sc.role = -1
      · rw [decide_eq_true c] at q ⊢
        exact q
      · rw [decide_eq_false c] at q ⊢
        ((conv => whnf); (try dsimp only))
        refine ⟨rfl, flatAll_ints _, ?_⟩
        simp only [memd_ints, if_true]
        exact q
    rintro _ _ ⟨rfl, rfl⟩
    refine ⟨fun e' st' => e' = [some (frV f), some (rulesV rs), some (sideV sd), some (itV (.door i)), some (askV a), some (.loc st.length), some (.loc S1.length), some (.tup (scL f.doors[i].sc))] ∧ st' = S1 ++ [.lst ((unl (decide ((i : Int) ∈ sd.doors)) "shut" ++ unl (decide (f.doors[i].sc.role = -1) || decide (f.doors[i].sc.role ∈ sd.roles)) "role" ++ unl (decide (a.verb ∈ f.doors[i].sc.verbs)) "verb").map Val.str)], ?_, ?_⟩
    · refine step_app (decide (a.verb ∈ f.doors[i].sc.verbs)) rfl (by simp only [List.length_append]; omega) (fun Q q => ?_) ⟨rfl, rfl⟩
      refine ⟨rfl, flatAll_ints _, ?_⟩
      simp only [memd_ints, if_true]
      exact q
    rintro _ _ ⟨rfl, rfl⟩
    refine ⟨fun e' st' => e' = [some (frV f), some (rulesV rs), some (sideV sd), some (itV (.door i)), some (askV a), some (.loc st.length), some (.loc S1.length), some (.tup (scL f.doors[i].sc))] ∧ st' = S1 ++ [.lst ((unl (decide ((i : Int) ∈ sd.doors)) "shut" ++ unl (decide (f.doors[i].sc.role = -1) || decide (f.doors[i].sc.role ∈ sd.roles)) "role" ++ unl (decide (a.verb ∈ f.doors[i].sc.verbs)) "verb" ++ unl (decide (f.doors[i].sc.node = a.node) || (decide (f.doors[i].sc.deep = 1) && decide (f.doors[i].sc.node ∈ K05.A f.ups a.node))) "node").map Val.str)], ?_, ?_⟩
    · refine step_app (decide (f.doors[i].sc.node = a.node) || (decide (f.doors[i].sc.deep = 1) && decide (f.doors[i].sc.node ∈ K05.A f.ups a.node))) rfl (by simp only [List.length_append]; omega) (fun Q q => ?_) ⟨rfl, rfl⟩
      have hd : f.doors[i].sc.deep = 0 ∨ f.doors[i].sc.deep = 1 := by
        have D := (F.doors _ (List.getElem_mem hi')).2.2.1
        have := D.2.2.2.2.2.1
        have := D.2.2.2.2.2.2.1
        omega
      have hA := A_pos (ups_tr' F) A.1 A.2
      rw [← mem_up hA hd] at q
      ((conv => whnf); (try dsimp only))
      rw [iu]
      ((conv => whnf); (try dsimp only))
      refine ⟨?_, ?_⟩
      · rcases hd with h | h
        · rw [h, List.length_map]
          unfold CMul
          have := A_cnt (f := f) (n := a.node) F
          omega
        · rw [h, List.length_map]
          unfold CMul
          have := A_cnt (f := f) (n := a.node) F
          omega
      ((conv => whnf); (try dsimp only))
      rw [show lvItems _ (LVal.at_ st.length) = _ from iu _]
      ((conv => whnf); (try dsimp only))
      rw [cut_up hA hd]
      refine ⟨rfl, flatAll_ints _, ?_⟩
      simp only [memd_ints, if_true]
      exact q
    rintro _ _ ⟨rfl, rfl⟩
    refine ⟨fun e' st' => e' = [some (frV f), some (rulesV rs), some (sideV sd), some (itV (.door i)), some (askV a), some (.loc st.length), some (.loc S1.length), some (.tup (scL f.doors[i].sc))] ∧ st' = S1 ++ [.lst ((unl (decide ((i : Int) ∈ sd.doors)) "shut" ++ unl (decide (f.doors[i].sc.role = -1) || decide (f.doors[i].sc.role ∈ sd.roles)) "role" ++ unl (decide (a.verb ∈ f.doors[i].sc.verbs)) "verb" ++ unl (decide (f.doors[i].sc.node = a.node) || (decide (f.doors[i].sc.deep = 1) && decide (f.doors[i].sc.node ∈ K05.A f.ups a.node))) "node" ++ unl (decide (a.hour ∈ f.doors[i].sc.hours)) "hour").map Val.str)], ?_, ?_⟩
    · refine step_app (decide (a.hour ∈ f.doors[i].sc.hours)) rfl (by simp only [List.length_append]; omega) (fun Q q => ?_) ⟨rfl, rfl⟩
      refine ⟨rfl, flatAll_ints _, ?_⟩
      simp only [memd_ints, if_true]
      exact q
    rintro _ _ ⟨rfl, rfl⟩
    refine ⟨fun e' st' => e' = [some (frV f), some (rulesV rs), some (sideV sd), some (itV (.door i)), some (askV a), some (.loc st.length), some (.loc S1.length), some (.tup (scL f.doors[i].sc))] ∧ st' = S1 ++ [.lst ((unl (decide ((i : Int) ∈ sd.doors)) "shut" ++ unl (decide (f.doors[i].sc.role = -1) || decide (f.doors[i].sc.role ∈ sd.roles)) "role" ++ unl (decide (a.verb ∈ f.doors[i].sc.verbs)) "verb" ++ unl (decide (f.doors[i].sc.node = a.node) || (decide (f.doors[i].sc.deep = 1) && decide (f.doors[i].sc.node ∈ K05.A f.ups a.node))) "node" ++ unl (decide (a.hour ∈ f.doors[i].sc.hours)) "hour" ++ unl (decide (a.place ∈ f.doors[i].sc.places)) "place").map Val.str)], ?_, ?_⟩
    · refine step_app (decide (a.place ∈ f.doors[i].sc.places)) rfl (by simp only [List.length_append]; omega) (fun Q q => ?_) ⟨rfl, rfl⟩
      refine ⟨rfl, flatAll_ints _, ?_⟩
      simp only [memd_ints, if_true]
      exact q
    rintro _ _ ⟨rfl, rfl⟩
    ((conv => whnf); (try dsimp only))
    rw [itemsL look0]
    ((conv => whnf); (try dsimp only))
    rw [show ∀ L : List Cell, S1 ++ L = st ++ ([Cell.lst ((K05.A f.ups a.node).map Val.int)] ++ L) from fun L => by rw [← hS, List.append_assoc]]
    have k' : P (strsV (unl (decide ((i : Int) ∈ sd.doors)) "shut" ++ unl (decide (f.doors[i].sc.role = -1) || decide (f.doors[i].sc.role ∈ sd.roles)) "role" ++ unl (decide (a.verb ∈ f.doors[i].sc.verbs)) "verb" ++ unl (decide (f.doors[i].sc.node = a.node) || (decide (f.doors[i].sc.deep = 1) && decide (f.doors[i].sc.node ∈ K05.A f.ups a.node))) "node" ++ unl (decide (a.hour ∈ f.doors[i].sc.hours)) "hour" ++ unl (decide (a.place ∈ f.doors[i].sc.places)) "place")) st := by
      rw [show unl (decide ((i : Int) ∈ sd.doors)) "shut" ++ unl (decide (f.doors[i].sc.role = -1) || decide (f.doors[i].sc.role ∈ sd.roles)) "role" ++ unl (decide (a.verb ∈ f.doors[i].sc.verbs)) "verb" ++ unl (decide (f.doors[i].sc.node = a.node) || (decide (f.doors[i].sc.deep = 1) && decide (f.doors[i].sc.node ∈ K05.A f.ups a.node))) "node" ++ unl (decide (a.hour ∈ f.doors[i].sc.hours)) "hour" ++ unl (decide (a.place ∈ f.doors[i].sc.places)) "place" = unl (decide ((i : Int) ∈ sd.doors)) "shut" ++ scWhy f.ups f.doors[i].sc sd.roles a by unfold scWhy; simp only [List.append_assoc]]
      exact k
    exact back_same (d := strsV (unl (decide ((i : Int) ∈ sd.doors)) "shut" ++ unl (decide (f.doors[i].sc.role = -1) || decide (f.doors[i].sc.role ∈ sd.roles)) "role" ++ unl (decide (a.verb ∈ f.doors[i].sc.verbs)) "verb" ++ unl (decide (f.doors[i].sc.node = a.node) || (decide (f.doors[i].sc.deep = 1) && decide (f.doors[i].sc.node ∈ K05.A f.ups a.node))) "node" ++ unl (decide (a.hour ∈ f.doors[i].sc.hours)) "hour" ++ unl (decide (a.place ∈ f.doors[i].sc.places)) "place")) _ (clVs_strs _ _) k'
  | rule i =>
    refine ⟨.inl rfl, ?_⟩
    rw [q_rl]
    ((conv => whnf); (try dsimp only))
    refine ⟨.inl rfl, ?_⟩
    rw [q_rd]
    have hi' : i < rs.length := hi
    ((conv => whnf); (try dsimp only))
    rw [atD (List.getElem?_eq_getElem hi')]
    have ek : why f.ups f.doors f.lots rs sd a (.rule i) = ([] : List Str) ++ scWhy f.ups rs[i].sc sd.roles a := by
      show (match rs[i]? with
        | some r => scWhy f.ups r.sc sd.roles a
        | none => []) = _
      rw [List.getElem?_eq_getElem hi']
      try rfl
    rw [ek] at k
    obtain ⟨S1, hS⟩ : ∃ S1, st ++ [Cell.lst ((K05.A f.ups a.node).map Val.int)] = S1 := ⟨_, rfl⟩
    have iu : ∀ L : List Cell, itemsOf (S1 ++ L) (.loc st.length) = some ((K05.A f.ups a.node).map Val.int) := fun L => by
      rw [← hS, List.append_assoc]
      exact itemsL look0
    ((conv => whnf); (try dsimp only))
    rw [hS]
    have u0 : (([] : List Str)).length ≤ 1 := by decide
    have u1 := unl_len (decide (rs[i].sc.role = -1) || decide (rs[i].sc.role ∈ sd.roles)) "role"
    have u2 := unl_len (decide (a.verb ∈ rs[i].sc.verbs)) "verb"
    have u3 := unl_len (decide (rs[i].sc.node = a.node) || (decide (rs[i].sc.deep = 1) && decide (rs[i].sc.node ∈ K05.A f.ups a.node))) "node"
    have u4 := unl_len (decide (a.hour ∈ rs[i].sc.hours)) "hour"
    refine ⟨fun e' st' => e' = [some (frV f), some (rulesV rs), some (sideV sd), some (itV (.rule i)), some (askV a), some (.loc st.length), some (.loc S1.length), some (.tup (scL rs[i].sc))] ∧ st' = S1 ++ [.lst ((([] : List Str)).map Val.str)], ?_, ?_⟩
    · ((conv => whnf); (try dsimp only))
      refine ⟨.inl rfl, ?_⟩
      rw [q_rd]
      ((conv => whnf); (try dsimp only))
      exact ⟨rfl, rfl⟩
    rintro _ _ ⟨rfl, rfl⟩
    refine ⟨fun e' st' => e' = [some (frV f), some (rulesV rs), some (sideV sd), some (itV (.rule i)), some (askV a), some (.loc st.length), some (.loc S1.length), some (.tup (scL rs[i].sc))] ∧ st' = S1 ++ [.lst ((([] : List Str) ++ unl (decide (rs[i].sc.role = -1) || decide (rs[i].sc.role ∈ sd.roles)) "role").map Val.str)], ?_, ?_⟩
    · refine step_app (decide (rs[i].sc.role = -1) || decide (rs[i].sc.role ∈ sd.roles)) rfl (by omega) (fun Q q => ?_) ⟨rfl, rfl⟩
      ((conv => whnf); (try dsimp only))
      refine ⟨.inl rfl, ?_⟩
      simp only [eqd_int, if_true]
      by_cases c : rs[i].sc.role = -1
      · rw [decide_eq_true c] at q ⊢
        exact q
      · rw [decide_eq_false c] at q ⊢
        ((conv => whnf); (try dsimp only))
        refine ⟨rfl, flatAll_ints _, ?_⟩
        simp only [memd_ints, if_true]
        exact q
    rintro _ _ ⟨rfl, rfl⟩
    refine ⟨fun e' st' => e' = [some (frV f), some (rulesV rs), some (sideV sd), some (itV (.rule i)), some (askV a), some (.loc st.length), some (.loc S1.length), some (.tup (scL rs[i].sc))] ∧ st' = S1 ++ [.lst ((([] : List Str) ++ unl (decide (rs[i].sc.role = -1) || decide (rs[i].sc.role ∈ sd.roles)) "role" ++ unl (decide (a.verb ∈ rs[i].sc.verbs)) "verb").map Val.str)], ?_, ?_⟩
    · refine step_app (decide (a.verb ∈ rs[i].sc.verbs)) rfl (by simp only [List.length_append]; omega) (fun Q q => ?_) ⟨rfl, rfl⟩
      refine ⟨rfl, flatAll_ints _, ?_⟩
      simp only [memd_ints, if_true]
      exact q
    rintro _ _ ⟨rfl, rfl⟩
    refine ⟨fun e' st' => e' = [some (frV f), some (rulesV rs), some (sideV sd), some (itV (.rule i)), some (askV a), some (.loc st.length), some (.loc S1.length), some (.tup (scL rs[i].sc))] ∧ st' = S1 ++ [.lst ((([] : List Str) ++ unl (decide (rs[i].sc.role = -1) || decide (rs[i].sc.role ∈ sd.roles)) "role" ++ unl (decide (a.verb ∈ rs[i].sc.verbs)) "verb" ++ unl (decide (rs[i].sc.node = a.node) || (decide (rs[i].sc.deep = 1) && decide (rs[i].sc.node ∈ K05.A f.ups a.node))) "node").map Val.str)], ?_, ?_⟩
    · refine step_app (decide (rs[i].sc.node = a.node) || (decide (rs[i].sc.deep = 1) && decide (rs[i].sc.node ∈ K05.A f.ups a.node))) rfl (by simp only [List.length_append]; omega) (fun Q q => ?_) ⟨rfl, rfl⟩
      have hd : rs[i].sc.deep = 0 ∨ rs[i].sc.deep = 1 := (hr.sc _ (List.getElem_mem hi')).2
      have hA := A_pos (ups_tr' F) A.1 A.2
      rw [← mem_up hA hd] at q
      ((conv => whnf); (try dsimp only))
      rw [iu]
      ((conv => whnf); (try dsimp only))
      refine ⟨?_, ?_⟩
      · rcases hd with h | h
        · rw [h, List.length_map]
          unfold CMul
          have := A_cnt (f := f) (n := a.node) F
          omega
        · rw [h, List.length_map]
          unfold CMul
          have := A_cnt (f := f) (n := a.node) F
          omega
      ((conv => whnf); (try dsimp only))
      rw [show lvItems _ (LVal.at_ st.length) = _ from iu _]
      ((conv => whnf); (try dsimp only))
      rw [cut_up hA hd]
      refine ⟨rfl, flatAll_ints _, ?_⟩
      simp only [memd_ints, if_true]
      exact q
    rintro _ _ ⟨rfl, rfl⟩
    refine ⟨fun e' st' => e' = [some (frV f), some (rulesV rs), some (sideV sd), some (itV (.rule i)), some (askV a), some (.loc st.length), some (.loc S1.length), some (.tup (scL rs[i].sc))] ∧ st' = S1 ++ [.lst ((([] : List Str) ++ unl (decide (rs[i].sc.role = -1) || decide (rs[i].sc.role ∈ sd.roles)) "role" ++ unl (decide (a.verb ∈ rs[i].sc.verbs)) "verb" ++ unl (decide (rs[i].sc.node = a.node) || (decide (rs[i].sc.deep = 1) && decide (rs[i].sc.node ∈ K05.A f.ups a.node))) "node" ++ unl (decide (a.hour ∈ rs[i].sc.hours)) "hour").map Val.str)], ?_, ?_⟩
    · refine step_app (decide (a.hour ∈ rs[i].sc.hours)) rfl (by simp only [List.length_append]; omega) (fun Q q => ?_) ⟨rfl, rfl⟩
      refine ⟨rfl, flatAll_ints _, ?_⟩
      simp only [memd_ints, if_true]
      exact q
    rintro _ _ ⟨rfl, rfl⟩
    refine ⟨fun e' st' => e' = [some (frV f), some (rulesV rs), some (sideV sd), some (itV (.rule i)), some (askV a), some (.loc st.length), some (.loc S1.length), some (.tup (scL rs[i].sc))] ∧ st' = S1 ++ [.lst ((([] : List Str) ++ unl (decide (rs[i].sc.role = -1) || decide (rs[i].sc.role ∈ sd.roles)) "role" ++ unl (decide (a.verb ∈ rs[i].sc.verbs)) "verb" ++ unl (decide (rs[i].sc.node = a.node) || (decide (rs[i].sc.deep = 1) && decide (rs[i].sc.node ∈ K05.A f.ups a.node))) "node" ++ unl (decide (a.hour ∈ rs[i].sc.hours)) "hour" ++ unl (decide (a.place ∈ rs[i].sc.places)) "place").map Val.str)], ?_, ?_⟩
    · refine step_app (decide (a.place ∈ rs[i].sc.places)) rfl (by simp only [List.length_append]; omega) (fun Q q => ?_) ⟨rfl, rfl⟩
      refine ⟨rfl, flatAll_ints _, ?_⟩
      simp only [memd_ints, if_true]
      exact q
    rintro _ _ ⟨rfl, rfl⟩
    ((conv => whnf); (try dsimp only))
    rw [itemsL look0]
    ((conv => whnf); (try dsimp only))
    rw [show ∀ L : List Cell, S1 ++ L = st ++ ([Cell.lst ((K05.A f.ups a.node).map Val.int)] ++ L) from fun L => by rw [← hS, List.append_assoc]]
    have k' : P (strsV (([] : List Str) ++ unl (decide (rs[i].sc.role = -1) || decide (rs[i].sc.role ∈ sd.roles)) "role" ++ unl (decide (a.verb ∈ rs[i].sc.verbs)) "verb" ++ unl (decide (rs[i].sc.node = a.node) || (decide (rs[i].sc.deep = 1) && decide (rs[i].sc.node ∈ K05.A f.ups a.node))) "node" ++ unl (decide (a.hour ∈ rs[i].sc.hours)) "hour" ++ unl (decide (a.place ∈ rs[i].sc.places)) "place")) st := by
      rw [show ([] : List Str) ++ unl (decide (rs[i].sc.role = -1) || decide (rs[i].sc.role ∈ sd.roles)) "role" ++ unl (decide (a.verb ∈ rs[i].sc.verbs)) "verb" ++ unl (decide (rs[i].sc.node = a.node) || (decide (rs[i].sc.deep = 1) && decide (rs[i].sc.node ∈ K05.A f.ups a.node))) "node" ++ unl (decide (a.hour ∈ rs[i].sc.hours)) "hour" ++ unl (decide (a.place ∈ rs[i].sc.places)) "place" = ([] : List Str) ++ scWhy f.ups rs[i].sc sd.roles a by unfold scWhy; simp only [List.append_assoc]]
      exact k
    exact back_same (d := strsV (([] : List Str) ++ unl (decide (rs[i].sc.role = -1) || decide (rs[i].sc.role ∈ sd.roles)) "role" ++ unl (decide (a.verb ∈ rs[i].sc.verbs)) "verb" ++ unl (decide (rs[i].sc.node = a.node) || (decide (rs[i].sc.deep = 1) && decide (rs[i].sc.node ∈ K05.A f.ups a.node))) "node" ++ unl (decide (a.hour ∈ rs[i].sc.hours)) "hour" ++ unl (decide (a.place ∈ rs[i].sc.places)) "place")) _ (clVs_strs _ _) k'
end K05

set_option Elab.async false
set_option linter.all false
set_option maxRecDepth 100000
set_option maxHeartbeats 4000000
namespace K05
open PySem L2 DL
/-- values without cells, at most n tuples deep -/
def plainD : Nat → Val → Prop
  | _, .int _ => True
  | _, .bl _ => True
  | _, .str _ => True
  | n + 1, .tup ds => ds.length ≤ 1000 ∧ ∀ d ∈ ds, plainD n d
  | _, _ => False
@[irreducible] def s__law_same (n : Nat) : DSp := fun ds st P => ∃ d, ds = [d, d] ∧ plainD n d ∧ P (.bl true) st
theorem v__law_same (n : Nat) (s : DSp) (hs : ∀ m, n = m + 1 → s = s__law_same m) (ds : List Val) (st : Store) (P : DK) (h : s__law_same n ds st P) : w__law_same s (defE st P) (startD N__law_same ds) st := by
  unfold s__law_same at h
  obtain ⟨d, rfl, hd, k⟩ := h
  have hz : sizeLine = 2 ^ 24 := rfl
  rw [e__law_same]
  unfold w__law_same
  cases d with
  | int i =>
    ((conv => whnf); (try dsimp only))
    refine ⟨.inl rfl, ?_⟩
    rw [show eqd (.int i) (.int i) = true by simp only [eqd_int, decide_true]]
    exact back0 rfl k
  | bl b =>
    ((conv => whnf); (try dsimp only))
    refine ⟨.inl rfl, ?_⟩
    rw [show eqd (.bl b) (.bl b) = true by cases b <;> rfl]
    exact back0 rfl k
  | str x =>
    ((conv => whnf); (try dsimp only))
    refine ⟨.inl rfl, ?_⟩
    rw [show eqd (.str x) (.str x) = true by simp [eqd]]
    exact back0 rfl k
  | tup xs =>
    cases n with
    | zero => exact hd.elim
    | succ n =>
      have e := hs n rfl
      subst e
      obtain ⟨hl, hp⟩ := hd
      ((conv => whnf); (try dsimp only))
      refine ⟨.inl rfl, ?_⟩
      rw [show eqd (.int (xs.length : Int)) (.int (xs.length : Int)) = true by simp only [eqd_int, decide_true]]
      ((conv => whnf); (try dsimp only))
      refine ⟨by omega, by omega, ?_⟩
      refine forD_ind (fun i e s => s = st ∧ ∃ x, e = [some (.tup xs), some (.tup xs), x]) (fun _ _ _ _ => trivial) ?_ ?_ ⟨rfl, none, rfl⟩
      · rintro i d e s hd' ⟨e0, x, rfl⟩ Nx hNx
        obtain ⟨hi, rfl⟩ := upTo_get' hd'
        rw [e0]
        refine ⟨_, rfl, ?_⟩
        have hi' : i < xs.length := by omega
        have g : atI xs (0 + (i : Int)) = some xs[i] := atI_nat (by omega) (by rw [show (0 + (i : Int)).toNat = i by omega]; exact List.getElem?_eq_getElem hi')
        ((conv => whnf); (try dsimp only))
        rw [g]
        ((conv => whnf); (try dsimp only))
        rw [g]
        ((conv => whnf); (try dsimp only))
        unfold s__law_same
        refine ⟨xs[i], rfl, hp _ (List.getElem_mem hi'), ?_⟩
        ((conv => whnf); (try dsimp only))
        exact hNx _ _ ⟨rfl, _, rfl⟩
      · rintro e s ⟨e0, x, rfl⟩
        rw [e0]
        ((conv => whnf); (try dsimp only))
        exact back0 rfl k
  | _ => exact absurd hd (by cases n <;> exact id)
end K05

set_option Elab.async false
set_option linter.all false
set_option maxRecDepth 100000
set_option maxHeartbeats 4000000
namespace K05
open PySem L2 DL
theorem plain_strs (n : Nat) (xs : List Str) (h : xs.length ≤ 1000) : plainD (n + 1) (strsV xs) := by
  refine ⟨by rw [List.length_map]; exact h, fun d hd => ?_⟩
  obtain ⟨x, _, rfl⟩ := List.mem_map.mp hd
  cases n <;> trivial
theorem scWhy_len (ups : List Int) (s : Sc) (had : List Int) (a : Ask) : (scWhy ups s had a).length ≤ 5 := by
  unfold scWhy
  simp only [List.length_append]
  have h1 := unl_len (decide (s.role = -1) || decide (s.role ∈ had)) "role"
  have h2 := unl_len (decide (a.verb ∈ s.verbs)) "verb"
  have h3 := unl_len (decide (s.node = a.node) || (decide (s.deep = 1) && decide (s.node ∈ A ups a.node))) "node"
  have h4 := unl_len (decide (a.hour ∈ s.hours)) "hour"
  have h5 := unl_len (decide (a.place ∈ s.places)) "place"
  omega
theorem why_len (ups : List Int) (doors : List Door) (lots : List Lot) (rs : List Rule) (sd : Side) (a : Ask) (it : It) : (why ups doors lots rs sd a it).length ≤ 10 := by
  unfold why
  cases it with
  | rule i =>
    dsimp only
    split
    · exact Nat.le_trans (scWhy_len ..) (by decide)
    · exact Nat.zero_le _
  | door i =>
    dsimp only
    split
    · rw [List.length_append]
      have h1 := unl_len (decide ((i : Int) ∈ sd.doors)) "shut"
      rename_i d _
      have h2 := scWhy_len ups d.sc sd.roles a
      omega
    · exact Nat.zero_le _
  | lot i =>
    dsimp only
    split
    · rename_i l _
      unfold lotWhy
      simp only [List.length_append]
      have h1 := unl_len (decide ((i : Int) ∈ sd.lots)) "unheld"
      have h2 := unl_len (decide (a.verb ∈ l.verbs)) "verb"
      have h3 := unl_len (decide (l.node ∈ A ups a.node)) "node"
      omega
    · exact Nat.zero_le _
theorem Bk.app {C : Addr} {st : Store} {L : List Cell} {b : Nat} {ups : List Int} {doors : List Door} {lots : List Lot} (B : Bk C st b ups doors lots) : Bk C (st ++ L) b ups doors lots := by
  obtain ⟨⟨fs, h1, h2⟩, t, d, l⟩ := B
  exact ⟨⟨fs, by rw [lookA (List.getElem?_eq_some_iff.mp h1).1]; exact h1, h2⟩, t, d, l⟩
@[irreducible] def s__law_items_hold (C : Addr) : DSp := fun ds st P => ∃ b f rs sd a, ds = [.loc b, frV f, rulesV rs, sideV sd, askV a] ∧ Bk C st b f.ups f.doors f.lots ∧ FrOk f ∧ RuOk rs ∧ rs.length ≤ 100 ∧ AkF f a ∧ P (.bl true) st
theorem v__law_items_hold (C : Addr) (ds : List Val) (st : Store) (P : DK) (h : s__law_items_hold C ds st P) : w__law_items_hold s__law_items (s__law_same 2) s__law_why (s_applies C) (s_reasons C) (defE st P) (startD N__law_items_hold ds) st := by
  unfold s__law_items_hold at h
  obtain ⟨b, f, rs, sd, a, rfl, B, F, hr, hl, A, k⟩ := h
  have hz : sizeLine = 2 ^ 24 := rfl
  have cL := F.cLots
  have cD := F.cDoors
  have il := itemsL_len f rs
  rw [e__law_items_hold]
  unfold w__law_items_hold
  ((conv => whnf); (try dsimp only))
  unfold s__law_items
  refine ⟨f, rs, rfl, F, by omega, ?_⟩
  ((conv => whnf); (try dsimp only))
  rw [itemsL look0]
  refine lc_maps (e := itV) (e2 := fun it => strsV (why f.ups f.doors f.lots rs sd a it)) (ok := fun s => itemsOf s (.loc st.length) = some ((itemsF f rs).map itV)) (itemsL look0) (itemsF f rs) [] (fun it hit => ⟨_, rfl, fun Q' hQ => ?_⟩) ?_
  · ((conv => whnf); (try dsimp only))
    unfold s__law_why
    exact ⟨f, rs, sd, it, a, rfl, F, hr, items_ok hit, A, hQ⟩
  rw [List.nil_append]
  ((conv => whnf); (try dsimp only))
  obtain ⟨L, hL⟩ : ∃ L : List Cell, [Cell.lst ((itemsF f rs).map itV)] ++ [Cell.lst ((itemsF f rs).map fun it => strsV (why f.ups f.doors f.lots rs sd a it))] = L := ⟨_, rfl⟩
  have i5 : itemsOf (st ++ L) (.loc st.length) = some ((itemsF f rs).map itV) := by rw [← hL]; exact itemsL look0
  have i6 : itemsOf (st ++ L) (.loc (st.length + 1)) = some ((itemsF f rs).map fun it => strsV (why f.ups f.doors f.lots rs sd a it)) := by rw [← hL]; exact itK rfl rfl
  have hN : (st ++ [Cell.lst ((itemsF f rs).map itV)]).length = st.length + 1 := by rw [List.length_append]; rfl
  rw [hN, List.append_assoc, hL, i5]
  ((conv => whnf); (try dsimp only))
  rw [List.length_map]
  refine ⟨by omega, by omega, ?_⟩
  refine forD_ind (fun i e s => s = st ++ L ∧ ∃ x, e = [some (.loc b), some (frV f), some (rulesV rs), some (sideV sd), some (askV a), some (.loc st.length), some (.loc (st.length + 1)), x, none]) (fun _ _ _ _ => trivial) ?_ ?_ ⟨rfl, none, rfl⟩
  · rintro i d e s hd ⟨e0, x, rfl⟩ Nx hNx
    obtain ⟨hi, rfl⟩ := upTo_get' hd
    rw [e0]
    refine ⟨_, rfl, ?_⟩
    have hi' : i < (itemsF f rs).length := by omega
    rw [Int.zero_add]
    have g5 := atD (f := itV) (List.getElem?_eq_getElem hi')
    have g6 := atD (f := fun it => strsV (why f.ups f.doors f.lots rs sd a it)) (List.getElem?_eq_getElem hi')
    have ok := items_ok (List.getElem_mem hi')
    ((conv => whnf); (try dsimp only))
    rw [i5]
    ((conv => whnf); (try dsimp only))
    rw [g5]
    ((conv => whnf); (try dsimp only))
    refine ⟨b, f.ups, f.doors, f.lots, rs, sd, (itemsF f rs)[i], a, ⟨rfl, B.app, hr, ok, A.1, A.2⟩, ?_⟩
    ((conv => whnf); (try dsimp only))
    rw [i6]
    ((conv => whnf); (try dsimp only))
    rw [g6]
    ((conv => whnf); (try dsimp only))
    refine ⟨.inl rfl, ?_⟩
    generalize why f.ups f.doors f.lots rs sd a (itemsF f rs)[i] = w
    have ew : (if false = true then !eqd (.int ((w.map Val.str).length : Int)) (.int 0) else eqd (.int ((w.map Val.str).length : Int)) (.int 0)) = decide (w = []) := by
      rw [if_neg (by decide), eqd_int, List.length_map]
      cases w with
      | nil => rfl
      | cons x w =>
        rw [decide_eq_false (by rw [List.length_cons]; omega), decide_eq_false (by simp)]
    rw [ew]
    unfold s__law_same
    refine ⟨.bl (decide (w = [])), rfl, trivial, ?_⟩
    ((conv => whnf); (try dsimp only))
    exact hNx _ _ ⟨rfl, _, rfl⟩
  rintro e s ⟨e0, x, rfl⟩
  rw [e0]
  ((conv => whnf); (try dsimp only))
  rw [i5]
  ((conv => whnf); (try dsimp only))
  rw [List.length_map]
  refine ⟨by omega, by omega, ?_⟩
  refine forD_ind (fun i e s => s = st ++ L ∧ ∃ x, e = [some (.loc b), some (frV f), some (rulesV rs), some (sideV sd), some (askV a), some (.loc st.length), some (.loc (st.length + 1)), x, none]) (fun _ _ _ _ => trivial) ?_ ?_ ⟨rfl, _, rfl⟩
  · rintro i d e s hd ⟨e0, x, rfl⟩ Nx hNx
    obtain ⟨hi, rfl⟩ := upTo_get' hd
    rw [e0]
    refine ⟨_, rfl, ?_⟩
    have hi' : i < (itemsF f rs).length := by omega
    rw [Int.zero_add]
    have g5 := atD (f := itV) (List.getElem?_eq_getElem hi')
    have g6 := atD (f := fun it => strsV (why f.ups f.doors f.lots rs sd a it)) (List.getElem?_eq_getElem hi')
    have ok := items_ok (List.getElem_mem hi')
    ((conv => whnf); (try dsimp only))
    rw [i5]
    ((conv => whnf); (try dsimp only))
    rw [g5]
    ((conv => whnf); (try dsimp only))
    refine ⟨b, f.ups, f.doors, f.lots, rs, sd, (itemsF f rs)[i], a, ⟨rfl, B.app, hr, ok, A.1, A.2⟩, ?_⟩
    ((conv => whnf); (try dsimp only))
    rw [i6]
    ((conv => whnf); (try dsimp only))
    rw [g6]
    ((conv => whnf); (try dsimp only))
    have wl := why_len f.ups f.doors f.lots rs sd a (itemsF f rs)[i]
    unfold s__law_same
    refine ⟨strsV (why f.ups f.doors f.lots rs sd a (itemsF f rs)[i]), rfl, plain_strs 1 _ (by omega), ?_⟩
    ((conv => whnf); (try dsimp only))
    exact hNx _ _ ⟨rfl, _, rfl⟩
  · rintro e s ⟨e0, x, rfl⟩
    rw [e0]
    ((conv => whnf); (try dsimp only))
    exact back_same _ rfl k
end K05

set_option Elab.async false
set_option linter.all false
set_option maxRecDepth 100000
set_option maxHeartbeats 4000000
namespace K05
open PySem L2 DL
/-- only cells of its own, behind st -/
def Pre (st S : Store) : Prop := ∃ L, S = st ++ L
theorem Pre.app {st S : Store} {X : List Cell} (h : Pre st S) : Pre st (S ++ X) := by
  obtain ⟨L, rfl⟩ := h
  exact ⟨L ++ X, List.append_assoc ..⟩
theorem Pre.set {st S : Store} {n : Nat} {c : Cell} (h : Pre st S) (hn : st.length ≤ n) : Pre st (S.set n c) := by
  obtain ⟨L, rfl⟩ := h
  exact ⟨L.set (n - st.length) c, by rw [List.set_append_right _ _ hn]⟩
theorem Pre.dr {st S S' : Store} {p : Nat} (h : Pre st S) (hp : st.length ≤ p) (d : Dr p S S') : Pre st S' := by
  obtain ⟨a, b, c, rfl⟩ := d
  exact h.set hp
theorem Pre.back {st S : Store} {P : DK} {d : Val} (h : Pre st S) (c : clV st.length d = true) (k : P d st) : Back st P d S := by
  obtain ⟨L, rfl⟩ := h
  exact back_same L c k
/-- the books and the frames stand -/
structure Gd (C : Addr) (st : Store) (f f2 : Fr) (rs : List Rule) (n : Nat) (S : Store) : Prop where
  pre : Pre st S
  hn : st.length ≤ n
  len : n + 4 ≤ S.length
  b1 : S[n]? = some (.obj C (bookFs f rs))
  b2 : S[n + 1]? = some (.obj C (bookFs f2 rs))
  bs : S[n + 2]? = some (.lst [.loc n, .loc (n + 1)])
  fs : S[n + 3]? = some (.lst [frV f, frV f2])
theorem Gd.app {C : Addr} {st S : Store} {f f2 : Fr} {rs : List Rule} {n : Nat} {X : List Cell} (h : Gd C st f f2 rs n S) : Gd C st f f2 rs n (S ++ X) := by
  have := h.len
  exact ⟨h.pre.app, h.hn, by rw [List.length_append]; omega, by rw [lookA (by omega)]; exact h.b1, by rw [lookA (by omega)]; exact h.b2, by rw [lookA (by omega)]; exact h.bs, by rw [lookA (by omega)]; exact h.fs⟩
theorem Gd.dr {C : Addr} {st S S' : Store} {f f2 : Fr} {rs : List Rule} {n p : Nat} (h : Gd C st f f2 rs n S) (hp : n + 4 ≤ p) (d : Dr p S S') : Gd C st f f2 rs n S' := by
  have := h.hn
  exact ⟨h.pre.dr (by omega) d, h.hn, by rw [d.len]; exact h.len, by rw [d.get (by omega)]; exact h.b1, by rw [d.get (by omega)]; exact h.b2, by rw [d.get (by omega)]; exact h.bs, by rw [d.get (by omega)]; exact h.fs⟩
theorem pool0 {S : Store} {ns : List Int} {i : Nat} {v : Int} {Q : DK} (hv : v = (i : Int)) (hi : i ≤ 100) (hl : ns.length ≤ 100) (k : ∀ a b c, Q (.loc S.length) (S ++ [poolC a b c])) : s__law_pool [.rol (ns.map Val.int), .int v] S Q := by
  subst hv
  unfold s__law_pool
  exact ⟨ns, i, rfl, hi, hl, k⟩
theorem sizes0 {S : Store} {p : Nat} {b : Int} {Q : DK} (hp : Po S p) (k : ∀ m S', MnOk m → Dr p S S' → Q (.loc S.length) (S' ++ [.lst m.l])) : s__law_sizes [.loc p, .int b] S Q := by
  unfold s__law_sizes
  exact ⟨p, b, rfl, hp, k⟩
theorem frame0 {S : Store} {p q : Nat} {m : Mn} {Q : DK} (hp : Po S p) (hm : My S p q m) (M : MnOk m) (k : ∀ f S', FrOk f → NoClash f → Dr p S S' → Q (frV f) S') : s__law_frame [.loc p, .loc q] S Q := by
  unfold s__law_frame
  exact ⟨p, q, m, rfl, hp, hm, M, k⟩
theorem rules0 {S : Store} {p : Nat} {f : Fr} {m : Int} {Q : DK} (hp : Po S p) (F : FrOk f) (m0 : 0 ≤ m) (m1 : m ≤ 30) (k : ∀ (rs : List Rule) S', (rs.length : Int) ≤ m → RsOk f rs → Dr p S S' → Q (rulesV rs) S') : s__law_rules [.loc p, frV f, .int m] S Q := by
  unfold s__law_rules
  exact ⟨p, f, m, rfl, hp, F, m0, m1, k⟩
theorem tree0 {S : Store} {p : Nat} {f : Fr} {Q : DK} (hp : Po S p) (F : FrOk f) (k : ∀ (us : List Int) S', us.length = f.ups.length - 1 → (∀ (j : Nat) (x : Int), us[j]? = some x → 0 ≤ x ∧ x < 1 + (j : Int)) → Dr p S S' → Q (frV { f with ups := -1 :: us }) S') : s__law_other_tree [.loc p, frV f] S Q := by
  unfold s__law_other_tree
  exact ⟨p, f, rfl, hp, F, k⟩
theorem other0 {S : Store} {p : Nat} {f : Fr} {rs : List Rule} {Q : DK} (hp : Po S p) (F : FrOk f) (hr : RsOk f rs) (hl : rs.length ≤ 30) (k : ∀ (rs' : List Rule) S', rs'.length = rs.length → RsOk f rs' → Dr p S S' → Q (rulesV rs') S') : s__law_other_rule [.loc p, frV f, rulesV rs] S Q := by
  unfold s__law_other_rule
  exact ⟨p, f, rs, rfl, hp, F, hr, hl, k⟩
theorem start0 {S : Store} {p : Nat} {f : Fr} {rs : List Rule} {Q : DK} (hp : Po S p) (F : FrOk f) (hr : RsOk f rs) (hl : rs.length ≤ 30) (k : ∀ sd a S', SdF f sd → AkF f a → Dr p S S' → Q (.loc S.length) (S' ++ [.lst [sideV sd, askV a]])) : s__law_start [.loc p, frV f, rulesV rs] S Q := by
  unfold s__law_start
  exact ⟨p, f, rs, rfl, hp, F, hr, hl, k⟩
theorem moved0 {S : Store} {p : Nat} {f : Fr} {sd : Side} {a : Ask} {Q : DK} (hp : Po S p) (F : FrOk f) (hs : SdF f sd) (ha : AkF f a) (k : ∀ sd' a' S', SdF f sd' → AkF f a' → Dr p S S' → Q (.loc S.length) (S' ++ [.lst [sideV sd', askV a']])) : s__law_moved [.loc p, frV f, sideV sd, askV a] S Q := by
  unfold s__law_moved
  exact ⟨p, f, sd, a, rfl, hp, F, hs, ha, k⟩
theorem hold0 {C : Addr} {S : Store} {b : Nat} {f : Fr} {rs : List Rule} {sd : Side} {a : Ask} {Q : DK} (B : Bk C S b f.ups f.doors f.lots) (F : FrOk f) (hr : RuOk rs) (hl : rs.length ≤ 100) (ha : AkF f a) (k : Q (.bl true) S) : s__law_items_hold C [.loc b, frV f, rulesV rs, sideV sd, askV a] S Q := by
  unfold s__law_items_hold
  exact ⟨b, f, rs, sd, a, rfl, B, F, hr, hl, ha, k⟩
theorem same0 {S : Store} {n : Nat} {d : Val} {Q : DK} (hd : plainD n d) (k : Q (.bl true) S) : s__law_same n [d, d] S Q := by
  unfold s__law_same
  exact ⟨d, rfl, hd, k⟩
theorem frOther {f : Fr} {us : List Int} (F : FrOk f) (hul : us.length = f.ups.length - 1) (hus : ∀ (j : Nat) (x : Int), us[j]? = some x → 0 ≤ x ∧ x < 1 + (j : Int)) : FrOk { f with ups := -1 :: us } := by
  have c := F.cUps
  have el : (-1 :: us : List Int).length = f.ups.length := by rw [List.length_cons]; omega
  have nd : ∀ x, Nd f x → Nd { f with ups := -1 :: us } x := fun x h => by
    show 0 ≤ x ∧ x < ((-1 :: us : List Int).length : Int)
    rw [el]
    exact h
  refine { nums := F.nums, cUps := ?_, cTeams := F.cTeams, cMarks := F.cMarks, cKinds := F.cKinds, cRoles := F.cRoles, cParted := F.cParted, cLots := F.cLots, cDoors := F.cDoors, cGlass := F.cGlass, cCases := F.cCases, cHomes := ?_, ups0 := rfl, ups := ?_, teams := ?_, marks := ?_, kinds := F.kinds, roles := F.roles, parted := F.parted, partedUp := F.partedUp, lots := ?_, doors := ?_, glass := ?_, cases := ?_, homes := F.homes }
  · show 1 ≤ (-1 :: us : List Int).length ∧ (-1 :: us : List Int).length ≤ 8
    rw [el]
    exact c
  · show f.homes.length = (-1 :: us : List Int).length
    rw [el]
    exact F.cHomes
  · intro i x hi hx
    obtain ⟨j, rfl⟩ := Nat.exists_eq_succ_of_ne_zero (Nat.ne_of_gt hi)
    have := hus j x (by simpa using hx)
    omega
  · intro i q hq
    have g := F.teams i q hq
    exact ⟨g.1, g.2.1, nd _ g.2.2.1, g.2.2.2⟩
  · intro q hq
    have g := F.marks q hq
    exact ⟨nd _ g.1, g.2⟩
  · intro l hl
    have g := F.lots l hl
    exact ⟨nd _ g.1, g.2⟩
  · intro d hd
    show DoorOk (hoursOf f) (placesOf f) ((-1 :: us : List Int).length : Int) f.roles.length d
    rw [el]
    exact F.doors d hd
  · intro q hq
    have g := F.glass q hq
    exact ⟨g.1, g.2.1, nd _ g.2.2⟩
  · intro i q hq
    have g := F.cases i q hq
    exact ⟨nd _ g.1, g.2⟩
theorem plain_I (n : Nat) (ns : List Int) (h : ns.length ≤ 1000) : plainD (n + 1) (tI ns) := by
  refine ⟨by rw [List.length_map]; exact h, fun d hd => ?_⟩
  obtain ⟨x, _, rfl⟩ := List.mem_map.mp hd
  cases n <;> trivial
theorem plain_i (n : Nat) (i : Int) : plainD n (.int i) := by cases n <;> trivial
theorem plain_map {α : Type} {n : Nat} {e : α → Val} {xs : List α} (hl : xs.length ≤ 1000) (h : ∀ x ∈ xs, plainD n (e x)) : plainD (n + 1) (.tup (xs.map e)) := by
  refine ⟨by rw [List.length_map]; exact hl, fun d hd => ?_⟩
  obtain ⟨x, hx, rfl⟩ := List.mem_map.mp hd
  exact h x hx
theorem plain_sc (n : Nat) {h p nn r : Int} {s : Sc} (h0 : h ≤ 10) (p0 : p ≤ 10) (hh : 0 ≤ h) (pp : 0 ≤ p) (S : ScOk h p nn r s) : ∀ d ∈ scL s, plainD (n + 1) d := by
  obtain ⟨_, _, a, _, _, _, _, b, c⟩ := S
  have la := asc_len (m := 13) a (by decide)
  have lb := asc_len (m := h) b hh
  have lc := asc_len (m := p) c pp
  intro d hd
  simp only [scL, List.mem_cons, List.not_mem_nil, or_false] at hd
  rcases hd with rfl | rfl | rfl | rfl | rfl | rfl
  · trivial
  · exact plain_I n _ (by omega)
  · trivial
  · trivial
  · exact plain_I n _ (by omega)
  · exact plain_I n _ (by omega)
theorem hp_ok {f : Fr} (F : FrOk f) : (0 ≤ hoursOf f ∧ hoursOf f ≤ 10) ∧ 0 ≤ placesOf f ∧ placesOf f ≤ 10 := by
  obtain ⟨h, p, q, a, g, l, t, e, h1, h2, _⟩ := F.nums
  unfold hoursOf placesOf
  rw [e]
  show (0 ≤ h ∧ h ≤ 10) ∧ 0 ≤ p ∧ p ≤ 10
  omega
theorem plain_rules {f : Fr} {rs : List Rule} (F : FrOk f) (R : RsOk f rs) (hl : rs.length ≤ 1000) : plainD 6 (rulesV rs) := by
  have H := hp_ok F
  refine plain_map hl fun r hr => ?_
  obtain ⟨_, _, _, _, S⟩ := R r hr
  refine ⟨by show 8 ≤ 1000; decide, fun d hd => ?_⟩
  rcases List.mem_cons.mp hd with rfl | hd
  · trivial
  rcases List.mem_cons.mp hd with rfl | hd
  · trivial
  exact plain_sc 3 H.1.2 H.2.2 H.1.1 H.2.1 S d hd
theorem plain_ints4 (n : Nat) : ∀ ds : List Val, ds.length ≤ 1000 → (∀ d ∈ ds, ∃ i, d = .int i) → plainD (n + 1) (.tup ds) := fun ds hl h => ⟨hl, fun d hd => by
  obtain ⟨i, rfl⟩ := h d hd
  exact plain_i n i⟩
theorem plain_kind (n : Nat) {q : Int × List Int} (h : q.2.length ≤ 1000) : plainD (n + 2) (kindV q) := by
  refine ⟨by show 2 ≤ 1000; decide, fun d hd => ?_⟩
  rcases List.mem_cons.mp hd with rfl | hd
  · trivial
  rw [List.mem_singleton.mp hd]
  exact plain_I n _ h
theorem plain_quad (n : Nat) (q : Int × Int × Int × Int) : plainD (n + 1) (quadV q) := plain_I n [q.1, q.2.1, q.2.2.1, q.2.2.2] (by show 4 ≤ 1000; decide)
theorem plain_trip (n : Nat) (q : Int × Int × Int) : plainD (n + 1) (tripV q) := plain_I n [q.1, q.2.1, q.2.2] (by show 3 ≤ 1000; decide)
theorem plain_pair (n : Nat) (q : Int × Int) : plainD (n + 1) (pairD q) := plain_I n [q.1, q.2] (by show 2 ≤ 1000; decide)
theorem plain_fr {f : Fr} (F : FrOk f) : plainD 6 (frV f) := by
  have H := hp_ok F
  have mk : ∀ ns, Mk f ns → ns.length ≤ 1000 := fun ns h => by
    have := asc_len h (by omega)
    have := F.cMarks
    omega
  refine ⟨by show 12 ≤ 1000; decide, fun d hd => ?_⟩
  simp only [frL, List.mem_cons, List.not_mem_nil, or_false] at hd
  rcases hd with rfl | rfl | rfl | rfl | rfl | rfl | rfl | rfl | rfl | rfl | rfl | rfl
  · obtain ⟨h, p, q, a, g, l, t, e, _⟩ := F.nums
    rw [e]
    exact plain_I _ _ (by show 7 ≤ 1000; decide)
  · exact plain_I _ _ (by have := F.cUps; omega)
  · exact plain_map (by have := F.cTeams; omega) fun q _ => plain_quad _ q
  · exact plain_map (by have := F.cMarks; omega) fun q _ => plain_quad _ q
  · exact plain_map (by have := F.cKinds; omega) fun q hq => plain_kind _ (mk _ (F.kinds q hq).2)
  · refine plain_map (by have := F.cRoles; omega) fun cs hcs => ?_
    obtain ⟨i, hi⟩ := List.mem_iff_getElem?.mp hcs
    obtain ⟨⟨_, c3⟩, hc⟩ := F.roles i cs hi
    refine plain_map (by omega) fun c hm => ?_
    obtain ⟨_, _, m1, m2, _⟩ := hc c hm
    refine ⟨by show 5 ≤ 1000; decide, fun d hd => ?_⟩
    simp only [List.mem_cons, List.not_mem_nil, or_false] at hd
    rcases hd with rfl | rfl | rfl | rfl | rfl
    · trivial
    · trivial
    · exact plain_I _ _ (mk _ m1)
    · exact plain_I _ _ (mk _ m2)
    · trivial
  · exact plain_map (by have := F.cParted; omega) fun q _ => plain_pair _ q
  · refine plain_map (by have := F.cLots; omega) fun l hl => ?_
    obtain ⟨_, a, _, _, _, _, _, lp, _⟩ := F.lots l hl
    have la := asc_len (m := 13) a (by decide)
    refine ⟨by show 8 ≤ 1000; decide, fun d hd => ?_⟩
    simp only [List.mem_cons, List.not_mem_nil, or_false] at hd
    rcases hd with rfl | rfl | rfl | rfl | rfl | rfl | rfl | rfl
    · trivial
    · exact plain_I _ _ (by omega)
    · trivial
    · trivial
    · trivial
    · trivial
    · trivial
    · exact plain_map (by omega) fun q _ => plain_pair _ q
  · refine plain_map (by have := F.cDoors; omega) fun g hg => ?_
    obtain ⟨_, _, S, _⟩ := F.doors g hg
    refine ⟨by show 8 ≤ 1000; decide, fun d hd => ?_⟩
    rcases List.mem_cons.mp hd with rfl | hd
    · trivial
    rcases List.mem_append.mp hd with hd | hd
    · exact plain_sc 2 H.1.2 H.2.2 H.1.1 H.2.1 S d hd
    · rw [List.mem_singleton.mp hd]
      trivial
  · exact plain_map (by have := F.cGlass; omega) fun q _ => plain_trip _ q
  · refine plain_map (by have := F.cCases; omega) fun q hq => ?_
    obtain ⟨i, hi⟩ := List.mem_iff_getElem?.mp hq
    obtain ⟨_, ⟨_, c3⟩, _⟩ := F.cases i q hi
    exact plain_kind _ (by omega)
  · exact plain_I _ _ (by have := F.cHomes; have := F.cUps; omega)
theorem tr_fr {f : Fr} (F : FrOk f) : Tr f.ups := by
  intro i hi
  have e := List.getElem?_eq_getElem hi
  by_cases h0 : i = 0
  · subst h0
    have := F.ups0
    rw [e] at this
    have := Option.some.inj this
    omega
  · have := F.ups i _ (by omega) e
    omega
theorem bk_fr {C : Addr} {S : Store} {b : Nat} {f : Fr} {rs : List Rule} (F : FrOk f) (h : S[b]? = some (.obj C (bookFs f rs))) : Bk C S b f.ups f.doors f.lots := by
  refine ⟨⟨_, h, book_parents f rs, book_doors f rs, book_lots f rs⟩, tr_fr F, fun d hd => ?_, fun l hl => ?_⟩
  · obtain ⟨_, _, ⟨_, _, _, a, _, b, c, _⟩, _⟩ := F.doors d hd
    exact ⟨a, by omega⟩
  · obtain ⟨⟨a, _⟩, _⟩ := F.lots l hl
    exact a
theorem My.set {s : Store} {p q : Nat} {m m' : Mn} {ds : List Val} (h : My s p q m) (e : ds = m'.l) : My (s.set q (.lst ds)) p q m' := by
  subst e
  exact ⟨List.getElem?_set_self (List.getElem?_eq_some_iff.mp h.1).1, h.2⟩
theorem Po.set {s : Store} {p q : Nat} {c : Cell} (h : Po s p) (hq : q ≠ p) : Po (s.set q c) p := by
  obtain ⟨a, b, c', e⟩ := h
  exact ⟨a, b, c', by rw [List.getElem?_set_ne hq]; exact e⟩
@[irreducible] def s_law : DSp := fun ds st P => ∃ ns : List Int, ds = [.rol (ns.map Val.int)] ∧ ns.length ≤ 100 ∧ P (.bl true) st
theorem v_law (C : Addr) (ds : List Val) (st : Store) (P : DK) (h : s_law ds st P) : w_law C s__law_draw s__law_frame (s__law_items_hold C) s__law_moved s__law_other_rule s__law_other_tree s__law_pool s__law_rules (s__law_same 6) s__law_sizes s__law_start (s_Book___init__ C) (defE st P) (startD N_law ds) st := by
  unfold s_law at h
  obtain ⟨ns, rfl, hl, k⟩ := h
  have hz : sizeLine = 2 ^ 24 := rfl
  rw [e_law]
  unfold w_law
  ((conv => whnf); (try dsimp only))
  refine pool0 (i := 0) rfl (by decide) hl fun a b c => ?_
  have p0 : Po (st ++ [poolC a b c]) st.length := ⟨a, b, c, look0⟩
  have e0 : Pre st (st ++ [poolC a b c]) := ⟨_, rfl⟩
  have l0 : (st ++ [poolC a b c]).length = st.length + 1 := by rw [List.length_append]; rfl
  generalize st ++ [poolC a b c] = S0 at p0 e0 l0 ⊢
  ((conv => whnf); (try dsimp only))
  refine draw0 p0 (by decide) (by decide) fun w S1 w0 w1 d1 => ?_
  ((conv => whnf); (try dsimp only))
  refine ⟨.inl rfl, ?_⟩
  ((conv => whnf); (try dsimp only))
  refine sizes0 (d1.po p0) fun m S2 M d2' => ?_
  have d2 := d1.trans d2'
  rw [d1.len, l0]
  have p3 : Po (S2 ++ [Cell.lst m.l]) st.length := (d2.po p0).app
  have e3 : Pre st (S2 ++ [Cell.lst m.l]) := (e0.dr (Nat.le_refl _) d2).app
  have l3 : (S2 ++ [Cell.lst m.l]).length = st.length + 2 := by rw [List.length_append, d2.len, l0]; rfl
  have y3 : My (S2 ++ [Cell.lst m.l]) st.length (st.length + 1) m := ⟨by rw [show st.length + 1 = S2.length by rw [d2.len, l0]]; exact look0, by omega⟩
  generalize S2 ++ [Cell.lst m.l] = S3 at p3 e3 l3 y3 ⊢
  clear d1 d2 d2' e0 p0 l0 S0 S1 S2
  ((conv => whnf); (try dsimp only))
  refine ⟨fun env s => ∃ m x, Po s st.length ∧ Pre st s ∧ s.length = st.length + 2 ∧ My s st.length (st.length + 1) m ∧ MnOk m ∧ env = [some (.rol (ns.map Val.int)), some (.loc st.length), some (.loc (st.length + 1)), x, none, none, none, none, none, none, none, none, none, none, none, none, none], ?_, ?_⟩
  · ((conv => whnf); (try dsimp only))
    refine draw0 p3 (by decide) (by decide) fun w4 S4 _ _ d4 => ?_
    ((conv => whnf); (try dsimp only))
    have p4 := d4.po p3
    have e4 := e3.dr (Nat.le_refl _) d4
    have l4 : S4.length = st.length + 2 := by rw [d4.len, l3]
    have y4 := y3.dr d4
    by_cases c : 0 < w4
    · rw [decide_eq_true c]
      ((conv => whnf); (try dsimp only))
      refine ⟨by show 3 ≤ sizeLine; decide, ?_⟩
      show forD _ _ _ _ [Val.int 3, Val.int 10, Val.int 12] _ _
      refine forD_ind (fun i e s => ∃ m x, Po s st.length ∧ Pre st s ∧ s.length = st.length + 2 ∧ My s st.length (st.length + 1) m ∧ MnOk m ∧ e = [some (.rol (ns.map Val.int)), some (.loc st.length), some (.loc (st.length + 1)), x, none, none, none, none, none, none, none, none, none, none, none, none, none]) (fun _ _ _ _ => rfl) ?_ ?_ ⟨m, _, p4, e4, l4, y4, M, rfl⟩
      · rintro i d e s hd ⟨m, x, p, e0, l, y, M, rfl⟩ N hN
        match i, hd with
        | 0, hd =>
          cases hd
          refine ⟨_, rfl, ?_⟩
          ((conv => whnf); (try dsimp only))
          rw [y.it0]
          ((conv => whnf); (try dsimp only))
          refine ⟨.inl rfl, ?_⟩
          rw [show (if false = true then !eqd (Val.int 3) (Val.int 3) else eqd (Val.int 3) (Val.int 3)) = true by rw [if_neg (by decide), eqd_int]; rfl]
          ((conv => whnf); (try dsimp only))
          rw [y.1]
          ((conv => whnf); (try dsimp only))
          refine hN _ _ ⟨{ m with m3 := if (1 + if true = true then 1 else 0) > m.m3 then 1 + if true = true then 1 else 0 else m.m3 }, _, p.set y.2, e0.set (by omega), by rw [List.length_set]; exact l, y.set rfl, { h0 := M.h0, h1 := M.h1, h2 := M.h2, h4 := M.h4, h5 := M.h5, h6 := M.h6, h7 := M.h7, h8 := M.h8, h9 := M.h9, h10 := M.h10, h11 := M.h11, h12 := M.h12, h13 := M.h13, h14 := M.h14, h3 := ?_ }, rfl⟩
          have := M.h3
          show _ ≤ (if (1 + 1 : Int) > m.m3 then (1 + 1 : Int) else m.m3) ∧ (if (1 + 1 : Int) > m.m3 then (1 + 1 : Int) else m.m3) ≤ _
          split <;> omega
        | 1, hd =>
          cases hd
          refine ⟨_, rfl, ?_⟩
          ((conv => whnf); (try dsimp only))
          rw [y.it0]
          ((conv => whnf); (try dsimp only))
          refine ⟨.inl rfl, ?_⟩
          rw [show (if false = true then !eqd (Val.int 10) (Val.int 3) else eqd (Val.int 10) (Val.int 3)) = false by rw [if_neg (by decide), eqd_int]; rfl]
          ((conv => whnf); (try dsimp only))
          rw [y.1]
          ((conv => whnf); (try dsimp only))
          refine hN _ _ ⟨{ m with m10 := if (1 + if false = true then 1 else 0) > m.m10 then 1 + if false = true then 1 else 0 else m.m10 }, _, p.set y.2, e0.set (by omega), by rw [List.length_set]; exact l, y.set rfl, { h0 := M.h0, h1 := M.h1, h2 := M.h2, h3 := M.h3, h4 := M.h4, h5 := M.h5, h6 := M.h6, h7 := M.h7, h8 := M.h8, h9 := M.h9, h11 := M.h11, h12 := M.h12, h13 := M.h13, h14 := M.h14, h10 := ?_ }, rfl⟩
          have := M.h10
          show _ ≤ (if (1 + 0 : Int) > m.m10 then (1 + 0 : Int) else m.m10) ∧ (if (1 + 0 : Int) > m.m10 then (1 + 0 : Int) else m.m10) ≤ _
          split <;> omega
        | 2, hd =>
          cases hd
          refine ⟨_, rfl, ?_⟩
          ((conv => whnf); (try dsimp only))
          rw [y.it0]
          ((conv => whnf); (try dsimp only))
          refine ⟨.inl rfl, ?_⟩
          rw [show (if false = true then !eqd (Val.int 12) (Val.int 3) else eqd (Val.int 12) (Val.int 3)) = false by rw [if_neg (by decide), eqd_int]; rfl]
          ((conv => whnf); (try dsimp only))
          rw [y.1]
          ((conv => whnf); (try dsimp only))
          refine hN _ _ ⟨{ m with m12 := if (1 + if false = true then 1 else 0) > m.m12 then 1 + if false = true then 1 else 0 else m.m12 }, _, p.set y.2, e0.set (by omega), by rw [List.length_set]; exact l, y.set rfl, { h0 := M.h0, h1 := M.h1, h2 := M.h2, h3 := M.h3, h4 := M.h4, h5 := M.h5, h6 := M.h6, h7 := M.h7, h8 := M.h8, h9 := M.h9, h10 := M.h10, h11 := M.h11, h13 := M.h13, h14 := M.h14, h12 := ?_ }, rfl⟩
          have := M.h12
          show _ ≤ (if (1 + 0 : Int) > m.m12 then (1 + 0 : Int) else m.m12) ∧ (if (1 + 0 : Int) > m.m12 then (1 + 0 : Int) else m.m12) ≤ _
          split <;> omega
      · rintro e s h
        exact h
    · rw [decide_eq_false c]
      ((conv => whnf); (try dsimp only))
      exact ⟨m, _, p4, e4, l4, y4, M, rfl⟩
  clear p3 e3 l3 y3 M m S3
  rintro env S3 ⟨m, x3, p3, e3, l3, y3, M, rfl⟩
  ((conv => whnf); (try dsimp only))
  refine frame0 p3 y3 M fun f S4 F nc d4 => ?_
  have p4 := d4.po p3
  have e4 := e3.dr (Nat.le_refl _) d4
  ((conv => whnf); (try dsimp only))
  refine rules0 p4 F (by decide) (by decide) fun rs S5 hr1 hr2 d5 => ?_
  have p5 := d5.po p4
  have e5 := e4.dr (Nat.le_refl _) d5
  ((conv => whnf); (try dsimp only))
  refine pool0 (i := 1) rfl (by decide) hl fun a b c => ?_
  have p6 : Po (S5 ++ [poolC a b c]) S5.length := ⟨a, b, c, look0⟩
  have e6 : Pre st (S5 ++ [poolC a b c]) := e5.app
  have l6 : st.length ≤ S5.length := by
    obtain ⟨L, e⟩ := e5
    rw [e, List.length_append]
    omega
  obtain ⟨p, hp⟩ : ∃ p, S5.length = p := ⟨_, rfl⟩
  rw [hp] at p6 l6 ⊢
  generalize S5 ++ [poolC a b c] = S6 at p6 e6 ⊢
  ((conv => whnf); (try dsimp only))
  refine ⟨fun env s => ∃ rl : List Rule, Po s p ∧ Pre st s ∧ RsOk f rl ∧ rl.length ≤ 30 ∧ p < s.length ∧ env = [some (.rol (ns.map Val.int)), some (.loc p), some (.loc (st.length + 1)), x3, some (frV f), some (rulesV rs), some (rulesV rl), none, none, none, none, none, none, none, none, none, none], ?_, ?_⟩
  · ((conv => whnf); (try dsimp only))
    refine draw0 p6 (by decide) (by decide) fun w7 S7 _ _ d7 => ?_
    ((conv => whnf); (try dsimp only))
    have p7 := d7.po p6
    have e7 := e6.dr l6 d7
    refine ⟨.inl rfl, ?_⟩
    simp only [eqd_int]
    by_cases c : w7 = 0
    · rw [decide_eq_true c]
      ((conv => whnf); (try dsimp only))
      refine rules0 p7 F (by decide) (by decide) fun rl S8 hl1 hl2 d8 => ?_
      ((conv => whnf); (try dsimp only))
      exact ⟨rl, d8.po p7, e7.dr l6 d8, hl2, by omega, (d8.po p7).lt, rfl⟩
    · rw [decide_eq_false c]
      ((conv => whnf); (try dsimp only))
      exact ⟨rs, p7, e7, hr2, by omega, p7.lt, rfl⟩
  rintro env S6 ⟨rl, p6, e6, hrl, hrll, lp, rfl⟩
  ((conv => whnf); (try dsimp only))
  refine tree0 p6 F fun us S7 hul hus d7 => ?_
  have p7 := d7.po p6
  have e7 := e6.dr l6 d7
  have F2 := frOther F hul hus
  have nc2 : NoClash { f with ups := -1 :: us } := nc
  have cu2 : (-1 :: us : List Int).length = f.ups.length := by
    have := F.cUps
    rw [List.length_cons]
    omega
  have hr3 : RsOk { f with ups := -1 :: us } rs := fun r h => by
    show RuleOk (hoursOf f) (placesOf f) ((-1 :: us : List Int).length : Int) f.roles.length r
    rw [cu2]
    exact hr2 r h
  obtain ⟨f2, hf2⟩ : ∃ f2 : Fr, { f with ups := -1 :: us } = f2 := ⟨_, rfl⟩
  rw [hf2] at F2 nc2 hr3 ⊢
  ((conv => whnf); (try dsimp only))
  refine ⟨S7.length, f, rs, rfl, look0, F, nc, hr2, by omega, rfl, ?_⟩
  rw [set0]
  ((conv => whnf); (try dsimp only))
  refine ⟨_, f2, rs, rfl, look0, F2, nc2, hr3, by omega, rfl, ?_⟩
  rw [set0]
  ((conv => whnf); (try dsimp only))
  refine ⟨by show 2 ≤ sizeLine; decide, ?_⟩
  ((conv => whnf); (try dsimp only))
  refine ⟨by show 2 ≤ sizeLine; decide, ?_⟩
  ((conv => whnf); (try dsimp only))
  have hn7 : st.length ≤ S7.length := by
    obtain ⟨L, e⟩ := e7
    rw [e, List.length_append]
    omega
  have hG : Gd C st f f2 rs S7.length (S7 ++ ([Cell.obj C (bookFs f rs)] ++ [Cell.obj C (bookFs f2 rs)] ++ [Cell.lst [.loc S7.length, .loc (S7.length + 1)]] ++ [Cell.lst [frV f, frV f2]])) := by
    refine ⟨e7.app, hn7, by rw [List.length_append]; show S7.length + 4 ≤ S7.length + 4; omega, ?_, ?_, ?_, ?_⟩
    · exact look0
    · exact lookK (k := 1)
    · exact lookK (k := 2)
    · exact lookK (k := 3)
  have h1 : (S7 ++ [Cell.obj C (bookFs f rs)]).length = S7.length + 1 := by rw [List.length_append]; rfl
  have h2 : (S7 ++ [Cell.obj C (bookFs f rs)] ++ [Cell.obj C (bookFs f2 rs)]).length = S7.length + 2 := by rw [List.length_append, h1]; rfl
  have h3 : ∀ X, (S7 ++ [Cell.obj C (bookFs f rs)] ++ [Cell.obj C (bookFs f2 rs)] ++ [X]).length = S7.length + 3 := fun X => by rw [List.length_append, h2]; rfl
  refine ⟨by decide, by decide, ?_⟩
  rw [h3, h2, h1, List.append_assoc, List.append_assoc, List.append_assoc]
  refine forD_ind (fun i e s => Gd C st f f2 rs S7.length s ∧ ∃ x1 x10 x11 x12 x13 x14 x15 x16, e = [some (.rol (ns.map Val.int)), x1, some (.loc (st.length + 1)), x3, some (frV f), some (rulesV rs), some (rulesV rl), some (frV f2), some (.loc (S7.length + 2)), some (.loc (S7.length + 3)), x10, x11, x12, x13, x14, x15, x16]) (fun _ _ _ _ => trivial) ?_ ?_ ⟨?_, _, _, _, _, _, _, _, _, rfl⟩
  · rintro i d e s hd ⟨G0, x1, x10, x11, x12, x13, x14, x15, x16, rfl⟩ Nx hNx
    obtain ⟨hi, rfl⟩ := upTo_get' hd
    have hi3 : i < 3 := hi
    refine ⟨_, rfl, ?_⟩
    ((conv => whnf); (try dsimp only))
    refine pool0 (i := 2 + i) (by omega) (by omega) hl fun a b c => ?_
    have q0 : Po (s ++ [poolC a b c]) s.length := ⟨a, b, c, look0⟩
    have G1 : Gd C st f f2 rs S7.length (s ++ [poolC a b c]) := G0.app
    have hq : S7.length + 4 ≤ s.length := G0.len
    generalize s ++ [poolC a b c] = s1 at q0 G1 ⊢
    generalize s.length = q at q0 hq ⊢
    clear G0 s
    ((conv => whnf); (try dsimp only))
    refine start0 q0 F hrl hrll fun sd ak s2 S A d2 => ?_
    have q2 := d2.po q0
    have G2 := G1.dr hq d2
    ((conv => whnf); (try dsimp only))
    rw [show s1.length = s2.length from d2.len.symm, itemsL look0]
    ((conv => whnf); (try dsimp only))
    refine draw q2 (by decide) (by decide) fun z1 s3 z1a z1b d3 => ?_
    have q3 := d3.po q2
    have G3 := G2.dr hq d3
    ((conv => whnf); (try dsimp only))
    refine draw q3 (by decide) (by decide) fun z2 s4 z2a z2b d4 => ?_
    have q4 := d4.po q3
    have G4 := G3.dr hq d4
    ((conv => whnf); (try dsimp only))
    refine ⟨by show 1 ≤ sizeLine; decide, ?_⟩
    ((conv => whnf); (try dsimp only))
    refine draw q4 (by decide) (by decide) fun z3 s5 z3a z3b d5 => ?_
    have q5 := d5.po q4
    have G5 := G4.dr hq d5
    ((conv => whnf); (try dsimp only))
    refine ⟨by show 1 ≤ sizeLine; decide, ?_⟩
    ((conv => whnf); (try dsimp only))
    refine ⟨by show 1 ≤ sizeLine; decide, ?_⟩
    ((conv => whnf); (try dsimp only))
    refine ⟨by show 8 ≤ sizeLine; decide, ?_⟩
    ((conv => whnf); (try dsimp only))
    refine ⟨by show 1 ≤ sizeLine; decide, ?_⟩
    obtain ⟨sure, hsure⟩ : ∃ sure : Rule, sure = ⟨z1, z2, ⟨-1, [ak.verb], ak.node, z3, [ak.hour], [ak.place]⟩⟩ := ⟨_, rfl⟩
    have esure : Val.tup [Val.int z1, Val.int z2, Val.int (-1), Val.tup [Val.int ak.verb], Val.int ak.node, Val.int z3, Val.tup [Val.int ak.hour], Val.tup [Val.int ak.place]] = ruleV sure := by rw [hsure]; rfl
    have osure : 0 ≤ sure.sc.node ∧ (sure.sc.deep = 0 ∨ sure.sc.deep = 1) := by
      rw [hsure]
      exact ⟨A.1, by show z3 = 0 ∨ z3 = 1; omega⟩
    rw [esure]
    clear hsure
    ((conv => whnf); (try dsimp only))
    refine ⟨by rw [List.length_map]; show _ + 1 ≤ _; omega, ?_⟩
    ((conv => whnf); (try dsimp only))
    refine other0 q5.app F hrl hrll fun ro s6' hro1 hro2 d6' => ?_
    obtain ⟨s6, rfl, d6⟩ := d6'.app q5.lt
    have q6 := d6.po q5
    have G6 := G5.dr hq d6
    ((conv => whnf); (try dsimp only))
    refine ⟨by show 1 ≤ sizeLine; decide, ?_⟩
    ((conv => whnf); (try dsimp only))
    refine ⟨by rw [List.length_map]; show _ + 1 ≤ _; omega, ?_⟩
    ((conv => whnf); (try dsimp only))
    refine ⟨by show 3 ≤ sizeLine; decide, ?_⟩
    have er : [Val.tup (rl.map ruleV ++ [ruleV sure]), Val.tup (ro.map ruleV ++ [ruleV sure]), rulesV rl] = [rulesV (rl ++ [sure]), rulesV (ro ++ [sure]), rulesV rl] := by
      unfold rulesV
      rw [List.map_append, List.map_append]
      rfl
    have ofR : ∀ rs', RsOk f rs' → RuOk rs' := fun rs' h => ⟨fun r hr => by
      obtain ⟨_, _, _, _, _, _, _, a4, _, a6, a7, _⟩ := h r hr
      exact ⟨a4, by omega⟩⟩
    have ofS : ∀ rs', RuOk rs' → RuOk (rs' ++ [sure]) := fun rs' h => ⟨fun r hr => by
      rcases List.mem_append.mp hr with hr | hr
      · exact h.sc r hr
      · rw [List.mem_singleton.mp hr]
        exact osure⟩
    have ka : RuOk (rl ++ [sure]) ∧ (rl ++ [sure]).length ≤ 100 := ⟨ofS _ (ofR _ hrl), by rw [List.length_append]; show _ + 1 ≤ _; omega⟩
    have kb : RuOk (ro ++ [sure]) ∧ (ro ++ [sure]).length ≤ 100 := ⟨ofS _ (ofR _ hro2), by rw [List.length_append]; show _ + 1 ≤ _; omega⟩
    have kc : RuOk rl ∧ rl.length ≤ 100 := ⟨ofR _ hrl, by omega⟩
    rw [er]
    generalize rl ++ [sure] = ra at ka
    generalize ro ++ [sure] = rb at kb
    have q6l := q6.lt
    have e2l : s2.length = s6.length := by rw [d6.len, d5.len, d4.len, d3.len]
    obtain ⟨s7, hs7⟩ : ∃ s7, s6 ++ [Cell.lst [sideV sd, askV ak]] ++ [Cell.lst [rulesV ra, rulesV rb, rulesV rl]] = s7 := ⟨_, rfl⟩
    have q7 : Po s7 q := by rw [← hs7]; exact q6.app.app
    have G7 : Gd C st f f2 rs S7.length s7 := by rw [← hs7]; exact G6.app.app
    have r7 : s7[s6.length + 1]? = some (.lst [rulesV ra, rulesV rb, rulesV rl]) := by
      rw [← hs7, List.append_assoc]
      exact lookK (k := 1)
    have b7 : s7[s6.length]? = some (.lst [sideV sd, askV ak]) := by
      rw [← hs7, List.append_assoc]
      exact look0
    have l7 : s6.length + 1 < s7.length := (List.getElem?_eq_some_iff.mp r7).1
    have hkr : s6.length + 1 ≠ q := by omega
    have hlr : (s6 ++ [Cell.lst [sideV sd, askV ak]]).length = s6.length + 1 := by rw [List.length_append]; rfl
    rw [hlr, hs7, e2l]
    have hqs : q < s6.length := q6l
    generalize s6.length = nb at r7 b7 hkr l7 hqs
    ((conv => whnf); (try dsimp only))
    refine ⟨by show (3 : Int) ≤ sizeLine; decide, by decide, ?_⟩
    refine forD_ind (fun i e s => Gd C st f f2 rs S7.length s ∧ Po s q ∧ s[nb + 1]? = some (.lst [rulesV ra, rulesV rb, rulesV rl]) ∧ nb + 1 < s.length ∧ ∃ b sd ak x10 x12 x13 x15 x16, s[b]? = some (.lst [sideV sd, askV ak]) ∧ SdF f sd ∧ AkF f ak ∧ e = [some (.rol (ns.map Val.int)), some (.loc q), some (.loc (st.length + 1)), x3, some (frV f), some (rulesV rs), some (rulesV rl), some (frV f2), some (.loc (S7.length + 2)), some (.loc (S7.length + 3)), x10, some (.loc b), x12, x13, some (.loc (nb + 1)), x15, x16]) (fun _ _ _ _ => trivial) ?_ ?_ ⟨G7, q7, r7, l7, nb, sd, ak, _, _, _, _, _, b7, S, A, rfl⟩
    · rintro j d e s hd ⟨G, qq, r, lr, b, sd, ak, x10, x12, x13, x15, x16, hb, S, A, rfl⟩ N hN
      obtain ⟨hj, rfl⟩ := upTo_get' hd
      refine ⟨_, rfl, ?_⟩
      have c2 : f2.ups.length = f.ups.length := by rw [← hf2]; exact cu2
      have A2 : AkF f2 ak := by
        unfold AkF
        rw [c2]
        exact A
      ((conv => whnf); (try dsimp only))
      refine ⟨by show 2 ≤ sizeLine; decide, ?_⟩
      ((conv => whnf); (try dsimp only))
      refine ⟨by show 2 ≤ sizeLine; decide, ?_⟩
      ((conv => whnf); (try dsimp only))
      refine ⟨by show 2 ≤ sizeLine; decide, ?_⟩
      ((conv => whnf); (try dsimp only))
      refine ⟨by show 2 ≤ sizeLine; decide, ?_⟩
      ((conv => whnf); (try dsimp only))
      refine ⟨by show 2 ≤ sizeLine; decide, ?_⟩
      ((conv => whnf); (try dsimp only))
      refine ⟨by show 5 ≤ sizeLine; decide, ?_⟩
      show forD _ _ _ _ [Val.tup [Val.int 0, Val.int 0], Val.tup [Val.int 1, Val.int 1], Val.tup [Val.int 0, Val.int 1], Val.tup [Val.int 0, Val.int 2], Val.tup [Val.int 0, Val.int 0]] _ _
      refine forD_ind (fun i e s' => s' = s ∧ ∃ x16, e = [some (.rol (ns.map Val.int)), some (.loc q), some (.loc (st.length + 1)), x3, some (frV f), some (rulesV rs), some (rulesV rl), some (frV f2), some (.loc (S7.length + 2)), some (.loc (S7.length + 3)), x10, some (.loc b), x12, x13, some (.loc (nb + 1)), some (.int (0 + (j : Int))), x16]) (fun _ _ _ _ => rfl) ?_ ?_ ⟨rfl, _, rfl⟩
      · rintro i d e s' hd ⟨e0, x16, rfl⟩ N2 hN2
        subst e0
        match i, hd with
        | 0, hd =>
          cases hd
          refine ⟨_, rfl, ?_⟩
          ((conv => whnf); (try dsimp only))
          rw [itemsL G.bs]
          ((conv => whnf); (try dsimp only))
          rw [itemsL G.fs]
          ((conv => whnf); (try dsimp only))
          rw [itemsL r]
          ((conv => whnf); (try dsimp only))
          rw [itemsL hb]
          ((conv => whnf); (try dsimp only))
          rw [itemsL hb]
          ((conv => whnf); (try dsimp only))
          refine hold0 (bk_fr F G.b1) F ka.1 ka.2 A ?_
          ((conv => whnf); (try dsimp only))
          exact hN2 _ _ ⟨rfl, _, rfl⟩
        | 1, hd =>
          cases hd
          refine ⟨_, rfl, ?_⟩
          ((conv => whnf); (try dsimp only))
          rw [itemsL G.bs]
          ((conv => whnf); (try dsimp only))
          rw [itemsL G.fs]
          ((conv => whnf); (try dsimp only))
          rw [itemsL r]
          ((conv => whnf); (try dsimp only))
          rw [itemsL hb]
          ((conv => whnf); (try dsimp only))
          rw [itemsL hb]
          ((conv => whnf); (try dsimp only))
          refine hold0 (bk_fr F2 G.b2) F2 kb.1 kb.2 A2 ?_
          ((conv => whnf); (try dsimp only))
          exact hN2 _ _ ⟨rfl, _, rfl⟩
        | 2, hd =>
          cases hd
          refine ⟨_, rfl, ?_⟩
          ((conv => whnf); (try dsimp only))
          rw [itemsL G.bs]
          ((conv => whnf); (try dsimp only))
          rw [itemsL G.fs]
          ((conv => whnf); (try dsimp only))
          rw [itemsL r]
          ((conv => whnf); (try dsimp only))
          rw [itemsL hb]
          ((conv => whnf); (try dsimp only))
          rw [itemsL hb]
          ((conv => whnf); (try dsimp only))
          refine hold0 (bk_fr F G.b1) F kb.1 kb.2 A ?_
          ((conv => whnf); (try dsimp only))
          exact hN2 _ _ ⟨rfl, _, rfl⟩
        | 3, hd =>
          cases hd
          refine ⟨_, rfl, ?_⟩
          ((conv => whnf); (try dsimp only))
          rw [itemsL G.bs]
          ((conv => whnf); (try dsimp only))
          rw [itemsL G.fs]
          ((conv => whnf); (try dsimp only))
          rw [itemsL r]
          ((conv => whnf); (try dsimp only))
          rw [itemsL hb]
          ((conv => whnf); (try dsimp only))
          rw [itemsL hb]
          ((conv => whnf); (try dsimp only))
          refine hold0 (bk_fr F G.b1) F kc.1 kc.2 A ?_
          ((conv => whnf); (try dsimp only))
          exact hN2 _ _ ⟨rfl, _, rfl⟩
        | 4, hd =>
          cases hd
          refine ⟨_, rfl, ?_⟩
          ((conv => whnf); (try dsimp only))
          rw [itemsL G.bs]
          ((conv => whnf); (try dsimp only))
          rw [itemsL G.fs]
          ((conv => whnf); (try dsimp only))
          rw [itemsL r]
          ((conv => whnf); (try dsimp only))
          rw [itemsL hb]
          ((conv => whnf); (try dsimp only))
          rw [itemsL hb]
          ((conv => whnf); (try dsimp only))
          refine hold0 (bk_fr F G.b1) F ka.1 ka.2 A ?_
          ((conv => whnf); (try dsimp only))
          exact hN2 _ _ ⟨rfl, _, rfl⟩
      · rintro e s' ⟨e0, x16, rfl⟩
        subst e0
        ((conv => whnf); (try dsimp only))
        rw [itemsL hb]
        ((conv => whnf); (try dsimp only))
        rw [itemsL hb]
        ((conv => whnf); (try dsimp only))
        refine moved0 qq F S A fun sd' ak' s2' S' A' dm => ?_
        ((conv => whnf); (try dsimp only))
        have lm := dm.len
        refine hN _ _ ⟨(G.dr hq dm).app, (dm.po qq).app, by rw [lookA (by omega), dm.get hkr]; exact r, by rw [List.length_append]; omega, _, sd', ak', _, _, _, _, _, by rw [← lm]; exact look0, S', A', rfl⟩
    · rintro e s ⟨G, qq, r, lr, b, sd, ak, x10, x12, x13, x15, x16, hb, S, A, rfl⟩
      ((conv => whnf); (try dsimp only))
      rw [itemsL G.bs]
      ((conv => whnf); (try dsimp only))
      refine ⟨Nat.zero_le _, ?_⟩
      ((conv => whnf); (try dsimp only))
      rw [itemsL hb]
      ((conv => whnf); (try dsimp only))
      rw [itemsL hb]
      ((conv => whnf); (try dsimp only))
      refine hold0 (rs := []) (bk_fr F G.b1) F ⟨fun r h => by cases h⟩ (Nat.zero_le _) A ?_
      ((conv => whnf); (try dsimp only))
      exact hNx _ _ ⟨G, _, _, _, _, _, _, _, _, rfl⟩
  · rintro e s ⟨G, x1, x10, x11, x12, x13, x14, x15, x16, rfl⟩
    ((conv => whnf); (try dsimp only))
    rw [itemsL G.bs]
    ((conv => whnf); (try dsimp only))
    rw [G.b1]
    refine ⟨rfl, ?_⟩
    rw [book_rules]
    ((conv => whnf); (try dsimp only))
    refine same0 (plain_rules F hr2 (by omega)) ?_
    ((conv => whnf); (try dsimp only))
    rw [itemsL G.bs]
    ((conv => whnf); (try dsimp only))
    rw [G.b1]
    refine ⟨rfl, ?_⟩
    rw [book_frame]
    ((conv => whnf); (try dsimp only))
    refine same0 (plain_fr F) ?_
    exact G.pre.back rfl k
  · exact hG
end K05

set_option Elab.async false
set_option linter.all false
set_option maxRecDepth 100000
set_option maxHeartbeats 4000000
namespace K05
open PySem L2 DL PyProof.Rows ClX
structure Dfs (K : PySem.W.Frag) (mg : Str → Option Value) (C : Addr) : Prop where
  f_under : DefAt K mg "under" st_under
  f_scope_of : DefAt K mg "scope_of" st_scope_of
  f_covers : DefAt K mg "covers" st_covers
  f_applies : DefAt K mg "applies" st_applies
  f_scope_reasons : DefAt K mg "scope_reasons" st_scope_reasons
  f_lot_reasons : DefAt K mg "lot_reasons" st_lot_reasons
  f_reasons : DefAt K mg "reasons" st_reasons
  f_whole : DefAt K mg "whole" st_whole
  f_in_range : DefAt K mg "in_range" st_in_range
  f_is_row : DefAt K mg "is_row" st_is_row
  f_is_row_of : DefAt K mg "is_row_of" st_is_row_of
  f_ascending_row : DefAt K mg "ascending_row" st_ascending_row
  f_scope_form : DefAt K mg "scope_form" st_scope_form
  f_rule_form : DefAt K mg "rule_form" st_rule_form
  f_door_form : DefAt K mg "door_form" st_door_form
  f_is_entry : DefAt K mg "is_entry" st_is_entry
  f_is_entry_or_none : DefAt K mg "is_entry_or_none" st_is_entry_or_none
  f_is_mark_row : DefAt K mg "is_mark_row" st_is_mark_row
  f_is_verb_row : DefAt K mg "is_verb_row" st_is_verb_row
  f_are_roles : DefAt K mg "are_roles" st_are_roles
  f_counts_of : DefAt K mg "counts_of" st_counts_of
  f_node_form : DefAt K mg "node_form" st_node_form
  f_team_form : DefAt K mg "team_form" st_team_form
  f_mark_form : DefAt K mg "mark_form" st_mark_form
  f_kind_form : DefAt K mg "kind_form" st_kind_form
  f_clause_form : DefAt K mg "clause_form" st_clause_form
  f_role_form : DefAt K mg "role_form" st_role_form
  f_parted_form : DefAt K mg "parted_form" st_parted_form
  f_pass_form : DefAt K mg "pass_form" st_pass_form
  f_lot_form : DefAt K mg "lot_form" st_lot_form
  f_door_entry_form : DefAt K mg "door_entry_form" st_door_entry_form
  f_is_ordinary : DefAt K mg "is_ordinary" st_is_ordinary
  f_glass_form : DefAt K mg "glass_form" st_glass_form
  f_case_form : DefAt K mg "case_form" st_case_form
  f_home_form : DefAt K mg "home_form" st_home_form
  f_numbers_form : DefAt K mg "numbers_form" st_numbers_form
  f_count_fault : DefAt K mg "count_fault" st_count_fault
  f_entry_fault : DefAt K mg "entry_fault" st_entry_fault
  f_clause_holds : DefAt K mg "clause_holds" st_clause_holds
  f_roles_had : DefAt K mg "roles_had" st_roles_had
  f_clashes : DefAt K mg "clashes" st_clashes
  f_faulty_part : DefAt K mg "faulty_part" st_faulty_part
  f__law_pool : DefAt K mg "_law_pool" st__law_pool
  f__law_draw : DefAt K mg "_law_draw" st__law_draw
  f__law_some : DefAt K mg "_law_some" st__law_some
  f__law_or_none : DefAt K mg "_law_or_none" st__law_or_none
  f__law_clause : DefAt K mg "_law_clause" st__law_clause
  f__law_ladder : DefAt K mg "_law_ladder" st__law_ladder
  f__law_lot : DefAt K mg "_law_lot" st__law_lot
  f__law_reach : DefAt K mg "_law_reach" st__law_reach
  f__law_cases : DefAt K mg "_law_cases" st__law_cases
  f__law_sizes : DefAt K mg "_law_sizes" st__law_sizes
  f__law_frame : DefAt K mg "_law_frame" st__law_frame
  f__law_below : DefAt K mg "_law_below" st__law_below
  f__law_roles : DefAt K mg "_law_roles" st__law_roles
  f__law_parted : DefAt K mg "_law_parted" st__law_parted
  f__law_rule : DefAt K mg "_law_rule" st__law_rule
  f__law_rules : DefAt K mg "_law_rules" st__law_rules
  f__law_beneath : DefAt K mg "_law_beneath" st__law_beneath
  f__law_items : DefAt K mg "_law_items" st__law_items
  f__law_one_of : DefAt K mg "_law_one_of" st__law_one_of
  f__law_with : DefAt K mg "_law_with" st__law_with
  f__law_aimed : DefAt K mg "_law_aimed" st__law_aimed
  f__law_toggled : DefAt K mg "_law_toggled" st__law_toggled
  f__law_moved : DefAt K mg "_law_moved" st__law_moved
  f__law_start : DefAt K mg "_law_start" st__law_start
  f__law_other_tree : DefAt K mg "_law_other_tree" st__law_other_tree
  f__law_other_rule : DefAt K mg "_law_other_rule" st__law_other_rule
  f__law_up : DefAt K mg "_law_up" st__law_up
  f__law_why : DefAt K mg "_law_why" st__law_why
  f__law_same : DefAt K mg "_law_same" st__law_same
  f__law_items_hold : DefAt K mg "_law_items_hold" st__law_items_hold
  f_law : DefAt K mg "law" st_law
  f_Book___init__ : ∃ f fd, L2.Mk K C f ∧ FunD K "__init__" "Book.__init__" (defArgs st_Book___init__) (defBody st_Book___init__) (defScope st_Book___init__) [] [] f fd
section
variable {P : Program} {w : World} {K : PySem.W.Frag} {mg : Str → Option Value} {base : Heap} {C : Addr}
theorem up {k k' : Nat} {x : Str} {s : DSp} (c : DCal P w K mg base k x s) (h : k ≤ k') : DCal P w K mg base k' x s := by
  obtain ⟨f, fd, ps, ds, F, gm, kp, b, d⟩ := c.ex
  exact ⟨f, fd, ps, ds, F.mono h, gm, kp, b, d⟩
theorem len_under : ∀ ds st P, s_under ds st P → ds.length = 3 := by
  intro ds st P h
  unfold s_under at h
  repeat (first | (obtain ⟨rfl, _⟩ := h; rfl) | (obtain ⟨⟨rfl, _⟩, _⟩ := h; rfl) | obtain ⟨_, h⟩ := h)
theorem k_under (T : Txt K mg C) (D : Dfs K mg C) : DCal P w K mg base 1 "under" s_under := by
  obtain ⟨fd, F, gm⟩ := D.f_under
  exact dcal F gm (FunD.bindsN (ps := ["parents", "low", "high"]) F fun _ _ _ _ _ _ us hl => match us, hl with | [_, _, _], _ => rfl) sc_under len_under (fun cdv A outer sh H E hr => b_under T hr) (fun ds st P h => v_under ds st P h)
theorem len_scope_of (C : Addr) : ∀ ds st P, s_scope_of C ds st P → ds.length = 3 := by
  intro ds st P h
  unfold s_scope_of at h
  repeat (first | (obtain ⟨rfl, _⟩ := h; rfl) | (obtain ⟨⟨rfl, _⟩, _⟩ := h; rfl) | obtain ⟨_, h⟩ := h)
theorem k_scope_of (T : Txt K mg C) (D : Dfs K mg C) : DCal P w K mg base 1 "scope_of" (s_scope_of C) := by
  obtain ⟨fd, F, gm⟩ := D.f_scope_of
  exact dcal F gm (FunD.bindsN (ps := ["book", "rules", "item"]) F fun _ _ _ _ _ _ us hl => match us, hl with | [_, _, _], _ => rfl) sc_scope_of (len_scope_of C) (fun cdv A outer sh H E hr => b_scope_of T hr) (fun ds st P h => v_scope_of C ds st P h)
theorem len_covers (C : Addr) : ∀ ds st P, s_covers C ds st P → ds.length = 4 := by
  intro ds st P h
  unfold s_covers at h
  repeat (first | (obtain ⟨rfl, _⟩ := h; rfl) | (obtain ⟨⟨rfl, _⟩, _⟩ := h; rfl) | obtain ⟨_, h⟩ := h)
theorem k_covers (T : Txt K mg C) (D : Dfs K mg C) : DCal P w K mg base 2 "covers" (s_covers C) := by
  obtain ⟨fd, F, gm⟩ := D.f_covers
  exact dcal F gm (FunD.bindsN (ps := ["book", "scope", "roles", "asking"]) F fun _ _ _ _ _ _ us hl => match us, hl with | [_, _, _, _], _ => rfl) sc_covers (len_covers C) (fun cdv A outer sh H E hr => b_covers T (up (k_under T D) (by decide)) hr) (fun ds st P h => v_covers C ds st P h)
theorem len_applies (C : Addr) : ∀ ds st P, s_applies C ds st P → ds.length = 5 := by
  intro ds st P h
  unfold s_applies at h
  repeat (first | (obtain ⟨rfl, _⟩ := h; rfl) | (obtain ⟨⟨rfl, _⟩, _⟩ := h; rfl) | obtain ⟨_, h⟩ := h)
theorem k_applies (T : Txt K mg C) (D : Dfs K mg C) : DCal P w K mg base 3 "applies" (s_applies C) := by
  obtain ⟨fd, F, gm⟩ := D.f_applies
  exact dcal F gm (FunD.bindsN (ps := ["book", "rules", "side", "item", "asking"]) F fun _ _ _ _ _ _ us hl => match us, hl with | [_, _, _, _, _], _ => rfl) sc_applies (len_applies C) (fun cdv A outer sh H E hr => b_applies T (up (k_covers T D) (by decide)) (up (k_scope_of T D) (by decide)) (up (k_under T D) (by decide)) hr) (fun ds st P h => v_applies C ds st P h)
theorem len_scope_reasons (C : Addr) : ∀ ds st P, s_scope_reasons C ds st P → ds.length = 4 := by
  intro ds st P h
  unfold s_scope_reasons at h
  repeat (first | (obtain ⟨rfl, _⟩ := h; rfl) | (obtain ⟨⟨rfl, _⟩, _⟩ := h; rfl) | obtain ⟨_, h⟩ := h)
theorem k_scope_reasons (T : Txt K mg C) (D : Dfs K mg C) : DCal P w K mg base 2 "scope_reasons" (s_scope_reasons C) := by
  obtain ⟨fd, F, gm⟩ := D.f_scope_reasons
  exact dcal F gm (FunD.bindsN (ps := ["book", "scope", "roles", "asking"]) F fun _ _ _ _ _ _ us hl => match us, hl with | [_, _, _, _], _ => rfl) sc_scope_reasons (len_scope_reasons C) (fun cdv A outer sh H E hr => b_scope_reasons T (up (k_under T D) (by decide)) hr) (fun ds st P h => v_scope_reasons C ds st P h)
theorem len_lot_reasons (C : Addr) : ∀ ds st P, s_lot_reasons C ds st P → ds.length = 4 := by
  intro ds st P h
  unfold s_lot_reasons at h
  repeat (first | (obtain ⟨rfl, _⟩ := h; rfl) | (obtain ⟨⟨rfl, _⟩, _⟩ := h; rfl) | obtain ⟨_, h⟩ := h)
theorem k_lot_reasons (T : Txt K mg C) (D : Dfs K mg C) : DCal P w K mg base 2 "lot_reasons" (s_lot_reasons C) := by
  obtain ⟨fd, F, gm⟩ := D.f_lot_reasons
  exact dcal F gm (FunD.bindsN (ps := ["book", "number", "lots", "asking"]) F fun _ _ _ _ _ _ us hl => match us, hl with | [_, _, _, _], _ => rfl) sc_lot_reasons (len_lot_reasons C) (fun cdv A outer sh H E hr => b_lot_reasons T (up (k_under T D) (by decide)) hr) (fun ds st P h => v_lot_reasons C ds st P h)
theorem len_reasons (C : Addr) : ∀ ds st P, s_reasons C ds st P → ds.length = 5 := by
  intro ds st P h
  unfold s_reasons at h
  repeat (first | (obtain ⟨rfl, _⟩ := h; rfl) | (obtain ⟨⟨rfl, _⟩, _⟩ := h; rfl) | obtain ⟨_, h⟩ := h)
theorem k_reasons (T : Txt K mg C) (D : Dfs K mg C) : DCal P w K mg base 3 "reasons" (s_reasons C) := by
  obtain ⟨fd, F, gm⟩ := D.f_reasons
  exact dcal F gm (FunD.bindsN (ps := ["book", "rules", "side", "item", "asking"]) F fun _ _ _ _ _ _ us hl => match us, hl with | [_, _, _, _, _], _ => rfl) sc_reasons (len_reasons C) (fun cdv A outer sh H E hr => b_reasons T (up (k_lot_reasons T D) (by decide)) (up (k_scope_of T D) (by decide)) (up (k_scope_reasons T D) (by decide)) hr) (fun ds st P h => v_reasons C ds st P h)
theorem len_whole : ∀ ds st P, s_whole ds st P → ds.length = 1 := by
  intro ds st P h
  unfold s_whole at h
  repeat (first | (obtain ⟨rfl, _⟩ := h; rfl) | (obtain ⟨⟨rfl, _⟩, _⟩ := h; rfl) | obtain ⟨_, h⟩ := h)
theorem k_whole (T : Txt K mg C) (D : Dfs K mg C) : DCal P w K mg base 1 "whole" s_whole := by
  obtain ⟨fd, F, gm⟩ := D.f_whole
  exact dcal F gm (FunD.bindsN (ps := ["x"]) F fun _ _ _ _ _ _ us hl => match us, hl with | [_], _ => rfl) sc_whole len_whole (fun cdv A outer sh H E hr => b_whole T hr) (fun ds st P h => v_whole ds st P h)
theorem len_in_range : ∀ ds st P, s_in_range ds st P → ds.length = 3 := by
  intro ds st P h
  unfold s_in_range at h
  repeat (first | (obtain ⟨rfl, _⟩ := h; rfl) | (obtain ⟨⟨rfl, _⟩, _⟩ := h; rfl) | obtain ⟨_, h⟩ := h)
theorem k_in_range (T : Txt K mg C) (D : Dfs K mg C) : DCal P w K mg base 2 "in_range" s_in_range := by
  obtain ⟨fd, F, gm⟩ := D.f_in_range
  exact dcal F gm (FunD.bindsN (ps := ["x", "low", "high"]) F fun _ _ _ _ _ _ us hl => match us, hl with | [_, _, _], _ => rfl) sc_in_range len_in_range (fun cdv A outer sh H E hr => b_in_range T (up (k_whole T D) (by decide)) hr) (fun ds st P h => v_in_range ds st P h)
theorem len_is_row : ∀ ds st P, s_is_row ds st P → ds.length = 1 := by
  intro ds st P h
  unfold s_is_row at h
  repeat (first | (obtain ⟨rfl, _⟩ := h; rfl) | (obtain ⟨⟨rfl, _⟩, _⟩ := h; rfl) | obtain ⟨_, h⟩ := h)
theorem k_is_row (T : Txt K mg C) (D : Dfs K mg C) : DCal P w K mg base 1 "is_row" s_is_row := by
  obtain ⟨fd, F, gm⟩ := D.f_is_row
  exact dcal F gm (FunD.bindsN (ps := ["x"]) F fun _ _ _ _ _ _ us hl => match us, hl with | [_], _ => rfl) sc_is_row len_is_row (fun cdv A outer sh H E hr => b_is_row T hr) (fun ds st P h => v_is_row ds st P h)
theorem len_is_row_of : ∀ ds st P, s_is_row_of ds st P → ds.length = 2 := by
  intro ds st P h
  unfold s_is_row_of at h
  repeat (first | (obtain ⟨rfl, _⟩ := h; rfl) | (obtain ⟨⟨rfl, _⟩, _⟩ := h; rfl) | obtain ⟨_, h⟩ := h)
theorem k_is_row_of (T : Txt K mg C) (D : Dfs K mg C) : DCal P w K mg base 2 "is_row_of" s_is_row_of := by
  obtain ⟨fd, F, gm⟩ := D.f_is_row_of
  exact dcal F gm (FunD.bindsN (ps := ["x", "size"]) F fun _ _ _ _ _ _ us hl => match us, hl with | [_, _], _ => rfl) sc_is_row_of len_is_row_of (fun cdv A outer sh H E hr => b_is_row_of T (up (k_is_row T D) (by decide)) hr) (fun ds st P h => v_is_row_of ds st P h)
theorem len_ascending_row : ∀ ds st P, s_ascending_row ds st P → ds.length = 3 := by
  intro ds st P h
  unfold s_ascending_row at h
  repeat (first | (obtain ⟨rfl, _⟩ := h; rfl) | (obtain ⟨⟨rfl, _⟩, _⟩ := h; rfl) | obtain ⟨_, h⟩ := h)
theorem k_ascending_row (T : Txt K mg C) (D : Dfs K mg C) : DCal P w K mg base 3 "ascending_row" s_ascending_row := by
  obtain ⟨fd, F, gm⟩ := D.f_ascending_row
  exact dcal F gm (FunD.bindsN (ps := ["x", "low", "high"]) F fun _ _ _ _ _ _ us hl => match us, hl with | [_, _, _], _ => rfl) sc_ascending_row len_ascending_row (fun cdv A outer sh H E hr => b_ascending_row T (up (k_in_range T D) (by decide)) (up (k_is_row T D) (by decide)) hr) (fun ds st P h => v_ascending_row ds st P h)
theorem len_scope_form : ∀ ds st P, s_scope_form ds st P → ds.length = 2 := by
  intro ds st P h
  unfold s_scope_form at h
  repeat (first | (obtain ⟨rfl, _⟩ := h; rfl) | (obtain ⟨⟨rfl, _⟩, _⟩ := h; rfl) | obtain ⟨_, h⟩ := h)
theorem k_scope_form (T : Txt K mg C) (D : Dfs K mg C) : DCal P w K mg base 4 "scope_form" s_scope_form := by
  obtain ⟨fd, F, gm⟩ := D.f_scope_form
  exact dcal F gm (FunD.bindsN (ps := ["counts", "scope"]) F fun _ _ _ _ _ _ us hl => match us, hl with | [_, _], _ => rfl) sc_scope_form len_scope_form (fun cdv A outer sh H E hr => b_scope_form T (up (k_ascending_row T D) (by decide)) (up (k_in_range T D) (by decide)) hr) (fun ds st P h => v_scope_form ds st P h)
theorem len_rule_form : ∀ ds st P, s_rule_form ds st P → ds.length = 2 := by
  intro ds st P h
  unfold s_rule_form at h
  repeat (first | (obtain ⟨rfl, _⟩ := h; rfl) | (obtain ⟨⟨rfl, _⟩, _⟩ := h; rfl) | obtain ⟨_, h⟩ := h)
theorem k_rule_form (T : Txt K mg C) (D : Dfs K mg C) : DCal P w K mg base 5 "rule_form" s_rule_form := by
  obtain ⟨fd, F, gm⟩ := D.f_rule_form
  exact dcal F gm (FunD.bindsN (ps := ["counts", "row"]) F fun _ _ _ _ _ _ us hl => match us, hl with | [_, _], _ => rfl) sc_rule_form len_rule_form (fun cdv A outer sh H E hr => b_rule_form T (up (k_in_range T D) (by decide)) (up (k_is_row_of T D) (by decide)) (up (k_scope_form T D) (by decide)) hr) (fun ds st P h => v_rule_form ds st P h)
theorem len_door_form : ∀ ds st P, s_door_form ds st P → ds.length = 2 := by
  intro ds st P h
  unfold s_door_form at h
  repeat (first | (obtain ⟨rfl, _⟩ := h; rfl) | (obtain ⟨⟨rfl, _⟩, _⟩ := h; rfl) | obtain ⟨_, h⟩ := h)
theorem k_door_form (T : Txt K mg C) (D : Dfs K mg C) : DCal P w K mg base 5 "door_form" s_door_form := by
  obtain ⟨fd, F, gm⟩ := D.f_door_form
  exact dcal F gm (FunD.bindsN (ps := ["counts", "row"]) F fun _ _ _ _ _ _ us hl => match us, hl with | [_, _], _ => rfl) sc_door_form len_door_form (fun cdv A outer sh H E hr => b_door_form T (up (k_in_range T D) (by decide)) (up (k_is_row_of T D) (by decide)) (up (k_scope_form T D) (by decide)) hr) (fun ds st P h => v_door_form ds st P h)
theorem len_is_entry : ∀ ds st P, s_is_entry ds st P → ds.length = 3 := by
  intro ds st P h
  unfold s_is_entry at h
  repeat (first | (obtain ⟨rfl, _⟩ := h; rfl) | (obtain ⟨⟨rfl, _⟩, _⟩ := h; rfl) | obtain ⟨_, h⟩ := h)
theorem k_is_entry (T : Txt K mg C) (D : Dfs K mg C) : DCal P w K mg base 3 "is_entry" s_is_entry := by
  obtain ⟨fd, F, gm⟩ := D.f_is_entry
  exact dcal F gm (FunD.bindsN (ps := ["frame", "part", "x"]) F fun _ _ _ _ _ _ us hl => match us, hl with | [_, _, _], _ => rfl) sc_is_entry len_is_entry (fun cdv A outer sh H E hr => b_is_entry T (up (k_in_range T D) (by decide)) hr) (fun ds st P h => v_is_entry ds st P h)
theorem len_is_entry_or_none : ∀ ds st P, s_is_entry_or_none ds st P → ds.length = 3 := by
  intro ds st P h
  unfold s_is_entry_or_none at h
  repeat (first | (obtain ⟨rfl, _⟩ := h; rfl) | (obtain ⟨⟨rfl, _⟩, _⟩ := h; rfl) | obtain ⟨_, h⟩ := h)
theorem k_is_entry_or_none (T : Txt K mg C) (D : Dfs K mg C) : DCal P w K mg base 3 "is_entry_or_none" s_is_entry_or_none := by
  obtain ⟨fd, F, gm⟩ := D.f_is_entry_or_none
  exact dcal F gm (FunD.bindsN (ps := ["frame", "part", "x"]) F fun _ _ _ _ _ _ us hl => match us, hl with | [_, _, _], _ => rfl) sc_is_entry_or_none len_is_entry_or_none (fun cdv A outer sh H E hr => b_is_entry_or_none T (up (k_in_range T D) (by decide)) hr) (fun ds st P h => v_is_entry_or_none ds st P h)
theorem len_is_mark_row : ∀ ds st P, s_is_mark_row ds st P → ds.length = 2 := by
  intro ds st P h
  unfold s_is_mark_row at h
  repeat (first | (obtain ⟨rfl, _⟩ := h; rfl) | (obtain ⟨⟨rfl, _⟩, _⟩ := h; rfl) | obtain ⟨_, h⟩ := h)
theorem k_is_mark_row (T : Txt K mg C) (D : Dfs K mg C) : DCal P w K mg base 4 "is_mark_row" s_is_mark_row := by
  obtain ⟨fd, F, gm⟩ := D.f_is_mark_row
  exact dcal F gm (FunD.bindsN (ps := ["frame", "x"]) F fun _ _ _ _ _ _ us hl => match us, hl with | [_, _], _ => rfl) sc_is_mark_row len_is_mark_row (fun cdv A outer sh H E hr => b_is_mark_row T (up (k_ascending_row T D) (by decide)) hr) (fun ds st P h => v_is_mark_row ds st P h)
theorem len_is_verb_row : ∀ ds st P, s_is_verb_row ds st P → ds.length = 1 := by
  intro ds st P h
  unfold s_is_verb_row at h
  repeat (first | (obtain ⟨rfl, _⟩ := h; rfl) | (obtain ⟨⟨rfl, _⟩, _⟩ := h; rfl) | obtain ⟨_, h⟩ := h)
theorem k_is_verb_row (T : Txt K mg C) (D : Dfs K mg C) : DCal P w K mg base 4 "is_verb_row" s_is_verb_row := by
  obtain ⟨fd, F, gm⟩ := D.f_is_verb_row
  exact dcal F gm (FunD.bindsN (ps := ["x"]) F fun _ _ _ _ _ _ us hl => match us, hl with | [_], _ => rfl) sc_is_verb_row len_is_verb_row (fun cdv A outer sh H E hr => b_is_verb_row T (up (k_ascending_row T D) (by decide)) hr) (fun ds st P h => v_is_verb_row ds st P h)
theorem len_are_roles : ∀ ds st P, s_are_roles ds st P → ds.length = 2 := by
  intro ds st P h
  unfold s_are_roles at h
  repeat (first | (obtain ⟨rfl, _⟩ := h; rfl) | (obtain ⟨⟨rfl, _⟩, _⟩ := h; rfl) | obtain ⟨_, h⟩ := h)
theorem k_are_roles (T : Txt K mg C) (D : Dfs K mg C) : DCal P w K mg base 4 "are_roles" s_are_roles := by
  obtain ⟨fd, F, gm⟩ := D.f_are_roles
  exact dcal F gm (FunD.bindsN (ps := ["frame", "row"]) F fun _ _ _ _ _ _ us hl => match us, hl with | [_, _], _ => rfl) sc_are_roles len_are_roles (fun cdv A outer sh H E hr => b_are_roles T (up (k_is_entry_or_none T D) (by decide)) hr) (fun ds st P h => v_are_roles ds st P h)
theorem len_counts_of : ∀ ds st P, s_counts_of ds st P → ds.length = 1 := by
  intro ds st P h
  unfold s_counts_of at h
  repeat (first | (obtain ⟨rfl, _⟩ := h; rfl) | (obtain ⟨⟨rfl, _⟩, _⟩ := h; rfl) | obtain ⟨_, h⟩ := h)
theorem k_counts_of (T : Txt K mg C) (D : Dfs K mg C) : DCal P w K mg base 1 "counts_of" s_counts_of := by
  obtain ⟨fd, F, gm⟩ := D.f_counts_of
  exact dcal F gm (FunD.bindsN (ps := ["frame"]) F fun _ _ _ _ _ _ us hl => match us, hl with | [_], _ => rfl) sc_counts_of len_counts_of (fun cdv A outer sh H E hr => b_counts_of T hr) (fun ds st P h => v_counts_of ds st P h)
theorem len_node_form : ∀ ds st P, s_form 1 ds st P → ds.length = 3 := by
  intro ds st P h
  unfold s_form at h
  repeat (first | (obtain ⟨rfl, _⟩ := h; rfl) | (obtain ⟨⟨rfl, _⟩, _⟩ := h; rfl) | obtain ⟨_, h⟩ := h)
theorem ka_node_form (T : Txt K mg C) (D : Dfs K mg C) : C8.CalAt P w K mg base 3 (He.ga K "node_form") (spD K (s_form 1)) := by
  obtain ⟨fd, F, gm⟩ := D.f_node_form
  exact dcalAt F (FunD.bindsN (ps := ["frame", "index", "entry"]) F fun _ _ _ _ _ _ us hl => match us, hl with | [_, _, _], _ => rfl) sc_node_form len_node_form (fun cdv A outer sh H E hr => b_node_form T (up (k_in_range T D) (by decide)) hr) (fun ds st P h => v_node_form ds st P h)
theorem len_team_form : ∀ ds st P, s_form 2 ds st P → ds.length = 3 := by
  intro ds st P h
  unfold s_form at h
  repeat (first | (obtain ⟨rfl, _⟩ := h; rfl) | (obtain ⟨⟨rfl, _⟩, _⟩ := h; rfl) | obtain ⟨_, h⟩ := h)
theorem ka_team_form (T : Txt K mg C) (D : Dfs K mg C) : C8.CalAt P w K mg base 5 (He.ga K "team_form") (spD K (s_form 2)) := by
  obtain ⟨fd, F, gm⟩ := D.f_team_form
  exact dcalAt F (FunD.bindsN (ps := ["frame", "index", "entry"]) F fun _ _ _ _ _ _ us hl => match us, hl with | [_, _, _], _ => rfl) sc_team_form len_team_form (fun cdv A outer sh H E hr => b_team_form T (up (k_are_roles T D) (by decide)) (up (k_in_range T D) (by decide)) (up (k_is_entry T D) (by decide)) (up (k_is_row_of T D) (by decide)) hr) (fun ds st P h => v_team_form ds st P h)
theorem len_mark_form : ∀ ds st P, s_form 3 ds st P → ds.length = 3 := by
  intro ds st P h
  unfold s_form at h
  repeat (first | (obtain ⟨rfl, _⟩ := h; rfl) | (obtain ⟨⟨rfl, _⟩, _⟩ := h; rfl) | obtain ⟨_, h⟩ := h)
theorem ka_mark_form (T : Txt K mg C) (D : Dfs K mg C) : C8.CalAt P w K mg base 5 (He.ga K "mark_form") (spD K (s_form 3)) := by
  obtain ⟨fd, F, gm⟩ := D.f_mark_form
  exact dcalAt F (FunD.bindsN (ps := ["frame", "index", "entry"]) F fun _ _ _ _ _ _ us hl => match us, hl with | [_, _, _], _ => rfl) sc_mark_form len_mark_form (fun cdv A outer sh H E hr => b_mark_form T (up (k_are_roles T D) (by decide)) (up (k_in_range T D) (by decide)) (up (k_is_entry T D) (by decide)) (up (k_is_row_of T D) (by decide)) hr) (fun ds st P h => v_mark_form ds st P h)
theorem len_kind_form : ∀ ds st P, s_form 4 ds st P → ds.length = 3 := by
  intro ds st P h
  unfold s_form at h
  repeat (first | (obtain ⟨rfl, _⟩ := h; rfl) | (obtain ⟨⟨rfl, _⟩, _⟩ := h; rfl) | obtain ⟨_, h⟩ := h)
theorem ka_kind_form (T : Txt K mg C) (D : Dfs K mg C) : C8.CalAt P w K mg base 5 (He.ga K "kind_form") (spD K (s_form 4)) := by
  obtain ⟨fd, F, gm⟩ := D.f_kind_form
  exact dcalAt F (FunD.bindsN (ps := ["frame", "index", "entry"]) F fun _ _ _ _ _ _ us hl => match us, hl with | [_, _, _], _ => rfl) sc_kind_form len_kind_form (fun cdv A outer sh H E hr => b_kind_form T (up (k_is_entry T D) (by decide)) (up (k_is_mark_row T D) (by decide)) (up (k_is_row_of T D) (by decide)) hr) (fun ds st P h => v_kind_form ds st P h)
theorem len_clause_form : ∀ ds st P, s_clause_form ds st P → ds.length = 3 := by
  intro ds st P h
  unfold s_clause_form at h
  repeat (first | (obtain ⟨rfl, _⟩ := h; rfl) | (obtain ⟨⟨rfl, _⟩, _⟩ := h; rfl) | obtain ⟨_, h⟩ := h)
theorem k_clause_form (T : Txt K mg C) (D : Dfs K mg C) : DCal P w K mg base 5 "clause_form" s_clause_form := by
  obtain ⟨fd, F, gm⟩ := D.f_clause_form
  exact dcal F gm (FunD.bindsN (ps := ["frame", "role", "clause"]) F fun _ _ _ _ _ _ us hl => match us, hl with | [_, _, _], _ => rfl) sc_clause_form len_clause_form (fun cdv A outer sh H E hr => b_clause_form T (up (k_in_range T D) (by decide)) (up (k_is_entry_or_none T D) (by decide)) (up (k_is_mark_row T D) (by decide)) (up (k_is_row_of T D) (by decide)) hr) (fun ds st P h => v_clause_form ds st P h)
theorem len_role_form : ∀ ds st P, s_form 5 ds st P → ds.length = 3 := by
  intro ds st P h
  unfold s_form at h
  repeat (first | (obtain ⟨rfl, _⟩ := h; rfl) | (obtain ⟨⟨rfl, _⟩, _⟩ := h; rfl) | obtain ⟨_, h⟩ := h)
theorem ka_role_form (T : Txt K mg C) (D : Dfs K mg C) : C8.CalAt P w K mg base 6 (He.ga K "role_form") (spD K (s_form 5)) := by
  obtain ⟨fd, F, gm⟩ := D.f_role_form
  exact dcalAt F (FunD.bindsN (ps := ["frame", "index", "entry"]) F fun _ _ _ _ _ _ us hl => match us, hl with | [_, _, _], _ => rfl) sc_role_form len_role_form (fun cdv A outer sh H E hr => b_role_form T (up (k_clause_form T D) (by decide)) (up (k_is_row T D) (by decide)) hr) (fun ds st P h => v_role_form ds st P h)
theorem len_parted_form : ∀ ds st P, s_form 6 ds st P → ds.length = 3 := by
  intro ds st P h
  unfold s_form at h
  repeat (first | (obtain ⟨rfl, _⟩ := h; rfl) | (obtain ⟨⟨rfl, _⟩, _⟩ := h; rfl) | obtain ⟨_, h⟩ := h)
theorem ka_parted_form (T : Txt K mg C) (D : Dfs K mg C) : C8.CalAt P w K mg base 4 (He.ga K "parted_form") (spD K (s_form 6)) := by
  obtain ⟨fd, F, gm⟩ := D.f_parted_form
  exact dcalAt F (FunD.bindsN (ps := ["frame", "index", "entry"]) F fun _ _ _ _ _ _ us hl => match us, hl with | [_, _, _], _ => rfl) sc_parted_form len_parted_form (fun cdv A outer sh H E hr => b_parted_form T (up (k_in_range T D) (by decide)) (up (k_is_entry T D) (by decide)) (up (k_is_row_of T D) (by decide)) hr) (fun ds st P h => v_parted_form ds st P h)
theorem len_pass_form : ∀ ds st P, s_pass_form ds st P → ds.length = 2 := by
  intro ds st P h
  unfold s_pass_form at h
  repeat (first | (obtain ⟨rfl, _⟩ := h; rfl) | (obtain ⟨⟨rfl, _⟩, _⟩ := h; rfl) | obtain ⟨_, h⟩ := h)
theorem k_pass_form (T : Txt K mg C) (D : Dfs K mg C) : DCal P w K mg base 5 "pass_form" s_pass_form := by
  obtain ⟨fd, F, gm⟩ := D.f_pass_form
  exact dcal F gm (FunD.bindsN (ps := ["frame", "entry"]) F fun _ _ _ _ _ _ us hl => match us, hl with | [_, _], _ => rfl) sc_pass_form len_pass_form (fun cdv A outer sh H E hr => b_pass_form T (up (k_are_roles T D) (by decide)) (up (k_is_row_of T D) (by decide)) hr) (fun ds st P h => v_pass_form ds st P h)
theorem len_lot_form : ∀ ds st P, s_form 7 ds st P → ds.length = 3 := by
  intro ds st P h
  unfold s_form at h
  repeat (first | (obtain ⟨rfl, _⟩ := h; rfl) | (obtain ⟨⟨rfl, _⟩, _⟩ := h; rfl) | obtain ⟨_, h⟩ := h)
theorem ka_lot_form (T : Txt K mg C) (D : Dfs K mg C) : C8.CalAt P w K mg base 6 (He.ga K "lot_form") (spD K (s_form 7)) := by
  obtain ⟨fd, F, gm⟩ := D.f_lot_form
  exact dcalAt F (FunD.bindsN (ps := ["frame", "index", "entry"]) F fun _ _ _ _ _ _ us hl => match us, hl with | [_, _, _], _ => rfl) sc_lot_form len_lot_form (fun cdv A outer sh H E hr => b_lot_form T (up (k_are_roles T D) (by decide)) (up (k_in_range T D) (by decide)) (up (k_is_entry T D) (by decide)) (up (k_is_row T D) (by decide)) (up (k_is_row_of T D) (by decide)) (up (k_is_verb_row T D) (by decide)) (up (k_pass_form T D) (by decide)) hr) (fun ds st P h => v_lot_form ds st P h)
theorem len_door_entry_form : ∀ ds st P, s_form 8 ds st P → ds.length = 3 := by
  intro ds st P h
  unfold s_form at h
  repeat (first | (obtain ⟨rfl, _⟩ := h; rfl) | (obtain ⟨⟨rfl, _⟩, _⟩ := h; rfl) | obtain ⟨_, h⟩ := h)
theorem ka_door_entry_form (T : Txt K mg C) (D : Dfs K mg C) : C8.CalAt P w K mg base 6 (He.ga K "door_entry_form") (spD K (s_form 8)) := by
  obtain ⟨fd, F, gm⟩ := D.f_door_entry_form
  exact dcalAt F (FunD.bindsN (ps := ["frame", "index", "entry"]) F fun _ _ _ _ _ _ us hl => match us, hl with | [_, _, _], _ => rfl) sc_door_entry_form len_door_entry_form (fun cdv A outer sh H E hr => b_door_entry_form T (up (k_counts_of T D) (by decide)) (up (k_door_form T D) (by decide)) hr) (fun ds st P h => v_door_entry_form ds st P h)
theorem len_is_ordinary : ∀ ds st P, s_is_ordinary ds st P → ds.length = 1 := by
  intro ds st P h
  unfold s_is_ordinary at h
  repeat (first | (obtain ⟨rfl, _⟩ := h; rfl) | (obtain ⟨⟨rfl, _⟩, _⟩ := h; rfl) | obtain ⟨_, h⟩ := h)
theorem k_is_ordinary (T : Txt K mg C) (D : Dfs K mg C) : DCal P w K mg base 3 "is_ordinary" s_is_ordinary := by
  obtain ⟨fd, F, gm⟩ := D.f_is_ordinary
  exact dcal F gm (FunD.bindsN (ps := ["x"]) F fun _ _ _ _ _ _ us hl => match us, hl with | [_], _ => rfl) sc_is_ordinary len_is_ordinary (fun cdv A outer sh H E hr => b_is_ordinary T (up (k_in_range T D) (by decide)) hr) (fun ds st P h => v_is_ordinary ds st P h)
theorem len_glass_form : ∀ ds st P, s_form 9 ds st P → ds.length = 3 := by
  intro ds st P h
  unfold s_form at h
  repeat (first | (obtain ⟨rfl, _⟩ := h; rfl) | (obtain ⟨⟨rfl, _⟩, _⟩ := h; rfl) | obtain ⟨_, h⟩ := h)
theorem ka_glass_form (T : Txt K mg C) (D : Dfs K mg C) : C8.CalAt P w K mg base 4 (He.ga K "glass_form") (spD K (s_form 9)) := by
  obtain ⟨fd, F, gm⟩ := D.f_glass_form
  exact dcalAt F (FunD.bindsN (ps := ["frame", "index", "entry"]) F fun _ _ _ _ _ _ us hl => match us, hl with | [_, _, _], _ => rfl) sc_glass_form len_glass_form (fun cdv A outer sh H E hr => b_glass_form T (up (k_is_entry T D) (by decide)) (up (k_is_entry_or_none T D) (by decide)) (up (k_is_ordinary T D) (by decide)) (up (k_is_row_of T D) (by decide)) hr) (fun ds st P h => v_glass_form ds st P h)
theorem len_case_form : ∀ ds st P, s_form 10 ds st P → ds.length = 3 := by
  intro ds st P h
  unfold s_form at h
  repeat (first | (obtain ⟨rfl, _⟩ := h; rfl) | (obtain ⟨⟨rfl, _⟩, _⟩ := h; rfl) | obtain ⟨_, h⟩ := h)
theorem ka_case_form (T : Txt K mg C) (D : Dfs K mg C) : C8.CalAt P w K mg base 4 (He.ga K "case_form") (spD K (s_form 10)) := by
  obtain ⟨fd, F, gm⟩ := D.f_case_form
  exact dcalAt F (FunD.bindsN (ps := ["frame", "index", "entry"]) F fun _ _ _ _ _ _ us hl => match us, hl with | [_, _, _], _ => rfl) sc_case_form len_case_form (fun cdv A outer sh H E hr => b_case_form T (up (k_is_entry T D) (by decide)) (up (k_is_ordinary T D) (by decide)) (up (k_is_row T D) (by decide)) (up (k_is_row_of T D) (by decide)) hr) (fun ds st P h => v_case_form ds st P h)
theorem len_home_form : ∀ ds st P, s_form 11 ds st P → ds.length = 3 := by
  intro ds st P h
  unfold s_form at h
  repeat (first | (obtain ⟨rfl, _⟩ := h; rfl) | (obtain ⟨⟨rfl, _⟩, _⟩ := h; rfl) | obtain ⟨_, h⟩ := h)
theorem ka_home_form (T : Txt K mg C) (D : Dfs K mg C) : C8.CalAt P w K mg base 3 (He.ga K "home_form") (spD K (s_form 11)) := by
  obtain ⟨fd, F, gm⟩ := D.f_home_form
  exact dcalAt F (FunD.bindsN (ps := ["frame", "index", "entry"]) F fun _ _ _ _ _ _ us hl => match us, hl with | [_, _, _], _ => rfl) sc_home_form len_home_form (fun cdv A outer sh H E hr => b_home_form T (up (k_in_range T D) (by decide)) hr) (fun ds st P h => v_home_form ds st P h)
theorem len_numbers_form : ∀ ds st P, s_numbers_form ds st P → ds.length = 1 := by
  intro ds st P h
  unfold s_numbers_form at h
  repeat (first | (obtain ⟨rfl, _⟩ := h; rfl) | (obtain ⟨⟨rfl, _⟩, _⟩ := h; rfl) | obtain ⟨_, h⟩ := h)
theorem k_numbers_form (T : Txt K mg C) (D : Dfs K mg C) : DCal P w K mg base 3 "numbers_form" s_numbers_form := by
  obtain ⟨fd, F, gm⟩ := D.f_numbers_form
  exact dcal F gm (FunD.bindsN (ps := ["numbers"]) F fun _ _ _ _ _ _ us hl => match us, hl with | [_], _ => rfl) sc_numbers_form len_numbers_form (fun cdv A outer sh H E hr => b_numbers_form T (up (k_in_range T D) (by decide)) hr) (fun ds st P h => v_numbers_form ds st P h)
theorem len_count_fault : ∀ ds st P, s_count_fault ds st P → ds.length = 2 := by
  intro ds st P h
  unfold s_count_fault at h
  repeat (first | (obtain ⟨rfl, _⟩ := h; rfl) | (obtain ⟨⟨rfl, _⟩, _⟩ := h; rfl) | obtain ⟨_, h⟩ := h)
theorem k_count_fault (T : Txt K mg C) (D : Dfs K mg C) : DCal P w K mg base 1 "count_fault" s_count_fault := by
  obtain ⟨fd, F, gm⟩ := D.f_count_fault
  exact dcal F gm (FunD.bindsN (ps := ["frame", "rules"]) F fun _ _ _ _ _ _ us hl => match us, hl with | [_, _], _ => rfl) sc_count_fault len_count_fault (fun cdv A outer sh H E hr => b_count_fault T hr) (fun ds st P h => v_count_fault ds st P h)
theorem len_entry_fault : ∀ ds st P, s_entry_fault ds st P → ds.length = 2 := by
  intro ds st P h
  unfold s_entry_fault at h
  repeat (first | (obtain ⟨rfl, _⟩ := h; rfl) | (obtain ⟨⟨rfl, _⟩, _⟩ := h; rfl) | obtain ⟨_, h⟩ := h)
theorem k_entry_fault (T : Txt K mg C) (D : Dfs K mg C) : DCal P w K mg base 7 "entry_fault" s_entry_fault := by
  obtain ⟨fd, F, gm⟩ := D.f_entry_fault
  have hA : ∀ f s, tblE K f s → ∃ k, k ≤ 6 ∧ C8.CalAt P w K mg base k f (spD K s) := by
    rintro f s ⟨i, hi, rfl, rfl⟩
    match i, hi with
    | 0, _ => exact ⟨3, by decide, ka_node_form T D⟩
    | 1, _ => exact ⟨5, by decide, ka_team_form T D⟩
    | 2, _ => exact ⟨5, by decide, ka_mark_form T D⟩
    | 3, _ => exact ⟨5, by decide, ka_kind_form T D⟩
    | 4, _ => exact ⟨6, by decide, ka_role_form T D⟩
    | 5, _ => exact ⟨4, by decide, ka_parted_form T D⟩
    | 6, _ => exact ⟨6, by decide, ka_lot_form T D⟩
    | 7, _ => exact ⟨6, by decide, ka_door_entry_form T D⟩
    | 8, _ => exact ⟨4, by decide, ka_glass_form T D⟩
    | 9, _ => exact ⟨4, by decide, ka_case_form T D⟩
    | 10, _ => exact ⟨3, by decide, ka_home_form T D⟩
  exact dcal F gm (FunD.bindsN (ps := ["frame", "rules"]) F fun _ _ _ _ _ _ us hl => match us, hl with | [_, _], _ => rfl) sc_entry_fault len_entry_fault (fun cdv A outer sh H E hr => b_entry_fault T (up (k_counts_of T D) (by decide)) (up (k_rule_form T D) (by decide)) hA hr) (fun ds st P h => v_entry_fault K ds st P h)
theorem len_clause_holds : ∀ ds st P, s_clause_holds ds st P → ds.length = 4 := by
  intro ds st P h
  unfold s_clause_holds at h
  repeat (first | (obtain ⟨rfl, _⟩ := h; rfl) | (obtain ⟨⟨rfl, _⟩, _⟩ := h; rfl) | obtain ⟨_, h⟩ := h)
theorem k_clause_holds (T : Txt K mg C) (D : Dfs K mg C) : DCal P w K mg base 2 "clause_holds" s_clause_holds := by
  obtain ⟨fd, F, gm⟩ := D.f_clause_holds
  exact dcal F gm (FunD.bindsN (ps := ["team_parents", "clause", "base", "had"]) F fun _ _ _ _ _ _ us hl => match us, hl with | [_, _, _, _], _ => rfl) sc_clause_holds len_clause_holds (fun cdv A outer sh H E hr => b_clause_holds T (up (k_under T D) (by decide)) hr) (fun ds st P h => v_clause_holds ds st P h)
theorem len_roles_had : ∀ ds st P, s_roles_had ds st P → ds.length = 3 := by
  intro ds st P h
  unfold s_roles_had at h
  repeat (first | (obtain ⟨rfl, _⟩ := h; rfl) | (obtain ⟨⟨rfl, _⟩, _⟩ := h; rfl) | obtain ⟨_, h⟩ := h)
theorem k_roles_had (T : Txt K mg C) (D : Dfs K mg C) : DCal P w K mg base 3 "roles_had" s_roles_had := by
  obtain ⟨fd, F, gm⟩ := D.f_roles_had
  exact dcal F gm (FunD.bindsN (ps := ["roles", "team_parents", "base"]) F fun _ _ _ _ _ _ us hl => match us, hl with | [_, _, _], _ => rfl) sc_roles_had len_roles_had (fun cdv A outer sh H E hr => b_roles_had T (up (k_clause_holds T D) (by decide)) hr) (fun ds st P h => v_roles_had ds st P h)
theorem len_clashes : ∀ ds st P, s_clashes ds st P → ds.length = 1 := by
  intro ds st P h
  unfold s_clashes at h
  repeat (first | (obtain ⟨rfl, _⟩ := h; rfl) | (obtain ⟨⟨rfl, _⟩, _⟩ := h; rfl) | obtain ⟨_, h⟩ := h)
theorem k_clashes (T : Txt K mg C) (D : Dfs K mg C) : DCal P w K mg base 4 "clashes" s_clashes := by
  obtain ⟨fd, F, gm⟩ := D.f_clashes
  exact dcal F gm (FunD.bindsN (ps := ["frame"]) F fun _ _ _ _ _ _ us hl => match us, hl with | [_], _ => rfl) sc_clashes len_clashes (fun cdv A outer sh H E hr => b_clashes T (up (k_roles_had T D) (by decide)) hr) (fun ds st P h => v_clashes ds st P h)
theorem len_faulty_part : ∀ ds st P, s_faulty_part ds st P → ds.length = 2 := by
  intro ds st P h
  unfold s_faulty_part at h
  repeat (first | (obtain ⟨rfl, _⟩ := h; rfl) | (obtain ⟨⟨rfl, _⟩, _⟩ := h; rfl) | obtain ⟨_, h⟩ := h)
theorem k_faulty_part (T : Txt K mg C) (D : Dfs K mg C) : DCal P w K mg base 8 "faulty_part" s_faulty_part := by
  obtain ⟨fd, F, gm⟩ := D.f_faulty_part
  exact dcal F gm (FunD.bindsN (ps := ["frame", "rules"]) F fun _ _ _ _ _ _ us hl => match us, hl with | [_, _], _ => rfl) sc_faulty_part len_faulty_part (fun cdv A outer sh H E hr => b_faulty_part T (up (k_clashes T D) (by decide)) (up (k_count_fault T D) (by decide)) (up (k_entry_fault T D) (by decide)) (up (k_is_row T D) (by decide)) (up (k_is_row_of T D) (by decide)) (up (k_numbers_form T D) (by decide)) hr) (fun ds st P h => v_faulty_part ds st P h)
theorem len_Book___init__ (C : Addr) : ∀ ds st P, s_Book___init__ C ds st P → ds.length = 3 := by
  intro ds st P h
  unfold s_Book___init__ at h
  repeat (first | (obtain ⟨rfl, _⟩ := h; rfl) | (obtain ⟨⟨rfl, _⟩, _⟩ := h; rfl) | obtain ⟨_, h⟩ := h)
theorem k_Book___init__ (T : Txt K mg C) (D : Dfs K mg C) : C8.Mak P w K mg base 9 "Book" C (spD K (s_Book___init__ C)) [] := by
  obtain ⟨f, fd, M, F⟩ := D.f_Book___init__
  exact ⟨f, fd, _, [], M, dfn F sc_Book___init__ (len_Book___init__ C) (fun cdv A outer sh H E hr => b_Book___init__ T (up (k_faulty_part T D) (by decide)) hr) (fun ds st P h => v_Book___init__ C ds st P h), T.mg_Book, (FunD.bindsN (ps := ["self", "frame", "rules"]) F fun _ _ _ _ _ _ us hl => match us, hl with | [_, _, _], _ => rfl), .nil⟩
theorem len__law_pool : ∀ ds st P, s__law_pool ds st P → ds.length = 2 := by
  intro ds st P h
  unfold s__law_pool at h
  repeat (first | (obtain ⟨rfl, _⟩ := h; rfl) | (obtain ⟨⟨rfl, _⟩, _⟩ := h; rfl) | obtain ⟨_, h⟩ := h)
theorem k__law_pool (T : Txt K mg C) (D : Dfs K mg C) : DCal P w K mg base 1 "_law_pool" s__law_pool := by
  obtain ⟨fd, F, gm⟩ := D.f__law_pool
  exact dcal F gm (FunD.bindsN (ps := ["script", "at"]) F fun _ _ _ _ _ _ us hl => match us, hl with | [_, _], _ => rfl) sc__law_pool len__law_pool (fun cdv A outer sh H E hr => b__law_pool T hr) (fun ds st P h => v__law_pool ds st P h)
theorem len__law_draw : ∀ ds st P, s__law_draw ds st P → ds.length = 2 := by
  intro ds st P h
  unfold s__law_draw at h
  repeat (first | (obtain ⟨rfl, _⟩ := h; rfl) | (obtain ⟨⟨rfl, _⟩, _⟩ := h; rfl) | obtain ⟨_, h⟩ := h)
theorem k__law_draw (T : Txt K mg C) (D : Dfs K mg C) : DCal P w K mg base 1 "_law_draw" s__law_draw := by
  obtain ⟨fd, F, gm⟩ := D.f__law_draw
  exact dcal F gm (FunD.bindsN (ps := ["pool", "many"]) F fun _ _ _ _ _ _ us hl => match us, hl with | [_, _], _ => rfl) sc__law_draw len__law_draw (fun cdv A outer sh H E hr => b__law_draw T hr) (fun ds st P h => v__law_draw ds st P h)
theorem len__law_some : ∀ ds st P, s__law_some ds st P → ds.length = 3 := by
  intro ds st P h
  unfold s__law_some at h
  repeat (first | (obtain ⟨rfl, _⟩ := h; rfl) | (obtain ⟨⟨rfl, _⟩, _⟩ := h; rfl) | obtain ⟨_, h⟩ := h)
theorem k__law_some (T : Txt K mg C) (D : Dfs K mg C) : DCal P w K mg base 2 "_law_some" s__law_some := by
  obtain ⟨fd, F, gm⟩ := D.f__law_some
  exact dcal F gm (FunD.bindsN (ps := ["pool", "many", "share"]) F fun _ _ _ _ _ _ us hl => match us, hl with | [_, _, _], _ => rfl) sc__law_some len__law_some (fun cdv A outer sh H E hr => b__law_some T (up (k__law_draw T D) (by decide)) hr) (fun ds st P h => v__law_some ds st P h)
theorem len__law_or_none : ∀ ds st P, s__law_or_none ds st P → ds.length = 3 := by
  intro ds st P h
  unfold s__law_or_none at h
  repeat (first | (obtain ⟨rfl, _⟩ := h; rfl) | (obtain ⟨⟨rfl, _⟩, _⟩ := h; rfl) | obtain ⟨_, h⟩ := h)
theorem k__law_or_none (T : Txt K mg C) (D : Dfs K mg C) : DCal P w K mg base 2 "_law_or_none" s__law_or_none := by
  obtain ⟨fd, F, gm⟩ := D.f__law_or_none
  exact dcal F gm (FunD.bindsN (ps := ["pool", "many", "share"]) F fun _ _ _ _ _ _ us hl => match us, hl with | [_, _, _], _ => rfl) sc__law_or_none len__law_or_none (fun cdv A outer sh H E hr => b__law_or_none T (up (k__law_draw T D) (by decide)) hr) (fun ds st P h => v__law_or_none ds st P h)
theorem len__law_clause : ∀ ds st P, s__law_clause ds st P → ds.length = 3 := by
  intro ds st P h
  unfold s__law_clause at h
  repeat (first | (obtain ⟨rfl, _⟩ := h; rfl) | (obtain ⟨⟨rfl, _⟩, _⟩ := h; rfl) | obtain ⟨_, h⟩ := h)
theorem k__law_clause (T : Txt K mg C) (D : Dfs K mg C) : DCal P w K mg base 3 "_law_clause" s__law_clause := by
  obtain ⟨fd, F, gm⟩ := D.f__law_clause
  exact dcal F gm (FunD.bindsN (ps := ["pool", "many", "role"]) F fun _ _ _ _ _ _ us hl => match us, hl with | [_, _, _], _ => rfl) sc__law_clause len__law_clause (fun cdv A outer sh H E hr => b__law_clause T (up (k__law_draw T D) (by decide)) (up (k__law_or_none T D) (by decide)) hr) (fun ds st P h => v__law_clause ds st P h)
theorem len__law_ladder : ∀ ds st P, s__law_ladder ds st P → ds.length = 2 := by
  intro ds st P h
  unfold s__law_ladder at h
  repeat (first | (obtain ⟨rfl, _⟩ := h; rfl) | (obtain ⟨⟨rfl, _⟩, _⟩ := h; rfl) | obtain ⟨_, h⟩ := h)
theorem k__law_ladder (T : Txt K mg C) (D : Dfs K mg C) : DCal P w K mg base 4 "_law_ladder" s__law_ladder := by
  obtain ⟨fd, F, gm⟩ := D.f__law_ladder
  exact dcal F gm (FunD.bindsN (ps := ["pool", "many"]) F fun _ _ _ _ _ _ us hl => match us, hl with | [_, _], _ => rfl) sc__law_ladder len__law_ladder (fun cdv A outer sh H E hr => b__law_ladder T (up (k__law_clause T D) (by decide)) (up (k__law_draw T D) (by decide)) hr) (fun ds st P h => v__law_ladder ds st P h)
theorem len__law_lot : ∀ ds st P, s__law_lot ds st P → ds.length = 2 := by
  intro ds st P h
  unfold s__law_lot at h
  repeat (first | (obtain ⟨rfl, _⟩ := h; rfl) | (obtain ⟨⟨rfl, _⟩, _⟩ := h; rfl) | obtain ⟨_, h⟩ := h)
theorem k__law_lot (T : Txt K mg C) (D : Dfs K mg C) : DCal P w K mg base 3 "_law_lot" s__law_lot := by
  obtain ⟨fd, F, gm⟩ := D.f__law_lot
  exact dcal F gm (FunD.bindsN (ps := ["pool", "many"]) F fun _ _ _ _ _ _ us hl => match us, hl with | [_, _], _ => rfl) sc__law_lot len__law_lot (fun cdv A outer sh H E hr => b__law_lot T (up (k__law_draw T D) (by decide)) (up (k__law_or_none T D) (by decide)) (up (k__law_some T D) (by decide)) hr) (fun ds st P h => v__law_lot ds st P h)
theorem len__law_reach : ∀ ds st P, s__law_reach ds st P → ds.length = 2 := by
  intro ds st P h
  unfold s__law_reach at h
  repeat (first | (obtain ⟨rfl, _⟩ := h; rfl) | (obtain ⟨⟨rfl, _⟩, _⟩ := h; rfl) | obtain ⟨_, h⟩ := h)
theorem k__law_reach (T : Txt K mg C) (D : Dfs K mg C) : DCal P w K mg base 3 "_law_reach" s__law_reach := by
  obtain ⟨fd, F, gm⟩ := D.f__law_reach
  exact dcal F gm (FunD.bindsN (ps := ["pool", "many"]) F fun _ _ _ _ _ _ us hl => match us, hl with | [_, _], _ => rfl) sc__law_reach len__law_reach (fun cdv A outer sh H E hr => b__law_reach T (up (k__law_draw T D) (by decide)) (up (k__law_some T D) (by decide)) hr) (fun ds st P h => v__law_reach ds st P h)
theorem len__law_cases : ∀ ds st P, s__law_cases ds st P → ds.length = 2 := by
  intro ds st P h
  unfold s__law_cases at h
  repeat (first | (obtain ⟨rfl, _⟩ := h; rfl) | (obtain ⟨⟨rfl, _⟩, _⟩ := h; rfl) | obtain ⟨_, h⟩ := h)
theorem k__law_cases (T : Txt K mg C) (D : Dfs K mg C) : DCal P w K mg base 2 "_law_cases" s__law_cases := by
  obtain ⟨fd, F, gm⟩ := D.f__law_cases
  exact dcal F gm (FunD.bindsN (ps := ["pool", "many"]) F fun _ _ _ _ _ _ us hl => match us, hl with | [_, _], _ => rfl) sc__law_cases len__law_cases (fun cdv A outer sh H E hr => b__law_cases T (up (k__law_draw T D) (by decide)) hr) (fun ds st P h => v__law_cases ds st P h)
theorem len__law_sizes : ∀ ds st P, s__law_sizes ds st P → ds.length = 2 := by
  intro ds st P h
  unfold s__law_sizes at h
  repeat (first | (obtain ⟨rfl, _⟩ := h; rfl) | (obtain ⟨⟨rfl, _⟩, _⟩ := h; rfl) | obtain ⟨_, h⟩ := h)
theorem k__law_sizes (T : Txt K mg C) (D : Dfs K mg C) : DCal P w K mg base 2 "_law_sizes" s__law_sizes := by
  obtain ⟨fd, F, gm⟩ := D.f__law_sizes
  exact dcal F gm (FunD.bindsN (ps := ["pool", "big"]) F fun _ _ _ _ _ _ us hl => match us, hl with | [_, _], _ => rfl) sc__law_sizes len__law_sizes (fun cdv A outer sh H E hr => b__law_sizes T (up (k__law_draw T D) (by decide)) hr) (fun ds st P h => v__law_sizes ds st P h)
theorem len__law_below : ∀ ds st P, s__law_below ds st P → ds.length = 3 := by
  intro ds st P h
  unfold s__law_below at h
  repeat (first | (obtain ⟨rfl, _⟩ := h; rfl) | (obtain ⟨⟨rfl, _⟩, _⟩ := h; rfl) | obtain ⟨_, h⟩ := h)
theorem k__law_below (T : Txt K mg C) (D : Dfs K mg C) : DCal P w K mg base 1 "_law_below" s__law_below := by
  obtain ⟨fd, F, gm⟩ := D.f__law_below
  exact dcal F gm (FunD.bindsN (ps := ["ups", "low", "high"]) F fun _ _ _ _ _ _ us hl => match us, hl with | [_, _, _], _ => rfl) sc__law_below len__law_below (fun cdv A outer sh H E hr => b__law_below T hr) (fun ds st P h => v__law_below ds st P h)
theorem len__law_roles : ∀ ds st P, s__law_roles ds st P → ds.length = 2 := by
  intro ds st P h
  unfold s__law_roles at h
  repeat (first | (obtain ⟨rfl, _⟩ := h; rfl) | (obtain ⟨⟨rfl, _⟩, _⟩ := h; rfl) | obtain ⟨_, h⟩ := h)
theorem k__law_roles (T : Txt K mg C) (D : Dfs K mg C) : DCal P w K mg base 2 "_law_roles" s__law_roles := by
  obtain ⟨fd, F, gm⟩ := D.f__law_roles
  exact dcal F gm (FunD.bindsN (ps := ["fr", "bs"]) F fun _ _ _ _ _ _ us hl => match us, hl with | [_, _], _ => rfl) sc__law_roles len__law_roles (fun cdv A outer sh H E hr => b__law_roles T (up (k__law_below T D) (by decide)) hr) (fun ds st P h => v__law_roles ds st P h)
theorem len__law_parted : ∀ ds st P, s__law_parted ds st P → ds.length = 3 := by
  intro ds st P h
  unfold s__law_parted at h
  repeat (first | (obtain ⟨rfl, _⟩ := h; rfl) | (obtain ⟨⟨rfl, _⟩, _⟩ := h; rfl) | obtain ⟨_, h⟩ := h)
theorem k__law_parted (T : Txt K mg C) (D : Dfs K mg C) : DCal P w K mg base 3 "_law_parted" s__law_parted := by
  obtain ⟨fd, F, gm⟩ := D.f__law_parted
  exact dcal F gm (FunD.bindsN (ps := ["pool", "fr", "most"]) F fun _ _ _ _ _ _ us hl => match us, hl with | [_, _, _], _ => rfl) sc__law_parted len__law_parted (fun cdv A outer sh H E hr => b__law_parted T (up (k__law_draw T D) (by decide)) (up (k__law_roles T D) (by decide)) hr) (fun ds st P h => v__law_parted ds st P h)
theorem len__law_frame : ∀ ds st P, s__law_frame ds st P → ds.length = 2 := by
  intro ds st P h
  unfold s__law_frame at h
  repeat (first | (obtain ⟨rfl, _⟩ := h; rfl) | (obtain ⟨⟨rfl, _⟩, _⟩ := h; rfl) | obtain ⟨_, h⟩ := h)
theorem k__law_frame (T : Txt K mg C) (D : Dfs K mg C) : DCal P w K mg base 5 "_law_frame" s__law_frame := by
  obtain ⟨fd, F, gm⟩ := D.f__law_frame
  exact dcal F gm (FunD.bindsN (ps := ["pool", "many"]) F fun _ _ _ _ _ _ us hl => match us, hl with | [_, _], _ => rfl) sc__law_frame len__law_frame (fun cdv A outer sh H E hr => b__law_frame T (up (k__law_cases T D) (by decide)) (up (k__law_draw T D) (by decide)) (up (k__law_ladder T D) (by decide)) (up (k__law_lot T D) (by decide)) (up (k__law_or_none T D) (by decide)) (up (k__law_parted T D) (by decide)) (up (k__law_reach T D) (by decide)) hr) (fun ds st P h => v__law_frame ds st P h)
theorem len__law_rule : ∀ ds st P, s__law_rule ds st P → ds.length = 3 := by
  intro ds st P h
  unfold s__law_rule at h
  repeat (first | (obtain ⟨rfl, _⟩ := h; rfl) | (obtain ⟨⟨rfl, _⟩, _⟩ := h; rfl) | obtain ⟨_, h⟩ := h)
theorem k__law_rule (T : Txt K mg C) (D : Dfs K mg C) : DCal P w K mg base 4 "_law_rule" s__law_rule := by
  obtain ⟨fd, F, gm⟩ := D.f__law_rule
  exact dcal F gm (FunD.bindsN (ps := ["pool", "fr", "effect"]) F fun _ _ _ _ _ _ us hl => match us, hl with | [_, _, _], _ => rfl) sc__law_rule len__law_rule (fun cdv A outer sh H E hr => b__law_rule T (up (k__law_draw T D) (by decide)) (up (k__law_or_none T D) (by decide)) (up (k__law_reach T D) (by decide)) hr) (fun ds st P h => v__law_rule ds st P h)
theorem len__law_rules : ∀ ds st P, s__law_rules ds st P → ds.length = 3 := by
  intro ds st P h
  unfold s__law_rules at h
  repeat (first | (obtain ⟨rfl, _⟩ := h; rfl) | (obtain ⟨⟨rfl, _⟩, _⟩ := h; rfl) | obtain ⟨_, h⟩ := h)
theorem k__law_rules (T : Txt K mg C) (D : Dfs K mg C) : DCal P w K mg base 5 "_law_rules" s__law_rules := by
  obtain ⟨fd, F, gm⟩ := D.f__law_rules
  exact dcal F gm (FunD.bindsN (ps := ["pool", "fr", "most"]) F fun _ _ _ _ _ _ us hl => match us, hl with | [_, _, _], _ => rfl) sc__law_rules len__law_rules (fun cdv A outer sh H E hr => b__law_rules T (up (k__law_draw T D) (by decide)) (up (k__law_rule T D) (by decide)) hr) (fun ds st P h => v__law_rules ds st P h)
theorem len__law_beneath : ∀ ds st P, s__law_beneath ds st P → ds.length = 2 := by
  intro ds st P h
  unfold s__law_beneath at h
  repeat (first | (obtain ⟨rfl, _⟩ := h; rfl) | (obtain ⟨⟨rfl, _⟩, _⟩ := h; rfl) | obtain ⟨_, h⟩ := h)
theorem k__law_beneath (T : Txt K mg C) (D : Dfs K mg C) : DCal P w K mg base 1 "_law_beneath" s__law_beneath := by
  obtain ⟨fd, F, gm⟩ := D.f__law_beneath
  exact dcal F gm (FunD.bindsN (ps := ["ups", "high"]) F fun _ _ _ _ _ _ us hl => match us, hl with | [_, _], _ => rfl) sc__law_beneath len__law_beneath (fun cdv A outer sh H E hr => b__law_beneath T hr) (fun ds st P h => v__law_beneath ds st P h)
theorem len__law_items : ∀ ds st P, s__law_items ds st P → ds.length = 2 := by
  intro ds st P h
  unfold s__law_items at h
  repeat (first | (obtain ⟨rfl, _⟩ := h; rfl) | (obtain ⟨⟨rfl, _⟩, _⟩ := h; rfl) | obtain ⟨_, h⟩ := h)
theorem k__law_items (T : Txt K mg C) (D : Dfs K mg C) : DCal P w K mg base 1 "_law_items" s__law_items := by
  obtain ⟨fd, F, gm⟩ := D.f__law_items
  exact dcal F gm (FunD.bindsN (ps := ["fr", "rl"]) F fun _ _ _ _ _ _ us hl => match us, hl with | [_, _], _ => rfl) sc__law_items len__law_items (fun cdv A outer sh H E hr => b__law_items T hr) (fun ds st P h => v__law_items ds st P h)
theorem len__law_one_of : ∀ ds st P, s__law_one_of ds st P → ds.length = 3 := by
  intro ds st P h
  unfold s__law_one_of at h
  repeat (first | (obtain ⟨rfl, _⟩ := h; rfl) | (obtain ⟨⟨rfl, _⟩, _⟩ := h; rfl) | obtain ⟨_, h⟩ := h)
theorem k__law_one_of (T : Txt K mg C) (D : Dfs K mg C) : DCal P w K mg base 2 "_law_one_of" s__law_one_of := by
  obtain ⟨fd, F, gm⟩ := D.f__law_one_of
  exact dcal F gm (FunD.bindsN (ps := ["pool", "row", "many"]) F fun _ _ _ _ _ _ us hl => match us, hl with | [_, _, _], _ => rfl) sc__law_one_of len__law_one_of (fun cdv A outer sh H E hr => b__law_one_of T (up (k__law_draw T D) (by decide)) hr) (fun ds st P h => v__law_one_of ds st P h)
theorem len__law_with : ∀ ds st P, s__law_with ds st P → ds.length = 2 := by
  intro ds st P h
  unfold s__law_with at h
  repeat (first | (obtain ⟨rfl, _⟩ := h; rfl) | (obtain ⟨⟨rfl, _⟩, _⟩ := h; rfl) | obtain ⟨_, h⟩ := h)
theorem k__law_with (T : Txt K mg C) (D : Dfs K mg C) : DCal P w K mg base 1 "_law_with" s__law_with := by
  obtain ⟨fd, F, gm⟩ := D.f__law_with
  exact dcal F gm (FunD.bindsN (ps := ["row", "k"]) F fun _ _ _ _ _ _ us hl => match us, hl with | [_, _], _ => rfl) sc__law_with len__law_with (fun cdv A outer sh H E hr => b__law_with T hr) (fun ds st P h => v__law_with ds st P h)
theorem len__law_aimed : ∀ ds st P, s__law_aimed ds st P → ds.length = 4 := by
  intro ds st P h
  unfold s__law_aimed at h
  repeat (first | (obtain ⟨rfl, _⟩ := h; rfl) | (obtain ⟨⟨rfl, _⟩, _⟩ := h; rfl) | obtain ⟨_, h⟩ := h)
theorem k__law_aimed (T : Txt K mg C) (D : Dfs K mg C) : DCal P w K mg base 3 "_law_aimed" s__law_aimed := by
  obtain ⟨fd, F, gm⟩ := D.f__law_aimed
  exact dcal F gm (FunD.bindsN (ps := ["pool", "fr", "rl", "it"]) F fun _ _ _ _ _ _ us hl => match us, hl with | [_, _, _, _], _ => rfl) sc__law_aimed len__law_aimed (fun cdv A outer sh H E hr => b__law_aimed T (up (k__law_beneath T D) (by decide)) (up (k__law_draw T D) (by decide)) (up (k__law_one_of T D) (by decide)) (up (k__law_some T D) (by decide)) (up (k__law_with T D) (by decide)) hr) (fun ds st P h => v__law_aimed ds st P h)
theorem len__law_toggled : ∀ ds st P, s__law_toggled ds st P → ds.length = 3 := by
  intro ds st P h
  unfold s__law_toggled at h
  repeat (first | (obtain ⟨rfl, _⟩ := h; rfl) | (obtain ⟨⟨rfl, _⟩, _⟩ := h; rfl) | obtain ⟨_, h⟩ := h)
theorem k__law_toggled (T : Txt K mg C) (D : Dfs K mg C) : DCal P w K mg base 2 "_law_toggled" s__law_toggled := by
  obtain ⟨fd, F, gm⟩ := D.f__law_toggled
  exact dcal F gm (FunD.bindsN (ps := ["pool", "row", "many"]) F fun _ _ _ _ _ _ us hl => match us, hl with | [_, _, _], _ => rfl) sc__law_toggled len__law_toggled (fun cdv A outer sh H E hr => b__law_toggled T (up (k__law_draw T D) (by decide)) (up (k__law_with T D) (by decide)) hr) (fun ds st P h => v__law_toggled ds st P h)
theorem len__law_moved : ∀ ds st P, s__law_moved ds st P → ds.length = 4 := by
  intro ds st P h
  unfold s__law_moved at h
  repeat (first | (obtain ⟨rfl, _⟩ := h; rfl) | (obtain ⟨⟨rfl, _⟩, _⟩ := h; rfl) | obtain ⟨_, h⟩ := h)
theorem k__law_moved (T : Txt K mg C) (D : Dfs K mg C) : DCal P w K mg base 3 "_law_moved" s__law_moved := by
  obtain ⟨fd, F, gm⟩ := D.f__law_moved
  exact dcal F gm (FunD.bindsN (ps := ["pool", "fr", "sd", "ak"]) F fun _ _ _ _ _ _ us hl => match us, hl with | [_, _, _, _], _ => rfl) sc__law_moved len__law_moved (fun cdv A outer sh H E hr => b__law_moved T (up (k__law_draw T D) (by decide)) (up (k__law_toggled T D) (by decide)) hr) (fun ds st P h => v__law_moved ds st P h)
theorem len__law_start : ∀ ds st P, s__law_start ds st P → ds.length = 3 := by
  intro ds st P h
  unfold s__law_start at h
  repeat (first | (obtain ⟨rfl, _⟩ := h; rfl) | (obtain ⟨⟨rfl, _⟩, _⟩ := h; rfl) | obtain ⟨_, h⟩ := h)
theorem k__law_start (T : Txt K mg C) (D : Dfs K mg C) : DCal P w K mg base 4 "_law_start" s__law_start := by
  obtain ⟨fd, F, gm⟩ := D.f__law_start
  exact dcal F gm (FunD.bindsN (ps := ["pool", "fr", "rl"]) F fun _ _ _ _ _ _ us hl => match us, hl with | [_, _, _], _ => rfl) sc__law_start len__law_start (fun cdv A outer sh H E hr => b__law_start T (up (k__law_aimed T D) (by decide)) (up (k__law_draw T D) (by decide)) (up (k__law_items T D) (by decide)) (up (k__law_one_of T D) (by decide)) (up (k__law_some T D) (by decide)) hr) (fun ds st P h => v__law_start ds st P h)
theorem len__law_other_tree : ∀ ds st P, s__law_other_tree ds st P → ds.length = 2 := by
  intro ds st P h
  unfold s__law_other_tree at h
  repeat (first | (obtain ⟨rfl, _⟩ := h; rfl) | (obtain ⟨⟨rfl, _⟩, _⟩ := h; rfl) | obtain ⟨_, h⟩ := h)
theorem k__law_other_tree (T : Txt K mg C) (D : Dfs K mg C) : DCal P w K mg base 2 "_law_other_tree" s__law_other_tree := by
  obtain ⟨fd, F, gm⟩ := D.f__law_other_tree
  exact dcal F gm (FunD.bindsN (ps := ["pool", "fr"]) F fun _ _ _ _ _ _ us hl => match us, hl with | [_, _], _ => rfl) sc__law_other_tree len__law_other_tree (fun cdv A outer sh H E hr => b__law_other_tree T (up (k__law_draw T D) (by decide)) hr) (fun ds st P h => v__law_other_tree ds st P h)
theorem len__law_other_rule : ∀ ds st P, s__law_other_rule ds st P → ds.length = 3 := by
  intro ds st P h
  unfold s__law_other_rule at h
  repeat (first | (obtain ⟨rfl, _⟩ := h; rfl) | (obtain ⟨⟨rfl, _⟩, _⟩ := h; rfl) | obtain ⟨_, h⟩ := h)
theorem k__law_other_rule (T : Txt K mg C) (D : Dfs K mg C) : DCal P w K mg base 5 "_law_other_rule" s__law_other_rule := by
  obtain ⟨fd, F, gm⟩ := D.f__law_other_rule
  exact dcal F gm (FunD.bindsN (ps := ["pool", "fr", "rl"]) F fun _ _ _ _ _ _ us hl => match us, hl with | [_, _, _], _ => rfl) sc__law_other_rule len__law_other_rule (fun cdv A outer sh H E hr => b__law_other_rule T (up (k__law_draw T D) (by decide)) (up (k__law_rule T D) (by decide)) hr) (fun ds st P h => v__law_other_rule ds st P h)
theorem len__law_up : ∀ ds st P, s__law_up ds st P → ds.length = 2 := by
  intro ds st P h
  unfold s__law_up at h
  repeat (first | (obtain ⟨rfl, _⟩ := h; rfl) | (obtain ⟨⟨rfl, _⟩, _⟩ := h; rfl) | obtain ⟨_, h⟩ := h)
theorem k__law_up (T : Txt K mg C) (D : Dfs K mg C) : DCal P w K mg base 1 "_law_up" s__law_up := by
  obtain ⟨fd, F, gm⟩ := D.f__law_up
  exact dcal F gm (FunD.bindsN (ps := ["ups", "node"]) F fun _ _ _ _ _ _ us hl => match us, hl with | [_, _], _ => rfl) sc__law_up len__law_up (fun cdv A outer sh H E hr => b__law_up T hr) (fun ds st P h => v__law_up ds st P h)
theorem len__law_why : ∀ ds st P, s__law_why ds st P → ds.length = 5 := by
  intro ds st P h
  unfold s__law_why at h
  repeat (first | (obtain ⟨rfl, _⟩ := h; rfl) | (obtain ⟨⟨rfl, _⟩, _⟩ := h; rfl) | obtain ⟨_, h⟩ := h)
theorem k__law_why (T : Txt K mg C) (D : Dfs K mg C) : DCal P w K mg base 2 "_law_why" s__law_why := by
  obtain ⟨fd, F, gm⟩ := D.f__law_why
  exact dcal F gm (FunD.bindsN (ps := ["fr", "rl", "sd", "it", "ak"]) F fun _ _ _ _ _ _ us hl => match us, hl with | [_, _, _, _, _], _ => rfl) sc__law_why len__law_why (fun cdv A outer sh H E hr => b__law_why T (up (k__law_up T D) (by decide)) hr) (fun ds st P h => v__law_why ds st P h)
theorem len__law_same (n : Nat) : ∀ ds st P, s__law_same n ds st P → ds.length = 2 := by
  intro ds st P h
  unfold s__law_same at h
  obtain ⟨_, rfl, _⟩ := h
  rfl
theorem k__law_same (T : Txt K mg C) (D : Dfs K mg C) : ∀ n : Nat, DCal P w K mg base (n + 1) "_law_same" (s__law_same n)
  | 0 => by
    obtain ⟨fd, F, gm⟩ := D.f__law_same
    have c0 : DCal P w K mg base 0 "_law_same" (fun _ _ _ => False) := ⟨_, fd, _, [], ⟨fun _ _ _ _ ⟨_, _, _, _, _, _, z, _⟩ => z.elim, fun _ _ _ _ _ _ _ _ _ _ _ _ _ ⟨_, _, _, _, _, _, z, _⟩ => z.elim⟩, gm, F.kp, (FunD.bindsN (ps := ["got", "due"]) F fun _ _ _ _ _ _ us hl => match us, hl with | [_, _], _ => rfl), .nil⟩
    exact dcal F gm (FunD.bindsN (ps := ["got", "due"]) F fun _ _ _ _ _ _ us hl => match us, hl with | [_, _], _ => rfl) sc__law_same (len__law_same 0) (fun cdv A outer sh H E hr => b__law_same T c0 hr) (fun ds st P h => v__law_same 0 _ (fun m e => by cases e) ds st P h)
  | n + 1 => by
    obtain ⟨fd, F, gm⟩ := D.f__law_same
    exact dcal F gm (FunD.bindsN (ps := ["got", "due"]) F fun _ _ _ _ _ _ us hl => match us, hl with | [_, _], _ => rfl) sc__law_same (len__law_same (n + 1)) (fun cdv A outer sh H E hr => b__law_same T (k__law_same T D n) hr) (fun ds st P h => v__law_same (n + 1) _ (fun m e => by cases e; rfl) ds st P h)
theorem len__law_items_hold (C : Addr) : ∀ ds st P, s__law_items_hold C ds st P → ds.length = 5 := by
  intro ds st P h
  unfold s__law_items_hold at h
  repeat (first | (obtain ⟨rfl, _⟩ := h; rfl) | (obtain ⟨⟨rfl, _⟩, _⟩ := h; rfl) | obtain ⟨_, h⟩ := h)
theorem k__law_items_hold (T : Txt K mg C) (D : Dfs K mg C) : DCal P w K mg base 8 "_law_items_hold" (s__law_items_hold C) := by
  obtain ⟨fd, F, gm⟩ := D.f__law_items_hold
  exact dcal F gm (FunD.bindsN (ps := ["book", "fr", "rl", "sd", "ak"]) F fun _ _ _ _ _ _ us hl => match us, hl with | [_, _, _, _, _], _ => rfl) sc__law_items_hold (len__law_items_hold C) (fun cdv A outer sh H E hr => b__law_items_hold T (up (k__law_items T D) (by decide)) (up (k__law_same T D 2) (by decide)) (up (k__law_why T D) (by decide)) (up (k_applies T D) (by decide)) (up (k_reasons T D) (by decide)) hr) (fun ds st P h => v__law_items_hold C ds st P h)
theorem len_law (C : Addr) : ∀ ds st P, s_law ds st P → ds.length = 1 := by
  intro ds st P h
  unfold s_law at h
  repeat (first | (obtain ⟨rfl, _⟩ := h; rfl) | (obtain ⟨⟨rfl, _⟩, _⟩ := h; rfl) | obtain ⟨_, h⟩ := h)
theorem kf_law {f : Addr} {fd : FuncData} (T : Txt K mg C) (D : Dfs K mg C) (F : FunD K "law" "law" (defArgs st_law) (defBody st_law) (defScope st_law) [] [] f fd) : FnOk P w K mg base C8.CX0 11 f fd ["script"] (spD K s_law) :=
  dfn F sc_law (len_law C) (fun cdv A outer sh H E hr => b_law T (up (k__law_draw T D) (by decide)) (up (k__law_frame T D) (by decide)) (up (k__law_items_hold T D) (by decide)) (up (k__law_moved T D) (by decide)) (up (k__law_other_rule T D) (by decide)) (up (k__law_other_tree T D) (by decide)) (up (k__law_pool T D) (by decide)) (up (k__law_rules T D) (by decide)) (up (k__law_same T D 6) (by decide)) (up (k__law_sizes T D) (by decide)) (up (k__law_start T D) (by decide)) (by decide) (k_Book___init__ T D) hr) (fun ds st P h => v_law C ds st P h)
end
theorem dfs {K : PySem.W.Frag} {h : Heap} {mg : Str → Option Value} (X : K.In h) (G : h.Ns mainGlobals mg) (fs : ∀ f ∈ fa, f.ok K = true) (c : He.SaysD [] fn K) : Dfs K mg (He.ga K "Book") := by
  have gl : ∀ {x : Str}, He.Fa.glo x ∈ fa → mg x = some (.ref (He.ga K x)) := fun m => He.glo_ok X G (fs _ m)
  exact {
    f_under := (c.def_ 0 (d := d_under) rfl).elim fun fd F => ⟨fd, F, gl (by simp [fa])⟩
    f_scope_of := (c.def_ 1 (d := d_scope_of) rfl).elim fun fd F => ⟨fd, F, gl (by simp [fa])⟩
    f_covers := (c.def_ 2 (d := d_covers) rfl).elim fun fd F => ⟨fd, F, gl (by simp [fa])⟩
    f_applies := (c.def_ 3 (d := d_applies) rfl).elim fun fd F => ⟨fd, F, gl (by simp [fa])⟩
    f_scope_reasons := (c.def_ 4 (d := d_scope_reasons) rfl).elim fun fd F => ⟨fd, F, gl (by simp [fa])⟩
    f_lot_reasons := (c.def_ 5 (d := d_lot_reasons) rfl).elim fun fd F => ⟨fd, F, gl (by simp [fa])⟩
    f_reasons := (c.def_ 6 (d := d_reasons) rfl).elim fun fd F => ⟨fd, F, gl (by simp [fa])⟩
    f_whole := (c.def_ 7 (d := d_whole) rfl).elim fun fd F => ⟨fd, F, gl (by simp [fa])⟩
    f_in_range := (c.def_ 8 (d := d_in_range) rfl).elim fun fd F => ⟨fd, F, gl (by simp [fa])⟩
    f_is_row := (c.def_ 9 (d := d_is_row) rfl).elim fun fd F => ⟨fd, F, gl (by simp [fa])⟩
    f_is_row_of := (c.def_ 10 (d := d_is_row_of) rfl).elim fun fd F => ⟨fd, F, gl (by simp [fa])⟩
    f_ascending_row := (c.def_ 11 (d := d_ascending_row) rfl).elim fun fd F => ⟨fd, F, gl (by simp [fa])⟩
    f_scope_form := (c.def_ 12 (d := d_scope_form) rfl).elim fun fd F => ⟨fd, F, gl (by simp [fa])⟩
    f_rule_form := (c.def_ 13 (d := d_rule_form) rfl).elim fun fd F => ⟨fd, F, gl (by simp [fa])⟩
    f_door_form := (c.def_ 14 (d := d_door_form) rfl).elim fun fd F => ⟨fd, F, gl (by simp [fa])⟩
    f_is_entry := (c.def_ 15 (d := d_is_entry) rfl).elim fun fd F => ⟨fd, F, gl (by simp [fa])⟩
    f_is_entry_or_none := (c.def_ 16 (d := d_is_entry_or_none) rfl).elim fun fd F => ⟨fd, F, gl (by simp [fa])⟩
    f_is_mark_row := (c.def_ 17 (d := d_is_mark_row) rfl).elim fun fd F => ⟨fd, F, gl (by simp [fa])⟩
    f_is_verb_row := (c.def_ 18 (d := d_is_verb_row) rfl).elim fun fd F => ⟨fd, F, gl (by simp [fa])⟩
    f_are_roles := (c.def_ 19 (d := d_are_roles) rfl).elim fun fd F => ⟨fd, F, gl (by simp [fa])⟩
    f_counts_of := (c.def_ 20 (d := d_counts_of) rfl).elim fun fd F => ⟨fd, F, gl (by simp [fa])⟩
    f_node_form := (c.def_ 21 (d := d_node_form) rfl).elim fun fd F => ⟨fd, F, gl (by simp [fa])⟩
    f_team_form := (c.def_ 22 (d := d_team_form) rfl).elim fun fd F => ⟨fd, F, gl (by simp [fa])⟩
    f_mark_form := (c.def_ 23 (d := d_mark_form) rfl).elim fun fd F => ⟨fd, F, gl (by simp [fa])⟩
    f_kind_form := (c.def_ 24 (d := d_kind_form) rfl).elim fun fd F => ⟨fd, F, gl (by simp [fa])⟩
    f_clause_form := (c.def_ 25 (d := d_clause_form) rfl).elim fun fd F => ⟨fd, F, gl (by simp [fa])⟩
    f_role_form := (c.def_ 26 (d := d_role_form) rfl).elim fun fd F => ⟨fd, F, gl (by simp [fa])⟩
    f_parted_form := (c.def_ 27 (d := d_parted_form) rfl).elim fun fd F => ⟨fd, F, gl (by simp [fa])⟩
    f_pass_form := (c.def_ 28 (d := d_pass_form) rfl).elim fun fd F => ⟨fd, F, gl (by simp [fa])⟩
    f_lot_form := (c.def_ 29 (d := d_lot_form) rfl).elim fun fd F => ⟨fd, F, gl (by simp [fa])⟩
    f_door_entry_form := (c.def_ 30 (d := d_door_entry_form) rfl).elim fun fd F => ⟨fd, F, gl (by simp [fa])⟩
    f_is_ordinary := (c.def_ 31 (d := d_is_ordinary) rfl).elim fun fd F => ⟨fd, F, gl (by simp [fa])⟩
    f_glass_form := (c.def_ 32 (d := d_glass_form) rfl).elim fun fd F => ⟨fd, F, gl (by simp [fa])⟩
    f_case_form := (c.def_ 33 (d := d_case_form) rfl).elim fun fd F => ⟨fd, F, gl (by simp [fa])⟩
    f_home_form := (c.def_ 34 (d := d_home_form) rfl).elim fun fd F => ⟨fd, F, gl (by simp [fa])⟩
    f_numbers_form := (c.def_ 35 (d := d_numbers_form) rfl).elim fun fd F => ⟨fd, F, gl (by simp [fa])⟩
    f_count_fault := (c.def_ 36 (d := d_count_fault) rfl).elim fun fd F => ⟨fd, F, gl (by simp [fa])⟩
    f_entry_fault := (c.def_ 37 (d := d_entry_fault) rfl).elim fun fd F => ⟨fd, F, gl (by simp [fa])⟩
    f_clause_holds := (c.def_ 38 (d := d_clause_holds) rfl).elim fun fd F => ⟨fd, F, gl (by simp [fa])⟩
    f_roles_had := (c.def_ 39 (d := d_roles_had) rfl).elim fun fd F => ⟨fd, F, gl (by simp [fa])⟩
    f_clashes := (c.def_ 40 (d := d_clashes) rfl).elim fun fd F => ⟨fd, F, gl (by simp [fa])⟩
    f_faulty_part := (c.def_ 41 (d := d_faulty_part) rfl).elim fun fd F => ⟨fd, F, gl (by simp [fa])⟩
    f_Book___init__ := (c.def_ 42 (d := d_Book___init__) rfl).elim fun fd F => ⟨_, fd, mkB fs, F⟩
    f__law_pool := (c.def_ 43 (d := d__law_pool) rfl).elim fun fd F => ⟨fd, F, gl (by simp [fa])⟩
    f__law_draw := (c.def_ 44 (d := d__law_draw) rfl).elim fun fd F => ⟨fd, F, gl (by simp [fa])⟩
    f__law_some := (c.def_ 45 (d := d__law_some) rfl).elim fun fd F => ⟨fd, F, gl (by simp [fa])⟩
    f__law_or_none := (c.def_ 46 (d := d__law_or_none) rfl).elim fun fd F => ⟨fd, F, gl (by simp [fa])⟩
    f__law_clause := (c.def_ 47 (d := d__law_clause) rfl).elim fun fd F => ⟨fd, F, gl (by simp [fa])⟩
    f__law_ladder := (c.def_ 48 (d := d__law_ladder) rfl).elim fun fd F => ⟨fd, F, gl (by simp [fa])⟩
    f__law_lot := (c.def_ 49 (d := d__law_lot) rfl).elim fun fd F => ⟨fd, F, gl (by simp [fa])⟩
    f__law_reach := (c.def_ 50 (d := d__law_reach) rfl).elim fun fd F => ⟨fd, F, gl (by simp [fa])⟩
    f__law_cases := (c.def_ 51 (d := d__law_cases) rfl).elim fun fd F => ⟨fd, F, gl (by simp [fa])⟩
    f__law_sizes := (c.def_ 52 (d := d__law_sizes) rfl).elim fun fd F => ⟨fd, F, gl (by simp [fa])⟩
    f__law_frame := (c.def_ 53 (d := d__law_frame) rfl).elim fun fd F => ⟨fd, F, gl (by simp [fa])⟩
    f__law_below := (c.def_ 54 (d := d__law_below) rfl).elim fun fd F => ⟨fd, F, gl (by simp [fa])⟩
    f__law_roles := (c.def_ 55 (d := d__law_roles) rfl).elim fun fd F => ⟨fd, F, gl (by simp [fa])⟩
    f__law_parted := (c.def_ 56 (d := d__law_parted) rfl).elim fun fd F => ⟨fd, F, gl (by simp [fa])⟩
    f__law_rule := (c.def_ 57 (d := d__law_rule) rfl).elim fun fd F => ⟨fd, F, gl (by simp [fa])⟩
    f__law_rules := (c.def_ 58 (d := d__law_rules) rfl).elim fun fd F => ⟨fd, F, gl (by simp [fa])⟩
    f__law_beneath := (c.def_ 59 (d := d__law_beneath) rfl).elim fun fd F => ⟨fd, F, gl (by simp [fa])⟩
    f__law_items := (c.def_ 60 (d := d__law_items) rfl).elim fun fd F => ⟨fd, F, gl (by simp [fa])⟩
    f__law_one_of := (c.def_ 61 (d := d__law_one_of) rfl).elim fun fd F => ⟨fd, F, gl (by simp [fa])⟩
    f__law_with := (c.def_ 62 (d := d__law_with) rfl).elim fun fd F => ⟨fd, F, gl (by simp [fa])⟩
    f__law_aimed := (c.def_ 63 (d := d__law_aimed) rfl).elim fun fd F => ⟨fd, F, gl (by simp [fa])⟩
    f__law_toggled := (c.def_ 64 (d := d__law_toggled) rfl).elim fun fd F => ⟨fd, F, gl (by simp [fa])⟩
    f__law_moved := (c.def_ 65 (d := d__law_moved) rfl).elim fun fd F => ⟨fd, F, gl (by simp [fa])⟩
    f__law_start := (c.def_ 66 (d := d__law_start) rfl).elim fun fd F => ⟨fd, F, gl (by simp [fa])⟩
    f__law_other_tree := (c.def_ 67 (d := d__law_other_tree) rfl).elim fun fd F => ⟨fd, F, gl (by simp [fa])⟩
    f__law_other_rule := (c.def_ 68 (d := d__law_other_rule) rfl).elim fun fd F => ⟨fd, F, gl (by simp [fa])⟩
    f__law_up := (c.def_ 69 (d := d__law_up) rfl).elim fun fd F => ⟨fd, F, gl (by simp [fa])⟩
    f__law_why := (c.def_ 70 (d := d__law_why) rfl).elim fun fd F => ⟨fd, F, gl (by simp [fa])⟩
    f__law_same := (c.def_ 71 (d := d__law_same) rfl).elim fun fd F => ⟨fd, F, gl (by simp [fa])⟩
    f__law_items_hold := (c.def_ 72 (d := d__law_items_hold) rfl).elim fun fd F => ⟨fd, F, gl (by simp [fa])⟩
    f_law := (c.def_ 73 (d := d_law) rfl).elim fun fd F => ⟨fd, F, gl (by simp [fa])⟩
  }
end K05

set_option Elab.async false
set_option linter.all false
set_option maxRecDepth 100000
set_option maxHeartbeats 0
namespace K05
open PySem PySem.Spec PyProof.Rows L2 DL ClX
theorem facts {P : Program} {w : World} {K : PySem.W.Frag} {h : Heap} {mg : Str → Option Value} {f : Addr} (X : K.In h) (G : h.Ns mainGlobals mg) (hfa : mg ("law" : Str) = some (.ref f)) (ex : exK K = true) (fs : ∀ f ∈ fa, f.ok K = true) (c : He.SaysD [] fn K) :
    ∃ fd : FuncData, (∀ (s : Shared) (v : Value), BindsTo s fd ⟨[v], []⟩ [("script", v)]) ∧ ∀ base : Heap, K.In base → base.Ns mainGlobals mg → FnOk P w K mg base C8.CX0 11 f fd ["script"] (spD K s_law) := by
  have T := txt X G ex fs
  have D := dfs X G fs c
  obtain ⟨fd, F, gm⟩ := D.f_law
  have e := hfa.symm.trans gm
  cases e
  have b := FunD.bindsA (ps := ["script"]) F fun _ _ _ _ _ _ us hl => match us, hl with | [_], _ => rfl
  exact ⟨fd, fun s v => b s [v] rfl, fun base _ _ => kf_law T D F⟩
theorem enter {K : PySem.W.Frag} {H : Hp} {a : Addr} {ns : List Int} (hl : ns.length ≤ 63) (hO : Only H) (hS : SqL K H a (ns.map V.int)) : spD K s_law [.ref a] H (fun v _ => v = .bl true) fun _ _ _ => False := by
  refine ⟨[], [], [.rol (ns.map Val.int)], fun d _ => d = .bl true, ⟨rfl, List.nodup_nil, fun n a c h => by simp at h⟩, ⟨_, [], rfl, ⟨a, ns.map V.int, rfl, ?_, ?_, RVs.ints.mpr rfl⟩, rfl⟩, ?_, ?_⟩
  · rcases hS with (h | ⟨o, h⟩) | h
    · rcases hO a with z | ⟨o, xs, z⟩
      · rw [h] at z; cases z
      · rw [h] at z; cases z
    · exact .inl ⟨o, h⟩
    · exact .inr (.inr h)
  · rw [List.length_map]
    have : sizeLine = 2 ^ 24 := rfl
    omega
  · unfold s_law
    exact ⟨ns, rfl, by omega, rfl⟩
  · intro d st' p ρ' H' x _ _ r
    have e : d = .bl true := p
    subst e
    exact r
end K05
open PySem PySem.W PySem.Calls PyProof.Rows
theorem PySem.Challenge.cw_rightsward_k05_applies_and_reasons_holds : PySem.Challenge.rw_rightsward_k05_applies_and_reasons.Holds := by
  w_on; o_law
  refine HandSHeadRun.head_any (r := OpenLaw.row PySem.Challenge.rw_rightsward_k05_applies_and_reasons) (q := view (OpenLaw.row PySem.Challenge.rw_rightsward_k05_applies_and_reasons).prog [K05.lawAt]) (H := K05.hk) (ob := K05.ob) (M := 6000) (loose := K05.loose) (d := HandSHeadRun.topDef (OpenLaw.row PySem.Challenge.rw_rightsward_k05_applies_and_reasons).prog K05.lawAt) (kwd := []) K05.ob_eq
    (by kernel_rfl) (fun s => by kernel_rfl) K05.run (by kernel_rfl) (by kernel_rfl) (by kernel_rfl) (by rfl) (by first | assumption | decide +kernel) (by decide +kernel) ⟨rfl, rfl, rfl, rfl, rfl, by decide +kernel⟩ ?hw ?hc
  case hw => w_witness2
  case hc =>
    refine L2.walk_ofE (l := PySem.Challenge.rw_rightsward_k05_applies_and_reasons) (n := 63) (k := 11) (x := "script") (CX := C8.CX0) rfl (by decide) (by kernel_rfl) ⟨rfl, by decide, by decide⟩ ?F (fun _ _ _ _ z => z)
    intro w mg fa h Y G hmg0
    obtain ⟨K, KX, ex, fs, c⟩ := Y
    have hmg : mg ("law" : PySem.Str) = some (.ref fa) := by
      have e : (HandSHeadRun.topDef (OpenLaw.row PySem.Challenge.rw_rightsward_k05_applies_and_reasons).prog K05.lawAt).name = ("law" : PySem.Str) := by kernel_rfl
      rw [← e]
      exact hmg0
    obtain ⟨fd, hb, hF⟩ := K05.facts (P := (PySem.Challenge.rw_rightsward_k05_applies_and_reasons).prog) (w := w) KX G hmg ex fs c
    exact ⟨K, fd, DL.spD K K05.s_law, KX, hb, fun H a ns hl hO hS => K05.enter hl hO hS, hF⟩
