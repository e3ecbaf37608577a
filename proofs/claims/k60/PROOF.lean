import PyProof.Rows.All
import Wide.All
import OpenK.AllK
import Wide.FinOn
import HandS.ForMost
import HandS.ForExc
import HandS.Lambda
import HandS.Defaults
import HandS.HeadHook4
import HandS.ExcCtx
import KE.DataEq
import KE.DataCmp
import KE.DataIsa
import KE.DataFind
import KE.SortData
import HandS.Walk
import HandS.TupAny
import HandS.Wide
import HandS.StrMore
import HandS.Style
import KE.KeyNested
import HandS.TupSets
import KE.KRevSl
import HandS.HotCalls
import HandS.ExcIs
import HandS.Deep
import HandS.HeadWalk
import HandS.HeadEnd
import KE.KNestM
import HandS.Text
import HandS.Call
import HandS.Replace
import KE.SortKeyHeap
import HandS.SortKw
import KE.KStateDown
import Lean
import HandS.Base
import HandS.Ends
import HandS.More
import HandS.Words
import HandS.WordsExc
import HandS.Head0
import HandS.Head1
import HandS.Head2
import HandS.HeadHook1
import HandS.HeadHook2
import HandS.HeadHook3
import PySem.Challenge.RW_dialtables_k60_whole_moved
import KE.DatumOrd
set_option Elab.async false
set_option linter.all false
set_option maxRecDepth 100000
set_option maxHeartbeats 2000000
/-! The data layer: values that are plain data, as PyData; what a piece of code makes of them, as a plain function. -/
namespace DL
open PySem PySem.Spec PyProof.Rows L2 LamX

abbrev D := PyData
abbrev Frag := PySem.W.Frag

/-- what a piece of code comes to: a thing, a refusal (its class by name), or nothing that is told -/
inductive R (α : Type) where
  | ok (a : α)
  | exc (c : Str)
  | no
@[inline] def R.bind {α β : Type} (r : R α) (f : α → R β) : R β :=
  match r with
  | .ok a => f a
  | .exc c => .exc c
  | .no => .no
theorem R.bind_ok {α β : Type} (a : α) (f : α → R β) : (R.ok a).bind f = f a := rfl
theorem R.bind_exc {α β : Type} (c : Str) (f : α → R β) : (R.exc c : R α).bind f = .exc c := rfl
theorem R.bind_no {α β : Type} (f : α → R β) : (R.no : R α).bind f = .no := rfl

/-- a slot: unknown, a datum, a list that is being made -/
inductive Sl where
  | no
  | dat (d : D)
  | ml (ds : List D)
  | obj (v : V)
abbrev Rho := List Sl

/-! ### data in the heap -/
/-- a list that stays as it is -/
def FzL (K : Frag) (H : Hp) (a : Addr) (o : Obj) (xs : List V) : Prop := H a = some (.frz o (.lst xs)) ∨
  ∃ (its : Array Value) (n : Nat), K.lookup a = some o ∧ o.cls = .type "list" ∧ o.dict = none ∧ o.data = .seq its n ∧ its.size ≤ sizeLine ∧ Vals xs its.toList
theorem FzL.sq {K : Frag} {H : Hp} {a : Addr} {o : Obj} {xs : List V} (h : FzL K H a o xs) : SqL K H a xs := by
  rcases h with h | ⟨its, n, h⟩
  · exact .inl (.inr ⟨o, h⟩)
  · exact .inr ⟨o, its, n, h⟩
theorem FzL.imp {K : Frag} {H H' : Hp} {a : Addr} {o : Obj} {xs : List V} (h : FzL K H a o xs) (k : H a = some (.frz o (.lst xs)) → H' a = some (.frz o (.lst xs))) : FzL K H' a o xs := h.elim (fun z => .inl (k z)) .inr
mutual
def Rp (K : Frag) (H : Hp) : D → V → Prop
  | .none, v => v = .non
  | .bool b, v => v = .bl b
  | .int i, v => v = .int i
  | .str x, v => v = .str x ∧ x.length ≤ sizeLine
  | .list ds, v => ∃ a o xs, v = .ref a ∧ FzL K H a o xs ∧ RpL K H ds xs ∧ ds.length ≤ sizeLine
  | .tuple ds, v => ∃ a xs, v = .ref a ∧ SqT K H a xs ∧ RpL K H ds xs ∧ ds.length ≤ sizeLine
  | .dict _, _ => False
def RpL (K : Frag) (H : Hp) : List D → List V → Prop
  | [], vs => vs = []
  | d :: ds, vs => ∃ v r, vs = v :: r ∧ Rp K H d v ∧ RpL K H ds r
end

/-- all stays but the tables, and these stay tables -/
structure Ex (T : List (Addr × Str)) (H H' : Hp) : Prop where
  e : ExtN H H'
  t : Tabs T H → Tabs T H'
section
variable {T : List (Addr × Str)} {K : Frag} {H H' H1 H2 : Hp}
theorem Ex.refl : Ex T H H := ⟨ExtN.refl H, id⟩
theorem Ex.trans (a : Ex T H H1) (b : Ex T H1 H2) : Ex T H H2 := ⟨a.e.trans b.e, fun z => b.t (a.t z)⟩
theorem Ex.of (h : ∀ b o, H b = some o → H' b = some o) : Ex T H H' := ⟨ExtN.of h, fun z => z.ext h⟩
theorem keep_upd {a : Addr} {o : HO} (h : H a = none) : ∀ b u, H b = some u → upd H a o b = some u := fun b u e => by
  rw [upd_ne (ne_of_none e h)]; exact e
theorem Ex.new {a : Addr} {o : HO} (h : H a = none) : Ex T H (upd H a o) := Ex.of (keep_upd h)
theorem sqT_mono (x : ExtN H H') {a : Addr} {xs : List V} (h : SqT K H a xs) : SqT K H' a xs := by
  rcases h with (h | ⟨o, h⟩) | h
  · exact .inl (.inl (x _ _ h fun _ z => by cases z))
  · exact .inl (.inr ⟨o, x _ _ h fun _ z => by cases z⟩)
  · exact .inr h
mutual
theorem Rp.mono (x : ExtN H H') : ∀ (d : D) (v : V), Rp K H d v → Rp K H' d v
  | .none, _, h => h
  | .bool _, _, h => h
  | .int _, _, h => h
  | .str _, _, h => h
  | .list ds, v, h => by
    obtain ⟨a, o, xs, e, ha, hs, hl⟩ := h
    exact ⟨a, o, xs, e, ha.imp fun ha => x _ _ ha (fun _ z => by cases z), RpL.mono x ds xs hs, hl⟩
  | .tuple ds, v, h => by
    obtain ⟨a, xs, e, ha, hs, hl⟩ := h
    exact ⟨a, xs, e, sqT_mono x ha, RpL.mono x ds xs hs, hl⟩
  | .dict _, _, h => h
theorem RpL.mono (x : ExtN H H') : ∀ (ds : List D) (vs : List V), RpL K H ds vs → RpL K H' ds vs
  | [], _, h => h
  | d :: ds, vs, h => by
    obtain ⟨v, r, e, h1, h2⟩ := h
    exact ⟨v, r, e, Rp.mono x d v h1, RpL.mono x ds r h2⟩
end
theorem RpL.len : ∀ {ds : List D} {vs : List V}, RpL K H ds vs → vs.length = ds.length
  | [], _, h => by
    have h : _ = [] := h
    subst h; rfl
  | _ :: ds, _, h => by
    obtain ⟨v, r, e, _, h2⟩ := h
    subst e
    simp [RpL.len h2]
theorem RpL.get : ∀ {ds : List D} {vs : List V} {i : Nat} {d : D}, RpL K H ds vs → ds[i]? = some d → ∃ v, vs[i]? = some v ∧ Rp K H d v
  | [], _, _, _, _, e => by simp at e
  | d :: ds, _, 0, _, h, e => by
    obtain ⟨v, r, e1, h1, _⟩ := h
    simp at e; subst e; subst e1
    exact ⟨v, rfl, h1⟩
  | _ :: ds, _, i + 1, d, h, e => by
    obtain ⟨v, r, e1, _, h2⟩ := h
    subst e1
    obtain ⟨u, q1, q2⟩ := RpL.get (i := i) (d := d) h2 (by simpa using e)
    exact ⟨u, by simpa using q1, q2⟩
theorem RpL.getV : ∀ {ds : List D} {vs : List V} {i : Nat} {v : V}, RpL K H ds vs → vs[i]? = some v → ∃ d, ds[i]? = some d ∧ Rp K H d v
  | [], _, _, _, h, e => by
    have h : _ = [] := h
    subst h; simp at e
  | d :: ds, _, 0, _, h, e => by
    obtain ⟨v, r, e1, h1, _⟩ := h
    subst e1; simp at e; subst e
    exact ⟨d, rfl, h1⟩
  | _ :: ds, _, i + 1, v, h, e => by
    obtain ⟨u, r, e1, _, h2⟩ := h
    subst e1
    obtain ⟨d, q1, q2⟩ := RpL.getV (i := i) (v := v) h2 (by simpa using e)
    exact ⟨d, by simpa using q1, q2⟩
theorem RpL.app : ∀ {as bs : List D} {vs ws : List V}, RpL K H as vs → RpL K H bs ws → RpL K H (as ++ bs) (vs ++ ws)
  | [], _, _, _, h, g => by
    have h : _ = [] := h
    subst h; exact g
  | a :: as, _, _, _, h, g => by
    obtain ⟨v, r, e1, h1, h2⟩ := h
    subst e1
    exact ⟨v, r ++ _, rfl, h1, RpL.app h2 g⟩
theorem RpL.dropN : ∀ {as : List D} {vs : List V} (n : Nat), RpL K H as vs → RpL K H (as.drop n) (vs.drop n)
  | _, _, 0, h => h
  | [], _, _ + 1, h => by
    have h : _ = [] := h
    subst h; exact rfl
  | _ :: as, _, n + 1, h => by
    obtain ⟨v, r, e1, h1, h2⟩ := h
    subst e1
    exact RpL.dropN (as := as) n h2
theorem RpL.takeN : ∀ {as : List D} {vs : List V} (n : Nat), RpL K H as vs → RpL K H (as.take n) (vs.take n)
  | _, _, 0, _ => rfl
  | [], _, _ + 1, h => by
    have h : _ = [] := h
    subst h; exact rfl
  | _ :: as, _, n + 1, h => by
    obtain ⟨v, r, e1, h1, h2⟩ := h
    subst e1
    exact ⟨v, r.take n, rfl, h1, RpL.takeN (as := as) n h2⟩
theorem RpL.rev : ∀ {as : List D} {vs : List V}, RpL K H as vs → RpL K H as.reverse vs.reverse
  | [], _, h => by
    have h : _ = [] := h
    subst h; exact rfl
  | a :: as, _, h => by
    obtain ⟨v, r, e1, h1, h2⟩ := h
    subst e1
    rw [List.reverse_cons, List.reverse_cons]
    exact RpL.app (RpL.rev h2) ⟨v, [], rfl, h1, rfl⟩
theorem RpL.one {d : D} {v : V} (h : Rp K H d v) : RpL K H [d] [v] := ⟨v, [], rfl, h, rfl⟩
end

/-! ### data as the library reads it -/
section
variable {X : Cx} {pins : List (Addr × Obj)} {σ : L2.St} {H : Hp} {s : Shared}
mutual
theorem Rp.dp : ∀ (d : D) (v : V), Rp X.K H d v → Dp X.K H v d
  | .none, _, h => by cases h; exact .non
  | .bool b, _, h => by cases h; exact .bl b
  | .int b, _, h => by cases h; exact .int b
  | .str b, _, h => by obtain ⟨h, _⟩ := h; cases h; exact .str b
  | .list ds, v, h => by
    obtain ⟨a, o, xs, e, ha, hs, _⟩ := h
    subst e
    exact .lst (ha.sq) (RpL.dp ds xs hs)
  | .tuple ds, v, h => by
    obtain ⟨a, xs, e, ha, hs, _⟩ := h
    subst e
    exact .tup ha (RpL.dp ds xs hs)
  | .dict _, _, h => h.elim
theorem RpL.dp : ∀ (ds : List D) (vs : List V), RpL X.K H ds vs → DpAll X.K H vs ds
  | [], _, h => by
    have h : _ = [] := h
    subst h; exact .nil
  | d :: ds, vs, h => by
    obtain ⟨v, r, e, h1, h2⟩ := h
    subst e
    exact .cons (Rp.dp d v h1) (RpL.dp ds r h2)
end
mutual
theorem Rp.plain : ∀ (d : D) (v : V), Rp X.K H d v → d.plain = true
  | .none, _, _ => rfl
  | .bool _, _, _ => rfl
  | .int _, _, _ => rfl
  | .str _, _, _ => rfl
  | .list ds, v, h => by
    obtain ⟨a, o, xs, e, ha, hs, _⟩ := h
    exact RpL.plain ds xs hs
  | .tuple ds, v, h => by
    obtain ⟨a, xs, e, ha, hs, _⟩ := h
    exact RpL.plain ds xs hs
  | .dict _, _, h => h.elim
theorem RpL.plain : ∀ (ds : List D) (vs : List V), RpL X.K H ds vs → PyData.plainAll ds = true
  | [], _, _ => rfl
  | d :: ds, vs, h => by
    obtain ⟨v, r, e, h1, h2⟩ := h
    show (d.plain && PyData.plainAll ds) = true
    rw [Rp.plain d v h1, RpL.plain ds r h2]; rfl
end
theorem Rp.reads (I : Inv X pins σ H s) {d : D} {v : V} {u : Value} (h : Rp X.K H d v) (r : RelV v u) : ∃ as, Reads s.heap u d as := Dp.reads I d v u (Rp.dp d v h) r
end

/-! ### the state -/
/-- at p stands nothing of the ground (but a table, of which nothing is promised) -/
def Nw (Hb : Hp) (p : Addr) : Prop := ∀ o, Hb p = some o → ∃ ps, o = .tbl ps
theorem Nw.of {Hb : Hp} {p : Addr} (h : Hb p = none) : Nw Hb p := fun o e => by rw [h] at e; cases e
def SlR (K : Frag) (H Hb : Hp) (s : Sl) (o : Option V) : Prop :=
  match s with
  | .no => True
  | .dat d => ∃ v, o = some v ∧ Rp K H d v
  | .ml ds => ∃ p xs, o = some (.ref p) ∧ H p = some (.lst xs) ∧ RpL K H ds xs ∧ Nw Hb p
  | .obj v => o = some v
def isOwn : Sl → Bool
  | .ml _ => true
  | _ => false
structure SR (K : Frag) (T : List (Addr × Str)) (Hb : Hp) (ρ : Rho) (σ : L2.St) (H : Hp) : Prop where
  len : ρ.length = σ.length
  sl : ∀ i s, ρ[i]? = some s → SlR K H Hb s (σ.getD i none)
  inj : ∀ i j s u p, ρ[i]? = some s → ρ[j]? = some u → isOwn s = true → isOwn u = true → σ.getD i none = some (.ref p) → σ.getD j none = some (.ref p) → i = j
  ext : ExtN Hb H
  tab : Tabs T H
section
variable {K : Frag} {T : List (Addr × Str)} {Hb H H' : Hp} {ρ : Rho} {σ : L2.St}
theorem SlR.mono (x : ExtN H H') {s : Sl} {o : Option V} (h : SlR K H Hb s o) : SlR K H' Hb s o := by
  cases s with
  | no => trivial
  | dat d => obtain ⟨v, e, h⟩ := h; exact ⟨v, e, Rp.mono x d v h⟩
  | obj v => exact h
  | ml ds => obtain ⟨p, xs, e, hp, hs, hb⟩ := h; exact ⟨p, xs, e, x _ _ hp (fun _ z => by cases z), RpL.mono x ds xs hs, hb⟩
theorem SR.mono (s : SR K T Hb ρ σ H) (x : Ex T H H') : SR K T Hb ρ σ H' :=
  ⟨s.len, fun i u e => (s.sl i u e).mono x.e, s.inj, s.ext.trans x.e, x.t s.tab⟩
end

/-! ### readings -/
section
variable (K : Frag) (T : List (Addr × Str)) (W : WX)
def Res (r : R D) (σ : L2.St) (H : Hp) (Q : VK) : Prop :=
  match r with
  | .ok d => ∀ v H', Ex T H H' → Rp K H' d v → Q v H'
  | .exc c => ∀ H', Ex T H H' → W (.ref (He.ga K c)) none σ H'
  | .no => False
def dE (f : Rho → R D) : TE := fun σ H Q => ∃ Hb ρ, SR K T Hb ρ σ H ∧ Res K T W (f ρ) σ H Q
def ResB (r : R Bool) (σ : L2.St) (H : Hp) (Q : Bool → Hp → Prop) : Prop :=
  match r with
  | .ok b => ∀ H', Ex T H H' → Q b H'
  | .exc c => ∀ H', Ex T H H' → W (.ref (He.ga K c)) none σ H'
  | .no => False
def dT (f : Rho → R Bool) : TT := fun σ H Q => ∃ Hb ρ, SR K T Hb ρ σ H ∧ ResB K T W (f ρ) σ H Q
def ResA (r : R (List D)) (σ : L2.St) (H : Hp) (Q : List V → Hp → Prop) : Prop :=
  match r with
  | .ok ds => ∀ vs H', Ex T H H' → RpL K H' ds vs → Q vs H'
  | .exc c => ∀ H', Ex T H H' → W (.ref (He.ga K c)) none σ H'
  | .no => False
def dA (f : Rho → R (List D)) : TA := fun σ H Q => ∃ Hb ρ, SR K T Hb ρ σ H ∧ ResA K T W (f ρ) σ H Q
/-- what an operation of built-in kind gives -/
def OutR (r : R D) (H : Hp) (Q : VK) : Prop :=
  match r with
  | .ok d => ∀ v H', Ex T H H' → Rp K H' d v → Q v H'
  | _ => False
def rD (g : D → D → R D) : R2 := fun x y H Q => ∃ a b, Rp K H a x ∧ Rp K H b y ∧ OutR K T (g a b) H Q
def rDn (g : List D → R D) : List V → Hp → VK → Prop := fun vs H Q => ∃ ds, RpL K H ds vs ∧ OutR K T (g ds) H Q
def rDm (g : D → List D → R D) : V → List V → Hp → VK → Prop := fun x vs H Q => ∃ d ds, Rp K H d x ∧ RpL K H ds vs ∧ OutR K T (g d ds) H Q
end
abbrev DE (T : List (Addr × Str)) (X : Cx) (W : WX) (e : Expr) (f : Rho → R D) : Prop := PE X e (dE X.K T W f)
abbrev DT (T : List (Addr × Str)) (X : Cx) (W : WX) (e : Expr) (f : Rho → R Bool) : Prop := PT X e (dT X.K T W f)
abbrev DW (T : List (Addr × Str)) (X : Cx) (W : WX) (e : Expr) (f : Rho → R Bool) : Prop := PW X e (dT X.K T W f)
abbrev DA (T : List (Addr × Str)) (X : Cx) (W : WX) (es : List Expr) (f : Rho → R (List D)) : Prop := PA X es (dA X.K T W f)

section
variable {X : Cx} {T : List (Addr × Str)} {W : WX} {e a b c : Expr} {fe fa fb fc : Rho → R D} {pos p p2 : Pos}
theorem PE.imp {t u : TE} (h : PE X e t) (k : ∀ σ H Q, u σ H Q → t σ H Q) : PE X e u := ⟨fun pins s σ H Q I q => h.run pins s σ H Q I (k σ H Q q)⟩
theorem PT.imp {t u : TT} (h : PT X e t) (k : ∀ σ H Q, u σ H Q → t σ H Q) : PT X e u := ⟨fun pins s σ H Q I q => h.run pins s σ H Q I (k σ H Q q)⟩
theorem PW.imp {t u : TT} (h : PW X e t) (k : ∀ σ H Q, u σ H Q → t σ H Q) : PW X e u := ⟨fun wh pins s σ H Q I q => h.run wh pins s σ H Q I (k σ H Q q)⟩
theorem PA.imp {es : List Expr} {t u : TA} (h : PA X es t) (k : ∀ σ H Q, u σ H Q → t σ H Q) : PA X es u := ⟨fun ps pins s σ H Q I q => h.run ps pins s σ H Q I (k σ H Q q)⟩

/-! names, as the kernel can look them up -/
def visB (sc : Scope) (x : Str) : Bool := match sc.names.lookup x with
  | some .local => true
  | some .cell => true
  | some .free => true
  | _ => false
theorem vis_of {sc : Scope} {x : Str} (h : visB sc x = true) : Vis sc x := by
  unfold visB at h
  split at h
  · exact .inl (by assumption)
  · exact .inr (.inl (by assumption))
  · exact .inr (.inr (by assumption))
  · cases h
def locB (sc : Scope) (x : Str) : Bool := match sc.names.lookup x with
  | some .local => true
  | some .cell => true
  | _ => false
theorem loc_of {sc : Scope} {x : Str} (h : locB sc x = true) : Loc sc x := by
  unfold locB at h
  split at h
  · exact .inl (by assumption)
  · exact .inr (by assumption)
  · cases h
def fnB (X : Cx) (x : Str) : Bool := X.fn x || (match X.env.scope.names.lookup x with
  | some .local => true
  | _ => false)
theorem fn_of' {X : Cx} {x : Str} (h : fnB X x = true) : X.fn x = true ∨ X.env.scope.names.lookup x = some .local := by
  unfold fnB at h
  rcases Bool.or_eq_true_iff.mp h with h | h
  · exact .inl h
  · split at h
    · exact .inr (by assumption)
    · cases h

/-! #### the functions -/
def eVar (i : Nat) : Rho → R D := fun ρ => match ρ[i]? with
  | some (.dat d) => .ok d
  | _ => .no
def eC (d : D) : Rho → R D := fun _ => .ok d
def eBin (g : D → D → R D) (fa fb : Rho → R D) : Rho → R D := fun ρ => (fa ρ).bind fun x => (fb ρ).bind fun y => g x y
def eUn (g : D → R D) (fa : Rho → R D) : Rho → R D := fun ρ => (fa ρ).bind g
def asB : D → R Bool
  | .bool b => .ok b
  | _ => .no
def tVal (fa : Rho → R D) : Rho → R Bool := fun ρ => (fa ρ).bind asB
def tNt (f : Rho → R Bool) : Rho → R Bool := fun ρ => (f ρ).bind fun b => .ok (!b)
def tAn (f g : Rho → R Bool) : Rho → R Bool := fun ρ => (f ρ).bind fun b => if b then g ρ else .ok false
def tOrr (f g : Rho → R Bool) : Rho → R Bool := fun ρ => (f ρ).bind fun b => if b then .ok true else g ρ
def eAnd (f g : Rho → R D) : Rho → R D := fun ρ => (tVal f ρ).bind fun b => if b then g ρ else .ok (.bool false)
def eOr (f g : Rho → R D) : Rho → R D := fun ρ => (tVal f ρ).bind fun b => if b then .ok (.bool true) else g ρ
def eNot (f : Rho → R D) : Rho → R D := fun ρ => (tVal f ρ).bind fun b => .ok (.bool (!b))
def eIf (t : Rho → R Bool) (f g : Rho → R D) : Rho → R D := fun ρ => (t ρ).bind fun b => if b then f ρ else g ρ
def aNil : Rho → R (List D) := fun _ => .ok []
def aCons (f : Rho → R D) (g : Rho → R (List D)) : Rho → R (List D) := fun ρ => (f ρ).bind fun d => (g ρ).bind fun ds => .ok (d :: ds)
def eCallB (g : List D → R D) (f : Rho → R (List D)) : Rho → R D := fun ρ => (f ρ).bind g
def eMeth (g : D → List D → R D) (fo : Rho → R D) (f : Rho → R (List D)) : Rho → R D := fun ρ => (fo ρ).bind fun d => (f ρ).bind fun ds => g d ds

/-! #### their rules -/
theorem d_var (i : Nat) {x : Str} (hN : X.N[i]? = some x := by kernel_rfl) (hv : visB X.env.scope x = true := by kernel_rfl) (hd : (x == ("__debug__" : Str)) = false := by kernel_rfl)
    (hcd : (x == ("__classdict__" : Str)) = false := by kernel_rfl) : DE T X W (.Name x pos) (eVar i) := by
  refine PE.imp (pe_var (i := i) hN (vis_of hv) hd hcd) fun σ H Q h => ?_
  obtain ⟨Hb, ρ, S, q⟩ := h
  unfold eVar at q
  split at q
  · rename_i d e
    obtain ⟨v, ev, hr⟩ := S.sl i _ e
    refine ⟨v, ?_, q v H Ex.refl hr⟩
    have hi : i < σ.length := by rw [← S.len]; exact (List.getElem?_eq_some_iff.mp e).1
    rw [List.getD_eq_getElem?_getD, List.getElem?_eq_getElem hi] at ev
    rw [List.getElem?_eq_getElem hi]
    simpa using ev
  · exact q.elim
theorem d_konst {v : V} {d : D} (h : PE X e (tC v)) (hr : ∀ H, Rp X.K H d v) : DE T X W e (eC d) := by
  refine PE.imp h fun σ H Q h => ?_
  obtain ⟨Hb, ρ, S, q⟩ := h
  exact q v H Ex.refl (hr H)
theorem d_int {i : Int} {j : Nat} : DE T X W (.Constant (.int i) j pos) (eC (.int i)) := d_konst pe_int fun _ => rfl
theorem d_str {i : Str} {j : Nat} (hl : i.length ≤ sizeLine := by decide +kernel) : DE T X W (.Constant (.str i) j pos) (eC (.str i)) := d_konst pe_str fun _ => ⟨rfl, hl⟩
theorem d_bl {i : Bool} {j : Nat} : DE T X W (.Constant (.bool i) j pos) (eC (.bool i)) := d_konst pe_bl fun _ => rfl
theorem d_non {j : Nat} : DE T X W (.Constant .none j pos) (eC .none) := d_konst pe_non fun _ => rfl

theorem two (ta : TE) (h1 : ta = dE X.K T W fa) (tb : TE) (h2 : tb = dE X.K T W fb) {k : V → V → Hp → VK → Prop} {g : D → D → R D} {σ : L2.St} {H : Hp} {Q : VK}
    (h : dE X.K T W (eBin g fa fb) σ H Q)
    (hk : ∀ x y a b H2, Ex T H H2 → Rp X.K H2 a x → Rp X.K H2 b y → Res X.K T W (g a b) σ H2 Q → k x y H2 Q) :
    ta σ H fun x H1 => tb σ H1 fun y H2 => k x y H2 Q := by
  subst h1; subst h2
  obtain ⟨Hb, ρ, S, q⟩ := h
  unfold eBin at q
  refine ⟨Hb, ρ, S, ?_⟩
  cases ea : fa ρ with
  | no => rw [ea] at q; exact q.elim
  | exc c => rw [ea] at q; exact q
  | ok d =>
    rw [ea] at q
    intro x H1 x1 r1
    have S1 := S.mono x1
    refine ⟨Hb, ρ, S1, ?_⟩
    cases eb : fb ρ with
    | no => rw [R.bind_ok, eb] at q; exact q.elim
    | exc c => rw [R.bind_ok, eb] at q; exact fun H' x2 => q H' (x1.trans x2)
    | ok d2 =>
      rw [R.bind_ok, eb, R.bind_ok] at q
      intro y H2 x2 r2
      refine hk x y d d2 H2 (x1.trans x2) (Rp.mono x2.e d x r1) r2 ?_
      cases eg : g d d2 with
      | no => rw [eg] at q; exact q.elim
      | exc c => rw [eg] at q; exact fun H' x3 => q H' ((x1.trans x2).trans x3)
      | ok d3 => rw [eg] at q; exact fun v H' x3 r3 => q v H' ((x1.trans x2).trans x3) r3
/-- a built-in's answer is no refusal -/
def Tame2 (g : D → D → R D) : Prop := ∀ a b c, g a b ≠ .exc c
theorem outR_of {g : R D} {σ : L2.St} {H : Hp} {Q : VK} (ht : ∀ c, g ≠ .exc c) (h : Res X.K T W g σ H Q) : OutR X.K T g H Q := by
  cases g with
  | ok d => exact h
  | no => exact h
  | exc c => exact (ht c rfl).elim
theorem d_bin {op : Operator} {g : D → D → R D} (ho : OpR X (binaryOp op) (rD X.K T g)) (ht : Tame2 g) (ha : DE T X W a fa) (hb : DE T X W b fb) : DE T X W (.BinOp a op b pos) (eBin g fa fb) :=
  PE.imp (pe_op ho ha hb) fun σ H Q h => two _ rfl _ rfl h fun x y a b H2 x2 r1 r2 q => ⟨a, b, r1, r2, outR_of (ht a b) q⟩
theorem d_cmp {op : CmpOp} {g : D → D → R D} (ho : OpR X (compareOp op) (rD X.K T g)) (ht : Tame2 g) (ha : DE T X W a fa) (hb : DE T X W b fb) (hm : behindInMarks op b = false) : DE T X W (.Compare a [op] [b] pos) (eBin g fa fb) :=
  PE.imp (pe_cmpR ho ha hb hm) fun σ H Q h => two _ rfl _ rfl h fun x y a b H2 x2 r1 r2 q => ⟨a, b, r1, r2, outR_of (ht a b) q⟩
theorem d_idx {g : D → D → R D} (ho : IxR X (rD X.K T g)) (ht : Tame2 g) (ha : DE T X W a fa) (hb : DE T X W b fb) (hs : ∀ o i, subscripted b false o i = operate [o, i] (getItem o i) := by intro _ _; kernel_rfl) : DE T X W (.Subscript a b pos) (eBin g fa fb) :=
  PE.imp (pe_ix ho ha hb hs) fun σ H Q h => two _ rfl _ rfl h fun x y a b H2 x2 r1 r2 q => ⟨a, b, r1, r2, outR_of (ht a b) q⟩

/-- a datum that is a truth -/
theorem toB {f : Rho → R D} {σ : L2.St} {H : Hp} {Q : Bool → Hp → Prop} (h : dT X.K T W (tVal f) σ H Q) : dE X.K T W f σ H fun x H1 => ∃ k, x = .bl k ∧ Q k H1 := by
  obtain ⟨Hb, ρ, S, q⟩ := h
  refine ⟨Hb, ρ, S, ?_⟩
  unfold tVal at q
  cases ea : f ρ with
  | no => rw [ea] at q; exact q.elim
  | exc c => rw [ea] at q; exact q
  | ok d =>
    rw [ea] at q
    intro v H1 x1 r1
    cases d with
    | bool b => exact ⟨b, r1, q H1 x1⟩
    | _ => exact q.elim
theorem dt_val (h : DE T X W e fe) (he : ∀ whole, isTrue e X.env whole = (do let v ← whole; standAt e.pos; holding [v] (truthy v)) := by intro _; kernel_rfl) : DT T X W e (tVal fe) :=
  PT.imp (pt_val h he) fun σ H Q q => toB q
theorem dt_cmp {op : CmpOp} {g : D → D → R D} (ho : OpR X (compareOp op) (rD X.K T g)) (ht : Tame2 g) (ha : DE T X W a fa) (hb : DE T X W b fb) (hm : behindInMarks op b = false) : DT T X W (.Compare a [op] [b] pos) (tVal (eBin g fa fb)) :=
  PT.imp (pt_cmpR ho ha hb hm) fun σ H Q q => two (k := fun x y H2 Q => rD X.K T g x y H2 Q) _ rfl _ rfl (toB q) fun x y a b H2 x2 r1 r2 q => ⟨a, b, r1, r2, outR_of (ht a b) q⟩
theorem dt_not {f : Rho → R Bool} (h : DT T X W e f) : DT T X W (.UnaryOp .Not e pos) (tNt f) := by
  refine PT.imp (pt_not h) fun σ H Q q => ?_
  obtain ⟨Hb, ρ, S, q⟩ := q
  refine ⟨Hb, ρ, S, ?_⟩
  unfold tNt at q
  cases ea : f ρ with
  | no => rw [ea] at q; exact q.elim
  | exc c => rw [ea] at q; exact q
  | ok d => rw [ea] at q; exact q
variable {rest : List Expr} {f g : Rho → R Bool}
theorem dw_and1 (h : DT T X W a f) : DW T X W (.BoolOp .And [a] pos) f := pw_and1 h
theorem dw_or1 (h : DT T X W a f) : DW T X W (.BoolOp .Or [a] pos) f := pw_or1 h
theorem dw_and (h1 : DT T X W a f) (h2 : DW T X W (.BoolOp .And (b :: rest) pos) g) : DW T X W (.BoolOp .And (a :: b :: rest) pos) (tAn f g) := by
  refine PW.imp (pw_and h1 h2) fun σ H Q q => ?_
  obtain ⟨Hb, ρ, S, q⟩ := q
  refine ⟨Hb, ρ, S, ?_⟩
  unfold tAn at q
  cases ea : f ρ with
  | no => rw [ea] at q; exact q.elim
  | exc c => rw [ea] at q; exact q
  | ok d =>
    rw [ea, R.bind_ok] at q
    intro H1 x1
    cases d with
    | false => exact q H1 x1
    | true =>
      refine ⟨Hb, ρ, S.mono x1, ?_⟩
      rw [if_pos rfl] at q
      cases eb : g ρ with
      | no => rw [eb] at q; exact q.elim
      | exc c => rw [eb] at q; exact fun H' x2 => q H' (x1.trans x2)
      | ok d => rw [eb] at q; exact fun H' x2 => q H' (x1.trans x2)
theorem dw_or (h1 : DT T X W a f) (h2 : DW T X W (.BoolOp .Or (b :: rest) pos) g) : DW T X W (.BoolOp .Or (a :: b :: rest) pos) (tOrr f g) := by
  refine PW.imp (pw_or h1 h2) fun σ H Q q => ?_
  obtain ⟨Hb, ρ, S, q⟩ := q
  refine ⟨Hb, ρ, S, ?_⟩
  unfold tOrr at q
  cases ea : f ρ with
  | no => rw [ea] at q; exact q.elim
  | exc c => rw [ea] at q; exact q
  | ok d =>
    rw [ea, R.bind_ok] at q
    intro H1 x1
    cases d with
    | true => exact q H1 x1
    | false =>
      refine ⟨Hb, ρ, S.mono x1, ?_⟩
      rw [if_neg Bool.false_ne_true] at q
      cases eb : g ρ with
      | no => rw [eb] at q; exact q.elim
      | exc c => rw [eb] at q; exact fun H' x2 => q H' (x1.trans x2)
      | ok d => rw [eb] at q; exact fun H' x2 => q H' (x1.trans x2)
theorem dt_w (h : DW T X W e f) : DT T X W e f := PW.pt h
theorem d_one {op : BoolOp} (h : DE T X W a fa) : DE T X W (.BoolOp op [a] pos) fa := pe_one h
theorem d_and (h1 : DE T X W a fa) (h2 : DE T X W (.BoolOp .And (b :: rest) pos) fb) : DE T X W (.BoolOp .And (a :: b :: rest) pos) (eAnd fa fb) := by
  refine PE.imp (pe_and h1 h2) fun σ H Q q => ?_
  obtain ⟨Hb, ρ, S, q⟩ := q
  refine ⟨Hb, ρ, S, ?_⟩
  unfold eAnd tVal at q
  cases ea : fa ρ with
  | no => rw [ea] at q; exact q.elim
  | exc c => rw [ea] at q; exact q
  | ok d =>
    rw [ea, R.bind_ok] at q
    intro v H1 x1 r1
    cases d with
    | bool k =>
      refine ⟨k, r1, ?_⟩
      cases k with
      | false => exact q _ H1 x1 rfl
      | true =>
        refine ⟨Hb, ρ, S.mono x1, ?_⟩
        have q : Res X.K T W (fb ρ) σ H Q := q
        cases eb : fb ρ with
        | no => rw [eb] at q; exact q.elim
        | exc c => rw [eb] at q; exact fun H' x2 => q H' (x1.trans x2)
        | ok d => rw [eb] at q; exact fun v H' x2 => q v H' (x1.trans x2)
    | _ => exact q.elim
theorem d_or (h1 : DE T X W a fa) (h2 : DE T X W (.BoolOp .Or (b :: rest) pos) fb) : DE T X W (.BoolOp .Or (a :: b :: rest) pos) (eOr fa fb) := by
  refine PE.imp (pe_or h1 h2) fun σ H Q q => ?_
  obtain ⟨Hb, ρ, S, q⟩ := q
  refine ⟨Hb, ρ, S, ?_⟩
  unfold eOr tVal at q
  cases ea : fa ρ with
  | no => rw [ea] at q; exact q.elim
  | exc c => rw [ea] at q; exact q
  | ok d =>
    rw [ea, R.bind_ok] at q
    intro v H1 x1 r1
    cases d with
    | bool k =>
      refine ⟨k, r1, ?_⟩
      cases k with
      | true => exact q _ H1 x1 rfl
      | false =>
        refine ⟨Hb, ρ, S.mono x1, ?_⟩
        have q : Res X.K T W (fb ρ) σ H Q := q
        cases eb : fb ρ with
        | no => rw [eb] at q; exact q.elim
        | exc c => rw [eb] at q; exact fun H' x2 => q H' (x1.trans x2)
        | ok d => rw [eb] at q; exact fun v H' x2 => q v H' (x1.trans x2)
    | _ => exact q.elim
theorem d_not (h : DE T X W a fa) : DE T X W (.UnaryOp .Not a pos) (eNot fa) := by
  refine PE.imp (pe_not h) fun σ H Q q => ?_
  obtain ⟨Hb, ρ, S, q⟩ := q
  refine ⟨Hb, ρ, S, ?_⟩
  unfold eNot tVal at q
  cases ea : fa ρ with
  | no => rw [ea] at q; exact q.elim
  | exc c => rw [ea] at q; exact q
  | ok d =>
    rw [ea, R.bind_ok] at q
    intro v H1 x1 r1
    cases d with
    | bool k => exact ⟨k, r1, q _ H1 x1 rfl⟩
    | _ => exact q.elim
theorem d_if {t : Rho → R Bool} (hc : DT T X W c t) (ha : DE T X W a fa) (hb : DE T X W b fb) : DE T X W (.IfExp c a b pos) (eIf t fa fb) := by
  refine PE.imp (pe_ifExp hc ha hb) fun σ H Q q => ?_
  obtain ⟨Hb, ρ, S, q⟩ := q
  refine ⟨Hb, ρ, S, ?_⟩
  unfold eIf at q
  cases ea : t ρ with
  | no => rw [ea] at q; exact q.elim
  | exc c => rw [ea] at q; exact q
  | ok d =>
    rw [ea, R.bind_ok] at q
    intro H1 x1
    have go : ∀ (f : Rho → R D), Res X.K T W (f ρ) σ H Q → dE X.K T W f σ H1 Q := fun f q => by
      refine ⟨Hb, ρ, S.mono x1, ?_⟩
      cases eb : f ρ with
      | no => rw [eb] at q; exact q.elim
      | exc c => rw [eb] at q; exact fun H' x2 => q H' (x1.trans x2)
      | ok d => rw [eb] at q; exact fun v H' x2 => q v H' (x1.trans x2)
    cases d with
    | true => exact go fa q
    | false => exact go fb q
end

/-! ### arguments, built-ins, displays -/
section
variable {X : Cx} {T : List (Addr × Str)} {W : WX} {e o : Expr} {es : List Expr} {fe fo : Rho → R D} {fs : Rho → R (List D)} {pos p apos : Pos}
theorem da_nil : DA T X W [] aNil := by
  refine PA.imp pa_nil fun σ H Q q => ?_
  obtain ⟨Hb, ρ, S, q⟩ := q
  exact q [] H Ex.refl rfl
theorem da_cons (h1 : DE T X W e fe) (h2 : DA T X W es fs) (hs : starEach (e :: es) X.env = (false, eval e X.env) :: starEach es X.env := by kernel_rfl) : DA T X W (e :: es) (aCons fe fs) := by
  refine PA.imp (pa_cons h1 h2 hs) fun σ H Q q => ?_
  obtain ⟨Hb, ρ, S, q⟩ := q
  refine ⟨Hb, ρ, S, ?_⟩
  unfold aCons at q
  cases ea : fe ρ with
  | no => rw [ea] at q; exact q.elim
  | exc c => rw [ea] at q; exact q
  | ok d =>
    rw [ea, R.bind_ok] at q
    intro v H1 x1 r1
    refine ⟨Hb, ρ, S.mono x1, ?_⟩
    cases eb : fs ρ with
    | no => rw [eb] at q; exact q.elim
    | exc c => rw [eb] at q; exact fun H' x2 => q H' (x1.trans x2)
    | ok ds =>
      rw [eb, R.bind_ok] at q
      exact fun vs H' x2 r2 => q (v :: vs) H' (x1.trans x2) ⟨v, vs, rfl, Rp.mono x2.e d v r1, r2⟩
def Tame1 {α : Type} (g : α → R D) : Prop := ∀ a c, g a ≠ .exc c
theorem args_go {g : List D → R D} (ht : Tame1 g) {σ : L2.St} {H : Hp} {Q : VK} (h : dE X.K T W (eCallB g fs) σ H Q) : dA X.K T W fs σ H fun vs H1 => rDn X.K T g vs H1 Q := by
  obtain ⟨Hb, ρ, S, q⟩ := h
  refine ⟨Hb, ρ, S, ?_⟩
  unfold eCallB at q
  cases ea : fs ρ with
  | no => rw [ea] at q; exact q.elim
  | exc c => rw [ea] at q; exact q
  | ok ds =>
    rw [ea, R.bind_ok] at q
    intro vs H1 x1 r1
    refine ⟨ds, r1, ?_⟩
    cases eg : g ds with
    | no => rw [eg] at q; exact q.elim
    | exc c => exact (ht ds c eg).elim
    | ok d => rw [eg] at q; exact fun v H' x2 r2 => q v H' (x1.trans x2) r2
theorem d_callB {x : Str} {id : String} {g : List D → R D} (hc : CallR X (.builtin id) (rDn X.K T g)) (ht : Tame1 g) (hm : X.mg x = none) (hv : bootBuiltins x = some (.builtin id)) (ha : DA T X W (e :: es) fs) (hg : X.env.kindOf x = some .globalImplicit := by kernel_rfl) (hn : x ≠ "__name__" := by decide) (hdb : (x == ("__debug__" : Str)) = false := by kernel_rfl)
    (he : starEach (e :: es) X.env = (false, eval e X.env) :: starEach es X.env := by kernel_rfl) (hpl : (backTo pos (starEach es X.env)).any (·.1) = false := by kernel_rfl) : DE T X W (.Call (.Name x p) (e :: es) [] pos) (eCallB g fs) :=
  PE.imp (pe_callB hc hg hm hv ha hn hdb he hpl) fun σ H Q q => args_go ht q
theorem d_callTy {x : Str} {id : String} {g : List D → R D} (hc : CallR X (.type id) (rDn X.K T g)) (ht : Tame1 g) (hm : X.mg x = none) (hv : bootBuiltins x = some (.type id)) (ha : DA T X W (e :: es) fs) (hg : X.env.kindOf x = some .globalImplicit := by kernel_rfl) (hn : x ≠ "__name__" := by decide) (hdb : (x == ("__debug__" : Str)) = false := by kernel_rfl)
    (he : starEach (e :: es) X.env = (false, eval e X.env) :: starEach es X.env := by kernel_rfl) (hpl : (backTo pos (starEach es X.env)).any (·.1) = false := by kernel_rfl) : DE T X W (.Call (.Name x p) (e :: es) [] pos) (eCallB g fs) :=
  PE.imp (pe_callTy hc hg hm hv ha hn hdb he hpl) fun σ H Q q => args_go ht q

/-- a list that an expression has just made is locked: it is data from now on -/
theorem pe_frz {t : TE} (h : PE X e t) : PE X e (fun σ H Q => t σ H fun v H1 => Q v H1 ∨ ∃ p xs, v = .ref p ∧ H1 p = some (.lst xs) ∧ ∀ ob, Q v (upd H1 p (.frz ob (.lst xs)))) := by
  refine ⟨fun pins s σ H Q I q => thn (h.run pins s σ H _ I q) fun u s1 ⟨v, H1, I1, r1, q1⟩ => ?_⟩
  rcases q1 with q1 | ⟨p, xs, ev, hp, q1⟩
  · exact ⟨v, H1, I1, r1, q1⟩
  · obtain ⟨od, I2⟩ := I1.lock hp trivial
    exact ⟨v, _, I2, r1, q1 od⟩
end
end DL
set_option Elab.async false
set_option linter.all false
set_option maxRecDepth 100000
set_option maxHeartbeats 2000000
namespace DL
open PySem PySem.Spec PyProof.Rows L2 LamX

/-! ### slots -/
section
variable {K : Frag} {T : List (Addr × Str)} {Hb H H' : Hp} {ρ : Rho} {σ : L2.St}
theorem getD_set_self {σ : L2.St} {i : Nat} {o : Option V} (h : i < σ.length) : (σ.set i o).getD i none = o := by
  rw [List.getD_eq_getElem?_getD, List.getElem?_set_self h]; rfl
theorem getD_set_ne {σ : L2.St} {i j : Nat} {o : Option V} (h : i ≠ j) : (σ.set i o).getD j none = σ.getD j none := by
  rw [List.getD_eq_getElem?_getD, List.getElem?_set_ne h, List.getD_eq_getElem?_getD]
/-- a slot becomes a datum -/
theorem SR.setD (s : SR K T Hb ρ σ H) {d : D} {v : V} (i : Nat) (r : Rp K H d v) : SR K T Hb (ρ.set i (.dat d)) (σ.set i (some v)) H := by
  refine ⟨by simpa using s.len, fun j u e => ?_, fun j k u w p e1 e2 o1 o2 h1 h2 => ?_, s.ext, s.tab⟩
  · by_cases hj : i = j
    · subst hj
      have hi : i < ρ.length := by
        have := (List.getElem?_eq_some_iff.mp e).1
        simpa using this
      rw [List.getElem?_set_self hi] at e
      cases e
      rw [getD_set_self (by rw [← s.len]; exact hi)]
      exact ⟨v, rfl, r⟩
    · rw [List.getElem?_set_ne hj] at e
      rw [getD_set_ne hj]
      exact s.sl j u e
  · by_cases hj : i = j
    · subst hj
      have hi : i < ρ.length := by
        have := (List.getElem?_eq_some_iff.mp e1).1
        simpa using this
      rw [List.getElem?_set_self hi] at e1
      cases e1; cases o1
    · by_cases hk : i = k
      · subst hk
        have hi : i < ρ.length := by
          have := (List.getElem?_eq_some_iff.mp e2).1
          simpa using this
        rw [List.getElem?_set_self hi] at e2
        cases e2; cases o2
      · rw [List.getElem?_set_ne hj] at e1
        rw [List.getElem?_set_ne hk] at e2
        rw [getD_set_ne hj] at h1
        rw [getD_set_ne hk] at h2
        exact s.inj j k u w p e1 e2 o1 o2 h1 h2
/-- a slot is forgotten -/
theorem SR.fgt1 (s : SR K T Hb ρ σ H) (i : Nat) : SR K T Hb (ρ.set i .no) σ H := by
  refine ⟨by simpa using s.len, fun j u e => ?_, fun j k u w p e1 e2 o1 o2 h1 h2 => ?_, s.ext, s.tab⟩
  · by_cases hj : i = j
    · subst hj
      have hi : i < ρ.length := by
        have := (List.getElem?_eq_some_iff.mp e).1
        simpa using this
      rw [List.getElem?_set_self hi] at e
      cases e
      trivial
    · rw [List.getElem?_set_ne hj] at e
      exact s.sl j u e
  · by_cases hj : i = j
    · subst hj
      have hi : i < ρ.length := by
        have := (List.getElem?_eq_some_iff.mp e1).1
        simpa using this
      rw [List.getElem?_set_self hi] at e1
      cases e1; cases o1
    · by_cases hk : i = k
      · subst hk
        have hi : i < ρ.length := by
          have := (List.getElem?_eq_some_iff.mp e2).1
          simpa using this
        rw [List.getElem?_set_self hi] at e2
        cases e2; cases o2
      · rw [List.getElem?_set_ne hj] at e1
        rw [List.getElem?_set_ne hk] at e2
        exact s.inj j k u w p e1 e2 o1 o2 h1 h2
def fgt : List Nat → Rho → Rho
  | [], ρ => ρ
  | i :: r, ρ => fgt r (ρ.set i .no)
theorem SR.fgt (s : SR K T Hb ρ σ H) : ∀ is : List Nat, SR K T Hb (fgt is ρ) σ H := by
  intro is
  induction is generalizing ρ with
  | nil => exact s
  | cons i r ih => exact ih (s.fgt1 i)
/-- a slot whose value is forgotten may hold anything -/
theorem SR.any (s : SR K T Hb ρ σ H) (i : Nat) (h : ρ[i]? = some .no) (o : Option V) : SR K T Hb ρ (σ.set i o) H := by
  refine ⟨by simpa using s.len, fun j u e => ?_, fun j k u w p e1 e2 o1 o2 h1 h2 => ?_, s.ext, s.tab⟩
  · by_cases hj : i = j
    · subst hj
      rw [h] at e; cases e; trivial
    · rw [getD_set_ne hj]; exact s.sl j u e
  · have hj : i ≠ j := fun q => by subst q; rw [h] at e1; cases e1; cases o1
    have hk : i ≠ k := fun q => by subst q; rw [h] at e2; cases e2; cases o2
    rw [getD_set_ne hj] at h1
    rw [getD_set_ne hk] at h2
    exact s.inj j k u w p e1 e2 o1 o2 h1 h2
/-- a slot becomes a new list that is being made -/
theorem SR.setM (s : SR K T Hb ρ σ H) {ds : List D} {p : Addr} {xs : List V} (i : Nat) (hp : H p = some (.lst xs)) (r : RpL K H ds xs) (hb : Nw Hb p)
    (new : ∀ j u, ρ[j]? = some u → isOwn u = true → σ.getD j none ≠ some (.ref p)) : SR K T Hb (ρ.set i (.ml ds)) (σ.set i (some (.ref p))) H := by
  refine ⟨by simpa using s.len, fun j u e => ?_, fun j k u w q e1 e2 o1 o2 h1 h2 => ?_, s.ext, s.tab⟩
  · by_cases hj : i = j
    · subst hj
      have hi : i < ρ.length := by
        have := (List.getElem?_eq_some_iff.mp e).1
        simpa using this
      rw [List.getElem?_set_self hi] at e
      cases e
      rw [getD_set_self (by rw [← s.len]; exact hi)]
      exact ⟨p, xs, rfl, hp, r, hb⟩
    · rw [List.getElem?_set_ne hj] at e
      rw [getD_set_ne hj]
      exact s.sl j u e
  · by_cases hj : i = j
    · by_cases hk : i = k
      · rw [← hj, ← hk]
      · subst hj
        have hi : i < ρ.length := by
          have := (List.getElem?_eq_some_iff.mp e1).1
          simpa using this
        rw [getD_set_self (by rw [← s.len]; exact hi)] at h1
        rw [List.getElem?_set_ne hk] at e2
        rw [getD_set_ne hk, ← h1] at h2
        exact (new k w e2 o2 h2).elim
    · by_cases hk : i = k
      · subst hk
        have hi : i < ρ.length := by
          have := (List.getElem?_eq_some_iff.mp e2).1
          simpa using this
        rw [getD_set_self (by rw [← s.len]; exact hi)] at h2
        rw [List.getElem?_set_ne hj] at e1
        rw [getD_set_ne hj, ← h2] at h1
        exact (new j u e1 o1 h1).elim
      · rw [List.getElem?_set_ne hj] at e1
        rw [List.getElem?_set_ne hk] at e2
        rw [getD_set_ne hj] at h1
        rw [getD_set_ne hk] at h2
        exact s.inj j k u w q e1 e2 o1 o2 h1 h2
/-- an own list stands in the heap by itself -/
theorem SR.own_lst (s : SR K T Hb ρ σ H) {j : Nat} {u : Sl} {p : Addr} (e : ρ[j]? = some u) (o : isOwn u = true) (h : σ.getD j none = some (.ref p)) : ∃ xs, H p = some (.lst xs) := by
  have q := s.sl j u e
  cases u with
  | no => cases o
  | dat d => cases o
  | obj v => cases o
  | ml ds =>
    obtain ⟨p', xs, e1, e2, _⟩ := q
    rw [h] at e1; cases e1
    exact ⟨xs, e2⟩
/-- data does not lean on what is being made -/
theorem Rp_upd_lst {p : Addr} {xs ys : List V} {o : HO} (hp : H p = some (.lst xs)) :
    (∀ (d : D) (v : V), Rp K H d v → Rp K (upd H p o) d v) ∧ ∀ (ds : List D) (vs : List V), RpL K H ds vs → RpL K (upd H p o) ds vs := by
  have sq : ∀ {a : Addr} {zs : List V}, SqT K H a zs → SqT K (upd H p o) a zs := fun {a zs} h => by
    rcases h with (h | ⟨u, h⟩) | h
    · exact .inl (.inl (by rw [upd_ne (ne_of h hp (by intro z; cases z))]; exact h))
    · exact .inl (.inr ⟨u, by rw [upd_ne (ne_of h hp (by intro z; cases z))]; exact h⟩)
    · exact .inr h
  have sl : ∀ {a : Addr} {zs : List V} {u : Obj}, FzL K H a u zs → FzL K (upd H p o) a u zs := fun {a zs u} h => h.imp fun h => by
    rw [upd_ne (ne_of h hp (by intro z; cases z))]; exact h
  have all : ∀ n : Nat, (∀ (d : D) (v : V), sizeOf d < n → Rp K H d v → Rp K (upd H p o) d v) ∧ ∀ (ds : List D) (vs : List V), sizeOf ds < n → RpL K H ds vs → RpL K (upd H p o) ds vs := by
    intro n
    induction n with
    | zero => exact ⟨fun d v h => absurd h (Nat.not_lt_zero _), fun d v h => absurd h (Nat.not_lt_zero _)⟩
    | succ n ih =>
      refine ⟨fun d v hn h => ?_, fun ds vs hn h => ?_⟩
      · cases d with
        | none => exact h
        | bool b => exact h
        | int b => exact h
        | str b => exact h
        | dict b => exact h
        | list ds =>
          obtain ⟨a, ob, zs, e, ha, hs, hl⟩ := h
          exact ⟨a, ob, zs, e, sl ha, ih.2 ds zs (by simp at hn; omega) hs, hl⟩
        | tuple ds =>
          obtain ⟨a, zs, e, ha, hs, hl⟩ := h
          exact ⟨a, zs, e, sq ha, ih.2 ds zs (by simp at hn; omega) hs, hl⟩
      · cases ds with
        | nil => exact h
        | cons d ds =>
          obtain ⟨v, r, e, h1, h2⟩ := h
          exact ⟨v, r, e, ih.1 d v (by simp at hn; omega) h1, ih.2 ds r (by simp at hn; omega) h2⟩
  exact ⟨fun d v => (all (sizeOf d + 1)).1 d v (Nat.lt_succ_self _), fun ds vs => (all (sizeOf ds + 1)).2 ds vs (Nat.lt_succ_self _)⟩
/-- the list in slot i is changed (it stays in its slot) -/
theorem SR.updM (s : SR K T Hb ρ σ H) {ds ds' : List D} {p : Addr} {xs ys : List V} {i : Nat} (e : ρ[i]? = some (.ml ds)) (hσ : σ.getD i none = some (.ref p)) (hp : H p = some (.lst xs)) (r : RpL K H ds' ys) :
    SR K T Hb (ρ.set i (.ml ds')) σ (upd H p (.lst ys)) := by
  have hi : i < ρ.length := (List.getElem?_eq_some_iff.mp e).1
  have up := Rp_upd_lst (K := K) (o := .lst ys) (ys := ys) hp
  obtain ⟨p', xs', e1, e2, e3, hb⟩ := s.sl i _ e
  rw [hσ] at e1; cases e1
  refine ⟨by simpa using s.len, fun j u ej => ?_, fun j k u w q e1 e2 o1 o2 h1 h2 => ?_, fun b o hbo ho => ?_, ?_⟩
  · by_cases hj : i = j
    · subst hj
      rw [List.getElem?_set_self hi] at ej
      cases ej
      exact ⟨p, ys, hσ, upd_same, up.2 _ _ r, hb⟩
    · rw [List.getElem?_set_ne hj] at ej
      have q := s.sl j u ej
      cases u with
      | no => trivial
      | dat d => obtain ⟨v, a1, a2⟩ := q; exact ⟨v, a1, up.1 d v a2⟩
      | obj v => exact q
      | ml zs =>
        obtain ⟨p2, xs2, a1, a2, a3, a4⟩ := q
        refine ⟨p2, xs2, a1, ?_, up.2 _ _ a3, a4⟩
        have ne : p2 ≠ p := fun z => by
          subst z
          exact hj (s.inj i j _ _ _ e ej rfl rfl hσ a1)
        rw [upd_ne ne]; exact a2
  · have fix : ∀ (j : Nat) (u : Sl), (ρ.set i (.ml ds'))[j]? = some u → isOwn u = true → ∃ u', ρ[j]? = some u' ∧ isOwn u' = true := fun j u ej o => by
      by_cases hj : i = j
      · subst hj; exact ⟨_, e, rfl⟩
      · rw [List.getElem?_set_ne hj] at ej; exact ⟨u, ej, o⟩
    obtain ⟨u', a1, a2⟩ := fix j u e1 o1
    obtain ⟨w', b1, b2⟩ := fix k w e2 o2
    exact s.inj j k u' w' q a1 b1 a2 b2 h1 h2
  · have ne : b ≠ p := fun z => by
      rw [z] at hbo
      obtain ⟨ps, z⟩ := hb o hbo
      exact ho ps z
    rw [upd_ne ne]; exact s.ext b o hbo ho
  · intro q hq
    obtain ⟨ps, h1, h2, h3⟩ := s.tab q hq
    refine ⟨ps, by rw [upd_ne (ne_of h1 hp (by intro z; cases z))]; exact h1, h2, fun pos cv hc => ?_⟩
    obtain ⟨c, e1, e2⟩ := h3 pos cv hc
    exact ⟨c, e1, by rw [upd_ne (ne_of e2 hp (by intro z; cases z))]; exact e2⟩
/-- a list that no slot owns is changed -/
theorem SR.updO (s : SR K T Hb ρ σ H) {p : Addr} {xs : List V} {o' : HO} (hp : H p = some (.lst xs)) (hb : Nw Hb p) (no : ∀ j u, ρ[j]? = some u → isOwn u = true → σ.getD j none ≠ some (.ref p)) :
    SR K T Hb ρ σ (upd H p o') := by
  have up := Rp_upd_lst (K := K) (o := o') (ys := xs) hp
  refine ⟨s.len, fun j u ej => ?_, s.inj, fun b o hbo ho => ?_, ?_⟩
  · have q := s.sl j u ej
    cases u with
    | no => trivial
    | dat d => obtain ⟨v, a1, a2⟩ := q; exact ⟨v, a1, up.1 d v a2⟩
    | obj v => exact q
    | ml zs =>
      obtain ⟨p2, xs2, a1, a2, a3, a4⟩ := q
      refine ⟨p2, xs2, a1, ?_, up.2 _ _ a3, a4⟩
      have ne : p2 ≠ p := fun z => by
        subst z
        exact no j _ ej rfl a1
      rw [upd_ne ne]; exact a2
  · have ne : b ≠ p := fun z => by
      rw [z] at hbo
      obtain ⟨ps, z⟩ := hb o hbo
      exact ho ps z
    rw [upd_ne ne]; exact s.ext b o hbo ho
  · intro q hq
    obtain ⟨ps, h1, h2, h3⟩ := s.tab q hq
    refine ⟨ps, by rw [upd_ne (ne_of h1 hp (by intro z; cases z))]; exact h1, h2, fun pos cv hc => ?_⟩
    obtain ⟨c, e1, e2⟩ := h3 pos cv hc
    exact ⟨c, e1, by rw [upd_ne (ne_of e2 hp (by intro z; cases z))]; exact e2⟩
/-- the list in slot i is locked: data -/
theorem SR.lockM (s : SR K T Hb ρ σ H) {ds : List D} {p : Addr} {xs : List V} {i : Nat} {ob : Obj} (e : ρ[i]? = some (.ml ds)) (hσ : σ.getD i none = some (.ref p)) (hp : H p = some (.lst xs)) (hz : xs.length ≤ sizeLine) :
    SR K T Hb (ρ.set i (.dat (.list ds))) σ (upd H p (.frz ob (.lst xs))) := by
  have hi : i < ρ.length := (List.getElem?_eq_some_iff.mp e).1
  have up := Rp_upd_lst (K := K) (o := .frz ob (.lst xs)) (ys := xs) hp
  obtain ⟨p', xs', e1, e2, e3, hb⟩ := s.sl i _ e
  rw [hσ] at e1; cases e1
  rw [hp] at e2; cases e2
  refine ⟨by simpa using s.len, fun j u ej => ?_, fun j k u w q e1 e2 o1 o2 h1 h2 => ?_, fun b o hbo ho => ?_, ?_⟩
  · by_cases hj : i = j
    · subst hj
      rw [List.getElem?_set_self hi] at ej
      cases ej
      exact ⟨.ref p, hσ, p, ob, xs, rfl, .inl upd_same, up.2 _ _ e3, by rw [← e3.len]; exact hz⟩
    · rw [List.getElem?_set_ne hj] at ej
      have q := s.sl j u ej
      cases u with
      | no => trivial
      | dat d => obtain ⟨v, a1, a2⟩ := q; exact ⟨v, a1, up.1 d v a2⟩
      | obj v => exact q
      | ml zs =>
        obtain ⟨p2, xs2, a1, a2, a3, a4⟩ := q
        refine ⟨p2, xs2, a1, ?_, up.2 _ _ a3, a4⟩
        have ne : p2 ≠ p := fun z => by
          subst z
          exact hj (s.inj i j _ _ _ e ej rfl rfl hσ a1)
        rw [upd_ne ne]; exact a2
  · have fix : ∀ (j : Nat) (u : Sl), (ρ.set i (.dat (.list ds)))[j]? = some u → isOwn u = true → ∃ u', ρ[j]? = some u' ∧ isOwn u' = true := fun j u ej o => by
      by_cases hj : i = j
      · subst hj; exact ⟨_, e, rfl⟩
      · rw [List.getElem?_set_ne hj] at ej; exact ⟨u, ej, o⟩
    obtain ⟨u', a1, a2⟩ := fix j u e1 o1
    obtain ⟨w', b1, b2⟩ := fix k w e2 o2
    exact s.inj j k u' w' q a1 b1 a2 b2 h1 h2
  · have ne : b ≠ p := fun z => by
      rw [z] at hbo
      obtain ⟨ps, z⟩ := hb o hbo
      exact ho ps z
    rw [upd_ne ne]; exact s.ext b o hbo ho
  · intro q hq
    obtain ⟨ps, h1, h2, h3⟩ := s.tab q hq
    refine ⟨ps, by rw [upd_ne (ne_of h1 hp (by intro z; cases z))]; exact h1, h2, fun pos cv hc => ?_⟩
    obtain ⟨c, e1, e2⟩ := h3 pos cv hc
    exact ⟨c, e1, by rw [upd_ne (ne_of e2 hp (by intro z; cases z))]; exact e2⟩
/-- another ground: all that stands but what is being made -/
def ownedBy (ρ : Rho) (σ : L2.St) (p : Addr) : Prop := ∃ i u, ρ[i]? = some u ∧ isOwn u = true ∧ σ.getD i none = some (.ref p)
open Classical in
noncomputable def ground (ρ : Rho) (σ : L2.St) (H : Hp) : Hp := fun b => if ownedBy ρ σ b then none else H b
theorem SR.onGround (s : SR K T Hb ρ σ H) : SR K T (ground ρ σ H) ρ σ H := by
  refine ⟨s.len, fun i u e => ?_, s.inj, fun b o hb _ => ?_, s.tab⟩
  · have q := s.sl i u e
    cases u with
    | no => trivial
    | dat d => exact q
    | obj v => exact q
    | ml ds =>
      obtain ⟨p, xs, a1, a2, a3, a4⟩ := q
      exact ⟨p, xs, a1, a2, a3, Nw.of (if_pos ⟨i, _, e, rfl, a1⟩)⟩
  · unfold ground at hb
    split at hb
    · cases hb
    · exact hb
theorem SR.exGround (s : SR K T Hb ρ σ H) : ExtN Hb (ground ρ σ H) := fun b o hb ho => by
    unfold ground
    rw [if_neg]
    · exact s.ext b o hb ho
    · rintro ⟨i, u, e, ou, hσ⟩
      have q := s.sl i u e
      cases u with
      | no => cases ou
      | dat d => cases ou
      | obj v => cases ou
      | ml ds =>
        obtain ⟨p, xs, a1, a2, a3, a4⟩ := q
        rw [hσ] at a1; cases a1
        obtain ⟨ps, z⟩ := a4 o hb
        exact ho ps z
theorem SR.ofGround (s : SR K T Hb ρ σ H) {ρ' : Rho} {σ' : L2.St} (g : SR K T (ground ρ σ H) ρ' σ' H') : SR K T Hb ρ' σ' H' := by
  have ex := s.exGround
  refine ⟨g.len, fun i u e => ?_, g.inj, ex.trans g.ext, g.tab⟩
  have q := g.sl i u e
  cases u with
  | no => trivial
  | dat d => exact q
  | obj v => exact q
  | ml ds =>
    obtain ⟨p, xs, a1, a2, a3, a4⟩ := q
    refine ⟨p, xs, a1, a2, a3, ?_⟩
    refine fun o hb => Classical.byContradiction fun h => ?_
    exact h (a4 o (ex p o hb fun ps z => h ⟨ps, z⟩))
end
end DL
set_option Elab.async false
set_option linter.all false
set_option maxRecDepth 100000
set_option maxHeartbeats 2000000
namespace DL
open PySem PySem.Spec PyProof.Rows L2 LamX

/-- what a statement comes to -/
inductive Fl where
  | nx (ρ : Rho)
  | rt (d : D)
  | bk (ρ : Rho)
  | ct (ρ : Rho)
  | exc (c : Str) (ρ : Rho)
  | no
def Fl.thn (a : Fl) (k : Rho → Fl) : Fl :=
  match a with
  | .nx ρ => k ρ
  | .rt d => .rt d
  | .bk ρ => .bk ρ
  | .ct ρ => .ct ρ
  | .exc c ρ => .exc c ρ
  | .no => .no
/-- an expression's answer, then a statement -/
def R.thn {α : Type} (a : R α) (ρ : Rho) (k : α → Fl) : Fl :=
  match a with
  | .ok d => k d
  | .exc c => .exc c ρ
  | .no => .no
section
variable (K : Frag) (T : List (Addr × Str)) (W : WX)
def ResS (Hb : Hp) (r : Fl) (E : Ends) : Prop :=
  match r with
  | .nx ρ => ∀ σ H, SR K T Hb ρ σ H → E.nx σ H
  | .rt d => ∀ v H, ExtN Hb H → Tabs T H → Rp K H d v → E.rt v H
  | .bk ρ => ∀ σ H, SR K T Hb ρ σ H → E.bk σ H
  | .ct ρ => ∀ σ H, SR K T Hb ρ σ H → E.ct σ H
  | .exc c ρ => ∀ σ H, SR K T Hb ρ σ H → W (.ref (He.ga K c)) none σ H
  | .no => False
def dS (g : Rho → Fl) : TS := fun E σ H => ∃ Hb ρ, SR K T Hb ρ σ H ∧ ResS K T W Hb (g ρ) E
end
abbrev DS (T : List (Addr × Str)) (X : Cx) (W : WX) (st : Stmt) (g : Rho → Fl) : Prop := PS X st (dS X.K T W g)
abbrev DSs (T : List (Addr × Str)) (X : Cx) (W : WX) (st : List Stmt) (g : Rho → Fl) : Prop := PSs X st (dS X.K T W g)

def sSeq (g h : Rho → Fl) : Rho → Fl := fun ρ => (g ρ).thn h
def sNil : Rho → Fl := .nx
def sBrk : Rho → Fl := .bk
def sCnt : Rho → Fl := .ct
def sExp (f : Rho → R D) : Rho → Fl := fun ρ => (f ρ).thn ρ fun _ => .nx ρ
def sRet (f : Rho → R D) : Rho → Fl := fun ρ => (f ρ).thn ρ .rt
def sRetN : Rho → Fl := fun _ => .rt .none
def sSet (i : Nat) (f : Rho → R D) : Rho → Fl := fun ρ => (f ρ).thn ρ fun d => .nx (ρ.set i (.dat d))
def sIf (t : Rho → R Bool) (g h : Rho → Fl) : Rho → Fl := fun ρ => (t ρ).thn ρ fun b => if b then g ρ else h ρ
def sRaise (c : Str) : Rho → Fl := .exc c
def sFgt (is : List Nat) (g : Rho → Fl) : Rho → Fl := fun ρ => g (fgt is ρ)
def frz1 (i : Nat) (ρ : Rho) : Rho := match ρ[i]? with
  | some (.ml ds) => ρ.set i (.dat (.list ds))
  | _ => ρ
def sFrz (i : Nat) (g : Rho → Fl) : Rho → Fl := fun ρ => g (frz1 i ρ)

section
variable {X : Cx} {T : List (Addr × Str)} {W : WX} {e c : Expr} {st : Stmt} {sts rest body : List Stmt} {f fe : Rho → R D} {g h : Rho → Fl} {t : Rho → R Bool} {pos p : Pos}
theorem PS.imp {t u : TS} (h : PS X st t) (k : ∀ E σ H, u E σ H → t E σ H) : PS X st u := ⟨fun pins s σ H E I q => h.run pins s σ H E I (k E σ H q)⟩
theorem PSs.imp {t u : TS} (h : PSs X sts t) (k : ∀ E σ H, u E σ H → t E σ H) : PSs X sts u := ⟨fun pins s σ H E I q => h.run pins s σ H E I (k E σ H q)⟩
theorem ss_nil : DSs T X W [] sNil := by
  refine PSs.imp pss_nil fun E σ H q => ?_
  obtain ⟨Hb, ρ, S, q⟩ := q
  exact q σ H S
theorem ss_one (h1 : DS T X W st g) : DSs T X W [st] g := pss_one h1
theorem ss_cons (h1 : DS T X W st g) (h2 : DSs T X W rest h) : DSs T X W (st :: rest) (sSeq g h) := by
  refine PSs.imp (pss_cons h1 h2) fun E σ H q => ?_
  obtain ⟨Hb, ρ, S, q⟩ := q
  refine ⟨Hb, ρ, S, ?_⟩
  unfold sSeq at q
  cases eg : g ρ with
  | nx ρ' => rw [eg] at q; exact fun σ' H' S' => ⟨Hb, ρ', S', q⟩
  | rt d => rw [eg] at q; exact q
  | bk d => rw [eg] at q; exact q
  | ct d => rw [eg] at q; exact q
  | exc c d => rw [eg] at q; exact q
  | no => rw [eg] at q; exact q
theorem ss_never : DSs T X W sts (fun _ => .no) := PSs.imp pss_never fun E σ H ⟨_, _, _, q⟩ => q
theorem s_never : DS T X W st (fun _ => .no) := PS.imp ps_never fun E σ H ⟨_, _, _, q⟩ => q
theorem s_pass : DS T X W (.Pass pos) sNil := PS.imp ps_pass fun E σ H ⟨Hb, ρ, S, q⟩ => q σ H S
theorem s_brk : DS T X W (.Break pos) sBrk := PS.imp ps_break fun E σ H ⟨Hb, ρ, S, q⟩ => q σ H S
theorem s_cnt : DS T X W (.Continue pos) sCnt := PS.imp ps_continue fun E σ H ⟨Hb, ρ, S, q⟩ => q σ H S
theorem s_doc {x : Str} {j : Nat} : DS T X W (.Expr (.Constant (.str x) j p) pos) sNil := PS.imp ps_doc fun E σ H ⟨Hb, ρ, S, q⟩ => q σ H S
theorem s_exp (h : DE T X W e f) (hs : swapsWith e none pos.line X.env = pure false := by kernel_rfl) : DS T X W (.Expr e pos) (sExp f) := by
  refine PS.imp (ps_expr h hs) fun E σ H q => ?_
  obtain ⟨Hb, ρ, S, q⟩ := q
  refine ⟨Hb, ρ, S, ?_⟩
  unfold sExp at q
  cases eg : f ρ with
  | ok d => rw [eg] at q; exact fun v H' x _ => q σ H' (S.mono x)
  | exc c => rw [eg] at q; exact fun H' x => q σ H' (S.mono x)
  | no => rw [eg] at q; exact q
theorem s_ret (h : DE T X W e f) : DS T X W (.Return (some e) pos) (sRet f) := by
  refine PS.imp (ps_ret h) fun E σ H q => ?_
  obtain ⟨Hb, ρ, S, q⟩ := q
  refine ⟨Hb, ρ, S, ?_⟩
  unfold sRet at q
  cases eg : f ρ with
  | ok d => rw [eg] at q; exact fun v H' x r => q v H' (S.ext.trans x.e) (x.t S.tab) r
  | exc c => rw [eg] at q; exact fun H' x => q σ H' (S.mono x)
  | no => rw [eg] at q; exact q
theorem s_retN : DS T X W (.Return none pos) sRetN := PS.imp ps_retN fun E σ H ⟨Hb, ρ, S, q⟩ => q .non H S.ext S.tab rfl
theorem s_set (i : Nat) {x : Str} (hN : X.N.Nodup) (he : DE T X W e f) (hi : X.N[i]? = some x := by kernel_rfl) (hx : locB X.env.scope x = true := by kernel_rfl) (hs : swapsWith e (some (.Name x p)) pos.line X.env = pure false := by kernel_rfl)
    (hf : fnB X x = true := by kernel_rfl) : DS T X W (.Assign [.Name x p] e pos) (sSet i f) := by
  refine PS.imp (ps_set (i := i) hN hi (loc_of hx) he hs (fn_of' hf)) fun E σ H q => ?_
  obtain ⟨Hb, ρ, S, q⟩ := q
  refine ⟨Hb, ρ, S, ?_⟩
  unfold sSet at q
  cases eg : f ρ with
  | ok d => rw [eg] at q; exact fun v H' x r => q _ H' ((S.mono x).setD i r)
  | exc c => rw [eg] at q; exact fun H' x => q σ H' (S.mono x)
  | no => rw [eg] at q; exact q
theorem s_if {a b : List Stmt} (hc : DT T X W c t) (ha : DSs T X W a g) (hb : DSs T X W b h) : DS T X W (.If c a b pos) (sIf t g h) := by
  refine PS.imp (ps_if hc ha hb) fun E σ H q => ?_
  obtain ⟨Hb, ρ, S, q⟩ := q
  refine ⟨Hb, ρ, S, ?_⟩
  unfold sIf at q
  cases eg : t ρ with
  | ok d =>
    rw [eg] at q
    intro H' x
    cases d with
    | true => exact ⟨Hb, ρ, S.mono x, q⟩
    | false => exact ⟨Hb, ρ, S.mono x, q⟩
  | exc c => rw [eg] at q; exact fun H' x => q σ H' (S.mono x)
  | no => rw [eg] at q; exact q
theorem ss_fgt (is : List Nat) (hs : DSs T X W sts g) : DSs T X W sts (sFgt is g) :=
  PSs.imp hs fun E σ H ⟨Hb, ρ, S, q⟩ => ⟨Hb, fgt is ρ, S.fgt is, q⟩
theorem s_fgt (is : List Nat) (hs : DS T X W st g) : DS T X W st (sFgt is g) :=
  PS.imp hs fun E σ H ⟨Hb, ρ, S, q⟩ => ⟨Hb, fgt is ρ, S.fgt is, q⟩
/-- forgetting behind a statement -/
def sBeh (is : List Nat) (g : Rho → Fl) : Rho → Fl := fun ρ => match g ρ with
  | .nx ρ' => .nx (fgt is ρ')
  | .ct ρ' => .ct (fgt is ρ')
  | .bk ρ' => .bk (fgt is ρ')
  | r => r
theorem sBeh_ends (is : List Nat) {Hb : Hp} {ρ : Rho} {E : Ends} (q : ResS X.K T W Hb (sBeh is g ρ) E) : ResS X.K T W Hb (g ρ) E := by
  unfold sBeh at q
  cases eg : g ρ with
  | nx ρ' => rw [eg] at q; exact fun σ H S => q σ H (S.fgt is)
  | ct ρ' => rw [eg] at q; exact fun σ H S => q σ H (S.fgt is)
  | bk ρ' => rw [eg] at q; exact fun σ H S => q σ H (S.fgt is)
  | rt d => rw [eg] at q; exact q
  | exc c d => rw [eg] at q; exact q
  | no => rw [eg] at q; exact q
theorem s_beh (is : List Nat) (hs : DS T X W st g) : DS T X W st (sBeh is g) :=
  PS.imp hs fun E σ H ⟨Hb, ρ, S, q⟩ => ⟨Hb, ρ, S, sBeh_ends is q⟩
theorem ss_beh (is : List Nat) (hs : DSs T X W sts g) : DSs T X W sts (sBeh is g) :=
  PSs.imp hs fun E σ H ⟨Hb, ρ, S, q⟩ => ⟨Hb, ρ, S, sBeh_ends is q⟩
/-- the list in slot i is data from here on -/
theorem ss_frz (i : Nat) (hs : DSs T X W sts g) : DSs T X W sts (sFrz i g) := by
  refine ⟨fun pins s σ H E I q => ?_⟩
  obtain ⟨Hb, ρ, S, q⟩ := q
  unfold sFrz frz1 at q
  split at q
  · rename_i ds e
    obtain ⟨p, xs, e1, e2, e3, e4⟩ := S.sl i _ e
    obtain ⟨od, I2⟩ := I.lock e2 trivial
    exact hs.run pins s σ _ E I2 ⟨Hb, _, S.lockM e e1 e2 (I.hok p _ e2).1, q⟩
  · exact hs.run pins s σ H E I ⟨Hb, ρ, S, q⟩
theorem s_raise {x m : Str} {j : Nat} {p2 p3 : Pos} (hc : X.calm = true) (tk : L2N.Takes X W) (hmk : L2N.PMk X (.Call (.Name x p) [.Constant (.str m) j p2] [] p3) (fun _ H Q => Q (.ref (He.ga X.K x)) none H)) :
    DS T X W (.Raise (some (.Call (.Name x p) [.Constant (.str m) j p2] [] p3)) none pos) (sRaise x) := by
  refine PS.imp (L2N.ps_raise hc tk hmk) fun E σ H q => ?_
  obtain ⟨Hb, ρ, S, q⟩ := q
  exact q σ H S
end

/-! ### lists that are being made -/
def sNewM (i : Nat) (fs : Rho → R (List D)) : Rho → Fl := fun ρ => (fs ρ).thn ρ fun ds => if ds.length ≤ sizeLine then .nx (ρ.set i (.ml ds)) else .no
def sApp (i : Nat) (f : Rho → R D) : Rho → Fl := fun ρ => match ρ[i]? with
  | some (.ml ds) => (f ρ).thn ρ fun d => if ds.length < sizeLine then .nx (ρ.set i (.ml (ds ++ [d]))) else .no
  | _ => .no
def sExt (i : Nat) (f : Rho → R D) : Rho → Fl := fun ρ => match ρ[i]? with
  | some (.ml ds) => (f ρ).thn ρ fun d => match d with
    | .list es => if ds.length + es.length ≤ sizeLine then .nx (ρ.set i (.ml (ds ++ es))) else .no
    | _ => .no
  | _ => .no
section
variable {X : Cx} {T : List (Addr × Str)} {W : WX} {e : Expr} {es : List Expr} {f : Rho → R D} {fs : Rho → R (List D)} {pos p p2 : Pos}
theorem s_newM (i : Nat) {x : Str} (hN : X.N.Nodup) (ha : DA T X W es fs) (hi : X.N[i]? = some x := by kernel_rfl) (hx : locB X.env.scope x = true := by kernel_rfl) (hs : swapsWith (.List es p2) (some (.Name x p)) pos.line X.env = pure false := by kernel_rfl)
    (hf : fnB X x = true := by kernel_rfl) : DS T X W (.Assign [.Name x p] (.List es p2) pos) (sNewM i fs) := by
  refine PS.imp (ps_set (i := i) hN hi (loc_of hx) (pe_lst ha) hs (fn_of' hf)) fun E σ H q => ?_
  obtain ⟨Hb, ρ, S, q⟩ := q
  refine ⟨Hb, ρ, S, ?_⟩
  unfold sNewM at q
  cases eg : fs ρ with
  | no => rw [eg] at q; exact q
  | exc c => rw [eg] at q; exact fun H' x => q σ H' (S.mono x)
  | ok ds =>
    rw [eg] at q
    intro vs H1 x1 r1
    have q : ResS X.K T W Hb (if ds.length ≤ sizeLine then Fl.nx (ρ.set i (.ml ds)) else .no) E := q
    by_cases hl : ds.length ≤ sizeLine
    · rw [if_pos hl] at q
      refine ⟨by rw [r1.len]; exact hl, fun a ha => ?_⟩
      have S1 := (S.mono x1)
      have S2 := S1.mono (Ex.new (T := T) (o := .lst vs) ha)
      refine q _ _ (S2.setM i upd_same (RpL.mono (ExtN.of (keep_upd ha)) ds vs r1) ?_ fun j u ej ou hz => ?_)
      · refine fun o hb => Classical.byContradiction fun h => ?_
        rw [S1.ext a o hb fun ps z => h ⟨ps, z⟩] at ha
        cases ha
      · obtain ⟨zs, hz2⟩ := S1.own_lst ej ou hz
        rw [ha] at hz2; cases hz2
    · rw [if_neg hl] at q; exact q.elim

theorem slot_at {K : Frag} {Hb H : Hp} {ρ : Rho} {σ : L2.St} (S : SR K T Hb ρ σ H) {i : Nat} {v : V} {u : Sl} (e : ρ[i]? = some u) (h : σ.getD i none = some v) : σ[i]? = some (some v) := by
  have hi : i < σ.length := by rw [← S.len]; exact (List.getElem?_eq_some_iff.mp e).1
  rw [List.getD_eq_getElem?_getD, List.getElem?_eq_getElem hi] at h
  rw [List.getElem?_eq_getElem hi]
  simpa using h
theorem s_app (i : Nat) {x : Str} {apos cpos spos : Pos} (he : DE T X W e f) (hN : X.N[i]? = some x := by kernel_rfl) (hv : visB X.env.scope x = true := by kernel_rfl) (hd : (x == ("__debug__" : Str)) = false := by kernel_rfl)
    (hcd : (x == ("__classdict__" : Str)) = false := by kernel_rfl) (hst : starEach [e] X.env = (false, eval e X.env) :: starEach [] X.env := by kernel_rfl)
    (hfew : ((backTo cpos (starEach [e] X.env)).all (fun x => !x.1) && (backToKw cpos (keywordEach [] X.env)).all (fun x => x.1.isSome)
      && decide ([e].length + ([] : List Keyword).length + (if ([] : List Keyword).isEmpty then 0 else 1) < 30)) = true := by kernel_rfl)
    (hline : (apos.endLine == cpos.line) = true := by kernel_rfl) (hbase : attributeBase (.Name x p) "append" X.env (eval (.Name x p) X.env) = eval (.Name x p) X.env := by kernel_rfl)
    (hpl : (backTo cpos (starEach [] X.env)).any (·.1) = false := by kernel_rfl) (hs : swapsWith (.Call (.Attribute (.Name x p) "append" apos) [e] [] cpos) none spos.line X.env = pure false := by kernel_rfl) :
    DS T X W (.Expr (.Call (.Attribute (.Name x p) "append" apos) [e] [] cpos) spos) (sApp i f) := by
  refine PS.imp (ps_expr (pe_bm PySem.F.plainAttrs_list PySem.F.slot_list_append PySem.F.type_list_append mt_append (pe_var (i := i) hN (vis_of hv) hd hcd) (pa_cons he pa_nil hst) hbase hfew hline hst hpl) hs) fun E σ H q => ?_
  obtain ⟨Hb, ρ, S, q⟩ := q
  unfold sApp at q
  split at q
  · rename_i ds ei
    obtain ⟨a, xs, e1, e2, e3, e4⟩ := S.sl i _ ei
    refine ⟨.ref a, slot_at S ei e1, .inl ⟨rfl, xs, .inl (.inl e2)⟩, Hb, ρ, S, ?_⟩
    cases eg : f ρ with
    | no => rw [eg] at q; exact q.elim
    | exc c => rw [eg] at q; exact fun H' x => q σ H' (S.mono x)
    | ok d =>
      rw [eg] at q
      have q : ResS X.K T W Hb (if ds.length < sizeLine then Fl.nx (ρ.set i (.ml (ds ++ [d]))) else .no) E := q
      by_cases hl : ds.length < sizeLine
      · rw [if_pos hl] at q
        intro v H1 x1 r1
        have S1 := S.mono x1
        have e2' := x1.e _ _ e2 fun _ z => by cases z
        refine ⟨a, xs, v, rfl, rfl, e2', by rw [e3.len]; exact hl, q _ _ (S1.updM ei e1 e2' (RpL.app (RpL.mono x1.e _ _ e3) (RpL.one r1)))⟩
      · rw [if_neg hl] at q; exact q.elim
  · exact q.elim
/-- extend by a list that is data -/
theorem ext_any (l : Addr) (items : Array Value) (n : Nat) (b : Addr) (items2 : Array Value) (n2 : Nat) (sl : Array (Option Value)) (hc0 : ¬(!items.isEmpty && Builtin.List.listTooLong (items.size + items2.size)) = true) (hc1 : items.size ≤ sizeLine) (hs2 : items.size + items2.size ≤ sizeLine + 1) :
    Meets (Builtin.«list.extend» ⟨[.ref l, .ref b], []⟩) (fun _ R s => s.heap.get? l = some { cls := .type "list", dict := none, data := .seq items n, slots := #[] } ∧ s.heap.get? b = some { cls := .type "list", dict := none, data := .seq items2 n2, slots := sl } ∧ R (.ok (.ret Value.none)) { s with heap := s.heap.update l (Obj.mapSeq fun x => x ++ items2), toks := s.toks }) :=
  .of_wp fun prog w A R s h => by
    obtain ⟨hp, g, d, tk, os⟩ := s; obtain ⟨hl, hb, h⟩ := h; have f1 := AutoSeq1.idx_int; have f2 := AutoSeq1.sub_tuple_tuple; have f3 := AutoSeq1.sub_list_list; have f4 := AutoSeq1.sub_tuple_list; have f5 := AutoSeq1.sub_list_tuple
    have hz' : (items ++ items2).size ≤ sizeLine + 1 := by rw [Array.size_append]; exact hs2
    wp_walk using (wpAny_updateSeq hl rfl (hz := hc1) (_hz' := hz')), AutoSeq1.wpAny_loadPart' hl, AutoSeq1.wpAny_loadPart' hb; exact ⟨_, rfl, h⟩
theorem mt_extF : MtM X "list.extend" (fun x vs H Q => ∃ l b xs zs, x = .ref l ∧ vs = [.ref b] ∧ H l = some (.lst xs) ∧ (∃ o, FzL X.K H b o zs) ∧ xs.length + zs.length ≤ sizeLine ∧ Q .non (upd H l (.lst (xs ++ zs)))) := by
  rintro pins s σ H x vs v us Q I rx rv ⟨l, b, xs, zs, rfl, rfl, hl, ⟨ob, hb⟩, hz, q⟩
  cases rx
  obtain ⟨u, rfl, ru⟩ := rv.one
  cases ru
  obtain ⟨_, its, n, r, el, e⟩ := I.lstM hl
  obtain ⟨its2, r2, ⟨o2, n2, e2, c2, d2, t2⟩, _⟩ := I.list hb.sq
  obtain ⟨oc, od, oda, osl⟩ := o2
  dsimp only at c2 d2 t2
  subst c2 d2 t2
  have el2 := r2.length
  have small : its.toArray.size + its2.toArray.size ≤ sizeLine := by simp only [List.size_toArray]; omega
  refine call_meets F.slot_list_extend ⟨_, e, rfl⟩ F.entry_list_extend (F.args_list_extend_2 _ _) (ext_any l its.toArray n b its2.toArray n2 osl (by rw [notLongL small, Bool.and_false]; exact Bool.false_ne_true) (by simp only [List.size_toArray]; omega) (by omega)) ⟨e, e2, ?_⟩
  exact ⟨.non, _, I.lset (its' := its ++ its2) hl e (by simp) (r.append r2) (by simp only [List.length_append]; omega), rfl, q⟩
theorem s_ext (i : Nat) {x : Str} {apos cpos spos : Pos} (he : DE T X W e f) (hN : X.N[i]? = some x := by kernel_rfl) (hv : visB X.env.scope x = true := by kernel_rfl) (hd : (x == ("__debug__" : Str)) = false := by kernel_rfl)
    (hcd : (x == ("__classdict__" : Str)) = false := by kernel_rfl) (hst : starEach [e] X.env = (false, eval e X.env) :: starEach [] X.env := by kernel_rfl)
    (hfew : ((backTo cpos (starEach [e] X.env)).all (fun x => !x.1) && (backToKw cpos (keywordEach [] X.env)).all (fun x => x.1.isSome)
      && decide ([e].length + ([] : List Keyword).length + (if ([] : List Keyword).isEmpty then 0 else 1) < 30)) = true := by kernel_rfl)
    (hline : (apos.endLine == cpos.line) = true := by kernel_rfl) (hbase : attributeBase (.Name x p) "extend" X.env (eval (.Name x p) X.env) = eval (.Name x p) X.env := by kernel_rfl)
    (hpl : (backTo cpos (starEach [] X.env)).any (·.1) = false := by kernel_rfl) (hs : swapsWith (.Call (.Attribute (.Name x p) "extend" apos) [e] [] cpos) none spos.line X.env = pure false := by kernel_rfl) :
    DS T X W (.Expr (.Call (.Attribute (.Name x p) "extend" apos) [e] [] cpos) spos) (sExt i f) := by
  refine PS.imp (ps_expr (pe_bm PySem.F.plainAttrs_list PySem.F.slot_list_extend PySem.F.type_list_extend mt_extF (pe_var (i := i) hN (vis_of hv) hd hcd) (pa_cons he pa_nil hst) hbase hfew hline hst hpl) hs) fun E σ H q => ?_
  obtain ⟨Hb, ρ, S, q⟩ := q
  unfold sExt at q
  split at q
  · rename_i ds ei
    obtain ⟨a, xs, e1, e2, e3, e4⟩ := S.sl i _ ei
    refine ⟨.ref a, slot_at S ei e1, .inl ⟨rfl, xs, .inl (.inl e2)⟩, Hb, ρ, S, ?_⟩
    cases eg : f ρ with
    | no => rw [eg] at q; exact q.elim
    | exc c => rw [eg] at q; exact fun H' x => q σ H' (S.mono x)
    | ok d =>
      rw [eg] at q
      cases d with
      | list zs =>
        have q : ResS X.K T W Hb (if ds.length + zs.length ≤ sizeLine then Fl.nx (ρ.set i (.ml (ds ++ zs))) else .no) E := q
        by_cases hl : ds.length + zs.length ≤ sizeLine
        · rw [if_pos hl] at q
          intro v H1 x1 r1
          have S1 := S.mono x1
          have e2' := x1.e _ _ e2 fun _ z => by cases z
          obtain ⟨b, ob, ys, rfl, hb, hs, _⟩ := r1
          refine ⟨a, b, xs, ys, rfl, rfl, e2', ⟨ob, hb⟩, by rw [e3.len, hs.len]; exact hl, q _ _ (S1.updM ei e1 e2' (RpL.app (RpL.mono x1.e _ _ e3) hs))⟩
        · rw [if_neg hl] at q; exact q.elim
      | _ => exact q.elim
  · exact q.elim
end
end DL
set_option Elab.async false
set_option linter.all false
set_option maxRecDepth 100000
set_option maxHeartbeats 2000000
namespace DL
open PySem PySem.Spec PyProof.Rows L2 LamX

/-! ### what is walked -/
def fixed : HO → Prop
  | .tup _ => True
  | .frz _ _ => True
  | _ => False
/-- what never changes has stayed -/
def ExtF (H H' : Hp) : Prop := ∀ b o, H b = some o → fixed o → H' b = some o
theorem ExtF.of {H H' : Hp} (x : ExtN H H') : ExtF H H' := fun b o e f => x b o e fun ps z => by subst z; exact f
theorem ExtF.trans {H H1 H2 : Hp} (a : ExtF H H1) (b : ExtF H1 H2) : ExtF H H2 := fun c o e f => b c o (a c o e f) f
theorem sqT_fix {K : Frag} {H H' : Hp} (x : ExtF H H') {a : Addr} {xs : List V} (h : SqT K H a xs) : SqT K H' a xs := by
  rcases h with (h | ⟨o, h⟩) | h
  · exact .inl (.inl (x _ _ h trivial))
  · exact .inl (.inr ⟨o, x _ _ h trivial⟩)
  · exact .inr h
mutual
theorem Rp.fix {K : Frag} {H H' : Hp} (x : ExtF H H') : ∀ (d : D) (v : V), Rp K H d v → Rp K H' d v
  | .none, _, h => h
  | .bool _, _, h => h
  | .int _, _, h => h
  | .str _, _, h => h
  | .list ds, v, h => by
    obtain ⟨a, o, xs, e, ha, hs, hl⟩ := h
    exact ⟨a, o, xs, e, ha.imp fun ha => x _ _ ha trivial, RpL.fix x ds xs hs, hl⟩
  | .tuple ds, v, h => by
    obtain ⟨a, xs, e, ha, hs, hl⟩ := h
    exact ⟨a, xs, e, sqT_fix x ha, RpL.fix x ds xs hs, hl⟩
  | .dict _, _, h => h
theorem RpL.fix {K : Frag} {H H' : Hp} (x : ExtF H H') : ∀ (ds : List D) (vs : List V), RpL K H ds vs → RpL K H' ds vs
  | [], _, h => h
  | d :: ds, vs, h => by
    obtain ⟨v, r, e, h1, h2⟩ := h
    exact ⟨v, r, e, Rp.fix x d v h1, RpL.fix x ds r h2⟩
end
/-- the items come as data -/
def YD (K : Frag) (T : List (Addr × Str)) (ds : List D) : Nat → Hp → V → Hp → Prop := fun i H x H' => Ex T H H' ∧ ∃ d, ds[i]? = some d ∧ Rp K H' d x
section
variable (K : Frag) (T : List (Addr × Str)) (W : WX)
/-- rel: what must have stayed, so that the walk goes on -/
def ResIr (rel : Hp → Hp → Prop) (r : R (List D)) (σ : L2.St) (H : Hp) (Q : It → Hp → Prop) : Prop :=
  match r with
  | .ok ds => ∀ J H', Ex T H H' → Walk J ds.length (fun H2 => rel H' H2) (YD K T ds) → ds.length ≤ sizeLine → Q J H'
  | .exc c => ∀ H', Ex T H H' → W (.ref (He.ga K c)) none σ H'
  | .no => False
abbrev ResI := ResIr K T W ExtF
def dIr (rel : Hp → Hp → Prop) (f : Rho → R (List D)) : TI := fun σ H Q => ∃ Hb ρ, SR K T Hb ρ σ H ∧ ResIr K T W rel (f ρ) σ H Q
abbrev dI (f : Rho → R (List D)) : TI := dIr K T W ExtF f
end
abbrev DI (T : List (Addr × Str)) (X : Cx) (W : WX) (tg iter : Expr) (f : Rho → R (List D)) : Prop := PI X tg iter (dI X.K T W f)
/-- a walk over a list that is being made (it must not change meanwhile) -/
abbrev DIr (rel : Hp → Hp → Prop) (T : List (Addr × Str)) (X : Cx) (W : WX) (tg iter : Expr) (f : Rho → R (List D)) : Prop := PI X tg iter (dIr X.K T W rel f)
def chrs (x : Str) : List D := x.cps.toList.map fun c => .str ⟨#[c]⟩
def itemsOf : D → R (List D)
  | .list ds => .ok ds
  | .tuple ds => .ok ds
  | .str x => .ok (chrs x)
  | _ => .no
def iOf (f : Rho → R D) : Rho → R (List D) := fun ρ => (f ρ).bind itemsOf
section
variable {X : Cx} {T : List (Addr × Str)} {W : WX} {tg e : Expr} {f : Rho → R D} {pos p : Pos}
theorem PI.imp {t u : TI} (h : PI X tg e t) (k : ∀ σ H Q, u σ H Q → t σ H Q) : PI X tg e u := ⟨fun pins s σ H Q I q => h.run pins s σ H Q I (k σ H Q q)⟩
theorem PI.orr {t u : TI} (h : PI X tg e t) (h2 : PI X tg e u) : PI X tg e (fun σ H Q => t σ H Q ∨ u σ H Q) := ⟨fun pins s σ H Q I q => q.elim (h.run pins s σ H Q I) (h2.run pins s σ H Q I)⟩
theorem walk_fl {K : Frag} {a : Addr} {o : Obj} {xs : List V} {ds : List D} {H : Hp} (ha : FzL K H a o xs) (r : RpL K H ds xs) : Walk (Itl K a) ds.length (fun H2 => ExtF H H2) (YD K T ds) := by
  have sq : ∀ {H2 : Hp}, ExtF H H2 → SqL K H2 a xs := fun x => (ha.imp fun ha => x _ _ ha trivial).sq
  have hl := r.len
  refine ⟨fun i H2 hi x => ?_, fun H2 x => ⟨xs, sq x, by omega⟩, fun i H2 v H' hi x y => ?_⟩
  · exact ⟨xs, xs[i], sq x, by rw [List.getElem?_eq_getElem]⟩
  · obtain ⟨e, y⟩ := y
    subst e
    obtain ⟨d, q1, q2⟩ := r.getV (y xs (sq x))
    exact ⟨Ex.refl, d, q1, Rp.fix x d v q2⟩
theorem walk_tp {K : Frag} {a : Addr} {xs : List V} {ds : List D} {H : Hp} (ha : SqT K H a xs) (r : RpL K H ds xs) : Walk (Itt K a) ds.length (fun H2 => ExtF H H2) (YD K T ds) := by
  have sq : ∀ {H2 : Hp}, ExtF H H2 → SqT K H2 a xs := fun x => sqT_fix x ha
  have hl := r.len
  refine ⟨fun i H2 hi x => ?_, fun H2 x => ⟨xs, sq x, by omega⟩, fun i H2 v H' hi x y => ?_⟩
  · exact ⟨xs, xs[i], sq x, by rw [List.getElem?_eq_getElem]⟩
  · obtain ⟨e, y⟩ := y
    subst e
    obtain ⟨d, q1, q2⟩ := r.getV (y xs (sq x))
    exact ⟨Ex.refl, d, q1, Rp.fix x d v q2⟩
theorem one_le_line : (1 : Nat) ≤ sizeLine := by decide
theorem walk_sg {K : Frag} {x : Str} {H : Hp} : Walk (Its x) (chrs x).length (fun H2 => ExtF H H2) (YD K T (chrs x)) := by
  have hl : (chrs x).length = x.cps.size := by simp [chrs]
  refine ⟨fun i H2 hi _ => by rw [hl] at hi; exact hi, fun H2 _ => by rw [hl]; exact Nat.le_refl _, fun i H2 v H' hi _ y => ?_⟩
  obtain ⟨e, c, q1, q2⟩ := y
  subst e
  refine ⟨Ex.refl, .str ⟨#[c]⟩, ?_, q2, one_le_line⟩
  unfold chrs
  rw [List.getElem?_map, Array.getElem?_toList, q1]
  rfl
theorem di_of (h : DE T X W e f) : DI T X W tg e (iOf f) := by
  refine PI.imp (PI.orr (pi_list h) (PI.orr (pi_tup h) (pi_str h))) fun σ H Q q => ?_
  obtain ⟨Hb, ρ, S, q⟩ := q
  unfold iOf at q
  cases ef : f ρ with
  | no => rw [ef] at q; exact q.elim
  | exc c => rw [ef] at q; exact .inl ⟨Hb, ρ, S, by rw [ef]; exact q⟩
  | ok d =>
    rw [ef] at q
    cases d with
    | list ds =>
      refine .inl ⟨Hb, ρ, S, ?_⟩
      rw [ef]
      intro v H1 x1 r1
      obtain ⟨a, o, xs, rfl, ha, hs, hl⟩ := r1
      exact ⟨a, rfl, ⟨xs, ha.sq⟩, q _ H1 x1 (walk_fl ha hs) hl⟩
    | tuple ds =>
      refine .inr (.inl ⟨Hb, ρ, S, ?_⟩)
      rw [ef]
      intro v H1 x1 r1
      obtain ⟨a, xs, rfl, ha, hs, hl⟩ := r1
      exact ⟨a, rfl, ⟨xs, ha⟩, q _ H1 x1 (walk_tp ha hs) hl⟩
    | str x =>
      refine .inr (.inr ⟨Hb, ρ, S, ?_⟩)
      rw [ef]
      intro v H1 x1 r1
      obtain ⟨rfl, hl⟩ := r1
      exact ⟨x, rfl, q _ H1 x1 walk_sg (by simpa [chrs, Str.length] using hl)⟩
    | _ => exact q.elim
/-- range(..) walked -/
def rangeL (lo hi : Int) : List D := (List.range (hi - lo).toNat).map fun k => .int (lo + (k : Nat))
def small62 (i : Int) : Bool := decide (-(2 ^ 62) ≤ i) && decide (i < 2 ^ 62)
def rng1 : List D → R (List D)
  | [.int j] => if small62 j && decide (j.toNat ≤ sizeLine) then .ok (rangeL 0 j) else .no
  | _ => .no
def rng2 : List D → R (List D)
  | [.int i, .int j] => if small62 i && small62 j && decide ((j - i).toNat ≤ sizeLine) then .ok (rangeL i j) else .no
  | _ => .no
def iRg (g : List D → R (List D)) (fs : Rho → R (List D)) : Rho → R (List D) := fun ρ => (fs ρ).bind g
theorem walk_rg {K : Frag} {lo hi : Int} {H : Hp} : Walk (Itr lo (hi - lo).toNat) (rangeL lo hi).length (fun H2 => ExtF H H2) (YD K T (rangeL lo hi)) := by
  have hl : (rangeL lo hi).length = (hi - lo).toNat := by simp [rangeL]
  refine ⟨fun i H2 hi _ => by rw [hl] at hi; exact hi, fun H2 _ => by rw [hl]; exact Nat.le_refl _, fun i H2 v H' hi _ y => ?_⟩
  obtain ⟨e, q2⟩ := y
  subst e
  refine ⟨Ex.refl, .int (lo + (i : Nat)), ?_, q2⟩
  unfold rangeL
  rw [hl] at hi
  rw [List.getElem?_map, List.getElem?_range hi]
  rfl
theorem args2 {fs : Rho → R (List D)} {g : List D → R (List D)} (hx : ∀ ds c, g ds ≠ .exc c) {σ : L2.St} {H : Hp} {Q : It → Hp → Prop} {k : List V → Hp → Prop} (h : dI X.K T W (iRg g fs) σ H Q)
    (hk : ∀ ds items vs H1, g ds = .ok items → Ex T H H1 → RpL X.K H1 ds vs → (∀ J H', Ex T H1 H' → Walk J items.length (fun H2 => ExtF H' H2) (YD X.K T items) → items.length ≤ sizeLine → Q J H') → k vs H1) : dA X.K T W fs σ H k := by
  obtain ⟨Hb, ρ, S, q⟩ := h
  refine ⟨Hb, ρ, S, ?_⟩
  unfold iRg at q
  cases ef : fs ρ with
  | no => rw [ef] at q; exact q.elim
  | exc c => rw [ef] at q; exact q
  | ok ds =>
    rw [ef, R.bind_ok] at q
    intro vs H1 x1 r1
    cases eg : g ds with
    | no => rw [eg] at q; exact q.elim
    | exc c => exact (hx ds c eg).elim
    | ok items =>
      rw [eg] at q
      exact hk ds items vs H1 eg x1 r1 fun J H' x2 w hl => q J H' (x1.trans x2) w hl
theorem RpL.inv1 {K : Frag} {H : Hp} {d : D} {vs : List V} (h : RpL K H [d] vs) : ∃ v, vs = [v] ∧ Rp K H d v := by
  obtain ⟨v, r, rfl, h1, h2⟩ := h
  have h2 : r = [] := h2
  subst h2
  exact ⟨v, rfl, h1⟩
theorem RpL.inv2 {K : Frag} {H : Hp} {d d2 : D} {vs : List V} (h : RpL K H [d, d2] vs) : ∃ v w, vs = [v, w] ∧ Rp K H d v ∧ Rp K H d2 w := by
  obtain ⟨v, r, rfl, h1, h2⟩ := h
  obtain ⟨w, rfl, h3⟩ := RpL.inv1 h2
  exact ⟨v, w, rfl, h1, h3⟩
theorem di_range1 {a : Expr} {fs : Rho → R (List D)} (hm : X.mg "range" = none) (ha : DA T X W [a] fs) (hg : X.env.kindOf "range" = some .globalImplicit := by kernel_rfl) (hs : starEach [a] X.env = [(false, eval a X.env)] := by kernel_rfl) : DI T X W tg (.Call (.Name "range" p) [a] [] pos) (iRg rng1 fs) := by
  refine PI.imp (pi_range1 hg hm ha hs) fun σ H Q q => args2 (fun ds c => ?_) q fun ds items vs H1 eg x1 r1 w => ?_
  · unfold rng1; split <;> (try split) <;> simp
  · unfold rng1 at eg
    split at eg
    · rename_i j
      split at eg
      · rename_i hc
        cases eg
        rw [Bool.and_eq_true] at hc
        unfold small62 at hc
        simp only [Bool.and_eq_true, decide_eq_true_eq] at hc
        obtain ⟨v, rfl, h1⟩ := r1.inv1
        cases h1
        have := walk_rg (T := T) (K := X.K) (lo := 0) (hi := j) (H := H1)
        rw [Int.sub_zero] at this
        refine ⟨j, rfl, hc.1.1, hc.1.2, w _ H1 Ex.refl this (by simpa [rangeL] using hc.2)⟩
      · cases eg
    · cases eg
theorem di_range2 {a b : Expr} {fs : Rho → R (List D)} (hm : X.mg "range" = none) (ha : DA T X W [a, b] fs) (hg : X.env.kindOf "range" = some .globalImplicit := by kernel_rfl) (hs : starEach [a, b] X.env = [(false, eval a X.env), (false, eval b X.env)] := by kernel_rfl) (hs2 : starEach [b] X.env = [(false, eval b X.env)] := by kernel_rfl) :
    DI T X W tg (.Call (.Name "range" p) [a, b] [] pos) (iRg rng2 fs) := by
  refine PI.imp (pi_range2 hg hm ha hs hs2) fun σ H Q q => args2 (fun ds c => ?_) q fun ds items vs H1 eg x1 r1 w => ?_
  · unfold rng2; split <;> (try split) <;> simp
  · unfold rng2 at eg
    split at eg
    · rename_i i j
      split at eg
      · rename_i hc
        cases eg
        unfold small62 at hc
        simp only [Bool.and_eq_true, decide_eq_true_eq] at hc
        obtain ⟨v, u, rfl, h1, h2⟩ := r1.inv2
        cases h1; cases h2
        refine ⟨i, j, rfl, ⟨hc.1.1.1, hc.1.1.2, hc.1.2.1, hc.1.2.2⟩, w _ H1 Ex.refl walk_rg (by simpa [rangeL] using hc.2)⟩
      · cases eg
    · cases eg
/-- enumerate of a list -/
def enumL (ds : List D) : List D := (List.range ds.length).map fun i => .tuple [.int (i : Nat), ds.getD i .none]
def enu : List D → R (List D)
  | [.list ds] => .ok (enumL ds)
  | _ => .no
theorem two_le_line : (2 : Nat) ≤ sizeLine := by decide
theorem rp_new2 {K : Frag} {H : Hp} {t : Addr} {x y : V} {a b : D} (h : H t = none) (h1 : Rp K H a x) (h2 : Rp K H b y) : Rp K (upd H t (.tup [x, y])) (.tuple [a, b]) (.ref t) := by
  have m := ExtN.of (keep_upd (o := .tup [x, y]) h)
  exact ⟨t, [x, y], rfl, .inl (.inl upd_same), ⟨x, [y], rfl, Rp.mono m _ _ h1, y, [], rfl, Rp.mono m _ _ h2, rfl⟩, two_le_line⟩
theorem walk_en {K : Frag} {a : Addr} {o : Obj} {xs : List V} {ds : List D} {H : Hp} (ha : FzL K H a o xs) (r : RpL K H ds xs) : Walk (Ite K a) (enumL ds).length (fun H2 => ExtF H H2) (YD K T (enumL ds)) := by
  have sq : ∀ {H2 : Hp}, ExtF H H2 → SqL K H2 a xs := fun x => (ha.imp fun ha => x _ _ ha trivial).sq
  have hl := r.len
  have el : (enumL ds).length = ds.length := by simp [enumL]
  rw [el]
  refine ⟨fun i H2 hi x => ?_, fun H2 x => ⟨xs, sq x, by omega⟩, fun i H2 v H' hi x y => ?_⟩
  · exact ⟨xs, xs[i], sq x, by rw [List.getElem?_eq_getElem]⟩
  · obtain ⟨t, z, rfl, ht, rfl, hz⟩ := y
    obtain ⟨d, q1, q2⟩ := r.getV (hz xs (sq x))
    refine ⟨Ex.new ht, .tuple [.int (i : Nat), d], ?_, rp_new2 ht rfl (Rp.fix x d z q2)⟩
    unfold enumL
    rw [List.getElem?_map, List.getElem?_range hi]
    simp [List.getD_eq_getElem?_getD, q1]
theorem di_enum {a : Expr} {elts : List Expr} {kk : Nat} {tpos : Pos} {fs : Rho → R (List D)} (hm : X.mg "enumerate" = none) (ha : DA T X W [a] fs) (hg : X.env.kindOf "enumerate" = some .globalImplicit := by kernel_rfl) (hs : starEach [a] X.env = [(false, eval a X.env)] := by kernel_rfl) :
    DI T X W (.Tuple elts kk tpos) (.Call (.Name "enumerate" p) [a] [] pos) (iRg enu fs) := by
  refine PI.imp (pi_enum hg hm ha hs) fun σ H Q q => args2 (fun ds c => ?_) q fun ds items vs H1 eg x1 r1 w => ?_
  · unfold enu; split <;> simp
  · unfold enu at eg
    split at eg
    · rename_i zs
      cases eg
      obtain ⟨v, rfl, h1⟩ := r1.inv1
      obtain ⟨b, o, xs, rfl, hb, hs2, hl⟩ := h1
      exact ⟨b, xs, rfl, hb.sq, w _ H1 Ex.refl (walk_en hb hs2) (by simpa [enumL] using hl)⟩
    · cases eg
/-- zip of two lists -/
def zipL (as bs : List D) : List D := (as.zip bs).map fun q => .tuple [q.1, q.2]
def zp : List D → R (List D)
  | [.list as, .list bs] => .ok (zipL as bs)
  | _ => .no
theorem walk_zp {K : Frag} {a b : Addr} {o o2 : Obj} {xs ys : List V} {as bs : List D} {H : Hp} (ha : FzL K H a o xs) (hb : FzL K H b o2 ys) (r : RpL K H as xs) (r2 : RpL K H bs ys) :
    Walk (Itz K a b) (zipL as bs).length (fun H2 => ExtF H H2) (YD K T (zipL as bs)) := by
  have sq : ∀ {H2 : Hp}, ExtF H H2 → SqL K H2 a xs := fun x => (ha.imp fun ha => x _ _ ha trivial).sq
  have sq2 : ∀ {H2 : Hp}, ExtF H H2 → SqL K H2 b ys := fun x => (hb.imp fun hb => x _ _ hb trivial).sq
  have hl := r.len
  have hl2 := r2.len
  have el : (zipL as bs).length = min as.length bs.length := by simp [zipL]
  rw [el]
  refine ⟨fun i H2 hi x => ?_, fun H2 x => ⟨xs, ys, sq x, sq2 x, by omega⟩, fun i H2 v H' hi x y => ?_⟩
  · exact ⟨xs, ys, xs[i], ys[i], sq x, sq2 x, by rw [List.getElem?_eq_getElem], by rw [List.getElem?_eq_getElem]⟩
  · obtain ⟨t, z, u, rfl, ht, rfl, hz, hu⟩ := y
    obtain ⟨d, q1, q2⟩ := r.getV (hz xs (sq x))
    obtain ⟨d2, q3, q4⟩ := r2.getV (hu ys (sq2 x))
    refine ⟨Ex.new ht, .tuple [d, d2], ?_, rp_new2 ht (Rp.fix x d z q2) (Rp.fix x d2 u q4)⟩
    unfold zipL
    rw [List.getElem?_map]
    have : (as.zip bs)[i]? = some (d, d2) := by
      rw [List.getElem?_zip_eq_some]; exact ⟨q1, q3⟩
    rw [this]; rfl
theorem di_zip {a b : Expr} {elts : List Expr} {kk : Nat} {tpos : Pos} {fs : Rho → R (List D)} (hm : X.mg "zip" = none) (ha : DA T X W [a, b] fs) (hg : X.env.kindOf "zip" = some .globalImplicit := by kernel_rfl)
    (hs : starEach [a, b] X.env = (false, eval a X.env) :: starEach [b] X.env := by kernel_rfl) (hpl : (backTo pos (starEach [b] X.env)).any (·.1) = false := by kernel_rfl) :
    DI T X W (.Tuple elts kk tpos) (.Call (.Name "zip" p) [a, b] [] pos) (iRg zp fs) := by
  refine PI.imp (pi_zip hg hm ha hs hpl) fun σ H Q q => args2 (fun ds c => ?_) q fun ds items vs H1 eg x1 r1 w => ?_
  · unfold zp; split <;> simp
  · unfold zp at eg
    split at eg
    · cases eg
      obtain ⟨v, u, rfl, h1, h2⟩ := r1.inv2
      obtain ⟨c, o, xs, rfl, hb, hs2, hl⟩ := h1
      obtain ⟨c2, o2, xs2, rfl, hb2, hs3, hl2⟩ := h2
      refine ⟨c, c2, xs, xs2, rfl, hb.sq, hb2.sq, w _ H1 Ex.refl (walk_zp hb hb2 hs2 hs3) ?_⟩
      simp only [zipL, List.length_map, List.length_zip]; omega
    · cases eg
def iMl (i : Nat) : Rho → R (List D) := fun ρ => match ρ[i]? with
  | some (.ml ds) => if ds.length ≤ sizeLine then .ok ds else .no
  | _ => .no
theorem walk_ml {K : Frag} {a : Addr} {xs : List V} {ds : List D} {H : Hp} (ha : H a = some (.lst xs)) (r : RpL K H ds xs) : Walk (Itl K a) ds.length (fun H2 => ExtN H H2) (YD K T ds) := by
  have sq : ∀ {H2 : Hp}, ExtN H H2 → SqL K H2 a xs := fun x => .inl (.inl (x _ _ ha fun _ z => by cases z))
  have hl := r.len
  refine ⟨fun i H2 hi x => ?_, fun H2 x => ⟨xs, sq x, by omega⟩, fun i H2 v H' hi x y => ?_⟩
  · exact ⟨xs, xs[i], sq x, by rw [List.getElem?_eq_getElem]⟩
  · obtain ⟨e, y⟩ := y
    subst e
    obtain ⟨d, q1, q2⟩ := r.getV (y xs (sq x))
    exact ⟨Ex.refl, d, q1, Rp.mono x d v q2⟩
theorem di_ml (i : Nat) {x : Str} (hN : X.N[i]? = some x := by kernel_rfl) (hv : visB X.env.scope x = true := by kernel_rfl) (hd : (x == ("__debug__" : Str)) = false := by kernel_rfl)
    (hcd : (x == ("__classdict__" : Str)) = false := by kernel_rfl) : DIr ExtN T X W tg (.Name x pos) (iMl i) := by
  refine PI.imp (pi_list (pe_var (i := i) hN (vis_of hv) hd hcd)) fun σ H Q q => ?_
  obtain ⟨Hb, ρ, S, q⟩ := q
  unfold iMl at q
  split at q
  · rename_i ds ei
    split at q
    · rename_i hl
      obtain ⟨a, xs, e1, e2, e3, e4⟩ := S.sl i _ ei
      exact ⟨.ref a, slot_at S ei e1, a, rfl, ⟨xs, .inl (.inl e2)⟩, q _ H Ex.refl (walk_ml e2 e3) hl⟩
    · exact q.elim
  · exact q.elim
end
end DL
set_option Elab.async false
set_option linter.all false
set_option maxRecDepth 100000
set_option maxHeartbeats 2000000
namespace DL
open PySem PySem.Spec PyProof.Rows L2 LamX

/-! ### targets -/
abbrev Tgt := D → Rho → R Rho
def ResG (K : Frag) (T : List (Addr × Str)) (Hb : Hp) (r : R Rho) (vs : List Nat) (σ : L2.St) (H : Hp) (Q : L2.St → Hp → Prop) : Prop :=
  match r with
  | .ok ρ => ∀ σ', SR K T Hb ρ σ' H → L2.wipe σ' vs = L2.wipe σ vs → Q σ' H
  | _ => False
/-- vs: the slots that may be written -/
def dG (K : Frag) (T : List (Addr × Str)) (vs : List Nat) (k : Tgt) : TG := fun v σ H Q => ∃ Hb ρ d, SR K T Hb ρ σ H ∧ Rp K H d v ∧ ResG K T Hb (k d ρ) vs σ H Q
def dGs (K : Frag) (T : List (Addr × Str)) (vs : List Nat) (k : List D → Rho → R Rho) : TGs := fun us σ H Q => ∃ Hb ρ ds, SR K T Hb ρ σ H ∧ RpL K H ds us ∧ ResG K T Hb (k ds ρ) vs σ H Q
abbrev DG (T : List (Addr × Str)) (X : Cx) (vs : List Nat) (tg : Expr) (k : Tgt) : Prop := PG X tg (dG X.K T vs k)
abbrev DGs (T : List (Addr × Str)) (X : Cx) (vs : List Nat) (tgs : List Expr) (k : List D → Rho → R Rho) : Prop := PGs X tgs (dGs X.K T vs k)
theorem wipe_set {σ : L2.St} {i : Nat} {o : Option V} : ∀ {vs : List Nat}, i ∈ vs → L2.wipe (σ.set i o) vs = L2.wipe σ vs
  | [], h => by cases h
  | v :: vs, h => by
    unfold L2.wipe
    by_cases hi : i ∈ vs
    · rw [wipe_set hi]
    · have e : i = v := (List.mem_cons.mp h).resolve_right hi
      subst e
      have go : ∀ (ws : List Nat), i ∉ ws → L2.wipe (σ.set i o) ws = (L2.wipe σ ws).set i o := by
        intro ws
        induction ws with
        | nil => intro _; rfl
        | cons w ws ih =>
          intro hn
          unfold L2.wipe
          rw [ih fun z => hn (List.mem_cons_of_mem _ z), List.set_comm _ _ (fun e => hn (by rw [e]; exact List.mem_cons_self))]
      rw [go vs hi, List.set_set]
def gNm (i : Nat) : Tgt := fun d ρ => .ok (ρ.set i (.dat d))
def gsNil : List D → Rho → R Rho := fun ds ρ => match ds with
  | [] => .ok ρ
  | _ => .no
def gsCons (k : Tgt) (ks : List D → Rho → R Rho) : List D → Rho → R Rho := fun ds ρ => match ds with
  | d :: r => (k d ρ).bind (ks r)
  | _ => .no
def gTp (n : Nat) (ks : List D → Rho → R Rho) : Tgt := fun d ρ => match d with
  | .tuple ds => if ds.length = n then ks ds ρ else .no
  | _ => .no
section
variable {X : Cx} {T : List (Addr × Str)} {vs : List Nat} {tg : Expr} {tgs : List Expr} {k : Tgt} {ks : List D → Rho → R Rho} {pos : Pos}
theorem PG.imp {t u : TG} (h : PG X tg t) (q : ∀ v σ H Q, u v σ H Q → t v σ H Q) : PG X tg u := ⟨fun pins s σ H v w Q I r z => h.run pins s σ H v w Q I r (q v σ H Q z)⟩
theorem PGs.imp {t u : TGs} (h : PGs X tgs t) (q : ∀ v σ H Q, u v σ H Q → t v σ H Q) : PGs X tgs u := ⟨fun pins s σ H v w Q I r z => h.run pins s σ H v w Q I r (q v σ H Q z)⟩
theorem g_nm (i : Nat) {x : Str} (hN : X.N.Nodup) (hi : X.N[i]? = some x := by kernel_rfl) (hx : locB X.env.scope x = true := by kernel_rfl)
    (hf : fnB X x = true := by kernel_rfl) (hm : i ∈ vs := by decide) : DG T X vs (.Name x pos) (gNm i) := by
  refine PG.imp (pg_name (i := i) hN hi (loc_of hx) (fn_of' hf)) fun v σ H Q q => ?_
  obtain ⟨Hb, ρ, d, S, r, q⟩ := q
  exact q _ (S.setD i r) (wipe_set hm)
theorem gs_nil : DGs T X vs [] gsNil := by
  refine PGs.imp pgs_nil fun us σ H Q q => ?_
  obtain ⟨Hb, ρ, ds, S, r, q⟩ := q
  cases ds with
  | nil => exact ⟨r, q σ S rfl⟩
  | cons d r => exact q.elim
theorem gs_cons (h1 : DG T X vs tg k) (h2 : DGs T X vs tgs ks) (hs : (assignEach (tg :: tgs) X.env).map (·.2) = assign tg X.env :: (assignEach tgs X.env).map (·.2) := by kernel_rfl) : DGs T X vs (tg :: tgs) (gsCons k ks) := by
  refine PGs.imp (pgs_cons h1 h2 hs) fun us σ H Q q => ?_
  obtain ⟨Hb, ρ, ds, S, r, q⟩ := q
  cases ds with
  | nil => exact q.elim
  | cons d ds =>
    obtain ⟨v, vr, rfl, r1, r2⟩ := r
    refine ⟨v, vr, rfl, Hb, ρ, d, S, r1, ?_⟩
    unfold gsCons at q
    dsimp only at q
    cases ek : k d ρ with
    | no => rw [ek] at q; exact q.elim
    | exc c => rw [ek] at q; exact q.elim
    | ok ρ' =>
      rw [ek] at q
      refine fun σ' S' w' => ⟨Hb, ρ', ds, S', r2, ?_⟩
      have q : ResG X.K T Hb (ks ds ρ') vs σ H Q := q
      cases e2 : ks ds ρ' with
      | no => rw [e2] at q; exact q
      | exc c => rw [e2] at q; exact q
      | ok ρ2 => rw [e2] at q; exact fun σ2 S2 w2 => q σ2 S2 (w2.trans w')
theorem g_tp {n kk : Nat} (hc : X.calm = true) (h : DGs T X vs tgs ks) (hn : (assignEach tgs X.env).length = n := by kernel_rfl) (hst : (assignEach tgs X.env).findIdx? (·.1) = none := by kernel_rfl) : DG T X vs (.Tuple tgs kk pos) (gTp n ks) := by
  refine PG.imp (pg_tup hc h hn hst) fun v σ H Q q => ?_
  obtain ⟨Hb, ρ, d, S, r, q⟩ := q
  cases d with
  | tuple ds =>
    obtain ⟨a, xs, rfl, ha, hs, hl⟩ := r
    have q : ResG X.K T Hb (if ds.length = n then ks ds ρ else .no) vs σ H Q := q
    by_cases h : ds.length = n
    · rw [if_pos h] at q
      exact ⟨a, xs, rfl, ha, by rw [hs.len, h], Hb, ρ, ds, S, hs, q⟩
    · rw [if_neg h] at q; exact q.elim
  | _ => exact q.elim
end
/-! ### assignment to several names -/
def R.go (r : R Rho) (k : Rho → Fl) : Fl := match r with
  | .ok ρ => k ρ
  | _ => .no
def sAsg (k : Tgt) (f : Rho → R D) : Rho → Fl := fun ρ => (f ρ).thn ρ fun d => (k d ρ).go .nx
/-- a, b = e1, e2 -/
def sPar (i j : Nat) (fs : Rho → R (List D)) : Rho → Fl := fun ρ => (fs ρ).thn ρ fun ds => match ds with
  | [a, b] => .nx ((ρ.set i (.dat a)).set j (.dat b))
  | _ => .no
def loopD (body : D → Rho → Fl) : List D → Rho → Fl
  | [], ρ => .nx ρ
  | d :: r, ρ => match body d ρ with
    | .nx ρ' => loopD body r ρ'
    | .ct ρ' => loopD body r ρ'
    | .bk ρ' => .nx ρ'
    | .rt v => .rt v
    | .exc c ρ' => .exc c ρ'
    | .no => .no
def sFor (fi : Rho → R (List D)) (k : Tgt) (g : Rho → Fl) : Rho → Fl := fun ρ => (fi ρ).thn ρ fun ds => loopD (fun d ρ => (k d ρ).go g) ds ρ
def whileD (t : Rho → R Bool) (g : Rho → Fl) : Nat → Rho → Fl
  | 0, _ => .no
  | n + 1, ρ => (t ρ).thn ρ fun b => if b then (match g ρ with
    | .nx ρ' => whileD t g n ρ'
    | .ct ρ' => whileD t g n ρ'
    | .bk ρ' => .nx ρ'
    | .rt v => .rt v
    | .exc c ρ' => .exc c ρ'
    | .no => .no) else .nx ρ
def sWhile (m : Rho → Nat) (t : Rho → R Bool) (g : Rho → Fl) : Rho → Fl := fun ρ => whileD t g (m ρ) ρ
section
variable {X : Cx} {T : List (Addr × Str)} {W : WX} {tg e iter c : Expr} {k : Tgt} {f : Rho → R D} {fi : Rho → R (List D)} {t : Rho → R Bool} {body : List Stmt} {g : Rho → Fl} {pos : Pos}
theorem s_asg {vs : List Nat} (he : DE T X W e f) (hg : DG T X vs tg k) (hs : swapsWithSole [tg] e pos.line X.env = pure false := by kernel_rfl) (hw : swappedStores [tg] e X.env = pure none := by kernel_rfl)
    (h1 : (assignEach [tg] X.env).map (·.2) = [assign tg X.env] := by kernel_rfl) : DS T X W (.Assign [tg] e pos) (sAsg k f) := by
  refine PS.imp (ps_asg he hg hs hw h1) fun E σ H q => ?_
  obtain ⟨Hb, ρ, S, q⟩ := q
  refine ⟨Hb, ρ, S, ?_⟩
  unfold sAsg at q
  cases ef : f ρ with
  | no => rw [ef] at q; exact q
  | exc c => rw [ef] at q; exact fun H' x => q σ H' (S.mono x)
  | ok d =>
    rw [ef] at q
    intro v H' x r
    have S1 := S.mono x
    refine ⟨Hb, ρ, d, S1, r, ?_⟩
    have q : ResS X.K T W Hb ((k d ρ).go .nx) E := q
    cases ek : k d ρ with
    | no => rw [ek] at q; exact q
    | exc c => rw [ek] at q; exact q
    | ok ρ' => rw [ek] at q; exact fun σ' S' _ => q σ' H' S'
theorem s_par (i j : Nat) {x y : Str} {a b : Expr} {fs : Rho → R (List D)} {px py pt pt2 : Pos} {kt k2 : Nat} (hc : X.calm = true) (hN : X.N.Nodup) (ha : DA T X W [a, b] fs) (hi : X.N[i]? = some x := by kernel_rfl) (hj : X.N[j]? = some y := by kernel_rfl) (hij : i ≠ j := by decide)
    (hx : X.env.scope.names.lookup x = some .local := by kernel_rfl) (hy : X.env.scope.names.lookup y = some .local := by kernel_rfl)
    (hw : swappedStores [.Tuple [.Name x px, .Name y py] kt pt] (.Tuple [a, b] k2 pt2) X.env = pure (some [x, y]) := by kernel_rfl)
    (hs : swapsWithSole [.Tuple [.Name x px, .Name y py] kt pt] (.Tuple [a, b] k2 pt2) pos.line X.env = pure false := by kernel_rfl) :
    DS T X W (.Assign [.Tuple [.Name x px, .Name y py] kt pt] (.Tuple [a, b] k2 pt2) pos) (sPar i j fs) := by
  refine PS.imp (ps_par (i := i) (j := j) hc hN hi hj hij hx hy ha hw hs) fun E σ H q => ?_
  obtain ⟨Hb, ρ, S, q⟩ := q
  refine ⟨Hb, ρ, S, ?_⟩
  unfold sPar at q
  cases ef : fs ρ with
  | no => rw [ef] at q; exact q
  | exc c => rw [ef] at q; exact fun H' x => q σ H' (S.mono x)
  | ok ds =>
    rw [ef] at q
    intro vs H' x r
    match ds, q, r with
    | [d1, d2], q, r =>
      obtain ⟨v, u, rfl, r1, r2⟩ := r.inv2
      exact ⟨v, u, rfl, q _ H' (((S.mono x).setD i r1).setD j r2)⟩
    | [], q, _ => exact q.elim
    | [_], q, _ => exact q.elim
    | _ :: _ :: _ :: _, q, _ => exact q.elim
/-- what never changes is on the ground -/
theorem fix_ground {K : Frag} {Hb H H2 : Hp} {ρ ρ' : Rho} {σ σ' : L2.St} (S : SR K T Hb ρ σ H) (S2 : SR K T (ground ρ σ H) ρ' σ' H2) : ExtF H H2 := fun b o e f => by
  refine S2.ext b o ?_ fun ps z => by subst z; exact f
  unfold ground
  rw [if_neg]
  · exact e
  · rintro ⟨i, u, e1, ou, hσ⟩
    obtain ⟨xs, h⟩ := S.own_lst e1 ou hσ
    rw [e] at h
    cases h
    exact f
theorem s_for {vs : List Nat} (hp : PassesOwn (model X.prog X.w) X.A X.env X.xe) (hc : X.calm = true) (hi : DI T X W tg iter fi) (hg : DG T X vs tg k) (hb : DSs T X W body g) (hs : ∀ x, foldedSetIterable iter X.env x = pure x := by intro _; kernel_rfl) :
    DS T X W (.For tg iter body [] pos) (sFor fi k g) := by
  refine PS.imp (ps_for hp hc hi hg hb hs) fun E σ H q => ?_
  obtain ⟨Hb, ρ, S, q⟩ := q
  refine ⟨Hb, ρ, S, ?_⟩
  unfold sFor at q
  cases ef : fi ρ with
  | no => rw [ef] at q; exact q
  | exc c => rw [ef] at q; exact fun H' x => q σ H' (S.mono x)
  | ok ds =>
    rw [ef] at q
    intro J H1 x1 w hl
    have S1 := S.mono x1
    have q : ResS X.K T W Hb (loopD (fun d ρ => (k d ρ).go g) ds ρ) E := q
    have G1 := S1.onGround
    refine for_it w (fun i σ2 H2 => ∃ ρ2, SR X.K T (ground ρ σ H1) ρ2 σ2 H2 ∧ ResS X.K T W Hb (loopD (fun d ρ => (k d ρ).go g) (ds.drop i) ρ2) E) ⟨ρ, G1, q⟩ (fun i σ2 H2 _ ⟨ρ2, S2, _⟩ => fix_ground S1 S2) ?_ ?_
    · rintro i x σ2 H2 H3 hi ⟨ρ2, S2, q2⟩ ⟨x3, d, ed, rd⟩
      have ed' : ds.drop i = d :: ds.drop (i + 1) := by
        have hlt : i < ds.length := hi
        rw [List.drop_eq_getElem_cons hlt]
        rw [List.getElem?_eq_getElem hlt] at ed
        cases ed; rfl
      rw [ed'] at q2
      have S3 := S2.mono x3
      refine ⟨_, ρ2, d, S3, rd, ?_⟩
      unfold loopD at q2
      cases ek : k d ρ2 with
      | no => rw [ek] at q2; exact q2
      | exc c => rw [ek] at q2; exact q2
      | ok ρ3 =>
        rw [ek] at q2
        intro σ3 S4 _
        refine ⟨_, ρ3, S4, ?_⟩
        have q2 : ResS X.K T W Hb (match g ρ3 with
          | .nx ρ' => loopD (fun d ρ => (k d ρ).go g) (ds.drop (i + 1)) ρ'
          | .ct ρ' => loopD (fun d ρ => (k d ρ).go g) (ds.drop (i + 1)) ρ'
          | .bk ρ' => .nx ρ'
          | .rt v => .rt v
          | .exc c ρ' => .exc c ρ'
          | .no => .no) E := q2
        cases eg : g ρ3 with
        | nx ρ4 => rw [eg] at q2; exact fun σ4 H4 S5 => ⟨ρ4, S5, q2⟩
        | ct ρ4 => rw [eg] at q2; exact fun σ4 H4 S5 => ⟨ρ4, S5, q2⟩
        | bk ρ4 => rw [eg] at q2; exact fun σ4 H4 S5 => q2 σ4 H4 (S1.ofGround S5)
        | rt v => rw [eg] at q2; exact fun u H4 e4 t4 r4 => q2 u H4 (S1.exGround.trans e4) t4 r4
        | exc c ρ4 => rw [eg] at q2; exact fun σ4 H4 S5 => q2 σ4 H4 (S1.ofGround S5)
        | no => rw [eg] at q2; exact q2
    · rintro σ2 H2 ⟨ρ2, S2, q2⟩
      rw [List.drop_length] at q2
      exact q2 σ2 H2 (S1.ofGround S2)
theorem s_while (m : Rho → Nat) (hp : PassesOwn (model X.prog X.w) X.A X.env X.xe) (hc : DT T X W c t) (hb : DSs T X W body g) : DS T X W (.While c body [] pos) (sWhile m t g) := by
  refine PS.imp (ps_while hp hc hb) fun E σ H q => ?_
  obtain ⟨Hb, ρ, S, q⟩ := q
  refine ⟨fun n σ2 H2 => ∃ ρ2, SR X.K T Hb ρ2 σ2 H2 ∧ ResS X.K T W Hb (whileD t g n ρ2) E, ⟨m ρ, ρ, S, q⟩, ?_⟩
  rintro n σ2 H2 ⟨ρ2, S2, q2⟩
  cases n with
  | zero => exact q2.elim
  | succ n =>
    refine ⟨Hb, ρ2, S2, ?_⟩
    unfold whileD at q2
    cases et : t ρ2 with
    | no => rw [et] at q2; exact q2
    | exc c => rw [et] at q2; exact fun H' x => q2 σ2 H' (S2.mono x)
    | ok b =>
      rw [et] at q2
      intro H3 x3
      cases b with
      | false => exact q2 σ2 H3 (S2.mono x3)
      | true =>
        refine ⟨fun σ4 H4 => ∃ ρ4, SR X.K T Hb ρ4 σ4 H4 ∧ ResS X.K T W Hb (whileD t g n ρ4) E, fun σ4 H4 z => ⟨n, Nat.lt_succ_self n, z⟩, Hb, ρ2, S2.mono x3, ?_⟩
        have q2 : ResS X.K T W Hb (match g ρ2 with
          | .nx ρ' => whileD t g n ρ'
          | .ct ρ' => whileD t g n ρ'
          | .bk ρ' => .nx ρ'
          | .rt v => .rt v
          | .exc c ρ' => .exc c ρ'
          | .no => .no) E := q2
        cases eg : g ρ2 with
        | nx ρ4 => rw [eg] at q2; exact fun σ4 H4 S5 => ⟨ρ4, S5, q2⟩
        | ct ρ4 => rw [eg] at q2; exact fun σ4 H4 S5 => ⟨ρ4, S5, q2⟩
        | bk ρ4 => rw [eg] at q2; exact q2
        | rt v => rw [eg] at q2; exact q2
        | exc c ρ4 => rw [eg] at q2; exact q2
        | no => rw [eg] at q2; exact q2
end

/-! ### comprehensions -/
def lcGo (k : Tgt) (t : Rho → R Bool) (fe : Rho → R D) (ρ : Rho) : List D → R (List D)
  | [] => .ok []
  | d :: r => match k d ρ with
    | .ok ρ' => (match t ρ' with
      | .ok true => (match fe ρ' with
        | .ok y => (lcGo k t fe ρ r).bind fun ys => .ok (y :: ys)
        | _ => .no)
      | .ok false => lcGo k t fe ρ r
      | _ => .no)
    | _ => .no
def eLc (vs : List Nat) (fi : Rho → R (List D)) (k : Tgt) (t : Rho → R Bool) (fe : Rho → R D) : Rho → R D := fun ρ => (fi ρ).bind fun ds => (lcGo k t fe (fgt vs ρ) ds).bind fun ys => .ok (.list ys)
theorem lcGo_tame {k : Tgt} {t : Rho → R Bool} {fe : Rho → R D} {ρ : Rho} : ∀ (ds : List D) (c : Str), lcGo k t fe ρ ds ≠ .exc c := by
  intro ds
  induction ds with
  | nil => intro c h; cases h
  | cons d r ih =>
    intro c h
    unfold lcGo at h
    split at h
    · split at h
      · split at h
        · cases hr : lcGo k t fe ρ r with
          | ok ys => rw [hr] at h; cases h
          | exc c' => exact ih c' hr
          | no => rw [hr] at h; cases h
        · cases h
      · exact ih c h
      · cases h
    · cases h
theorem wipe_wipe (σ : L2.St) (vs : List Nat) : L2.wipe (L2.wipe σ vs) vs = L2.wipe σ vs := by
  have go : ∀ (ws : List Nat), (∀ v ∈ ws, v ∈ vs) → L2.wipe (L2.wipe σ ws) vs = L2.wipe σ vs := by
    intro ws
    induction ws with
    | nil => intro _; rfl
    | cons w ws ih =>
      intro h
      have e : L2.wipe σ (w :: ws) = (L2.wipe σ ws).set w none := rfl
      rw [e, wipe_set (h w List.mem_cons_self)]
      exact ih fun v hv => h v (List.mem_cons_of_mem _ hv)
  exact go vs fun _ h => h
/-- .. then a list that was not there at first is changed -/
theorem Ex.trans' {T : List (Addr × Str)} {H H1 : Hp} {p : Addr} {xs : List V} {o : HO} (x : Ex T H H1) (h1 : H1 p = some (.lst xs)) (h : H p = none) : Ex T H (upd H1 p o) := by
  refine ⟨fun b u e n => ?_, fun t q hq => ?_⟩
  · rw [upd_ne (ne_of_none e h)]; exact x.e b u e n
  · obtain ⟨ps, a1, a2, a3⟩ := x.t t q hq
    refine ⟨ps, by rw [upd_ne (ne_of a1 h1 (by intro z; cases z))]; exact a1, a2, fun pos cv hc => ?_⟩
    obtain ⟨c, e1, e2⟩ := a3 pos cv hc
    exact ⟨c, e1, by rw [upd_ne (ne_of e2 h1 (by intro z; cases z))]; exact e2⟩
section
variable {X : Cx} {T : List (Addr × Str)} {W : WX} {elt tg iter : Expr} {ifs : List Expr} {scope : Scope} {own : List (Str × Nat)} {k : Tgt} {t : Rho → R Bool} {fe : Rho → R D} {fi : Rho → R (List D)} {rel : Hp → Hp → Prop} {pos : Pos}
/-- the wish within a comprehension: nothing is let out -/
abbrev W0 : WX := fun _ _ _ _ => False
abbrev DTs (T : List (Addr × Str)) (X : Cx) (W : WX) (ifs : List Expr) (f : Rho → R Bool) : Prop := PTs X ifs (dT X.K T W f)
def tTrue : Rho → R Bool := fun _ => .ok true
theorem dts_nil : DTs T X W [] tTrue := by
  refine ⟨fun pins s σ H Q I q => (pts_nil (X := X)).run pins s σ H Q I ?_⟩
  obtain ⟨Hb, ρ, S, q⟩ := q
  exact q H Ex.refl
theorem dts_one {c : Expr} (h : DT T X W c t) : DTs T X W [c] t := pts_one h
theorem SR.wipe {K : Frag} {Hb H : Hp} {ρ : Rho} {σ : L2.St} (S : SR K T Hb ρ σ H) : ∀ vs : List Nat, SR K T Hb (DL.fgt vs ρ) (L2.wipe σ vs) H := by
  have one : ∀ {ρ : Rho} {σ : L2.St} (v : Nat), SR K T Hb ρ σ H → ρ[v]? = some Sl.no ∨ ρ.length ≤ v → SR K T Hb ρ (σ.set v none) H := fun {ρ σ} v S h => by
    rcases h with h | h
    · exact S.any v h none
    · rw [List.set_eq_of_length_le (by rw [← S.len]; exact h)]; exact S
  have no : ∀ (vs : List Nat) (ρ : Rho) (v : Nat), v ∈ vs → (DL.fgt vs ρ)[v]? = some Sl.no ∨ (DL.fgt vs ρ).length ≤ v := by
    intro vs
    induction vs with
    | nil => intro ρ v h; cases h
    | cons w vs ih =>
      intro ρ v h
      have len : ∀ (vs : List Nat) (ρ : Rho), (DL.fgt vs ρ).length = ρ.length := by
        intro vs
        induction vs with
        | nil => intro ρ; rfl
        | cons i r ih => intro ρ; unfold DL.fgt; rw [ih, List.length_set]
      have keep : ∀ (vs : List Nat) (ρ : Rho) (v : Nat), ρ[v]? = some Sl.no → (DL.fgt vs ρ)[v]? = some Sl.no := by
        intro vs
        induction vs with
        | nil => intro ρ v h; exact h
        | cons i r ih =>
          intro ρ v h
          unfold DL.fgt
          refine ih _ v ?_
          by_cases hi : i = v
          · subst hi
            rw [List.getElem?_set_self (List.getElem?_eq_some_iff.mp h).1]
          · rw [List.getElem?_set_ne hi]; exact h
      by_cases hv : v ∈ vs
      · exact ih _ v hv
      · have e : v = w := (List.mem_cons.mp h).resolve_right hv
        subst e
        by_cases hlt : v < ρ.length
        · exact .inl (keep vs _ v (by rw [List.getElem?_set_self hlt]))
        · exact .inr (by rw [len]; exact Nat.le_of_not_lt hlt)
  intro vs
  have S0 := S.fgt vs
  have all : ∀ ws : List Nat, (∀ v ∈ ws, v ∈ vs) → SR K T Hb (DL.fgt vs ρ) (L2.wipe σ ws) H := by
    intro ws
    induction ws with
    | nil => intro _; exact S0
    | cons w ws ih =>
      intro hs
      unfold L2.wipe
      exact one w (ih fun v hv => hs v (List.mem_cons_of_mem _ hv)) (no vs ρ w (hs w List.mem_cons_self))
  exact all vs fun _ h => h
theorem lc_reads {vs : List Nat} {σ : L2.St} {H : Hp} {Q Q' : VK} (q : dE X.K T W (eLc vs fi k t fe) σ H Q) (hQ : ∀ p xs H1, H1 p = some (.lst xs) → (∀ ob, Q (.ref p) (upd H1 p (.frz ob (.lst xs)))) → Q' (.ref p) H1) (hrel : ∀ H H2, ExtN H H2 → rel H H2) :
    tLc (dIr X.K T W rel fi) (dG X.K T vs k) (dT X.K T W0 t) (dE X.K T W0 fe) vs σ H Q' := by
  obtain ⟨Hb, ρ, S, q⟩ := q
  refine ⟨Hb, ρ, S, ?_⟩
  unfold eLc at q
  cases ef : fi ρ with
  | no => rw [ef] at q; exact q
  | exc c => rw [ef] at q; exact q
  | ok ds =>
    rw [ef, R.bind_ok] at q
    cases el : lcGo k t fe (fgt vs ρ) ds with
    | no => rw [el] at q; exact q.elim
    | exc c => exact (lcGo_tame ds c el).elim
    | ok ys =>
      rw [el] at q
      have q : ∀ v H', Ex T H H' → Rp X.K H' (.list ys) v → Q v H' := q
      intro J H1 x1 w hl p hp
      have S1 := (S.mono x1)
      have S2 := S1.wipe vs
      have S3 := S2.mono (Ex.new (T := T) (o := .lst []) hp)
      have new : Nw Hb p := fun o hb => Classical.byContradiction fun h => by
        rw [S1.ext p o hb fun ps z => h ⟨ps, z⟩] at hp
        cases hp
      have nown : ∀ j u, (fgt vs ρ)[j]? = some u → isOwn u = true → (L2.wipe σ vs).getD j none ≠ some (.ref p) := fun j u ej ou hz => by
        obtain ⟨zs, h2⟩ := S2.own_lst ej ou hz
        rw [hp] at h2; cases h2
      refine lc_it w (fun i H2 => ∃ outs acc rest, SR X.K T Hb (fgt vs ρ) (L2.wipe σ vs) H2 ∧ Ex T H1 H2 ∧ H2 p = some (.lst acc) ∧ RpL X.K H2 outs acc ∧ outs.length ≤ i ∧ lcGo k t fe (fgt vs ρ) (ds.drop i) = .ok rest ∧ outs ++ rest = ys)
        ⟨[], [], ys, S3, Ex.new hp, upd_same, rfl, Nat.le_refl _, el, rfl⟩ (fun i H2 _ ⟨_, _, _, _, x2, _⟩ => hrel _ _ x2.e) ?_ ?_
      · rintro i x H2 H3 hi ⟨outs, acc, rest, A1, A2, A3, A4, A5, A6, A7⟩ ⟨x3, d, ed, rd⟩
        have ed' : ds.drop i = d :: ds.drop (i + 1) := by
          have hlt : i < ds.length := hi
          rw [List.drop_eq_getElem_cons hlt]
          rw [List.getElem?_eq_getElem hlt] at ed
          cases ed; rfl
        rw [ed'] at A6
        refine ⟨Hb, fgt vs ρ, d, A1.mono x3, rd, ?_⟩
        unfold lcGo at A6
        cases ek : k d (fgt vs ρ) with
        | no => rw [ek] at A6; cases A6
        | exc c => rw [ek] at A6; cases A6
        | ok ρ2 =>
          rw [ek] at A6
          dsimp only at A6
          refine fun σ2 B1 B2 => ⟨B2.trans ?_, Hb, ρ2, B1, ?_⟩
          · exact wipe_wipe σ vs
          · cases et : t ρ2 with
            | no => rw [et] at A6; cases A6
            | exc c => rw [et] at A6; cases A6
            | ok b =>
              rw [et] at A6
              intro H4 x4
              cases b with
              | false =>
                rw [if_neg Bool.false_ne_true]
                exact ⟨outs, acc, rest, (A1.mono x3).mono x4, (A2.trans x3).trans x4, x4.e _ _ (x3.e _ _ A3 fun _ z => by cases z) fun _ z => (by cases z), RpL.mono x4.e _ _ (RpL.mono x3.e _ _ A4), by omega, A6, A7⟩
              | true =>
                rw [if_pos rfl]
                dsimp only at A6
                cases ee : fe ρ2 with
                | no => rw [ee] at A6; cases A6
                | exc c => rw [ee] at A6; cases A6
                | ok y =>
                  rw [ee] at A6
                  dsimp only at A6
                  refine ⟨Hb, ρ2, B1.mono x4, ?_⟩
                  rw [ee]
                  intro v H5 x5 r5
                  have a5 : H5 p = some (.lst acc) := x5.e _ _ (x4.e _ _ (x3.e _ _ A3 fun _ z => by cases z) fun _ z => by cases z) fun _ z => by cases z
                  have x25 : Ex T H2 H5 := (x3.trans x4).trans x5
                  cases er : lcGo k t fe (fgt vs ρ) (ds.drop (i + 1)) with
                  | no => rw [er] at A6; cases A6
                  | exc c => rw [er] at A6; cases A6
                  | ok rs =>
                    rw [er, R.bind_ok] at A6
                    cases A6
                    have hup := Rp_upd_lst (K := X.K) (o := .lst (acc ++ [v])) (ys := acc) a5
                    have hacc : acc.length < sizeLine := by
                      have := A4.len
                      have hlt : i < ds.length := hi
                      omega
                    refine ⟨acc, a5, hacc, outs ++ [y], acc ++ [v], rs, (A1.mono x25).updO a5 new nown, ?_, upd_same, RpL.app (hup.2 _ _ (RpL.mono x25.e _ _ A4)) (RpL.one (hup.1 _ _ r5)), by simp; omega, rfl, by rw [← A7]; simp⟩
                    refine (A2.trans x25).trans' a5 hp
      · rintro H2 ⟨outs, acc, rest, A1, A2, A3, A4, A5, A6, A7⟩
        rw [List.drop_length] at A6
        cases A6
        rw [List.append_nil] at A7
        subst A7
        have hup : ∀ ob : Obj, RpL X.K (upd H2 p (.frz ob (.lst acc))) outs acc := fun ob => (Rp_upd_lst (K := X.K) (o := .frz ob (.lst acc)) (ys := acc) A3).2 _ _ A4
        exact hQ p acc H2 A3 fun ob => q _ _ (x1.trans (A2.trans' A3 hp)) ⟨p, ob, acc, rfl, .inl upd_same, hup ob, by omega⟩
theorem d_lcr (hrel : ∀ H H2, ExtN H H2 → rel H H2) (hc : X.calm = true) (hN : X.N.Nodup) (hi : DIr rel T X W tg iter fi) (ok : BlkOk X.N X.env.scope scope own)
    (hg : ∀ (s : Shared) (H : Hp) (C : Addr) (cl : List (Str × Addr)) (fp : List Addr), DG T (X.blk s H scope (compEnvC scope cl C X.env) fp) (own.map (·.2)) tg k)
    (ht : ∀ (s : Shared) (H : Hp) (C : Addr) (cl : List (Str × Addr)) (fp : List Addr), DTs T (X.blk s H scope (compEnvC scope cl C X.env) fp) W0 ifs t)
    (he : ∀ (s : Shared) (H : Hp) (C : Addr) (cl : List (Str × Addr)) (fp : List Addr), DE T (X.blk s H scope (compEnvC scope cl C X.env) fp) W0 elt fe)
    (hs : ∀ x, foldedSetIterable iter X.env x = pure x := by intro _; kernel_rfl) : DE T X W (.ListComp elt [⟨tg, iter, ifs, 0⟩] scope pos) (eLc (own.map (·.2)) fi k t fe) :=
  PE.imp (pe_frz (pe_lc hc hN hi ok hg ht he hs)) fun σ H Q q => lc_reads q (fun p xs H1 hp z => .inr ⟨p, xs, rfl, hp, z⟩) hrel
theorem exF (H H2 : Hp) (x : ExtN H H2) : ExtF H H2 := ExtF.of x
theorem exN (H H2 : Hp) (x : ExtN H H2) : ExtN H H2 := x
end
end DL
set_option Elab.async false
set_option linter.all false
set_option maxRecDepth 100000
set_option maxHeartbeats 2000000
namespace DL
open PySem PySem.Spec PyProof.Rows L2 LamX

/-! ### name = [..] -/
section
variable {X : Cx} {T : List (Addr × Str)} {W : WX} {st : Stmt} {elt tg iter : Expr} {ifs : List Expr} {scope : Scope} {own : List (Str × Nat)} {k : Tgt} {t : Rho → R Bool} {fe : Rho → R D} {fi : Rho → R (List D)} {rel : Hp → Hp → Prop} {pos spos py : Pos}
theorem ps_frz {t : TS} (h : PS X st t) : PS X st (fun E σ H => t { E with nx := fun σ' H1 => E.nx σ' H1 ∨ ∃ p xs, H1 p = some (.lst xs) ∧ ∀ ob, E.nx σ' (upd H1 p (.frz ob (.lst xs))) } σ H) := by
  refine ⟨fun pins s σ H E I q => thn (h.run pins s σ H _ I q) fun f s1 q1 => ?_⟩
  cases f with
  | next =>
    obtain ⟨σ', H1, I1, q1⟩ := q1
    rcases q1 with q1 | ⟨p, xs, hp, q1⟩
    · exact ⟨σ', H1, I1, q1⟩
    · obtain ⟨od, I2⟩ := I1.lock hp trivial
      exact ⟨σ', _, I2, q1 od⟩
  | brk => exact q1
  | cont => exact q1
  | ret u => exact q1
theorem s_setLcr (i : Nat) {y : Str} (hrel : ∀ H H2, ExtN H H2 → rel H H2) (hc : X.calm = true) (hN : X.N.Nodup) (hi : DIr rel T X W tg iter fi) (ok : BlkOk X.N X.env.scope scope own)
    (hg : ∀ (s : Shared) (H : Hp) (C : Addr) (cl : List (Str × Addr)) (fp : List Addr), DG T (X.blk s H scope (compEnvC scope cl C X.env) fp) (own.map (·.2)) tg k)
    (ht : ∀ (s : Shared) (H : Hp) (C : Addr) (cl : List (Str × Addr)) (fp : List Addr), DTs T (X.blk s H scope (compEnvC scope cl C X.env) fp) W0 ifs t)
    (he : ∀ (s : Shared) (H : Hp) (C : Addr) (cl : List (Str × Addr)) (fp : List Addr), DE T (X.blk s H scope (compEnvC scope cl C X.env) fp) W0 elt fe)
    (hsw : swapsWith (.ListComp elt [⟨tg, iter, ifs, 0⟩] scope pos) (some (.Name y py)) spos.line X.env = pure true) (hy : X.N[i]? = some y := by kernel_rfl) (hyl : X.env.scope.names.lookup y = some .local := by kernel_rfl)
    (hs : ∀ x, foldedSetIterable iter X.env x = pure x := by intro _; kernel_rfl) : DS T X W (.Assign [.Name y py] (.ListComp elt [⟨tg, iter, ifs, 0⟩] scope pos) spos) (sSet i (eLc (own.map (·.2)) fi k t fe)) := by
  refine PS.imp (ps_frz (ps_setLc (g := dG X.K T (own.map (·.2)) k) (tt := dT X.K T W0 t) (te := dE X.K T W0 fe) (i := i) hc hN hy hyl hsw hi ok hg ht he hs)) fun E σ H q => ?_
  obtain ⟨Hb, ρ, S, q⟩ := q
  have z : dE X.K T W (eLc (own.map (·.2)) fi k t fe) σ H (fun v H1 => E.nx (σ.set i (some v)) H1) := by
    refine ⟨Hb, ρ, S, ?_⟩
    unfold sSet at q
    cases ef : eLc (own.map (·.2)) fi k t fe ρ with
    | no => rw [ef] at q; exact q
    | exc c => rw [ef] at q; exact fun H' x => q σ H' (S.mono x)
    | ok d => rw [ef] at q; exact fun v H' x r => q _ _ ((S.mono x).setD i r)
  exact lc_reads z (fun p xs H1 hp z => .inr ⟨p, xs, hp, z⟩) hrel
end

/-! ### displays -/
def mkT (ds : List D) : R D := .ok (.tuple ds)
def eTup (fs : Rho → R (List D)) : Rho → R D := fun ρ => (fs ρ).bind fun ds => if ds.length ≤ sizeLine then .ok (.tuple ds) else .no
def eLst (fs : Rho → R (List D)) : Rho → R D := fun ρ => (fs ρ).bind fun ds => if ds.length ≤ sizeLine then .ok (.list ds) else .no
section
variable {X : Cx} {T : List (Addr × Str)} {W : WX} {es : List Expr} {fs : Rho → R (List D)} {pos : Pos}
theorem d_tup {j : Nat} (h : DA T X W es fs) : DE T X W (.Tuple es j pos) (eTup fs) := by
  refine PE.imp (pe_tup h) fun σ H Q q => ?_
  obtain ⟨Hb, ρ, S, q⟩ := q
  refine ⟨Hb, ρ, S, ?_⟩
  unfold eTup at q
  cases ef : fs ρ with
  | no => rw [ef] at q; exact q
  | exc c => rw [ef] at q; exact q
  | ok ds =>
    rw [ef, R.bind_ok] at q
    intro vs H1 x1 r1
    by_cases hl : ds.length ≤ sizeLine
    · rw [if_pos hl] at q
      refine ⟨by rw [r1.len]; exact hl, fun p hp => q _ _ (x1.trans (Ex.new hp)) ⟨p, vs, rfl, .inl (.inl upd_same), RpL.mono (ExtN.of (keep_upd hp)) _ _ r1, hl⟩⟩
    · rw [if_neg hl] at q; exact q.elim
theorem d_lst (h : DA T X W es fs) : DE T X W (.List es pos) (eLst fs) := by
  refine PE.imp (pe_frz (pe_lst h)) fun σ H Q q => ?_
  obtain ⟨Hb, ρ, S, q⟩ := q
  refine ⟨Hb, ρ, S, ?_⟩
  unfold eLst at q
  cases ef : fs ρ with
  | no => rw [ef] at q; exact q
  | exc c => rw [ef] at q; exact q
  | ok ds =>
    rw [ef, R.bind_ok] at q
    intro vs H1 x1 r1
    by_cases hl : ds.length ≤ sizeLine
    · rw [if_pos hl] at q
      refine ⟨by rw [r1.len]; exact hl, fun p hp => .inr ⟨p, vs, rfl, upd_same, fun ob => ?_⟩⟩
      rw [upd_upd]
      exact q _ _ (x1.trans (Ex.new hp)) ⟨p, ob, vs, rfl, .inl upd_same, RpL.mono (ExtN.of (keep_upd hp)) _ _ r1, hl⟩
    · rw [if_neg hl] at q; exact q.elim
end

/-! ### defs -/
def ResF (K : Frag) (T : List (Addr × Str)) (r : R D) (H : Hp) (Q : VK) (E : XK) : Prop :=
  match r with
  | .ok d => ∀ v H', Ex T H H' → Rp K H' d v → Q v H'
  | .exc c => ∀ H', Ex T H H' → E (.ref (He.ga K c)) none H'
  | .no => False
def spD (K : Frag) (T : List (Addr × Str)) (n : Nat) (F : List D → R D) : Sp := fun vs H Q E => vs.length = n ∧ Tabs T H ∧ ∃ ds, RpL K H ds vs ∧ ResF K T (F ds) H Q E
def rho0 (n : Nat) (ds : List D) : Rho := ds.map .dat ++ List.replicate (n - ds.length) .no
def fin (r : Fl) : R D := match r with
  | .rt d => .ok d
  | .nx _ => .ok .none
  | .exc c _ => .exc c
  | _ => .no
theorem sr_start {K : Frag} {T : List (Addr × Str)} {H : Hp} {N : List Str} {ds : List D} {vs : List V} (ht : Tabs T H) (r : RpL K H ds vs) : SR K T H (rho0 N.length ds) (L2.start N vs) H := by
  have hl := r.len
  have noown : ∀ (i : Nat) (s : Sl), (rho0 N.length ds)[i]? = some s → isOwn s = false := fun i s e => by
    unfold rho0 at e
    by_cases hi : i < ds.length
    · rw [List.getElem?_append_left (by simpa using hi), List.getElem?_map, List.getElem?_eq_getElem hi] at e
      cases e; rfl
    · rw [List.getElem?_append_right (by simpa using hi), List.getElem?_replicate] at e
      split at e
      · cases e; rfl
      · cases e
  refine ⟨?_, fun i s e => ?_, fun i j s u p e1 e2 o1 o2 _ _ => ?_, ExtN.refl H, ht⟩
  · unfold rho0 L2.start
    simp only [List.length_append, List.length_map, List.length_replicate]
    omega
  · unfold rho0 at e
    by_cases hi : i < ds.length
    · rw [List.getElem?_append_left (by simpa using hi), List.getElem?_map, List.getElem?_eq_getElem hi] at e
      cases e
      obtain ⟨v, q1, q2⟩ := r.get (List.getElem?_eq_getElem hi)
      refine ⟨v, ?_, q2⟩
      unfold L2.start
      rw [List.getD_eq_getElem?_getD, List.getElem?_append_left (by simpa [hl] using hi), List.getElem?_map, q1]
      rfl
    · rw [List.getElem?_append_right (by simpa using hi), List.getElem?_replicate] at e
      split at e
      · cases e; trivial
      · cases e
  · rw [noown i s e1] at o1; cases o1
section
variable {P : Program} {w : World} {K : Frag} {mg : Str → Option Value} {base : Heap} {T : List (Addr × Str)} {x qual : Str} {params : Arguments} {body : List Stmt} {scope : Scope} {f : Addr} {fd : FuncData} {N ps : List Str} {k : Nat} {g : Rho → Fl}
/-- the wish of a def's body -/
abbrev WD (E : XK) : WX := fun cls d _ H => E cls d H
abbrev FD (P : Program) (w : World) (K : Frag) (mg : Str → Option Value) (base : Heap) (T : List (Addr × Str)) (k : Nat) (f : Addr) (fd : FuncData) (ps : List Str) (F : List D → R D) : Prop :=
  FnOk P w K mg base (L2N.CX P w) k f fd ps (spD K T ps.length F)
theorem fd_of (F : FunD K x qual params body scope [] [] f fd) (S : FnScope N ps scope)
    (hbody : ∀ (cdv : Value) (A : Around) (outer : List Env) (s : Shared) (H : Hp) (E : XK), Room k (A.deeper (envOfC qual scope s.heap.objs.size f cdv)) →
      DSs T (cxOf (L2N.CX P w) P w K mg base N qual scope f cdv A outer s H E) (WD E) body g) : FD P w K mg base T (k + 1) f fd ps (fun ds => fin (g (rho0 N.length ds))) := by
  refine F.ok S (fun vs H Q E h => h.1) fun cdv A outer s H vs Q E hr h => ⟨_, hbody cdv A outer s H E hr, ?_⟩
  obtain ⟨_, ht, ds, r, q⟩ := h
  refine ⟨H, _, sr_start ht r, ?_⟩
  have q : ResF K T (fin (g (rho0 N.length ds))) H Q E := q
  cases eg : g (rho0 N.length ds) with
  | nx ρ =>
    rw [eg] at q
    exact fun σ H' S' => q .non H' ⟨S'.ext, fun _ => S'.tab⟩ rfl
  | rt d =>
    rw [eg] at q
    exact fun v H' e t r => q v H' ⟨e, fun _ => t⟩ r
  | exc c ρ =>
    rw [eg] at q
    exact fun σ H' S' => q H' ⟨S'.ext, fun _ => S'.tab⟩
  | bk ρ => rw [eg] at q; exact q.elim
  | ct ρ => rw [eg] at q; exact q.elim
  | no => rw [eg] at q; exact q.elim
/-- a weaker function -/
theorem FD.imp {n : Nat} {F G : List D → R D} (h : FnOk P w K mg base (L2N.CX P w) k f fd ps (spD K T n F)) (hg : ∀ ds, ds.length = n → G ds = .no ∨ G ds = F ds) : FnOk P w K mg base (L2N.CX P w) k f fd ps (spD K T n G) :=
  h.imp fun vs H Q E ⟨a, b, ds, r, q⟩ => ⟨a, b, ds, r, by
    rcases hg ds (by rw [← r.len]; exact a) with e | e
    · rw [e] at q; exact q.elim
    · rw [← e]; exact q⟩
end
def eCall (F : List D → R D) (fs : Rho → R (List D)) : Rho → R D := fun ρ => (fs ρ).bind F
section
variable {X : Cx} {T : List (Addr × Str)} {W : WX} {e : Expr} {es : List Expr} {fs : Rho → R (List D)} {F : List D → R D} {k : Nat} {f : Addr} {fd : FuncData} {ps : List Str} {x : Str} {p pos : Pos}
def ar (n : Nat) (F : List D → R D) : List D → R D := fun ds => if ds.length = n then F ds else .no
theorem d_call (tk : L2N.Takes X W) (hr : Room k X.A) (G : FnOk X.prog X.w X.K X.mg X.base (L2N.CX X.prog X.w) k f fd ps (spD X.K T ps.length F)) (hm : X.mg x = some (.ref f)) (hk : PySem.W.keepIn X.K (.ref f) = true) (hb : Binds X.K fd ps [])
    (ha : DA T X W (e :: es) fs) (hl : (e :: es).length = ps.length := by kernel_rfl) (hg : X.env.kindOf x = some .globalImplicit := by kernel_rfl) (hdb : (x == ("__debug__" : Str)) = false := by kernel_rfl) (he : starEach (e :: es) X.env = (false, eval e X.env) :: starEach es X.env := by kernel_rfl) (hpl : (backTo pos (starEach es X.env)).any (·.1) = false := by kernel_rfl) :
    DE T X W (.Call (.Name x p) (e :: es) [] pos) (eCall (ar ps.length F) fs) := by
  refine PE.imp (pe_callS (E := WE W) G hr hg hm hk hb (fun σ => L2N.passAt tk σ) ha hdb he hpl) fun σ H Q q => ?_
  obtain ⟨Hb, ρ, S, q⟩ := q
  refine ⟨Hb, ρ, S, ?_⟩
  unfold eCall at q
  cases ef : fs ρ with
  | no => rw [ef] at q; exact q
  | exc c => rw [ef] at q; exact q
  | ok ds =>
    rw [ef, R.bind_ok] at q
    intro vs H1 x1 r1
    unfold ar at q
    by_cases hn : ds.length = ps.length
    · rw [if_pos hn] at q
      refine ⟨by rw [r1.len]; exact hn, (S.mono x1).tab, ds, r1, ?_⟩
      cases eg : F ds with
      | no => rw [eg] at q; exact q
      | exc c => rw [eg] at q; exact fun H' x2 => q H' (x1.trans x2)
      | ok d => rw [eg] at q; exact fun v H' x2 r2 => q v H' (x1.trans x2) r2
    · rw [if_neg hn] at q; exact q.elim
end
end DL
set_option Elab.async false
set_option linter.all false
set_option maxRecDepth 100000
set_option maxHeartbeats 2000000
/-! Built-in operations over data. -/
namespace DL
open PySem PySem.Spec PyProof.Rows L2 LamX
abbrev okB (b : Bool) : R D := .ok (.bool b)
abbrev okI (i : Int) : R D := .ok (.int i)
abbrev okS (x : Str) : R D := .ok (.str x)
def fits (n : Nat) : Bool := decide (n ≤ sizeLine)
def mulOk (i j : Int) : Bool := !(decide (Builtin.Int.intBits i > shortFactorBits) && decide (Builtin.Int.intBits j > shortFactorBits) && Builtin.Int.intTooBig (Builtin.Int.intBits i + Builtin.Int.intBits j))
def mAdd : D → D → R D
  | .int i, .int j => okI (i + j)
  | .str x, .str y => if fits (x.length + y.length) then okS (x ++ y) else .no
  | .list xs, .list ys => if fits (xs.length + ys.length) then .ok (.list (xs ++ ys)) else .no
  | .tuple xs, .tuple ys => if fits (xs.length + ys.length) then .ok (.tuple (xs ++ ys)) else .no
  | _, _ => .no
def mSub : D → D → R D
  | .int i, .int j => okI (i - j)
  | _, _ => .no
def repL {α : Type} (k : Int) (xs : List α) : List α := (List.replicate k.toNat xs).flatten
def mMul : D → D → R D
  | .int i, .int j => if mulOk i j then okI (i * j) else .no
  | .str x, .int n => if decide (x.length ≤ 1000) && (decide (-1000 ≤ n) && decide (n ≤ 1000)) then okS (Txt.mul x n) else .no
  | _, _ => .no
def divOk (j : Int) : Bool := decide (0 < j) && decide (j < 1000000000000000000000000000000000000000000000000)
def mFdiv : D → D → R D
  | .int i, .int j => if divOk j then okI (i / j) else .no
  | _, _ => .no
def mMod : D → D → R D
  | .int i, .int j => if 0 < j then okI (i % j) else .no
  | _, _ => .no
def dOk (d : D) : Bool := decide (d.depth ≤ 60)
def mEq (a b : D) : R D := if dOk a || dOk b then okB (PyData.eqv a b) else .no
def mNe (a b : D) : R D := if dOk a || dOk b then okB (!PyData.eqv a b) else .no
def ltS (x y : Str) : Bool := decide (x.cps.toList < y.cps.toList)
def leS (x y : Str) : Bool := !ltS y x
def mLt : D → D → R D
  | .int i, .int j => okB (decide (i < j))
  | .str x, .str y => okB (ltS x y)
  | _, _ => .no
def mLe : D → D → R D
  | .int i, .int j => okB (decide (i ≤ j))
  | .str x, .str y => okB (leS x y)
  | _, _ => .no
def mGt : D → D → R D
  | .int i, .int j => okB (decide (j < i))
  | .str x, .str y => okB (ltS y x)
  | _, _ => .no
def mGe : D → D → R D
  | .int i, .int j => okB (decide (j ≤ i))
  | .str x, .str y => okB (leS y x)
  | _, _ => .no
/-- one sign in a text; a thing in a list, a tuple -/
def inD (x y : D) : R Bool :=
  match x, y with
  | .str c, .str z => (match c.cps.toList with
    | [k] => .ok (decide (k ∈ z.cps.toList))
    | _ => .no)
  | d, .list ys => if dOk d then .ok (ys.any fun y => PyData.eqv y d) else .no
  | d, .tuple ys => if dOk d then .ok (ys.any fun y => PyData.eqv y d) else .no
  | _, _ => .no
def mIn (x y : D) : R D := (inD x y).bind fun b => okB b
def mNotIn (x y : D) : R D := (inD x y).bind fun b => okB (!b)
def isNon : D → Bool
  | .none => true
  | _ => false
def mIs : D → D → R D
  | d, .none => okB (isNon d)
  | _, _ => .no
def mIsNot : D → D → R D
  | d, .none => okB (!isNon d)
  | _, _ => .no
def mIdx : D → D → R D
  | .list xs, .int i => (match atI xs i with
    | some d => .ok d
    | none => .no)
  | .tuple xs, .int i => (match atI xs i with
    | some d => .ok d
    | none => .no)
  | .str z, .int i => (match atI z.cps.toList i with
    | some c => .ok (.str ⟨#[c]⟩)
    | none => .no)
  | _, _ => .no
theorem tm_add : Tame2 mAdd := fun a b c h => by unfold mAdd at h; split at h <;> (try split at h) <;> cases h
theorem tm_sub : Tame2 mSub := fun a b c h => by unfold mSub at h; split at h <;> cases h
theorem tm_mul : Tame2 mMul := fun a b c h => by unfold mMul at h; split at h <;> (try split at h) <;> cases h
theorem tm_fdiv : Tame2 mFdiv := fun a b c h => by unfold mFdiv at h; split at h <;> (try split at h) <;> cases h
theorem tm_mod : Tame2 mMod := fun a b c h => by unfold mMod at h; split at h <;> (try split at h) <;> cases h
theorem tm_eq : Tame2 mEq := fun a b c h => by unfold mEq at h; split at h <;> cases h
theorem tm_ne : Tame2 mNe := fun a b c h => by unfold mNe at h; split at h <;> cases h
theorem tm_lt : Tame2 mLt := fun a b c h => by unfold mLt at h; split at h <;> cases h
theorem tm_le : Tame2 mLe := fun a b c h => by unfold mLe at h; split at h <;> cases h
theorem tm_gt : Tame2 mGt := fun a b c h => by unfold mGt at h; split at h <;> cases h
theorem tm_ge : Tame2 mGe := fun a b c h => by unfold mGe at h; split at h <;> cases h
theorem inD_tame (a b : D) (c : Str) : inD a b ≠ .exc c := fun h => by unfold inD at h; split at h <;> (try split at h) <;> cases h
theorem tm_in : Tame2 mIn := fun a b c h => by
  unfold mIn at h
  cases e : inD a b with
  | ok k => rw [e] at h; cases h
  | exc k => exact inD_tame a b k e
  | no => rw [e] at h; cases h
theorem tm_notIn : Tame2 mNotIn := fun a b c h => by
  unfold mNotIn at h
  cases e : inD a b with
  | ok k => rw [e] at h; cases h
  | exc k => exact inD_tame a b k e
  | no => rw [e] at h; cases h
theorem tm_is : Tame2 mIs := fun a b c h => by unfold mIs at h; split at h <;> cases h
theorem tm_isNot : Tame2 mIsNot := fun a b c h => by unfold mIsNot at h; split at h <;> cases h
theorem tm_idx : Tame2 mIdx := fun a b c h => by unfold mIdx at h; split at h <;> (try split at h) <;> cases h
section
variable {X : Cx} {T : List (Addr × Str)}
/-- a new list is laid and locked -/
theorem Inv.lnewF {pins : List (Addr × Obj)} {σ : L2.St} {H : Hp} {s : Shared} {ys : List V} {its : List Value} {t' : Nat} (I : Inv X pins σ H s) (hv : Vals ys its) (hz : ys.length ≤ sizeLine) :
    ∃ ob, Inv X pins σ (upd H s.heap.objs.size (.frz ob (.lst ys))) { s with heap := s.heap.push { cls := .type "list", data := .seq its.toArray }, toks := t' } := by
  have J := I.lnew (t' := t') hv hz
  obtain ⟨ob, J2⟩ := J.lock upd_same trivial
  rw [upd_upd] at J2
  exact ⟨ob, J2⟩
theorem Inv.rdF {pins : List (Addr × Obj)} {σ : L2.St} {H : Hp} {s : Shared} {l : Addr} {o : Obj} {xs : List V} (I : Inv X pins σ H s) (h : FzL X.K H l o xs) :
    ∃ (its : List Value) (n : Nat) (sl : Array (Option Value)), Vals xs its ∧ s.heap.get? l = some { cls := .type "list", dict := none, data := .seq its.toArray n, slots := sl } := by
  obtain ⟨its, r, ⟨o2, n, e, c2, d2, t2⟩, _⟩ := I.list h.sq
  obtain ⟨oc, od, oda, osl⟩ := o2
  dsimp only at c2 d2 t2
  subst c2 d2 t2
  exact ⟨its, n, osl, r, e⟩
theorem add_meets (l : Addr) (items : Array Value) (n : Nat) (sl : Array (Option Value)) (b : Addr) (items2 : Array Value) (n2 : Nat) (sl2 : Array (Option Value)) (hc0 : items.size + items2.size ≤ sizeLine) :
    Meets (Builtin.«list.__add__» ⟨[.ref l, .ref b], []⟩) (fun _ R s => s.heap.get? l = some { cls := .type "list", dict := none, data := .seq items n, slots := sl } ∧ s.heap.get? b = some { cls := .type "list", dict := none, data := .seq items2 n2, slots := sl2 } ∧ R (.ok (.ret (Value.ref s.heap.objs.size))) { s with heap := s.heap.push { cls := Value.type "list", data := Data.seq (items ++ items2) }, toks := s.toks }) :=
  .of_wp fun prog w A R s h => by
    obtain ⟨hp, g, d, tk, os⟩ := s; obtain ⟨hl, hb, h⟩ := h; have f1 := AutoSeq1.idx_int; have f2 := AutoSeq1.sub_tuple_tuple; have f3 := AutoSeq1.sub_list_list; have f4 := AutoSeq1.sub_tuple_list; have f5 := AutoSeq1.sub_list_tuple
    wp_walk using AutoSeq1.wpAny_loadPart' hl, AutoSeq1.wpAny_loadPart' hb; exact ⟨_, rfl, h⟩
theorem add_any {prog : Program} {w : World} {A : Around} {E : Value → Shared → Prop} {s : Shared} {l b : Addr} {items items2 : Array Value} {n n2 : Nat} {sl sl2 : Array (Option Value)} {Q : Value → Shared → Prop} (hl : s.heap.get? l = some { cls := .type "list", dict := none, data := .seq items n, slots := sl }) (hb : s.heap.get? b = some { cls := .type "list", dict := none, data := .seq items2 n2, slots := sl2 })
    (h : Q (.ref s.heap.objs.size) { s with heap := s.heap.push { cls := .type "list", data := .seq (items ++ items2) } }) (hsz : items.size + items2.size ≤ sizeLine) : wpAny (model prog w) A (binaryOp .Add (.ref l) (.ref b)) Q E s :=
  concat_meets ⟨_, hl, rfl⟩ ⟨_, hb, rfl⟩ noFill_list_add seq_list_add F.slot_list_add F.entry_list_add (F.args_list_add_2 _ _) (add_meets l items n sl b items2 n2 sl2 hsz) ⟨hl, hb, h⟩
theorem rp_list {K : Frag} {H : Hp} {p : Addr} {ob : Obj} {ds : List D} {vs : List V} (h : H p = none) (r : RpL K H ds vs) (hl : ds.length ≤ sizeLine) : Rp K (upd H p (.frz ob (.lst vs))) (.list ds) (.ref p) :=
  ⟨p, ob, vs, rfl, .inl upd_same, RpL.mono (ExtN.of (keep_upd h)) _ _ r, hl⟩
theorem rp_tuple {K : Frag} {H : Hp} {p : Addr} {ds : List D} {vs : List V} (h : H p = none) (r : RpL K H ds vs) (hl : ds.length ≤ sizeLine) : Rp K (upd H p (.tup vs)) (.tuple ds) (.ref p) :=
  ⟨p, vs, rfl, .inl (.inl upd_same), RpL.mono (ExtN.of (keep_upd h)) _ _ r, hl⟩
theorem o_add : OpR X (binaryOp .Add) (rD X.K T mAdd) := by
  rintro pins s σ H x y v u Q I rx ry ⟨a, b, ra, rb, q⟩
  unfold mAdd at q
  split at q
  · cases ra; cases rb
    exact op_add pins s σ H _ _ v u Q I rx ry ⟨_, _, rfl, rfl, q _ H Ex.refl rfl⟩
  · split at q
    · rename_i hf
      obtain ⟨e1, _⟩ := ra
      obtain ⟨e2, _⟩ := rb
      subst e1; subst e2
      have hl := of_decide_eq_true hf
      refine op_add_str pins s σ H _ _ v u Q I rx ry ⟨_, _, rfl, rfl, hl, q _ H Ex.refl ⟨rfl, ?_⟩⟩
      rw [Str.length_append]; exact hl
    · exact q.elim
  · split at q
    · rename_i xs ys hf
      obtain ⟨p1, o1, vs, rfl, h1, r1, l1⟩ := ra
      obtain ⟨p2, o2, ws, rfl, h2, r2, l2⟩ := rb
      cases rx; cases ry
      obtain ⟨its, n, sl1, e1, g1⟩ := Inv.rdF I h1
      obtain ⟨its2, n2, sl2, e2, g2⟩ := Inv.rdF I h2
      have hl := of_decide_eq_true hf
      have k1 := e1.length
      have k2 := e2.length
      have k3 := r1.len
      have k4 := r2.len
      refine add_any g1 g2 ?_ (by simp only [List.size_toArray]; omega)
      rw [show its.toArray ++ its2.toArray = (its ++ its2).toArray by simp]
      obtain ⟨ob, J⟩ := Inv.lnewF (t' := s.toks) I (e1.append e2) (by simp only [List.length_append]; omega)
      exact ⟨.ref _, _, J, rfl, q _ _ (Ex.new I.fresh) (rp_list I.fresh (RpL.app r1 r2) (by simpa using hl))⟩
    · exact q.elim
  · split at q
    · rename_i xs ys hf
      obtain ⟨p1, vs, rfl, h1, r1, l1⟩ := ra
      obtain ⟨p2, ws, rfl, h2, r2, l2⟩ := rb
      have hl := of_decide_eq_true hf
      have k3 := r1.len
      have k4 := r2.len
      refine op_catA pins s σ H _ _ v u Q I rx ry ⟨p1, p2, vs, ws, rfl, rfl, h1, h2, by omega, fun e => ?_, fun _ e => ?_, fun _ _ p hp => q _ _ (Ex.new hp) (rp_tuple hp (RpL.app r1 r2) (by simpa using hl))⟩
      · subst e
        have : xs = [] := List.length_eq_zero_iff.mp k3.symm
        subst this
        exact q _ H Ex.refl ⟨p2, ws, rfl, h2, r2, l2⟩
      · subst e
        have : ys = [] := List.length_eq_zero_iff.mp k4.symm
        subst this
        rw [List.append_nil] at q
        exact q _ H Ex.refl ⟨p1, vs, rfl, h1, r1, l1⟩
    · exact q.elim
  · exact q.elim
theorem o_sub : OpR X (binaryOp .Sub) (rD X.K T mSub) := by
  rintro pins s σ H x y v u Q I rx ry ⟨a, b, ra, rb, q⟩
  unfold mSub at q
  split at q
  · cases ra; cases rb
    exact op_sub pins s σ H _ _ v u Q I rx ry ⟨_, _, rfl, rfl, q _ H Ex.refl rfl⟩
  · exact q.elim
theorem o_fdiv : OpR X (binaryOp .FloorDiv) (rD X.K T mFdiv) := by
  rintro pins s σ H x y v u Q I rx ry ⟨a, b, ra, rb, q⟩
  unfold mFdiv at q
  split at q
  · rename_i i j
    cases ra; cases rb
    split at q
    · rename_i hc
      unfold divOk at hc
      simp only [Bool.and_eq_true, decide_eq_true_eq] at hc
      refine op_fdivW pins s σ H _ _ v u Q I rx ry ⟨_, _, rfl, rfl, wide_div (b := 200) hc.1 ?_ (by decide) (by decide), q _ H Ex.refl rfl⟩
      have h2 : (1000000000000000000000000000000000000000000000000 : Nat) < 2 ^ 200 := by decide
      omega
    · exact q.elim
  · exact q.elim
theorem o_mod : OpR X (binaryOp .Mod) (rD X.K T mMod) := by
  rintro pins s σ H x y v u Q I rx ry ⟨a, b, ra, rb, q⟩
  unfold mMod at q
  split at q
  · cases ra; cases rb
    split at q
    · rename_i hc
      exact op_mod pins s σ H _ _ v u Q I rx ry ⟨_, _, rfl, rfl, hc, q _ H Ex.refl rfl⟩
    · exact q.elim
  · exact q.elim
theorem o_mul : OpR X (binaryOp .Mult) (rD X.K T mMul) := by
  rintro pins s σ H x y v u Q I rx ry ⟨a, b, ra, rb, q⟩
  unfold mMul at q
  split at q
  · cases ra; cases rb
    split at q
    · rename_i i j hc
      obtain ⟨t, rfl⟩ := rx
      obtain ⟨t', rfl⟩ := ry
      refine mul_int ⟨.int _, H, I.tok _, ⟨_, rfl⟩, q _ H Ex.refl rfl⟩ ?_
      unfold IntMulOk
      intro z
      unfold mulOk at hc
      rw [z] at hc; cases hc
    · exact q.elim
  · rename_i z n
    split at q
    · rename_i hc
      simp only [Bool.and_eq_true, decide_eq_true_eq] at hc
      obtain ⟨h1, h2, h3⟩ := hc
      obtain ⟨rfl, _⟩ := ra
      cases rb
      obtain ⟨t, rfl⟩ := rx
      obtain ⟨t', rfl⟩ := ry
      refine PySem.SB.mul ⟨?_, fun h4 _ => ?_, fun h4 _ => ?_⟩ fun t' k => ⟨.str _, H, I.tok _, ⟨_, rfl⟩, q _ H Ex.refl ⟨rfl, ?_⟩⟩
      · rw [Bool.or_eq_false_iff]
        exact ⟨decide_eq_false (by omega), decide_eq_false (by omega)⟩
      · have : (2 ^ 63 - 1 : Int) / n ≥ 1000 := by
          have h5 : 0 < n := by omega
          exact (Int.le_ediv_iff_mul_le h5).mpr (by omega)
        omega
      · have h6 : z.length * n.toNat ≤ 1000 * 1000 := Nat.mul_le_mul h1 (by omega)
        unfold Builtin.Str.tooLong
        exact decide_eq_false (by rw [sizeLine_eq]; omega)
      · have h7 := PyProof.Rows.len_mul z n
        have h8 : (z.length : Int) * (if decide (n < 0) = true then 0 else n) ≤ 1000 * 1000 := by
          split
          · omega
          · exact Int.le_trans (Int.mul_le_mul_of_nonneg_right (by omega) (by simp at *; omega)) (Int.mul_le_mul_of_nonneg_left h3 (by omega))
        rw [sizeLine_eq]
        omega
    · exact q.elim
  · exact q.elim
theorem o_eq (hu : X.A.units + 64 < cLine) : OpR X (compareOp .Eq) (rD X.K T mEq) := by
  rintro pins s σ H x y v u Q I rx ry ⟨a, b, ra, rb, q⟩
  unfold mEq at q
  split at q
  · rename_i hc
    obtain ⟨as, h1⟩ := Rp.reads I ra rx
    obtain ⟨bs, h2⟩ := Rp.reads I rb ry
    refine SeqAt.eq_plain h1 h2 (Rp.plain _ _ ra) (Rp.plain _ _ rb) ?_ ⟨.bl _, H, I, rfl, q _ H Ex.refl rfl⟩
    unfold dOk at hc
    simp only [Bool.or_eq_true, decide_eq_true_eq] at hc
    omega
  · exact q.elim
theorem o_ne (hu : X.A.units + 64 < cLine) : OpR X (compareOp .NotEq) (rD X.K T mNe) := by
  rintro pins s σ H x y v u Q I rx ry ⟨a, b, ra, rb, q⟩
  unfold mNe at q
  split at q
  · rename_i hc
    obtain ⟨as, h1⟩ := Rp.reads I ra rx
    obtain ⟨bs, h2⟩ := Rp.reads I rb ry
    refine SeqAt.ne_plain h1 h2 (Rp.plain _ _ ra) (Rp.plain _ _ rb) ?_ ⟨.bl _, H, I, rfl, q _ H Ex.refl rfl⟩
    unfold dOk at hc
    simp only [Bool.or_eq_true, decide_eq_true_eq] at hc
    omega
  · exact q.elim
theorem o_lt : OpR X (compareOp .Lt) (rD X.K T mLt) := by
  rintro pins s σ H x y v u Q I rx ry ⟨a, b, ra, rb, q⟩
  unfold mLt at q
  split at q
  · cases ra; cases rb
    exact op_lt pins s σ H _ _ v u Q I rx ry ⟨_, _, rfl, rfl, q _ H Ex.refl rfl⟩
  · obtain ⟨rfl, _⟩ := ra
    obtain ⟨rfl, _⟩ := rb
    exact op_lt_str pins s σ H _ _ v u Q I rx ry ⟨_, _, rfl, rfl, q _ H Ex.refl rfl⟩
  · exact q.elim
theorem o_le : OpR X (compareOp .LtE) (rD X.K T mLe) := by
  rintro pins s σ H x y v u Q I rx ry ⟨a, b, ra, rb, q⟩
  unfold mLe at q
  split at q
  · cases ra; cases rb
    exact op_le pins s σ H _ _ v u Q I rx ry ⟨_, _, rfl, rfl, q _ H Ex.refl rfl⟩
  · obtain ⟨rfl, _⟩ := ra
    obtain ⟨rfl, _⟩ := rb
    exact op_le_str pins s σ H _ _ v u Q I rx ry ⟨_, _, rfl, rfl, q _ H Ex.refl rfl⟩
  · exact q.elim
theorem o_gt : OpR X (compareOp .Gt) (rD X.K T mGt) := by
  rintro pins s σ H x y v u Q I rx ry ⟨a, b, ra, rb, q⟩
  unfold mGt at q
  split at q
  · cases ra; cases rb
    exact op_gt pins s σ H _ _ v u Q I rx ry ⟨_, _, rfl, rfl, q _ H Ex.refl rfl⟩
  · obtain ⟨rfl, _⟩ := ra
    obtain ⟨rfl, _⟩ := rb
    exact op_gt_str pins s σ H _ _ v u Q I rx ry ⟨_, _, rfl, rfl, q _ H Ex.refl rfl⟩
  · exact q.elim
theorem o_ge : OpR X (compareOp .GtE) (rD X.K T mGe) := by
  rintro pins s σ H x y v u Q I rx ry ⟨a, b, ra, rb, q⟩
  unfold mGe at q
  split at q
  · cases ra; cases rb
    exact op_ge pins s σ H _ _ v u Q I rx ry ⟨_, _, rfl, rfl, q _ H Ex.refl rfl⟩
  · obtain ⟨rfl, _⟩ := ra
    obtain ⟨rfl, _⟩ := rb
    exact op_ge_str pins s σ H _ _ v u Q I rx ry ⟨_, _, rfl, rfl, q _ H Ex.refl rfl⟩
  · exact q.elim
theorem one_sign {c : Str} {k : Nat} (h : c.cps.toList = [k]) : c = ⟨#[k]⟩ := by
  obtain ⟨l⟩ := c
  have : l = #[k] := by
    apply Array.ext'
    simpa using h
  rw [this]
theorem inD_ok (hu : X.A.units + 64 < cLine) {pins : List (Addr × Obj)} {s : Shared} {σ : L2.St} {H : Hp} {x y : V} {v u : Value} {a b : D} {k neg : Bool} {Q : Value → Shared → Prop} (I : Inv X pins σ H s) (rx : RelV x v) (ry : RelV y u) (ra : Rp X.K H a x) (rb : Rp X.K H b y) (e : inD a b = .ok k)
    (q : Q (.bool (if neg then !k else k)) s) : wpAny (model X.prog X.w) X.A (compareOp (if neg then .NotIn else .In) v u) Q X.xe s := by
  have pa := Rp.plain _ _ ra
  have pb := Rp.plain _ _ rb
  unfold inD at e
  split at e
  · split at e
    · rename_i c z j hj
      cases e
      obtain ⟨rfl, _⟩ := ra
      obtain ⟨rfl, _⟩ := rb
      have := one_sign hj
      subst this
      obtain ⟨t, rfl⟩ := rx
      obtain ⟨t', rfl⟩ := ry
      cases neg with
      | false => exact PyProof.Rows.in_str (by rw [PySem.StrLaws.found_one]; exact q)
      | true => exact PyProof.Rows.notIn_str (by rw [PySem.StrLaws.found_one]; exact q)
    · cases e
  · split at e
    · rename_i ys hd
      cases e
      obtain ⟨as, h1⟩ := Rp.reads I ra rx
      obtain ⟨bs, h2⟩ := Rp.reads I rb ry
      have hd := of_decide_eq_true hd
      cases neg with
      | false => exact SeqAt.in_list_data h2 h1 pb pa (by omega) q
      | true => exact SeqAt.notIn_list_data h2 h1 pb pa (by omega) q
    · cases e
  · split at e
    · rename_i ys hd
      cases e
      obtain ⟨as, h1⟩ := Rp.reads I ra rx
      obtain ⟨bs, h2⟩ := Rp.reads I rb ry
      have hd := of_decide_eq_true hd
      cases neg with
      | false => exact SeqAt.in_tuple_data h2 h1 pb pa (by omega) q
      | true => exact SeqAt.notIn_tuple_data h2 h1 pb pa (by omega) q
    · cases e
  · cases e
theorem o_in (hu : X.A.units + 64 < cLine) : OpR X (compareOp .In) (rD X.K T mIn) := by
  rintro pins s σ H x y v u Q I rx ry ⟨a, b, ra, rb, q⟩
  unfold mIn at q
  cases e : inD a b with
  | ok k => rw [e] at q; exact inD_ok (neg := false) hu I rx ry ra rb e ⟨.bl _, H, I, rfl, q _ H Ex.refl rfl⟩
  | exc c => exact (inD_tame a b c e).elim
  | no => rw [e] at q; exact q.elim
theorem o_notIn (hu : X.A.units + 64 < cLine) : OpR X (compareOp .NotIn) (rD X.K T mNotIn) := by
  rintro pins s σ H x y v u Q I rx ry ⟨a, b, ra, rb, q⟩
  unfold mNotIn at q
  cases e : inD a b with
  | ok k => rw [e] at q; exact inD_ok (neg := true) hu I rx ry ra rb e ⟨.bl _, H, I, rfl, q _ H Ex.refl rfl⟩
  | exc c => exact (inD_tame a b c e).elim
  | no => rw [e] at q; exact q.elim
theorem non_iff {K : Frag} {H : Hp} {d : D} {v : V} (h : Rp K H d v) : decide (v = .non) = isNon d := by
  cases d with
  | none => cases h; rfl
  | bool b => cases h; rfl
  | int b => cases h; rfl
  | str b => obtain ⟨rfl, _⟩ := h; rfl
  | list b => obtain ⟨a, o, xs, rfl, _⟩ := h; rfl
  | tuple b => obtain ⟨a, xs, rfl, _⟩ := h; rfl
  | dict b => exact h.elim
theorem o_is : OpR X (compareOp .Is) (rD X.K T mIs) := by
  rintro pins s σ H x y v u Q I rx ry ⟨a, b, ra, rb, q⟩
  unfold mIs at q
  split at q
  · cases rb
    exact op_isN pins s σ H _ _ v u Q I rx ry ⟨rfl, by rw [non_iff ra]; exact q _ H Ex.refl rfl⟩
  · exact q.elim
theorem o_isNot : OpR X (compareOp .IsNot) (rD X.K T mIsNot) := by
  rintro pins s σ H x y v u Q I rx ry ⟨a, b, ra, rb, q⟩
  unfold mIsNot at q
  split at q
  · cases rb
    exact op_notN pins s σ H _ _ v u Q I rx ry ⟨rfl, by rw [non_iff ra]; exact q _ H Ex.refl rfl⟩
  · exact q.elim
theorem atI_map {K : Frag} {H : Hp} {ds : List D} {vs : List V} {i : Int} {d : D} (r : RpL K H ds vs) (e : atI ds i = some d) : ∃ v, atI vs i = some v ∧ Rp K H d v := by
  unfold atI at e ⊢
  rw [r.len]
  cases h : ixN ds.length i with
  | none => rw [h] at e; cases e
  | some j =>
    rw [h] at e
    exact r.get e
theorem o_idx : IxR X (rD X.K T mIdx) := by
  rintro value slice pins s σ H x y v u Q I rx ry ⟨a, b, ra, rb, q⟩ hs
  unfold mIdx at q
  split at q
  · split at q
    · rename_i xs i _ d e
      obtain ⟨p, o, vs, rfl, hp, r, l⟩ := ra
      cases rb
      obtain ⟨z, e1, e2⟩ := atI_map r e
      exact ix_list value slice pins s σ H _ _ v u Q I rx ry ⟨p, vs, i, z, rfl, rfl, hp.sq, e1, q _ H Ex.refl e2⟩ hs
    · exact q.elim
  · split at q
    · rename_i xs i _ d e
      obtain ⟨p, vs, rfl, hp, r, l⟩ := ra
      cases rb
      obtain ⟨z, e1, e2⟩ := atI_map r e
      exact ix_tup value slice pins s σ H _ _ v u Q I rx ry ⟨p, vs, i, z, rfl, rfl, hp, e1, q _ H Ex.refl e2⟩ hs
    · exact q.elim
  · split at q
    · rename_i z i _ c e
      obtain ⟨rfl, hl⟩ := ra
      cases rb
      exact ix_str value slice pins s σ H _ _ v u Q I rx ry ⟨z, i, c, rfl, rfl, hl, e, q _ H Ex.refl ⟨rfl, one_le_line⟩⟩ hs
    · exact q.elim
  · exact q.elim
end

/-! ### slices -/
def cutD {α : Type} (xs : List α) (lo hi : Option Int) : List α := (xs.drop (HT.sIx xs.length 0 lo)).take (HT.sIx xs.length xs.length hi - HT.sIx xs.length 0 lo)
def mSl (d : D) (lo hi : Option Int) : R D := match d with
  | .list xs => .ok (.list (cutD xs lo hi))
  | .tuple xs => .ok (.tuple (cutD xs lo hi))
  | .str z => .ok (.str ⟨(cutD z.cps.toList lo hi).toArray⟩)
  | _ => .no
def ResO (K : Frag) (T : List (Addr × Str)) (W : WX) (r : R (Option Int)) (σ : L2.St) (H : Hp) (Q : Option Int → Hp → Prop) : Prop :=
  match r with
  | .ok o => ∀ H', Ex T H H' → Q o H'
  | .exc c => ∀ H', Ex T H H' → W (.ref (He.ga K c)) none σ H'
  | .no => False
def dO (K : Frag) (T : List (Addr × Str)) (W : WX) (f : Rho → R (Option Int)) : TO := fun σ H Q => ∃ Hb ρ, SR K T Hb ρ σ H ∧ ResO K T W (f ρ) σ H Q
abbrev DO (T : List (Addr × Str)) (X : Cx) (W : WX) (e : Option Expr) (f : Rho → R (Option Int)) : Prop := PO X e (dO X.K T W f)
def oNone : Rho → R (Option Int) := fun _ => .ok none
def asI : D → R (Option Int)
  | .int i => .ok (some i)
  | _ => .no
def oSome (f : Rho → R D) : Rho → R (Option Int) := fun ρ => (f ρ).bind asI
def eSl (f : Rho → R D) (lo hi : Rho → R (Option Int)) : Rho → R D := fun ρ => (f ρ).bind fun d => (lo ρ).bind fun l => (hi ρ).bind fun h => mSl d l h
theorem cutD_len {α : Type} (xs : List α) (lo hi : Option Int) : (cutD xs lo hi).length ≤ xs.length := by
  unfold cutD
  rw [List.length_take, List.length_drop]
  omega
section
variable {X : Cx} {T : List (Addr × Str)} {W : WX} {e : Expr} {lo hi : Option Expr} {f : Rho → R D} {fl fh : Rho → R (Option Int)} {pos p2 : Pos}
theorem PO.imp {o : Option Expr} {t u : TO} (h : PO X o t) (k : ∀ σ H Q, u σ H Q → t σ H Q) : PO X o u := ⟨fun pins s σ H Q I q => h.run pins s σ H Q I (k σ H Q q)⟩
theorem do_none : DO T X W none oNone := PO.imp po_none fun σ H Q ⟨Hb, ρ, S, q⟩ => q H Ex.refl
theorem do_some (h : DE T X W e f) : DO T X W (some e) (oSome f) := by
  refine PO.imp (po_some h) fun σ H Q q => ?_
  obtain ⟨Hb, ρ, S, q⟩ := q
  refine ⟨Hb, ρ, S, ?_⟩
  unfold oSome at q
  cases ef : f ρ with
  | no => rw [ef] at q; exact q
  | exc c => rw [ef] at q; exact q
  | ok d =>
    rw [ef] at q
    intro v H' x r
    cases d with
    | int i => cases r; exact ⟨i, rfl, q H' x⟩
    | _ => exact q.elim
def rSlD (K : Frag) (T : List (Addr × Str)) : V → Option Int → Option Int → Hp → VK → Prop := fun x lo hi H Q => ∃ d, Rp K H d x ∧ OutR K T (mSl d lo hi) H Q
theorem cutV_D {K : Frag} {H : Hp} {ds : List D} {vs : List V} {lo hi : Option Int} (r : RpL K H ds vs) : RpL K H (cutD ds lo hi) (cutV vs lo hi) := by
  unfold cutD cutV
  rw [r.len]
  exact (r.dropN _).takeN _
theorem cutD_all {α : Type} {xs : List α} {lo hi : Option Int} (h : HT.sIx xs.length 0 lo = 0 ∧ HT.sIx xs.length xs.length hi = xs.length) : cutD xs lo hi = xs := by
  unfold cutD
  rw [h.1, h.2]
  simp
theorem rd_list : L2.SlR X (fun x lo hi H Q => ∃ a o xs, x = .ref a ∧ FzL X.K H a o xs ∧ ∀ p ob, H p = none → Q (.ref p) (upd H p (.frz ob (.lst (cutV xs lo hi))))) := by
  rintro pins s σ H x v vl vu lo hi sl Q I rx hs pl pu ⟨a, o, xs, rfl, ha, q⟩
  obtain ⟨T', id, h1, h2, h3⟩ := sl_list (X := X) pins s σ H (.ref a) v vl vu lo hi sl (fun z H2 => ∃ p, z = .ref p ∧ H p = none ∧ H2 = upd H p (.lst (cutV xs lo hi))) I rx hs pl pu ⟨a, xs, rfl, ha.sq, fun p hp => ⟨p, rfl, hp, rfl⟩⟩
  refine ⟨T', id, h1, h2, thn h3 fun r s1 ⟨z, H1, I1, r1, p, e1, hp, e2⟩ => ?_⟩
  subst e1; subst e2
  obtain ⟨ob, I2⟩ := I1.lock upd_same trivial
  rw [upd_upd] at I2
  exact ⟨.ref p, _, I2, r1, q p ob hp⟩
theorem o_sl : L2.SlR X (rSlD X.K T) := by
  rintro pins s σ H x v vl vu lo hi sl Q I rx hs pl pu ⟨d, r, q⟩
  unfold mSl at q
  split at q
  · obtain ⟨p, o, vs, rfl, hp, r, l⟩ := r
    exact rd_list pins s σ H _ v vl vu lo hi sl Q I rx hs pl pu ⟨p, o, vs, rfl, hp, fun p2 ob h2 => q _ _ (Ex.new h2) (rp_list h2 (cutV_D r) (Nat.le_trans (cutD_len _ _ _) l))⟩
  · obtain ⟨p, vs, rfl, hp, r, l⟩ := r
    refine sl_tupA pins s σ H _ v vl vu lo hi sl Q I rx hs pl pu ⟨p, vs, rfl, hp, fun hw => ?_, fun _ p2 h2 => q _ _ (Ex.new h2) (rp_tuple h2 (cutV_D r) (Nat.le_trans (cutD_len _ _ _) l))⟩
    rw [r.len] at hw
    rw [cutD_all hw] at q
    exact q _ H Ex.refl ⟨p, vs, rfl, hp, r, l⟩
  · rename_i z
    obtain ⟨rfl, l⟩ := r
    refine sl_str pins s σ H _ v vl vu lo hi sl Q I rx hs pl pu ⟨z, rfl, l, ?_⟩
    have e : cutS z lo hi = ⟨(cutD z.cps.toList lo hi).toArray⟩ := by
      unfold cutS cutD
      simp only [Str.length, Array.length_toList]
    rw [e]
    refine q _ H Ex.refl ⟨rfl, Nat.le_trans ?_ l⟩
    have := cutD_len z.cps.toList lo hi
    simpa [Str.length] using this
  · exact q.elim
theorem d_sl (he : DE T X W e f) (hl : DO T X W lo fl) (hu : DO T X W hi fh) : DE T X W (.Subscript e (.Slice lo hi none p2) pos) (eSl f fl fh) := by
  refine PE.imp (pe_slice (o_sl (T := T)) he hl hu) fun σ H Q q => ?_
  obtain ⟨Hb, ρ, S, q⟩ := q
  refine ⟨Hb, ρ, S, ?_⟩
  unfold eSl at q
  cases ef : f ρ with
  | no => rw [ef] at q; exact q
  | exc c => rw [ef] at q; exact q
  | ok d =>
    rw [ef, R.bind_ok] at q
    intro v H1 x1 r1
    refine ⟨Hb, ρ, S.mono x1, ?_⟩
    cases el : fl ρ with
    | no => rw [el] at q; exact q
    | exc c => rw [el] at q; exact fun H' x => q H' (x1.trans x)
    | ok l =>
      rw [el, R.bind_ok] at q
      intro H2 x2
      refine ⟨Hb, ρ, (S.mono x1).mono x2, ?_⟩
      cases eh : fh ρ with
      | no => rw [eh] at q; exact q
      | exc c => rw [eh] at q; exact fun H' x => q H' ((x1.trans x2).trans x)
      | ok h =>
        rw [eh, R.bind_ok] at q
        intro H3 x3
        refine ⟨d, Rp.mono (x2.trans x3).e _ _ r1, ?_⟩
        cases em : mSl d l h with
        | no => rw [em] at q; exact q
        | exc c => unfold mSl at em; split at em <;> cases em
        | ok d2 => rw [em] at q; exact fun v H' x r => q v H' (((x1.trans x2).trans x3).trans x) r
end
end DL
set_option Elab.async false
set_option linter.all false
set_option maxRecDepth 100000
set_option maxHeartbeats 2000000
/-! Built-in calls and methods over data. -/
namespace DL
open PySem PySem.Spec PyProof.Rows L2 LamX

def asBs : List D → Option (List Bool)
  | [] => some []
  | .bool b :: r => (asBs r).map (b :: ·)
  | _ :: _ => none
def asIs : List D → Option (List Int)
  | [] => some []
  | .int b :: r => (asIs r).map (b :: ·)
  | _ :: _ => none
def asSs : List D → Option (List Str)
  | [] => some []
  | .str b :: r => (asSs r).map (b :: ·)
  | _ :: _ => none
section
variable {K : Frag} {H : Hp}
theorem asBs_vals : ∀ {ds : List D} {vs : List V} {bs : List Bool}, asBs ds = some bs → RpL K H ds vs → vs = bs.map V.bl
  | [], _, _, e, h => by
    cases e
    exact h
  | d :: r, _, bs, e, h => by
    obtain ⟨v, vs, rfl, h1, h2⟩ := h
    cases d with
    | bool b =>
      unfold asBs at e
      obtain ⟨bs', e1, rfl⟩ := Option.map_eq_some_iff.mp e
      have := asBs_vals e1 h2
      cases h1
      rw [this]; rfl
    | _ => cases e
theorem asIs_vals : ∀ {ds : List D} {vs : List V} {bs : List Int}, asIs ds = some bs → RpL K H ds vs → vs = bs.map V.int
  | [], _, _, e, h => by
    cases e
    exact h
  | d :: r, _, bs, e, h => by
    obtain ⟨v, vs, rfl, h1, h2⟩ := h
    cases d with
    | int b =>
      unfold asIs at e
      obtain ⟨bs', e1, rfl⟩ := Option.map_eq_some_iff.mp e
      have := asIs_vals e1 h2
      cases h1
      rw [this]; rfl
    | _ => cases e
theorem asSs_vals : ∀ {ds : List D} {vs : List V} {bs : List Str}, asSs ds = some bs → RpL K H ds vs → vs = bs.map V.str ∧ ∀ x ∈ bs, x.length ≤ sizeLine
  | [], _, _, e, h => by
    cases e
    exact ⟨h, fun x hx => by cases hx⟩
  | d :: r, _, bs, e, h => by
    obtain ⟨v, vs, rfl, h1, h2⟩ := h
    cases d with
    | str b =>
      unfold asSs at e
      obtain ⟨bs', e1, rfl⟩ := Option.map_eq_some_iff.mp e
      obtain ⟨i1, i2⟩ := asSs_vals e1 h2
      obtain ⟨rfl, hl⟩ := h1
      refine ⟨by rw [i1]; rfl, fun x hx => ?_⟩
      rcases List.mem_cons.mp hx with rfl | hx
      · exact hl
      · exact i2 x hx
    | _ => cases e
theorem ss_rp {ss : List Str} (h : ∀ x ∈ ss, x.length ≤ sizeLine) : RpL K H (ss.map .str) (ss.map V.str) := by
  induction ss with
  | nil => exact rfl
  | cons a r ih => exact ⟨_, _, rfl, ⟨rfl, h a List.mem_cons_self⟩, ih fun x hx => h x (List.mem_cons_of_mem _ hx)⟩
end
def mLen : List D → R D
  | [.list xs] => okI xs.length
  | [.tuple xs] => okI xs.length
  | [.str z] => okI z.length
  | _ => .no
def mMax2 : List D → R D
  | [.int i, .int j] => okI (if j > i then j else i)
  | _ => .no
def mMin2 : List D → R D
  | [.int i, .int j] => okI (if j < i then j else i)
  | _ => .no
def mAll : List D → R D
  | [.list ds] => (match asBs ds with
    | some bs => okB (bs.all id)
    | none => .no)
  | _ => .no
def mAny : List D → R D
  | [.list ds] => (match asBs ds with
    | some bs => okB (bs.any id)
    | none => .no)
  | _ => .no
def mSum : List D → R D
  | [.list ds] => (match asIs ds with
    | some ns => okI ns.sum
    | none => .no)
  | [.tuple ds] => (match asIs ds with
    | some ns => okI ns.sum
    | none => .no)
  | _ => .no
def mTup : List D → R D
  | [.list ds] => .ok (.tuple ds)
  | [.tuple ds] => .ok (.tuple ds)
  | _ => .no
def mLst : List D → R D
  | [.list ds] => .ok (.list ds)
  | [.tuple ds] => .ok (.list ds)
  | _ => .no
def mInt : List D → R D
  | [.int i] => okI i
  | [.bool b] => okI (if b then 1 else 0)
  | [.str z] => (match PySem.intText? z with
    | some n => if z.length ≤ 640 then okI n else .no
    | none => .no)
  | _ => .no
def mStr : List D → R D
  | [.int i] => if i.natAbs < 1000000 then okS (toString i) else .no
  | _ => .no
def mStarts : D → List D → R D
  | .str a, [.str b] => okB (Txt.startswith a b)
  | _, _ => .no
def mStrip : D → List D → R D
  | .str a, [.str b] => okS (Txt.stripChars a b)
  | _, _ => .no
def mJoin : D → List D → R D
  | .str a, [.list ds] => (match asSs ds with
    | some ys => if (ys.map (·.length)).sum + ys.length * a.length ≤ 16777216 then okS (Txt.join a ys) else .no
    | none => .no)
  | _, _ => .no
def mCount : D → List D → R D
  | .list ds, [d] => if dOk d then okI (ds.countP fun y => PyData.eqv y d) else .no
  | _, _ => .no
theorem tm_len : Tame1 mLen := fun a c h => by unfold mLen at h; split at h <;> cases h
theorem tm_max2 : Tame1 mMax2 := fun a c h => by unfold mMax2 at h; split at h <;> cases h
theorem tm_min2 : Tame1 mMin2 := fun a c h => by unfold mMin2 at h; split at h <;> cases h
theorem tm_all : Tame1 mAll := fun a c h => by unfold mAll at h; split at h <;> (try split at h) <;> cases h
theorem tm_any : Tame1 mAny := fun a c h => by unfold mAny at h; split at h <;> (try split at h) <;> cases h
theorem tm_sum : Tame1 mSum := fun a c h => by unfold mSum at h; split at h <;> (try split at h) <;> cases h
theorem tm_tup : Tame1 mTup := fun a c h => by unfold mTup at h; split at h <;> cases h
theorem tm_lst : Tame1 mLst := fun a c h => by unfold mLst at h; split at h <;> cases h
theorem tm_int : Tame1 mInt := fun a c h => by unfold mInt at h; split at h <;> (try split at h) <;> (try split at h) <;> cases h
theorem tm_str : Tame1 mStr := fun a c h => by unfold mStr at h; split at h <;> (try split at h) <;> cases h
def TameM (g : D → List D → R D) : Prop := ∀ a b c, g a b ≠ .exc c
theorem tm_starts : TameM mStarts := fun a b c h => by unfold mStarts at h; split at h <;> cases h
theorem tm_strip : TameM mStrip := fun a b c h => by unfold mStrip at h; split at h <;> cases h
theorem tm_join : TameM mJoin := fun a b c h => by unfold mJoin at h; split at h <;> (try split at h) <;> (try split at h) <;> cases h
theorem tm_count : TameM mCount := fun a b c h => by unfold mCount at h; split at h <;> (try split at h) <;> cases h
section
variable {X : Cx} {T : List (Addr × Str)}
theorem c_len : CallR X (.builtin "len") (rDn X.K T mLen) := by
  rintro pins s σ H xs us Q I r ⟨ds, rd, q⟩
  unfold mLen at q
  split at q
  · obtain ⟨v, rfl, p, o, vs, rfl, hp, hs, hl⟩ := rd.inv1
    exact call_len_seq pins s σ H _ us Q I r ⟨p, vs, rfl, .inl (hp.sq), by rw [hs.len]; exact q _ H Ex.refl rfl⟩
  · obtain ⟨v, rfl, p, vs, rfl, hp, hs, hl⟩ := rd.inv1
    exact call_len_seq pins s σ H _ us Q I r ⟨p, vs, rfl, .inr hp, by rw [hs.len]; exact q _ H Ex.refl rfl⟩
  · obtain ⟨v, rfl, rfl, hl⟩ := rd.inv1
    exact call_len_str pins s σ H _ us Q I r ⟨_, rfl, hl, q _ H Ex.refl rfl⟩
  · exact q.elim
theorem c_max2 (hc : X.calm = true) : CallR X (.builtin "max") (rDn X.K T mMax2) := by
  rintro pins s σ H xs us Q I r ⟨ds, rd, q⟩
  unfold mMax2 at q
  split at q
  · obtain ⟨v, w, rfl, h1, h2⟩ := rd.inv2
    cases h1; cases h2
    exact call_max2 hc pins s σ H _ us Q I r ⟨_, _, rfl, q _ H Ex.refl rfl⟩
  · exact q.elim
theorem c_min2 (hc : X.calm = true) : CallR X (.builtin "min") (rDn X.K T mMin2) := by
  rintro pins s σ H xs us Q I r ⟨ds, rd, q⟩
  unfold mMin2 at q
  split at q
  · obtain ⟨v, w, rfl, h1, h2⟩ := rd.inv2
    cases h1; cases h2
    exact call_min2 hc pins s σ H _ us Q I r ⟨_, _, rfl, q _ H Ex.refl rfl⟩
  · exact q.elim
theorem c_all (hc : X.calm = true) : CallR X (.builtin "all") (rDn X.K T mAll) := by
  rintro pins s σ H xs us Q I r ⟨ds, rd, q⟩
  unfold mAll at q
  split at q
  · split at q
    · rename_i bs e
      obtain ⟨v, rfl, p, o, vs, rfl, hp, hs, hl⟩ := rd.inv1
      have := asBs_vals e hs
      subst this
      exact cr_all hc pins s σ H _ us Q I r ⟨p, bs, rfl, hp.sq, q _ H Ex.refl rfl⟩
    · exact q.elim
  · exact q.elim
theorem c_any (hc : X.calm = true) : CallR X (.builtin "any") (rDn X.K T mAny) := by
  rintro pins s σ H xs us Q I r ⟨ds, rd, q⟩
  unfold mAny at q
  split at q
  · split at q
    · rename_i bs e
      obtain ⟨v, rfl, p, o, vs, rfl, hp, hs, hl⟩ := rd.inv1
      have := asBs_vals e hs
      subst this
      exact cr_any hc pins s σ H _ us Q I r ⟨p, bs, rfl, hp.sq, q _ H Ex.refl rfl⟩
    · exact q.elim
  · exact q.elim
/-- sum of a tuple of ints -/
theorem sum_tupI {A : Around} {P : Program} {w : World} {E : Value → Shared → Prop} {s : Shared} {l : Addr} {its : List Value} {ns : List Int} {Q : Value → Shared → Prop} (hh : A.handled = none) (hl : s.heap.IsTuple l its.toArray) (hi : IntsAre its ns)
    (h : ∀ h' tk t', (∀ b o, s.heap.get? b = some o → h'.get? b = some o) → Q (.int ns.sum t') { s with heap := h', toks := tk }) : wpAny (model P w) A (call (.builtin "sum") [.ref l]) Q E s := by
  have hlt : l < s.heap.objs.size := by obtain ⟨_, e, _⟩ := hl; exact Heap.lt_size e
  have hlen := hi.length
  have val : ∀ (i : Nat) (v : Value), its.toArray[i]? = some v → ∃ t, v = Value.int (ns.getD i 0) t := by
    have key : ∀ {its : List Value} {ns : List Int}, IntsAre its ns → ∀ (i : Nat) (v : Value), its[i]? = some v → ∃ t, v = Value.int (ns.getD i 0) t := by
      intro its ns h
      induction h with
      | nil => intro i v e; simp at e
      | cons n t r ih =>
        intro i v e
        cases i with
        | zero => simp at e; exact ⟨t, by rw [← e]; rfl⟩
        | succ i =>
          obtain ⟨t', e'⟩ := ih i v (by simpa using e)
          exact ⟨t', by rw [e']; simp⟩
    intro i v e
    exact key hi i v (by simpa using e)
  refine call_sum_walkG (wpAny_pyIter_tuple hl ?_)
  refine ⟨_, _, _, _, _, _, fun i => ns.getD i 0, rfl, Walks.tuple (A := A.in1) hh _ l (Nat.ne_of_lt hlt) its.toArray, ⟨⟨_, Heap.get?_push_size _ rfl, rfl, rfl⟩, ?_⟩, ?_, val, fun h' tk t' hk => ?_⟩
  · obtain ⟨o, e, c⟩ := hl
    exact ⟨o, Heap.get?_push_of_some _ e, c⟩
  · intro b hb
    have hs : (s.heap.push { cls := .type "tuple_iterator", data := .fields #[.ref l, .int 0 0] }).objs.size = s.heap.objs.size + 1 := Heap.size_push ..
    show b < (s.heap.push { cls := .type "tuple_iterator", data := .fields #[.ref l, .int 0 0] }).objs.size
    rw [hs]
    simp at hb
    rcases hb with rfl | rfl
    · exact Nat.lt_succ_self _
    · exact Nat.lt_succ_of_lt hlt
  · have := h h' tk t' fun b o e => hk b o (by simp; exact Nat.ne_of_lt (Heap.lt_size e)) (Heap.get?_push_of_some _ e)
    have e : preSum (fun i => ns.getD i 0) its.toArray.size = ns.sum := by
      have key : ∀ n, n ≤ ns.length → preSum (fun i => ns.getD i 0) n = (ns.take n).sum := by
        intro n
        induction n with
        | zero => intro _; rfl
        | succ n ih =>
          intro hn
          have hlt : n < ns.length := hn
          show preSum (fun i => ns.getD i 0) n + ns.getD n 0 = _
          rw [ih (Nat.le_of_lt hlt), List.take_succ, List.sum_append, List.getD_eq_getElem?_getD, List.getElem?_eq_getElem hlt]
          simp
      rw [List.size_toArray, hlen, key _ (Nat.le_refl _), List.take_of_length_le (Nat.le_refl _)]
    rw [e]; exact this
theorem c_sum (hc : X.calm = true) : CallR X (.builtin "sum") (rDn X.K T mSum) := by
  rintro pins s σ H xs us Q I r ⟨ds, rd, q⟩
  unfold mSum at q
  split at q
  · split at q
    · rename_i bs e
      obtain ⟨v, rfl, p, o, vs, rfl, hp, hs, hl⟩ := rd.inv1
      have := asIs_vals e hs
      subst this
      exact cr_sum hc pins s σ H _ us Q I r ⟨p, bs, rfl, hp.sq, q _ H Ex.refl rfl⟩
    · exact q.elim
  · split at q
    · rename_i bs e
      obtain ⟨v, rfl, p, vs, rfl, hp, hs, hl⟩ := rd.inv1
      have := asIs_vals e hs
      subst this
      rw [Vals.ref1 r]
      obtain ⟨its, rv, ht, _⟩ := I.tuple hp
      exact sum_tupI (I.ok.hd hc) ht (intsAre_of rv) fun h' tk t' hk => ⟨.int _, H, I.kept hk, ⟨_, rfl⟩, q _ H Ex.refl rfl⟩
    · exact q.elim
  · exact q.elim
theorem c_tup : CallR X (.type "tuple") (rDn X.K T mTup) := by
  rintro pins s σ H xs us Q I r ⟨ds, rd, q⟩
  unfold mTup at q
  split at q
  · obtain ⟨v, rfl, p, o, vs, rfl, hp, hs, hl⟩ := rd.inv1
    exact call_tuple_of pins s σ H _ us Q I r ⟨p, vs, rfl, .inl ⟨hp.sq, fun l h => q _ _ (Ex.new h) (rp_tuple h hs hl)⟩⟩
  · obtain ⟨v, rfl, p, vs, rfl, hp, hs, hl⟩ := rd.inv1
    exact call_tuple_of pins s σ H _ us Q I r ⟨p, vs, rfl, .inr ⟨hp, q _ H Ex.refl ⟨p, vs, rfl, hp, hs, hl⟩⟩⟩
  · exact q.elim
theorem c_lst : CallR X (.type "list") (rDn X.K T mLst) := by
  rintro pins s σ H xs us Q I r ⟨ds, rd, q⟩
  have go : ∀ (p : Addr) (vs : List V) (es : List D), xs = [.ref p] → (SqL X.K H p vs ∨ SqT X.K H p vs) → RpL X.K H es vs → es.length ≤ sizeLine → OutR X.K T (.ok (.list es)) H Q → wpAny (model X.prog X.w) X.A (call (.type "list") us) (EP X pins σ Q) X.xe s := by
    intro p vs es ex hq hs hl q
    have h := call_list_of (X := X) pins s σ H xs us (fun z H2 => ∃ l, z = .ref l ∧ H l = none ∧ H2 = upd H l (.lst vs)) I r ⟨p, vs, ex, hq, fun l h => ⟨l, rfl, h, rfl⟩⟩
    refine thn h fun u s1 ⟨z, H1, I1, r1, l, e1, hn, e2⟩ => ?_
    subst e1; subst e2
    obtain ⟨ob, I2⟩ := I1.lock upd_same trivial
    rw [upd_upd] at I2
    exact ⟨.ref l, _, I2, r1, q _ _ (Ex.new hn) (rp_list hn hs hl)⟩
  unfold mLst at q
  split at q
  · obtain ⟨v, rfl, p, o, vs, rfl, hp, hs, hl⟩ := rd.inv1
    exact go p vs _ rfl (.inl (hp.sq)) hs hl q
  · obtain ⟨v, rfl, p, vs, rfl, hp, hs, hl⟩ := rd.inv1
    exact go p vs _ rfl (.inr hp) hs hl q
  · exact q.elim
theorem c_int : CallR X (.type "int") (rDn X.K T mInt) := by
  rintro pins s σ H xs us Q I r ⟨ds, rd, q⟩
  unfold mInt at q
  split at q
  · obtain ⟨v, rfl, h⟩ := rd.inv1
    cases h
    exact call_int1 pins s σ H _ us Q I r (.inl ⟨_, rfl, q _ H Ex.refl rfl⟩)
  · obtain ⟨v, rfl, h⟩ := rd.inv1
    cases h
    exact call_int1 pins s σ H _ us Q I r (.inr ⟨_, rfl, q _ H Ex.refl rfl⟩)
  · split at q
    · rename_i z _ n e
      split at q
      · rename_i hl
        obtain ⟨v, rfl, rfl, _⟩ := rd.inv1
        exact call_int_str pins s σ H _ us Q I r ⟨z, n, rfl, e, hl, q _ H Ex.refl rfl⟩
      · exact q.elim
    · exact q.elim
  · exact q.elim
theorem c_starts : MtR X "str.startswith" (rDm X.K T mStarts) := by
  rintro pins s σ H x xs v us Q I rx r ⟨d, ds, rd, rs, q⟩
  unfold mStarts at q
  split at q
  · obtain ⟨rfl, _⟩ := rd
    obtain ⟨v, rfl, rfl, _⟩ := rs.inv1
    exact mt_startswith pins s σ H _ _ _ us Q I rx r ⟨_, _, rfl, rfl, q _ H Ex.refl rfl⟩
  · exact q.elim
theorem c_count (hu : X.A.units + 65 < cLine) : MtR X "list.count" (rDm X.K T mCount) := by
  rintro pins s σ H x xs v us Q I rx r ⟨d, ds, rd, rs, q⟩
  unfold mCount at q
  split at q
  · split at q
    · rename_i es e hd
      obtain ⟨z, rfl, h1⟩ := rs.inv1
      obtain ⟨u, rfl, ru⟩ := vals1 r
      obtain ⟨bs, g1⟩ := Rp.reads I h1 ru
      have pl := Rp.plain _ _ rd
      have p1 := Rp.plain _ _ h1
      obtain ⟨as, g2⟩ := Rp.reads I rd rx
      have hd := of_decide_eq_true hd
      cases g2 with
      | list k1 k2 k3 k4 =>
        exact SeqAt.count_list_data ⟨_, k1, k2, _, k3⟩ k4 g1 pl p1 (by omega) ⟨.int _, H, I.tok _, ⟨_, rfl⟩, q _ H Ex.refl rfl⟩
    · exact q.elim
  · exact q.elim
end
end DL
set_option Elab.async false
set_option linter.all false
set_option maxRecDepth 100000
set_option maxHeartbeats 2000000
namespace DL
open PySem PySem.Spec PyProof.Rows L2 LamX

/-! ### methods of built-in kinds -/
def tyD (T : String) : D → Bool
  | .str _ => T == "str"
  | .list _ => T == "list"
  | _ => false
def eMt (Ty : String) (g : D → List D → R D) (fo : Rho → R D) (fs : Rho → R (List D)) : Rho → R D := fun ρ => (fo ρ).bind fun d => if tyD Ty d then (fs ρ).bind fun ds => g d ds else .no
section
variable {X : Cx} {T : List (Addr × Str)} {W : WX} {o e : Expr} {es : List Expr} {fo fe : Rho → R D} {fs : Rho → R (List D)} {name : Str} {apos cpos pos p p1 p2 : Pos} {Ty id : String} {g : D → List D → R D}
theorem tyV_D {H : Hp} {d : D} {x : V} (h : tyD Ty d = true) (r : Rp X.K H d x) : tyV X.K Ty x H := by
  cases d with
  | str z =>
    obtain ⟨rfl, _⟩ := r
    exact (beq_iff_eq.mp h)
  | list ds =>
    obtain ⟨a, ob, xs, rfl, ha, _⟩ := r
    exact .inl ⟨beq_iff_eq.mp h, xs, ha.sq⟩
  | _ => cases h
theorem d_mt (pa : PlainAttrs Ty) (slot : Slot Ty name id) (hty : typeOf (.builtin id) = pure (.type "method_descriptor")) (hm : MtR X id (rDm X.K T g)) (ht : TameM g) (ho : DE T X W o fo) (ha : DA T X W (e :: es) fs)
    (hbase : attributeBase o name X.env (eval o X.env) = eval o X.env := by kernel_rfl)
    (hfew : ((backTo cpos (starEach (e :: es) X.env)).all (fun x => !x.1) && (backToKw cpos (keywordEach [] X.env)).all (fun x => x.1.isSome)
      && decide ((e :: es).length + ([] : List Keyword).length + (if ([] : List Keyword).isEmpty then 0 else 1) < 30)) = true := by kernel_rfl)
    (hline : (apos.endLine == cpos.line) = true := by kernel_rfl) (hs : starEach (e :: es) X.env = (false, eval e X.env) :: starEach es X.env := by kernel_rfl) (hpl : (backTo cpos (starEach es X.env)).any (·.1) = false := by kernel_rfl) :
    DE T X W (.Call (.Attribute o name apos) (e :: es) [] cpos) (eMt Ty g fo fs) := by
  refine PE.imp (pe_bm pa slot hty hm ho ha hbase hfew hline hs hpl) fun σ H Q q => ?_
  obtain ⟨Hb, ρ, S, q⟩ := q
  refine ⟨Hb, ρ, S, ?_⟩
  unfold eMt at q
  cases ef : fo ρ with
  | no => rw [ef] at q; exact q
  | exc c => rw [ef] at q; exact q
  | ok d =>
    rw [ef, R.bind_ok] at q
    intro v H1 x1 r1
    by_cases hd : tyD Ty d = true
    · rw [if_pos hd] at q
      refine ⟨tyV_D hd r1, Hb, ρ, S.mono x1, ?_⟩
      cases es' : fs ρ with
      | no => rw [es'] at q; exact q
      | exc c => rw [es'] at q; exact fun H' x => q H' (x1.trans x)
      | ok ds =>
        rw [es', R.bind_ok] at q
        intro vs H2 x2 r2
        refine ⟨d, ds, Rp.mono x2.e _ _ r1, r2, ?_⟩
        cases eg : g d ds with
        | no => rw [eg] at q; exact q
        | exc c => exact (ht d ds c eg).elim
        | ok d2 => rw [eg] at q; exact fun v H' x r => q v H' ((x1.trans x2).trans x) r
    · rw [if_neg hd] at q; exact q.elim
/-! ### isinstance -/
def isiD (n : String) : D → R D := fun d =>
  if n == "int" then okB d.isInt else if n == "bool" then okB d.isBool else if n == "str" then okB d.isStr else if n == "tuple" then okB d.isTuple else if n == "list" then okB d.isList else .no
theorem isi_call {n : String} {pins : List (Addr × Obj)} {s : Shared} {σ : L2.St} {H : Hp} {x : V} {u : Value} {d : D} {Q : VK} (I : Inv X pins σ H s) (rx : RelV x u) (r : Rp X.K H d x) (q : OutR X.K T (isiD n d) H Q) :
    wpAny (model X.prog X.w) X.A (call (.builtin "isinstance") [u, .type n]) (EP X pins σ Q) X.xe s := by
  obtain ⟨as, h1⟩ := Rp.reads I r rx
  unfold isiD at q
  by_cases e1 : (n == "int") = true
  · rw [if_pos e1] at q
    rw [beq_iff_eq.mp e1]
    exact PySem.W.isinstance_int_data h1 fun tk _ => ⟨.bl _, H, I.tok _, rfl, q _ H Ex.refl rfl⟩
  · rw [if_neg e1] at q
    by_cases e2 : (n == "bool") = true
    · rw [if_pos e2] at q
      rw [beq_iff_eq.mp e2]
      exact PySem.W.isinstance_bool_data h1 fun tk _ => ⟨.bl _, H, I.tok _, rfl, q _ H Ex.refl rfl⟩
    · rw [if_neg e2] at q
      by_cases e3 : (n == "str") = true
      · rw [if_pos e3] at q
        rw [beq_iff_eq.mp e3]
        exact PySem.W.isinstance_str_data h1 fun tk _ => ⟨.bl _, H, I.tok _, rfl, q _ H Ex.refl rfl⟩
      · rw [if_neg e3] at q
        by_cases e4 : (n == "tuple") = true
        · rw [if_pos e4] at q
          rw [beq_iff_eq.mp e4]
          exact PySem.W.isinstance_tuple_data h1 fun tk _ => ⟨.bl _, H, I.tok _, rfl, q _ H Ex.refl rfl⟩
        · rw [if_neg e4] at q
          by_cases e5 : (n == "list") = true
          · rw [if_pos e5] at q
            rw [beq_iff_eq.mp e5]
            exact PySem.W.isinstance_list_data h1 fun tk _ => ⟨.bl _, H, I.tok _, rfl, q _ H Ex.refl rfl⟩
          · rw [if_neg e5] at q
            exact q.elim
theorem tm_isi (n : String) (d : D) (c : Str) : isiD n d ≠ .exc c := fun h => by
  unfold isiD at h
  split at h
  · cases h
  · split at h
    · cases h
    · split at h
      · cases h
      · split at h
        · cases h
        · split at h <;> cases h
theorem d_isi {n : String} {x : Str} (hm : X.mg "isinstance" = none) (hmx : X.mg x = none) (hv : bootBuiltins x = some (.type n)) (he : DE T X W e fe) (hg : X.env.kindOf "isinstance" = some .globalImplicit := by kernel_rfl) (hgx : X.env.kindOf x = some .globalImplicit := by kernel_rfl)
    (hb : bootBuiltins "isinstance" = some (.builtin "isinstance") := by decide +kernel) (hn : x ≠ "__name__" := by decide) (hdb : (x == ("__debug__" : Str)) = false := by kernel_rfl)
    (hs : starEach [e, .Name x p2] X.env = (false, eval e X.env) :: starEach [.Name x p2] X.env := by kernel_rfl) (hpl : (backTo pos (starEach [.Name x p2] X.env)).any (·.1) = false := by kernel_rfl)
    (hs2 : starEach [.Name x p2] X.env = (false, eval (.Name x p2) X.env) :: starEach [] X.env := by kernel_rfl) :
    DE T X W (.Call (.Name "isinstance" p) [e, .Name x p2] [] pos) (eUn (isiD n) fe) := by
  have rule : CallR X (.builtin "isinstance") (fun vs H Q => ∃ d v, vs = [v, .ty n] ∧ Rp X.K H d v ∧ OutR X.K T (isiD n d) H Q) := by
    rintro pins s σ H xs us Q I r ⟨d, v, rfl, r1, q⟩
    obtain ⟨u1, u2, rfl, h1, h2⟩ := vals2 r
    cases h2
    exact isi_call I h1 r1 q
  refine PE.imp (pe_callB rule hg hm hb (pa_cons he (pa_cons (pe_bltn (v := .ty n) hgx hmx hv rfl hn hdb) pa_nil hs2) hs) (by decide) (by decide) hs hpl) fun σ H Q q => ?_
  obtain ⟨Hb, ρ, S, q⟩ := q
  refine ⟨Hb, ρ, S, ?_⟩
  unfold eUn at q
  cases ef : fe ρ with
  | no => rw [ef] at q; exact q
  | exc c => rw [ef] at q; exact q
  | ok d =>
    rw [ef, R.bind_ok] at q
    intro v H1 x1 r1
    refine ⟨d, v, rfl, r1, ?_⟩
    cases eg : isiD n d with
    | no => rw [eg] at q; exact q
    | exc c => exact (tm_isi n d c eg).elim
    | ok d2 => rw [eg] at q; exact fun v H' x r => q v H' (x1.trans x) r
/-! ### [..] * k -/
def eRep (fs : Rho → R (List D)) (fb : Rho → R D) : Rho → R D := fun ρ => (fs ρ).bind fun ds => if ds.length ≤ sizeLine then (fb ρ).bind fun b => match b with
  | .int k => if decide (-(2 ^ 63) ≤ k) && decide (k < 2 ^ 63) && decide (ds.length * k.toNat ≤ sizeLine) then .ok (.list (repL k ds)) else .no
  | _ => .no else .no
theorem RpL.rep {K : Frag} {H : Hp} {ds : List D} {vs : List V} (h : RpL K H ds vs) : ∀ k : Nat, RpL K H (List.replicate k ds).flatten (List.replicate k vs).flatten
  | 0 => rfl
  | k + 1 => by
    rw [List.replicate_succ, List.replicate_succ, List.flatten_cons, List.flatten_cons]
    exact RpL.app h (RpL.rep h k)
theorem d_rep {b : Expr} {fb : Rho → R D} (ha : DA T X W es fs) (hb : DE T X W b fb) : DE T X W (.BinOp (.List es p) .Mult b pos) (eRep fs fb) := by
  refine PE.imp (pe_frz (pe_op op_rep (pe_lst ha) hb)) fun σ H Q q => ?_
  obtain ⟨Hb, ρ, S, q⟩ := q
  refine ⟨Hb, ρ, S, ?_⟩
  unfold eRep at q
  cases ef : fs ρ with
  | no => rw [ef] at q; exact q
  | exc c => rw [ef] at q; exact q
  | ok ds =>
    rw [ef, R.bind_ok] at q
    intro vs H1 x1 r1
    by_cases h0 : ds.length ≤ sizeLine
    · rw [if_pos h0] at q
      have k1 := r1.len
      refine ⟨by omega, fun a ha => ⟨Hb, ρ, S.mono (x1.trans (Ex.new ha)), ?_⟩⟩
      cases eb : fb ρ with
      | no => rw [eb] at q; exact q.elim
      | exc c => rw [eb] at q; exact fun H' x => q H' ((x1.trans (Ex.new ha)).trans x)
      | ok d =>
        rw [eb, R.bind_ok] at q
        cases d with
        | int k =>
          dsimp only at q
          split at q
          · rename_i hc
            simp only [Bool.and_eq_true, decide_eq_true_eq] at hc
            obtain ⟨⟨h1, h2⟩, h3⟩ := hc
            intro u H2 x2 r2
            cases r2
            refine ⟨a, k, vs, rfl, rfl, x2.e _ _ upd_same (fun _ z => by cases z), h1, h2, by rw [k1]; exact h3, fun p2 hp2 => .inr ⟨p2, _, rfl, upd_same, fun ob => ?_⟩⟩
            rw [upd_upd]
            have xx : Ex T H H2 := (x1.trans (Ex.new ha)).trans x2
            refine q _ _ (xx.trans (Ex.new hp2)) (rp_list hp2 (RpL.rep (RpL.mono ((Ex.new (T := T) ha).trans x2).e _ _ r1) k.toNat) ?_)
            unfold repL
            rw [lm_len_rep_flat, Nat.mul_comm]; exact h3
          · exact q.elim
        | _ => exact q.elim
    · rw [if_neg h0] at q; exact q.elim
/-! ### x[::-1] -/
def mRev : D → R D
  | .list ds => .ok (.list ds.reverse)
  | .tuple ds => .ok (.tuple ds.reverse)
  | _ => .no
/-! ### sorted -/
def alikeB (ds : List D) : Bool := ds.all fun d => ds.all fun e => PySem.W.alike d e
def isTupC : D → Bool
  | .tuple (_ :: _) => true
  | _ => false
def isOth : D → Bool
  | .none => false
  | .tuple _ => false
  | _ => true
def sortOk (ds : List D) : Bool := alikeB ds && (ds.all isTupC || ds.all isOth) && ds.all dOk
def mSorted : List D → R D
  | [.list ds] => if sortOk ds then .ok (.list (ds.mergeSort (PySem.W.dataLe false (fun d : D => d)))) else .no
  | _ => .no
theorem tm_sorted : Tame1 mSorted := fun a c h => by unfold mSorted at h; split at h <;> (try split at h) <;> cases h
theorem eachR {H : Hp} : ∀ {ds : List D} {vs : List V} {us : List Value}, RpL X.K H ds vs → Vals vs us → PySem.W.EachIs (fun u d => ∃ v, RelV v u ∧ Rp X.K H d v) us ds
  | [], _, _, h, r => by
    have h : _ = [] := h
    subst h
    cases r
    exact .nil
  | d :: ds, _, _, h, r => by
    obtain ⟨v, vs, rfl, h1, h2⟩ := h
    cases r with
    | cons q1 q2 => exact .cons ⟨v, q1, h1⟩ (eachR h2 q2)
theorem eachV {H : Hp} : ∀ {ds : List D} {us : List Value}, PySem.W.EachIs (fun u d => ∃ v, RelV v u ∧ Rp X.K H d v) us ds → ∃ vs, Vals vs us ∧ RpL X.K H ds vs
  | _, _, .nil => ⟨[], .nil, rfl⟩
  | _, _, .cons ⟨v, q1, h1⟩ t => by
    obtain ⟨vs, a, b⟩ := eachV t
    exact ⟨v :: vs, .cons q1 a, v, vs, rfl, h1, b⟩
theorem c_sorted (hu : X.A.units + 64 < cLine) : CallR X (.builtin "sorted") (rDn X.K T mSorted) := by
  rintro pins s σ H xs us Q I r ⟨ds, rd, q⟩
  unfold mSorted at q
  split at q
  · rename_i es
    split at q
    · rename_i hc
      unfold sortOk alikeB at hc
      simp only [Bool.and_eq_true, Bool.or_eq_true, List.all_eq_true] at hc
      obtain ⟨⟨c1, c2⟩, c3⟩ := hc
      obtain ⟨v, rfl, a, o, vs, rfl, ha, hs, hl⟩ := rd.inv1
      rw [Vals.ref1 r]
      obtain ⟨its, n, sl, e1, e2⟩ := Inv.rdF I ha
      have E := eachR hs e1
      have k1 := e1.length
      have k2 := hs.len
      refine PySem.W.sorted_data (enc := fun d : D => d) (bs := es) ⟨_, e2, rfl, n, rfl⟩ E (E.mono fun u d ⟨v, q1, q2⟩ => Rp.reads I q2 q1) ?_ ?_ hl (fun b hb => ?_) fun out ho EO => ?_
      · rw [List.map_id']; exact c1
      · rw [List.map_id']
        rcases c2 with c2 | c2
        · refine .inl fun d hd => ?_
          have := c2 d hd
          unfold isTupC at this
          split at this
          · exact ⟨_, _, rfl⟩
          · cases this
        · refine .inr fun d hd => ?_
          have := c2 d hd
          unfold isOth at this
          split at this
          · cases this
          · cases this
          · rename_i h1 h2
            exact ⟨h1, h2⟩
      · have := of_decide_eq_true (c3 b hb)
        show X.A.units + 2 + b.depth < cLine
        omega
      · obtain ⟨ws, a1, a2⟩ := eachV EO
        obtain ⟨ep, he'⟩ := PyProof.Rows.sortedAll_at s.heap its out.toArray
        have hlen : ws.length ≤ sizeLine := by rw [a2.len, List.length_mergeSort]; exact hl
        have J : Inv X pins σ (upd H (s.heap.objs.size + 1) (.lst ws)) { s with heap := PyProof.Rows.sortedAll s.heap its out.toArray } := I.laid (t' := s.toks) (fun _ _ => PyProof.Rows.sortedAll_old) (Nat.le_succ _) ⟨hlen, out, ep, a1, by simpa using he'⟩
        obtain ⟨ob, J2⟩ := J.lock upd_same trivial
        rw [upd_upd] at J2
        have hn : H (s.heap.objs.size + 1) = none := I.hok.fresh (Nat.le_succ _)
        exact ⟨.ref _, _, J2, rfl, q _ _ (Ex.new hn) (rp_list hn a2 (by rw [List.length_mergeSort]; exact hl))⟩
    · exact q.elim
  · exact q.elim
end
end DL
set_option Elab.async false
set_option linter.all false
set_option maxRecDepth 100000
set_option maxHeartbeats 2000000
namespace DL
open PySem PySem.Spec PyProof.Rows L2 LamX

/-! ### chains, minus -/
def eCh (g1 g2 : D → D → R D) (fa fb fc : Rho → R D) : Rho → R D := fun ρ => (fa ρ).bind fun a => (fb ρ).bind fun b => (g1 a b).bind fun z => (asB z).bind fun k => if k then (fc ρ).bind fun c => g2 b c else .ok (.bool false)
def mNeg : D → R D
  | .int i => okI (-i)
  | _ => .no
section
variable {X : Cx} {T : List (Addr × Str)} {W : WX} {e a b c : Expr} {fe fa fb fc : Rho → R D} {pos p p2 : Pos} {op op' : CmpOp} {g g' : D → D → R D}
theorem ch_reads {Q : VK} {σ : L2.St} {H : Hp} (t1 : Tame2 g) (t2 : Tame2 g') (hB : ∀ x y z, g' x y = .ok z → ∃ k, z = .bool k) (q : dE X.K T W (eCh g g' fa fb fc) σ H Q) :
    tChain (rD X.K T g) (rD X.K T g') (dE X.K T W fa) (dE X.K T W fb) (dE X.K T W fc) σ H Q := by
  obtain ⟨Hb, ρ, S, q⟩ := q
  refine ⟨Hb, ρ, S, ?_⟩
  unfold eCh at q
  cases ea : fa ρ with
  | no => rw [ea] at q; exact q
  | exc c => rw [ea] at q; exact q
  | ok x =>
    rw [ea, R.bind_ok] at q
    intro v1 H1 x1 r1
    refine ⟨Hb, ρ, S.mono x1, ?_⟩
    cases eb : fb ρ with
    | no => rw [eb] at q; exact q
    | exc c => rw [eb] at q; exact fun H' x => q H' (x1.trans x)
    | ok y =>
      rw [eb, R.bind_ok] at q
      intro v2 H2 x2 r2
      refine ⟨x, y, Rp.mono x2.e _ _ r1, r2, ?_⟩
      cases eg : g x y with
      | no => rw [eg] at q; exact q
      | exc c => exact (t1 x y c eg).elim
      | ok z =>
        rw [eg, R.bind_ok] at q
        cases z with
        | bool k =>
          intro v3 H3 x3 r3
          refine ⟨k, r3, ?_⟩
          have q : Res X.K T W (if k then (fc ρ).bind fun c => g' y c else .ok (.bool false)) σ H Q := q
          cases k with
          | false => exact q _ _ ((x1.trans x2).trans x3) rfl
          | true =>
            rw [if_pos rfl] at q
            refine ⟨Hb, ρ, (S.mono x1).mono (x2.trans x3), ?_⟩
            cases ec : fc ρ with
            | no => rw [ec] at q; exact q
            | exc c => rw [ec] at q; exact fun H' x => q H' (((x1.trans x2).trans x3).trans x)
            | ok w =>
              rw [ec, R.bind_ok] at q
              intro v4 H4 x4 r4
              refine ⟨y, w, Rp.mono (x3.trans x4).e _ _ r2, r4, ?_⟩
              cases eg2 : g' y w with
              | no => rw [eg2] at q; exact q
              | exc c => exact (t2 y w c eg2).elim
              | ok z => rw [eg2] at q; exact fun v H' x r => q v H' ((((x1.trans x2).trans x3).trans x4).trans x) r
        | _ => exact q.elim
theorem d_ch (ho : OpR X (compareOp op) (rD X.K T g)) (t1 : Tame2 g) (ho' : OpR X (compareOp op') (rD X.K T g')) (t2 : Tame2 g') (hB : ∀ x y z, g' x y = .ok z → ∃ k, z = .bool k) (ha : DE T X W a fa) (hb : DE T X W b fb) (hc : DE T X W c fc)
    (hm : lastMarks [op, op'] [b, c] = false := by kernel_rfl) : DE T X W (.Compare a [op, op'] [b, c] pos) (eCh g g' fa fb fc) :=
  PE.imp (pe_chain ho ho' ha hb hc hm) fun σ H Q q => ch_reads t1 t2 hB q
theorem dt_ch (ho : OpR X (compareOp op) (rD X.K T g)) (t1 : Tame2 g) (ho' : OpR X (compareOp op') (rD X.K T g')) (t2 : Tame2 g') (hB : ∀ x y z, g' x y = .ok z → ∃ k, z = .bool k) (ha : DE T X W a fa) (hb : DE T X W b fb) (hc : DE T X W c fc)
    (hm : lastMarks [op, op'] [b, c] = false := by kernel_rfl) : DT T X W (.Compare a [op, op'] [b, c] pos) (tVal (eCh g g' fa fb fc)) :=
  PT.imp (pt_chain ho ho' ha hb hc hm) fun σ H Q q => ch_reads t1 t2 hB (toB q)
theorem B_lt : ∀ x y z, mLt x y = .ok z → ∃ k, z = .bool k := fun x y z h => by unfold mLt at h; split at h <;> cases h <;> exact ⟨_, rfl⟩
theorem B_le : ∀ x y z, mLe x y = .ok z → ∃ k, z = .bool k := fun x y z h => by unfold mLe at h; split at h <;> cases h <;> exact ⟨_, rfl⟩
theorem d_neg (ha : DE T X W a fa) : DE T X W (.UnaryOp .USub a pos) (eUn mNeg fa) := by
  refine PE.imp (pe_un un_neg ha) fun σ H Q q => ?_
  obtain ⟨Hb, ρ, S, q⟩ := q
  refine ⟨Hb, ρ, S, ?_⟩
  unfold eUn at q
  cases ea : fa ρ with
  | no => rw [ea] at q; exact q
  | exc c => rw [ea] at q; exact q
  | ok x =>
    rw [ea, R.bind_ok] at q
    intro v H1 x1 r1
    cases x with
    | int i => cases r1; exact ⟨i, rfl, q _ H1 x1 rfl⟩
    | _ => exact q.elim
/-! ### the module's constants -/
theorem d_gint {x : Str} {i : Int} (h : ∃ t, X.mg x = some (.int i t)) (hg : X.env.kindOf x = some .globalImplicit := by kernel_rfl) (hd : (x == ("__debug__" : Str)) = false := by kernel_rfl) : DE T X W (.Name x pos) (eC (.int i)) := by
  obtain ⟨t, h⟩ := h
  exact d_konst (v := .int i) (pe_glob hg h ⟨t, rfl⟩ hd) fun _ => rfl
theorem d_gstr {x z : Str} (h : ∃ t, X.mg x = some (.str z t)) (hg : X.env.kindOf x = some .globalImplicit := by kernel_rfl) (hd : (x == ("__debug__" : Str)) = false := by kernel_rfl) (hl : z.length ≤ sizeLine := by decide +kernel) : DE T X W (.Name x pos) (eC (.str z)) := by
  obtain ⟨t, h⟩ := h
  exact d_konst (v := .str z) (pe_glob hg h ⟨t, rfl⟩ hd) fun _ => ⟨rfl, hl⟩
end
theorem takesN0 {X : Cx} : L2N.Takes X (fun _ _ _ _ => False) := fun _ _ x => by
  obtain ⟨_, _, _, _, _, _, _, _, _, _, _, _, _, _, _, _, z⟩ := x
  exact z.elim
/-! ### defs by name -/
structure FDx (P : Program) (w : World) (K : Frag) (mg : Str → Option Value) (base : Heap) (T : List (Addr × Str)) (k : Nat) (x : Str) (ps : List Str) (F : List D → R D) : Prop where
  glo : mg x = some (.ref (He.ga K x))
  kp : PySem.W.keepIn K (.ref (He.ga K x)) = true
  ok : ∃ fd, Binds K fd ps [] ∧ FnOk P w K mg base (L2N.CX P w) k (He.ga K x) fd ps (spD K T ps.length F)
section
variable {X : Cx} {T : List (Addr × Str)} {W : WX} {e : Expr} {es : List Expr} {fs : Rho → R (List D)} {F : List D → R D} {k m : Nat} {ps : List Str} {x : Str} {p pos : Pos}
theorem d_fx {n : Nat} (tk : L2N.Takes X W) (hr : Room m X.A) (G : FDx X.prog X.w X.K X.mg X.base T k x ps F) (ha : DA T X W (e :: es) fs) (hk : k ≤ m := by decide) (hn : ps.length = n := by kernel_rfl) (hl : (e :: es).length = ps.length := by kernel_rfl) (hg : X.env.kindOf x = some .globalImplicit := by kernel_rfl) (hdb : (x == ("__debug__" : Str)) = false := by kernel_rfl)
    (he : starEach (e :: es) X.env = (false, eval e X.env) :: starEach es X.env := by kernel_rfl) (hpl : (backTo pos (starEach es X.env)).any (·.1) = false := by kernel_rfl) :
    DE T X W (.Call (.Name x p) (e :: es) [] pos) (eCall (ar n F) fs) := by
  obtain ⟨fd, hb, G2⟩ := G.ok
  subst hn
  exact d_call tk (hr.mono hk) G2 G.glo G.kp hb ha hl hg hdb he hpl
end
theorem FDx.of_eq {P : Program} {w : World} {K : Frag} {mg : Str → Option Value} {base : Heap} {T : List (Addr × Str)} {k : Nat} {x : Str} {ps : List Str} {F G : List D → R D} (h : FDx P w K mg base T k x ps F) (e : F = G) : FDx P w K mg base T k x ps G := e ▸ h
/-- the facts of a row, by its lists -/
structure Rw (fa : List He.Fa) (fn : List He.DefD) (K : Frag) (mg : Str → Option Value) (base : Heap) : Prop where
  kin : K.In base
  ns : base.Ns mainGlobals mg
  says : He.SaysD fa fn K
section
variable {fa : List He.Fa} {fn : List He.DefD} {K : Frag} {mg : Str → Option Value} {base : Heap}
theorem Rw.glo (C : Rw fa fn K mg base) (i : Nat) {x : Str} (h : fa[i]? = some (.glo x) := by kernel_rfl) : mg x = some (.ref (He.ga K x)) := He.glo_ok C.kin C.ns (C.says.fact i h)
theorem Rw.free (C : Rw fa fn K mg base) (i : Nat) {x : Str} (h : fa[i]? = some (.free x) := by kernel_rfl) : mg x = none := He.free_ok C.kin C.ns (C.says.fact i h)
theorem Rw.int (C : Rw fa fn K mg base) (i : Nat) {x : Str} {j : Int} (h : fa[i]? = some (.int x j) := by kernel_rfl) : ∃ t, mg x = some (.int j t) := He.int_ok C.kin C.ns (C.says.fact i h)
theorem Rw.str (C : Rw fa fn K mg base) (i : Nat) {x z : Str} (h : fa[i]? = some (.str x z) := by kernel_rfl) : ∃ t, mg x = some (.str z t) := He.str_ok C.kin C.ns (C.says.fact i h)
theorem Rw.fd {P : Program} {w : World} {T : List (Addr × Str)} {k : Nat} {N ps : List Str} {g : Rho → Fl} (C : Rw fa fn K mg base) (i j : Nat) {x : Str} {d : He.DefD} (hd : fn[j]? = some d) (hx : d.at_ = (x, none)) (hq : d.dfl = []) (hk : d.kwd = []) (hg : fa[i]? = some (.glo x)) (S : FnScope N ps d.scope)
    (hb : ∀ (kV doc pm : Value) (an : Option Addr) (cdv ct : Value) (us : List Value), us.length = ps.length → bindArgs (PySem.W.fnOf d.name d.qual d.params d.body d.scope .none kV doc pm an cdv ct) ⟨us, []⟩ = pure (ps.zip us))
    (hbody : ∀ (cdv : Value) (A : Around) (outer : List Env) (s : Shared) (H : Hp) (E : XK), Room k (A.deeper (envOfC d.qual d.scope s.heap.objs.size (He.ga K x) cdv)) →
      DSs T (cxOf (L2N.CX P w) P w K mg base N d.qual d.scope (He.ga K x) cdv A outer s H E) (WD E) d.body g) : FDx P w K mg base T (k + 1) x ps (fun ds => fin (g (rho0 N.length ds))) := by
  obtain ⟨fd, F⟩ := C.says.def_ j hd
  have e1 : d.dvs K = [] := by unfold He.DefD.dvs; rw [hq]; rfl
  have e2 : d.kws K = [] := by unfold He.DefD.kws; rw [hk]; rfl
  have e3 : He.fAd K d.at_ = He.ga K x := by rw [hx]; rfl
  rw [e1, e2, e3] at F
  exact ⟨C.glo i hg, F.kp, fd, F.bindsN hb, fd_of F S hbody⟩
end
/-! ### a, b = e, [] -/
def sParM (i j : Nat) (f : Rho → R D) (fs : Rho → R (List D)) : Rho → Fl := fun ρ => (f ρ).thn ρ fun d => (fs ρ).thn ρ fun ds => if ds.length ≤ sizeLine then .nx ((ρ.set i (.dat d)).set j (.ml ds)) else .no
section
variable {X : Cx} {T : List (Addr × Str)} {W : WX} {a : Expr} {es : List Expr} {f : Rho → R D} {fs : Rho → R (List D)} {pos : Pos}
theorem s_parM (i j : Nat) {x y : Str} {px py pt pt2 pl : Pos} {kt k2 : Nat} (hc : X.calm = true) (hN : X.N.Nodup) (ha : DE T X W a f) (hes : DA T X W es fs) (hi : X.N[i]? = some x := by kernel_rfl) (hj : X.N[j]? = some y := by kernel_rfl) (hij : i ≠ j := by decide)
    (hx : X.env.scope.names.lookup x = some .local := by kernel_rfl) (hy : X.env.scope.names.lookup y = some .local := by kernel_rfl)
    (hw : swappedStores [.Tuple [.Name x px, .Name y py] kt pt] (.Tuple [a, .List es pl] k2 pt2) X.env = pure (some [x, y]) := by kernel_rfl)
    (hs : swapsWithSole [.Tuple [.Name x px, .Name y py] kt pt] (.Tuple [a, .List es pl] k2 pt2) pos.line X.env = pure false := by kernel_rfl)
    (s1 : starEach [a, .List es pl] X.env = (false, eval a X.env) :: starEach [.List es pl] X.env := by kernel_rfl) (s2 : starEach [.List es pl] X.env = (false, eval (.List es pl) X.env) :: starEach [] X.env := by kernel_rfl) :
    DS T X W (.Assign [.Tuple [.Name x px, .Name y py] kt pt] (.Tuple [a, .List es pl] k2 pt2) pos) (sParM i j f fs) := by
  refine PS.imp (ps_par (i := i) (j := j) hc hN hi hj hij hx hy (pa_cons ha (pa_cons (pe_lst hes) pa_nil s2) s1) hw hs) fun E σ H q => ?_
  obtain ⟨Hb, ρ, S, q⟩ := q
  refine ⟨Hb, ρ, S, ?_⟩
  unfold sParM at q
  cases ef : f ρ with
  | no => rw [ef] at q; exact q
  | exc c => rw [ef] at q; exact fun H' x => q σ H' (S.mono x)
  | ok d =>
    rw [ef] at q
    intro v H1 x1 r1
    refine ⟨Hb, ρ, S.mono x1, ?_⟩
    have q : ResS X.K T W Hb ((fs ρ).thn ρ fun ds => if ds.length ≤ sizeLine then Fl.nx ((ρ.set i (.dat d)).set j (.ml ds)) else .no) E := q
    cases eg : fs ρ with
    | no => rw [eg] at q; exact q
    | exc c => rw [eg] at q; exact fun H' x => q σ H' ((S.mono x1).mono x)
    | ok ds =>
      rw [eg] at q
      intro vs H2 x2 r2
      have q : ResS X.K T W Hb (if ds.length ≤ sizeLine then Fl.nx ((ρ.set i (.dat d)).set j (.ml ds)) else .no) E := q
      by_cases hl : ds.length ≤ sizeLine
      · rw [if_pos hl] at q
        refine ⟨by rw [r2.len]; exact hl, fun p hp => ⟨v, .ref p, rfl, ?_⟩⟩
        have S2 := (S.mono x1).mono x2
        have xn := Ex.new (T := T) (o := .lst vs) hp
        have S3 := (S2.mono xn).setD i (Rp.mono (x2.trans xn).e _ _ r1)
        refine q _ _ (S3.setM j upd_same (RpL.mono xn.e _ _ r2) (fun o hb => Classical.byContradiction fun h => ?_) fun k u ek ou hz => ?_)
        · rw [S2.ext p o hb fun ps z => h ⟨ps, z⟩] at hp
          cases hp
        · by_cases hki : i = k
          · subst hki
            have hi2 : i < ρ.length := by
              have := (List.getElem?_eq_some_iff.mp ek).1
              simpa using this
            rw [List.getElem?_set_self hi2] at ek
            cases ek; cases ou
          · rw [List.getElem?_set_ne hki] at ek
            rw [getD_set_ne hki] at hz
            obtain ⟨zs, h2⟩ := S2.own_lst ek ou hz
            rw [hp] at h2; cases h2
      · rw [if_neg hl] at q; exact q.elim
end
end DL
set_option Elab.async false
set_option linter.all false
set_option maxRecDepth 100000
set_option maxHeartbeats 2000000
namespace DL
open PySem PySem.Spec PyProof.Rows L2 LamX
/-- the key k as a tuple at an address -/
def KR (h : Heap) (k : NestedKey) (a : Addr) : Prop := NestedIs h k (.ref a) ∧ k.depth ≤ 8
abbrev pb (m : Nat) (h : Int) (c : Nat) : SetTable.Probe := nth m (runAt m (SetTable.bits h % (m + 1)) (SetTable.bits h)) c
section
variable {P : Program} {w : World} {A : Around} {E : Value → Shared → Prop} {s : Shared}
mutual
theorem noClass_key : ∀ (k : NestedKey) (v : Value) (n : Nat) (Q : Bool → Shared → Prop), NestedIs s.heap k v → k.depth ≤ n → Q false s → wpAny (model P w) A (ofAClassStatement n v) Q E s
  | .none, _, n, Q, x, _, h => by cases x; cases n <;> exact wpAny_pure h
  | .num i, _, n, Q, x, _, h => by cases x <;> cases n <;> exact wpAny_pure h
  | .text y, _, n, Q, x, _, h => by cases x; cases n <;> exact wpAny_pure h
  | .tup ks, _, n, Q, x, hn, h => by
    cases x with
    | @tup a o vs m _ hg hc hd hk =>
      simp only [NestedKey.depth] at hn
      cases n with
      | zero => omega
      | succ n =>
        have hT : s.TypeIs (.ref a) "tuple" := ⟨o, hg, hc⟩
        unfold ofAClassStatement
        refine wpAny_bind (wpAny_typeOf hT ?_)
        dsimp only
        have e : (("tuple" : String) == "tuple") = true := by decide
        simp only [e, if_true, Bool.not_true, Bool.false_eq_true, if_false]
        try refine wpAny_bind (wpAny_pure ?_)
        try simp only [Bool.not_true, Bool.false_eq_true, if_false]
        show wpAny _ _ (seqItems? (.ref a) >>= _) _ _ s
        refine wpAny_bind (wpAny_seqItems hg hd ?_)
        dsimp only
        refine wpAny_bind ?_
        show wpAny _ _ (forIn vs _ _) _ _ s
        rw [← Array.forIn_toList]
        have all := noClass_keys ks vs.toList n hk (by omega)
        refine wpAny_forIn_list _ (fun rest r s' => r.1 = none ∧ s' = s ∧ ∀ v ∈ rest, ∀ Q, Q false s → wpAny (model P w) A (ofAClassStatement n v) Q E s) _ ?_ ?_ _ _ ⟨rfl, rfl, all⟩
        · rintro v rest r s' ⟨hr, rfl, hall⟩
          refine wpAny_bind (hall v List.mem_cons_self _ ?_)
          simp only [Bool.false_eq_true, if_false]
          exact wpAny_pure ⟨rfl, rfl, fun u hu' => hall u (List.mem_cons_of_mem _ hu')⟩
        · rintro ⟨r1, r2⟩ s' ⟨hr, rfl, _⟩
          simp only at hr
          subst hr
          exact wpAny_pure h
theorem noClass_keys : ∀ (ks : List NestedKey) (vs : List Value) (n : Nat), NestedAll s.heap ks vs → NestedKey.depthAll ks ≤ n → ∀ v ∈ vs, ∀ (Q : Bool → Shared → Prop), Q false s → wpAny (model P w) A (ofAClassStatement n v) Q E s
  | [], _, n, x, _, v, hv => by cases x; cases hv
  | k :: ks, _, n, x, hn, v, hv => by
    cases x with
    | cons x1 x2 =>
      simp only [NestedKey.depthAll] at hn
      intro Q h
      rcases List.mem_cons.mp hv with e | hv
      · rw [e]; exact noClass_key k _ n Q x1 (by omega) h
      · exact noClass_keys ks _ n x2 (by omega) v hv Q h
end
mutual
/-- whether a key's hash is by value: either answer, nothing else happens -/
theorem byVal_key : ∀ (k : NestedKey) (v : Value) (n : Nat) (Q : Bool → Shared → Prop), NestedIs s.heap k v → (∀ b, Q b s) → wpAny (model P w) A (hashByValue n v) Q E s
  | .none, _, n, Q, x, h => by cases x; cases n <;> exact wpAny_pure (h _)
  | .num i, _, n, Q, x, h => by cases x <;> cases n <;> exact wpAny_pure (h _)
  | .text y, _, n, Q, x, h => by cases x; cases n <;> exact wpAny_pure (h _)
  | .tup ks, _, n, Q, x, h => by
    cases x with
    | @tup a o vs m _ hg hc hd hk =>
      cases n with
      | zero => exact wpAny_pure (h _)
      | succ n =>
        have hT : s.TypeIs (.ref a) "tuple" := ⟨o, hg, hc⟩
        unfold hashByValue
        refine wpAny_bind (wpAny_specialOf hT F.slot_tuple_hash.lookup ?_)
        show wpAny _ _ (seqItems? (.ref a) >>= _) _ _ s
        refine wpAny_bind (wpAny_seqItems hg hd ?_)
        refine wpAny_bind ?_
        show wpAny _ _ (forIn vs _ _) _ _ s
        rw [← Array.forIn_toList]
        have all := byVal_keys ks vs.toList n hk
        refine wpAny_forIn_list _ (fun rest r s' => r.1 = none ∧ s' = s ∧ ∀ v ∈ rest, ∀ Q, (∀ b, Q b s) → wpAny (model P w) A (hashByValue n v) Q E s) _ ?_ ?_ _ _ ⟨rfl, rfl, all⟩
        · rintro v rest r s' ⟨hr, rfl, hall⟩
          refine wpAny_bind (hall v List.mem_cons_self _ fun b => ?_)
          cases b with
          | true =>
            simp only [Bool.not_true, Bool.false_eq_true, if_false]
            exact wpAny_pure ⟨rfl, rfl, fun u hu' => hall u (List.mem_cons_of_mem _ hu')⟩
          | false =>
            simp only [Bool.not_false, if_true]
            exact wpAny_pure (wpAny_pure (h _))
        · rintro ⟨r1, r2⟩ s' ⟨hr, rfl, _⟩
          simp only at hr
          subst hr
          exact wpAny_pure (h _)
theorem byVal_keys : ∀ (ks : List NestedKey) (vs : List Value) (n : Nat), NestedAll s.heap ks vs → ∀ v ∈ vs, ∀ (Q : Bool → Shared → Prop), (∀ b, Q b s) → wpAny (model P w) A (hashByValue n v) Q E s
  | [], _, n, x, v, hv => by cases x; cases hv
  | k :: ks, _, n, x, v, hv => by
    cases x with
    | cons x1 x2 =>
      intro Q h
      rcases List.mem_cons.mp hv with e | hv
      · rw [e]; exact byVal_key k _ n Q x1 h
      · exact byVal_keys ks _ n x2 v hv Q h
end
theorem byv_step {β : Type} {p : Prop} [Decidable p] {x : Value} {k : NestedKey} (hx : NestedIs s.heap k x) {f : Bool → Sem β} {Q : β → Shared → Prop} (h : ∀ b, wpAny (model P w) A (f b) Q E s) :
    wpAny (model P w) A ((if p then hashByValue 8 x else pure true) >>= f) Q E s := by
  refine wpAny_bind ?_
  by_cases c : p
  · exact wp_if_pos c (byVal_key k x 8 _ hx h)
  · exact wp_if_neg c (wpAny_pure (h true))
theorem byv_step2 {β : Type} {p : Prop} [Decidable p] {x : Value} {k : NestedKey} (hx : NestedIs s.heap k x) {f : Bool → Sem β} {Q : β → Shared → Prop} (h : ∀ b, wpAny (model P w) A (f b) Q E s) :
    wpAny (model P w) A (if p then hashByValue 8 x >>= f else pure true >>= f) Q E s := by
  by_cases c : p
  · exact wp_if_pos c (wpAny_bind (byVal_key k x 8 _ hx h))
  · exact wp_if_neg c (wpAny_bind (wpAny_pure (h true)))
theorem tabOk_plain {t : SetTable} {hs : List Int} (T : TabOk t hs) : TabOk { t with plain := false } hs := ⟨T.ris, T.dm, T.sz, T.mok, T.bd, T.reach⟩
/-- a search among keys shows nothing -/
theorem seen_key {k : NestedKey} {b : Addr} {Q : Bool → Shared → Prop} (hk : KR s.heap k b) {ys : List Value} (hy : ∀ y ∈ ys, ∃ k' c, y = Value.ref c ∧ KR s.heap k' c) (h : Q false s) :
    wpAny (model P w) A (searchCouldBeSeen (.ref b) ys) Q E s := by
  unfold searchCouldBeSeen
  refine wpAny_bind ?_
  refine wpAny_forIn_list _ (fun rest r s' => r.1 = none ∧ s' = s ∧ ∀ y ∈ rest, ∃ k' c, y = Value.ref c ∧ KR s.heap k' c) _ ?_ ?_ _ _ ⟨rfl, rfl, hy⟩
  · rintro v rest r s' ⟨hr, rfl, hall⟩
    obtain ⟨k', c, rfl, hc⟩ := hall v List.mem_cons_self
    have rest' : ∀ y ∈ rest, ∃ k' c, y = Value.ref c ∧ KR s'.heap k' c := fun u hu' => hall u (List.mem_cons_of_mem _ hu')
    dsimp only
    by_cases hv : (b == c || (carriedByValue (.ref b) && carriedByValue (.ref c))) = true
    · exact wp_if_pos hv (wpAny_pure ⟨rfl, rfl, rest'⟩)
    · refine wp_if_neg hv ?_
      refine wpAny_bind ((nestedKind P w).quiet hk ?_)
      simp only [Bool.not_true, Bool.false_eq_true, if_false]
      refine wpAny_bind ((nestedKind P w).quiet hc ?_)
      simp only [Bool.not_true, Bool.false_eq_true, if_false]
      refine wpAny_bind (noClass_key k _ 8 _ hk.1 hk.2 ?_)
      simp only [Bool.false_eq_true, if_false]
      refine wpAny_bind (noClass_key k' _ 8 _ hc.1 hc.2 ?_)
      simp only [Bool.false_eq_true, if_false]
      exact wpAny_pure ⟨rfl, rfl, rest'⟩
  · rintro ⟨r1, r2⟩ s' ⟨hr, rfl, _⟩
    simp only at hr
    subst hr
    exact wpAny_pure h
def kRows (w : World) (L : List (Addr × NestedKey)) : List (Int × Value) := L.map fun p => (p.2.hash w, Value.ref p.1)
structure SK (w : World) (h : Heap) (a : Addr) (L : List (Addr × NestedKey)) (es : Array (Int × Value)) (ep : Nat) (t : SetTable) : Prop where
  ob : ∃ o, h.get? a = some o ∧ o.ExactSet ∧ o.data = .set es ep t
  rows : es.toList = kRows w L
  tab : TabOk t (L.map fun p => p.2.hash w)
  nd : (L.map (·.2)).Nodup
  tup : ∀ p ∈ L, KR h p.2 p.1
  led : w.params.followText "set-order" = true ∨ t.led = true
  room : L.length * 5 < t.mask * 3
  few : L.length < 64
variable {a : Addr} {L : List (Addr × NestedKey)} {es : Array (Int × Value)} {ep : Nat} {t : SetTable}
theorem SK.size (R : SK w s.heap a L es ep t) : es.size = L.length := by
  have h := congrArg List.length R.rows
  unfold kRows at h
  rw [Array.length_toList, List.length_map] at h
  exact h
theorem SK.fits (R : SK w s.heap a L es ep t) : t.fits es.size = true := by
  have h1 := R.tab.sz
  rw [List.length_map] at h1
  have h2 := R.size
  have h3 := R.room
  unfold SetTable.fits SetTable.fill
  rw [R.tab.dm, Bool.and_eq_true, beq_iff_eq, decide_eq_true_eq]
  show t.place.size = es.size ∧ t.place.size + 0 ≤ t.mask
  omega
theorem SK.entry (R : SK w s.heap a L es ep t) {i : Nat} {p : Addr × NestedKey} (h : L[i]? = some p) : es[i]? = some (p.2.hash w, Value.ref p.1) := by
  rw [← Array.getElem?_toList, R.rows]
  unfold kRows
  rw [List.getElem?_map, h] <;> rfl
theorem SK.gw (R : SK w s.heap a L es ep t) : ¬ t.gaveWay = true := by
  unfold SetTable.gaveWay
  rw [mask_odd R.tab.mok]
  decide
/-- THE SEARCH: from the c-th step of the way on -/
theorem sk_from (R : SK w s.heap a L es ep t) {x : Addr} {k : NestedKey} (hx : KR s.heap k x) (hu : A.units + 8 < cLine) {K : Nat} (hKf : K < 10 * SetTable.turns t.mask)
    (hK : way t.mask (k.hash w) K ∉ t.place.toList) (hKb : ∀ c, c < K → way t.mask (k.hash w) c ∈ t.place.toList) {Q : SetFound → Shared → Prop}
    (hin : k ∈ L.map (·.2) → Q (.there none) s) (hout : k ∉ L.map (·.2) → Q (.free (way t.mask (k.hash w) K) false) s) :
    ∀ (f c : Nat) (stand : Option SetTable.Probe), stand.getD (t.probeStart (k.hash w)) = pb t.mask (k.hash w) c → c ≤ K → K - c < f →
      (∀ (i : Nat) p, L[i]? = some p → p.2 = k → ∃ c', c ≤ c' ∧ c' < K ∧ t.place.toList[i]? = some (way t.mask (k.hash w) c')) →
      wpAny (model P w) A (setSearchFrom a (.ref x) (k.hash w) true f stand) Q E s
  | 0, c, stand, _, _, hf, _ => absurd hf (Nat.not_lt_zero _)
  | f + 1, c, stand, hst, hc, hf, hre => by
    obtain ⟨o, ho, hex, hd⟩ := R.ob
    rw [setSearchFrom_succ]
    refine wpAny_bind (wpAny_setState_of ho hd R.fits ?_)
    dsimp only
    refine wp_if_neg R.gw ?_
    try refine wpAny_bind (wpAny_pure ?_)
    have hnd : (pb t.mask (k.hash w) c).dummy = none := by
      have key : ∀ (n : Nat) (p : SetTable.Probe), p.dummy = none → (nth t.mask p n).dummy = none := by
        intro n
        induction n with
        | zero => intro p h; exact h
        | succ n ih =>
          intro p h
          refine ih (adv t.mask p) ?_
          unfold adv
          split <;> exact h
      exact key c _ rfl
    have sh : ∀ q, nth t.mask (pb t.mask (k.hash w) c) q = pb t.mask (k.hash w) (c + q) := fun q => (nth_add t.mask c _ q).symm
    have e1 : ∀ q, (nth t.mask (pb t.mask (k.hash w) c) q).j = way t.mask (k.hash w) (c + q) := fun q => congrArg SetTable.Probe.j (sh q)
    have spec := go_spec t R.tab.ris R.tab.dm (fun i => (es[i]?.map (·.1)).getD 0) (k.hash w) (10 * SetTable.turns t.mask) (K - c) _ hnd (by omega)
      (fun q hq => by rw [e1]; exact hKb (c + q) (by omega)) (by rw [e1, show c + (K - c) = K by omega]; exact hK)
    have hashAt : ∀ (i : Nat) p, L[i]? = some p → (fun i => (es[i]?.map (·.1)).getD 0) i = p.2.hash w := fun i p hp => by
      show (es[i]?.map (·.1)).getD 0 = _
      rw [R.entry hp] <;> rfl
    rcases spec with ⟨q, i, hq, hi, hh, hno, hpr⟩ | ⟨hno, hpr⟩
    · -- a candidate
      have hpr' : t.probe (fun i => (es[i]?.map (·.1)).getD 0) (k.hash w) (stand.getD (t.probeStart (k.hash w))) = some (.candidate (way t.mask (k.hash w) (c + q)) i (pb t.mask (k.hash w) (c + (q + 1)))) := by
        rw [hst, ← e1, ← sh]
        exact hpr
      rw [hpr']
      dsimp only
      rw [e1] at hi
      -- the entry
      have hil : i < L.length := by
        have h1 : i < t.place.toList.length := (List.getElem?_eq_some_iff.mp hi).1
        have h2 := R.tab.sz
        rw [List.length_map] at h2
        rw [Array.length_toList] at h1
        omega
      have hp : L[i]? = some L[i] := List.getElem?_eq_getElem hil
      generalize hpe : L[i] = p at hp
      have hmem : p ∈ L := List.mem_of_getElem? hp
      have hpt := R.tup p hmem
      have rest : wpAny (model P w) A (searchRest a (.ref x) (k.hash w) true f es t (way t.mask (k.hash w) (c + q)) i (pb t.mask (k.hash w) (c + (q + 1)))) Q E s := by
        unfold searchRest
        rw [R.entry hp]
        dsimp only
        refine wpAny_bind (wpAny_holding ((nestedKind P w).eqBool hu hpt hx ?_))
        refine wpAny_bind (wpAny_setState_of ho hd R.fits ?_)
        dsimp only
        by_cases hkk : p.2 = k
        · refine wp_if_pos (by simp [hkk]) ?_
          refine wpAny_pure (hin ?_)
          exact List.mem_map.mpr ⟨p, hmem, hkk⟩
        · refine wp_if_neg (by simp [hkk]) ?_
          try refine wpAny_bind (wpAny_pure ?_)
          rw [sameMem]
          dsimp only
          have hsl : t.slot (way t.mask (k.hash w) (c + q)) = .live i := slot_live R.tab.ris hi
          simp only [if_true, hsl, R.entry hp]
          refine wpAny_bind (wpAny_isSame_ref_self (wpAny_bind (wpAny_pure ?_)))
          simp only [if_true]
          refine wp_if_neg (by simp [hkk]) ?_
          refine sk_from R hx hu hKf hK hKb hin hout f (c + (q + 1)) _ rfl (by omega) (by omega) fun i0 p0 h0 hk0 => ?_
          obtain ⟨c', a1, a2, a3⟩ := hre i0 p0 h0 hk0
          refine ⟨c', ?_, a2, a3⟩
          -- it isn't passed
          rcases Nat.lt_or_ge c' (c + q) with z | z
          · exfalso
            refine hno (c' - c) i0 (by omega) (by rw [e1, show c + (c' - c) = c' by omega]; exact a3) ?_
            exact (hashAt i0 p0 h0).trans (congrArg (NestedKey.hash w) hk0)
          · rcases Nat.lt_or_ge (c + q) c' with y | y
            · omega
            · exfalso
              have ec : c' = c + q := Nat.le_antisymm y z
              rw [ec] at a3
              have s0 := slot_live R.tab.ris a3
              rw [hsl] at s0
              injection s0 with s0
              rw [← s0, hp] at h0
              exact hkk ((congrArg Prod.snd (Option.some.inj h0)).trans hk0)
      by_cases hl : t.led = true
      · refine wp_if_neg (by simp [hl]) ?_
        try refine wpAny_bind (wpAny_pure ?_)
        exact rest
      · refine wp_if_pos (by simp [hl]) ?_
        refine wpAny_bind (seen_key hx (fun y hy => ?_) ?_)
        · obtain ⟨e, he, ee⟩ := List.mem_map.mp hy
          have he1 : e ∈ es ∧ e.1 = k.hash w := by simpa using he
          have he2 : e ∈ es.toList := by simpa using he1.1
          rw [R.rows] at he2
          obtain ⟨p2, hp2, e2⟩ := List.mem_map.mp he2
          refine ⟨p2.2, p2.1, ?_, R.tup p2 hp2⟩
          rw [← ee, ← e2]
        · refine wp_if_neg (by decide) ?_
          try refine wpAny_bind (wpAny_pure ?_)
          exact rest
    · -- the empty slot
      have hpr' : t.probe (fun i => (es[i]?.map (·.1)).getD 0) (k.hash w) (stand.getD (t.probeStart (k.hash w))) = some (.empty (way t.mask (k.hash w) K) none) := by
        have e2 : way t.mask (k.hash w) K = (nth t.mask (pb t.mask (k.hash w) c) (K - c)).j := by
          rw [e1, show c + (K - c) = K by omega]
        rw [hst, e2]
        exact hpr
      rw [hpr']
      dsimp only
      refine wpAny_pure (hout fun hm => ?_)
      obtain ⟨p0, h0, hk0⟩ := List.mem_map.mp hm
      obtain ⟨i0, hi0, e0⟩ := List.getElem_of_mem h0
      have h00 : L[i0]? = some p0 := by rw [List.getElem?_eq_getElem hi0, e0]
      obtain ⟨c', a1, a2, a3⟩ := hre i0 p0 h00 hk0
      refine hno (c' - c) i0 (by omega) (by rw [e1, show c + (c' - c) = c' by omega]; exact a3) ?_
      exact (hashAt i0 p0 h00).trans (congrArg (NestedKey.hash w) hk0)

/-- the search as adding asks for it -/
theorem sk_at (R : SK w s.heap a L es ep t) {x : Addr} {k : NestedKey} (hx : KR s.heap k x) (hu : A.units + 8 < cLine) {Q : SetFound → Shared → Prop}
    (hin : k ∈ L.map (·.2) → Q (.there none) s)
    (hout : ∀ K, k ∉ L.map (·.2) → way t.mask (k.hash w) K ∉ t.place.toList → (∀ c, c < K → way t.mask (k.hash w) c ∈ t.place.toList) → Q (.free (way t.mask (k.hash w) K) false) s) :
    wpAny (model P w) A (setSearch a (.ref x) (k.hash w) true) Q E s := by
  have hroom := R.room
  obtain ⟨K, hKf, hK, hKb⟩ := R.tab.first (by rw [List.length_map]; omega) (k.hash w)
  have hbig : K < 100000 := by
    have : 10 * SetTable.turns t.mask ≤ 1420 := by
      unfold SetTable.turns
      rcases R.tab.mok with e | e | e <;> omega
    omega
  unfold setSearch
  refine sk_from R hx hu hKf hK hKb hin (fun hn => hout K hn hK hKb) 100000 0 none rfl (Nat.zero_le _) (by omega) fun i p hp hk => ?_
  have hi : (L.map fun p => p.2.hash w)[i]? = some (k.hash w) := by rw [List.getElem?_map, hp, ← hk] <;> rfl
  have hil : i < t.place.toList.length := by
    have h1 : i < L.length := (List.getElem?_eq_some_iff.mp hp).1
    have h2 := R.tab.sz
    rw [List.length_map] at h2
    rw [Array.length_toList]
    omega
  have hj := List.getElem?_eq_getElem hil
  obtain ⟨c, hc, e⟩ := R.tab.before hK hi hj
  exact ⟨c, Nat.zero_le _, hc, by rw [hj, e]⟩
end
section
variable {P : Program} {w : World} {A : Around} {E : Value → Shared → Prop} {s : Shared}
/-- a tuple isn't the set -/
theorem kr_same {h h' : Heap} {k : NestedKey} {a b : Addr} {o : Obj} {es : Array (Int × Value)} {ep : Nat} {t : SetTable} (hb : KR h k b) (ho : h.get? a = some o) (hd : o.data = .set es ep t) (hs : Heap.SameBut a h h') : KR h' k b := by
  refine ⟨NestedIs.at (fun c oc vs n hc hcd => ?_) k _ hb.1, hb.2⟩
  refine (hs.2 c fun e => ?_).trans hc
  subst e
  rw [ho] at hc
  cases hc
  rw [hd] at hcd
  cases hcd
theorem kRows_put (L : List (Addr × NestedKey)) (p : Nat) (x : Addr) (k : NestedKey) : kRows w (L.take p ++ (x, k) :: L.drop p) = (kRows w L).take p ++ (k.hash w, Value.ref x) :: (kRows w L).drop p := by
  unfold kRows
  rw [List.map_append, List.map_cons, List.map_take, List.map_drop]
theorem kRows_order (L : List (Addr × NestedKey)) (es : Array (Int × Value)) (order : Array Nat) (hr : es.toList = kRows w L) (hp : order.toList.Perm (List.range L.length)) :
    ∃ L2, (order.filterMap (es[·]?)).toList = kRows w L2 ∧ L2.Perm L ∧ (L2.map fun p => p.2.hash w) = order.toList.map fun i => (es.map (·.1)).getD i 0 := by
  have hsz : es.size = L.length := by
    have h := congrArg List.length hr
    unfold kRows at h
    rw [Array.length_toList, List.length_map] at h
    exact h
  have ent : ∀ i (h : i < L.length), es[i]? = some ((L[i]).2.hash w, Value.ref (L[i]).1) := fun i h => by
    rw [← Array.getElem?_toList, hr]
    unfold kRows
    rw [List.getElem?_map, List.getElem?_eq_getElem h] <;> rfl
  have key : ∀ l : List Nat, (∀ i ∈ l, i < L.length) → ∃ L2 : List (Addr × NestedKey), l.filterMap (fun i => es[i]?) = kRows w L2 ∧ L2 = l.filterMap (fun i => L[i]?) ∧ (L2.map fun p => p.2.hash w) = l.map fun i => (es.map (·.1)).getD i 0 := by
    intro l
    induction l with
    | nil => intro _; exact ⟨[], rfl, rfl, rfl⟩
    | cons i l ih =>
      intro hl
      have hi := hl i List.mem_cons_self
      obtain ⟨L2, e1, e2, e3⟩ := ih fun j hj => hl j (List.mem_cons_of_mem _ hj)
      refine ⟨L[i] :: L2, ?_, ?_, ?_⟩
      · rw [List.filterMap_cons_some (ent i hi), e1] <;> rfl
      · rw [List.filterMap_cons_some (List.getElem?_eq_getElem hi), e2]
      · rw [List.map_cons, List.map_cons, e3]
        have hi2 : i < (es.map (·.1)).size := by rw [Array.size_map, hsz]; exact hi
        have e4 : (es.map (·.1)).getD i 0 = (L[i]).2.hash w := by
          have e5 : (es.map (·.1))[i]? = some ((L[i]).2.hash w) := by rw [Array.getElem?_map, ent i hi] <;> rfl
          simp [Array.getD_eq_getD_getElem?, e5]
        rw [e4]
  obtain ⟨L2, e1, e2, e3⟩ := key order.toList fun i hi => List.mem_range.mp (hp.mem_iff.mp hi)
  refine ⟨L2, by first | (rw [Array.toList_filterMap]; exact e1) | simpa using e1, ?_, e3⟩
  have h1 : L2.Perm ((List.range L.length).filterMap fun i => L[i]?) := by
    rw [e2]
    exact hp.filterMap _
  have h2 : (List.range L.length).filterMap (fun i => L[i]?) = L := by
    have key2 : ∀ n, n ≤ L.length → (List.range n).filterMap (fun i => L[i]?) = L.take n := by
      intro n
      induction n with
      | zero => intro _; rfl
      | succ n ih =>
        intro hn
        have hlt : n < L.length := hn
        rw [List.range_succ, List.filterMap_append, ih (Nat.le_of_lt hlt), List.take_succ, List.getElem?_eq_getElem hlt]
        rw [List.filterMap_cons_some (List.getElem?_eq_getElem hlt)] <;> rfl
    rw [key2 L.length (Nat.le_refl _), List.take_length]
  rw [h2] at h1
  exact h1

variable {a : Addr} {L : List (Addr × NestedKey)} {es : Array (Int × Value)} {ep : Nat} {t : SetTable}
/-- the table laid anew, larger -/
theorem sk_relay {o : Obj} (ho : s.heap.get? a = some o) (hex : o.ExactSet) (hd : o.data = .set es ep t) (hrows : es.toList = kRows w L) (hsz : t.place.size = es.size) (hdm : t.dummies = #[]) (hfl : es.size ≤ t.mask)
    (nd : (L.map (·.2)).Nodup) (tup : ∀ p ∈ L, KR s.heap p.2 p.1) (ld : w.params.followText "set-order" = true ∨ t.led = true) (few : L.length < 64) {wanted M : Nat}
    (hw : SetTable.sizeAbove wanted - 1 = M) (hM : MaskOk M) (hw2 : SetTable.sizeAbove wanted ≤ 128) (hn : L.length * 5 < M * 3) {Q : Unit → Shared → Prop}
    (hQ : ∀ h' L' es' ep' t', Heap.SameBut a s.heap h' → SK w h' a L' es' ep' t' → L'.Perm L → Q () { s with heap := h' }) : wpAny (model P w) A (setRelay a wanted) Q E s := by
  have hsl : es.size = L.length := by
    have h := congrArg List.length hrows
    unfold kRows at h
    rw [Array.length_toList, List.length_map] at h
    exact h
  have hfits : t.fits es.size = true := by
    unfold SetTable.fits SetTable.fill
    rw [hdm, Bool.and_eq_true, beq_iff_eq, decide_eq_true_eq]
    show t.place.size = es.size ∧ t.place.size + 0 ≤ t.mask
    omega
  obtain ⟨t', order, e, hp, T, em, el, ep', ed⟩ := relaid_ok t (hs := es.map (·.1)) (wanted := wanted) hw hM (by rw [Array.size_map, hsl]; omega)
  rw [Array.size_map, hsl] at hp
  obtain ⟨L2, r1, r2, r3⟩ := kRows_order L es order hrows hp
  rw [← r3] at T
  have hs2 : (order.filterMap (es[·]?)).size = es.size := by
    have h := congrArg List.length r1
    unfold kRows at h
    rw [Array.length_toList, List.length_map, r2.length_eq] at h
    rw [h, hsl]
  rw [setRelay_eq]
  refine wpAny_bind (wpAny_setState_of ho hd hfits ?_)
  dsimp only
  refine wp_if_neg (by rw [sizeLine_eq]; omega) ?_
  try refine wpAny_bind (wpAny_pure ?_)
  rw [e]
  dsimp only
  refine wpAny_bind ?_
  refine wp_if_neg (by rw [hs2]; simp) ?_
  try refine wpAny_bind (wpAny_pure ?_)
  refine wpAny_pure ?_
  dsimp only
  refine wpAny_storeSet_of ho hd ?_ (by rw [hs2, hsl, sizeLine_eq]; omega)
  have sb : Heap.SameBut a s.heap (s.heap.update a (Obj.putSet (order.filterMap (es[·]?)) t')) := Heap.SameBut.update ..
  refine hQ _ L2 (order.filterMap (es[·]?)) (ep + 1) t' sb ?_ r2
  refine ⟨⟨_, store_at ho hd, ⟨hex.1, hex.2.1, hex.2.2⟩, rfl⟩, r1, T, ?_, fun p hpm => kr_same (tup p (r2.mem_iff.mp hpm)) ho hd sb, by rw [el]; exact ld, ?_, by rw [r2.length_eq]; exact few⟩
  · exact (r2.map (·.2)).nodup_iff.mpr nd
  · rw [r2.length_eq, em]
    exact hn

/-- ADDING -/
theorem sk_add (R : SK w s.heap a L es ep t) {x : Addr} {k : NestedKey} (hx : KR s.heap k x) (hu : A.units + 8 < cLine) (hfew : L.length + 1 < 64) {Q : Bool → Shared → Prop}
    (hQ : ∀ b h' L' es' ep' t', Heap.SameBut a s.heap h' → SK w h' a L' es' ep' t' → (k ∈ L.map (·.2) → L' = L) → (k ∉ L.map (·.2) → L'.Perm ((x, k) :: L)) → Q b { s with heap := h' }) :
    wpAny (model P w) A (setAddHashed a (.ref x) (k.hash w)) Q E s := by
  obtain ⟨o, ho, hex, hd⟩ := R.ob
  have hsl := R.size
  have hroom := R.room
  unfold setAddHashed
  refine wpAny_holding ?_
  rw [show (100000 : Nat) = 99999 + 1 from rfl, setAddHashedIn_succ]
  refine wpAny_bind (wpAny_setState_of ho hd R.fits ?_)
  dsimp only
  refine wp_if_neg (by simp [byScan, Value.scannable]) ?_
  try refine wpAny_bind (wpAny_pure ?_)
  refine wpAny_bind (sk_at R hx hu (fun hm => ?_) fun K hm hK hb => ?_)
  · dsimp only
    exact wpAny_pure (hQ false s.heap L es ep t (Heap.SameBut.refl a s.heap) R (fun _ => rfl) fun z => absurd hm z)
  · dsimp only
    refine wpAny_bind (wpAny_setState_of ho hd R.fits ?_)
    dsimp only
    obtain ⟨q1, q2, q3, q4, q5, q6, q7, q8, q9⟩ := R.tab.put hK hb
    generalize hpt : t.put (way t.mask (k.hash w) K) = pt at q1 q3 q4 q5 q6 q7 q8 q9 ⊢
    obtain ⟨t1, p⟩ := pt
    dsimp only at q1 q3 q4 q5 q6 q7 q8 q9 ⊢
    subst q1
    first
      | refine byv_step hx.1 fun bv => ?_
      | refine byv_step2 hx.1 fun bv => ?_
    obtain ⟨t2, e2, q3', q4', q5', q9'⟩ : ∃ t2, (if bv = true then t1 else { t1 with plain := false }) = t2 ∧ (∀ hs, TabOk t1 hs → TabOk t2 hs) ∧ t2.mask = t1.mask ∧ t2.led = t1.led ∧ t2.fill = t1.fill := by
      cases bv
      · exact ⟨_, rfl, fun hs T => tabOk_plain T, rfl, rfl, rfl⟩
      · exact ⟨_, rfl, fun hs T => T, rfl, rfl, rfl⟩
    rw [e2]
    replace q3 := q3' _ q3
    rw [← q4'] at q4
    rw [← q5'] at q5
    rw [← q9'] at q9
    clear q3' q4' q5' q9' e2 q6 q7 q8 hpt
    clear t1
    obtain ⟨t1, e1⟩ : ∃ t1, t1 = t2 := ⟨_, rfl⟩
    subst e1
    have hin : (SetTable.insertAt es (SetTable.below t.place (way t.mask (k.hash w) K)) (k.hash w, Value.ref x)).toList = kRows w (L.take (SetTable.below t.place (way t.mask (k.hash w) K)) ++ (x, k) :: L.drop (SetTable.below t.place (way t.mask (k.hash w) K))) := by
      rw [SetTable.toList_insertAt, kRows_put, R.rows]
    generalize hpp : SetTable.below t.place (way t.mask (k.hash w) K) = p at q2 q3 hin ⊢
    have pm := put_perm L p (x, k)
    have hlen : (L.take p ++ (x, k) :: L.drop p).length = L.length + 1 := pm.length_eq
    have hhs : (L.take p ++ (x, k) :: L.drop p).map (fun p => p.2.hash w) = (L.map fun p => p.2.hash w).take p ++ k.hash w :: (L.map fun p => p.2.hash w).drop p := by
      rw [List.map_append, List.map_cons, List.map_take, List.map_drop]
    rw [← hhs] at q3
    have nd1 : ((L.take p ++ (x, k) :: L.drop p).map (·.2)).Nodup := by
      refine (pm.map (·.2)).nodup_iff.mpr ?_
      rw [List.map_cons]
      exact List.nodup_cons.mpr ⟨hm, R.nd⟩
    have hes : (SetTable.insertAt es p (k.hash w, Value.ref x)).size = L.length + 1 := by
      have h := congrArg List.length hin
      unfold kRows at h
      rw [Array.length_toList, List.length_map, hlen] at h
      exact h
    generalize SetTable.insertAt es p (k.hash w, Value.ref x) = es1 at hin hes ⊢
    generalize L.take p ++ (x, k) :: L.drop p = L1 at pm hlen q3 nd1 hin
    refine wpAny_bind (wpAny_storeSet_of ho hd ?_ (by rw [hes, sizeLine_eq]; omega))
    have sb : Heap.SameBut a s.heap (s.heap.update a (Obj.putSet es1 t1)) := Heap.SameBut.update ..
    have ho1 := store_at (es' := es1) (t' := t1) ho hd
    generalize s.heap.update a (Obj.putSet es1 t1) = h1 at sb ho1 ⊢
    have tup1 : ∀ p ∈ L1, KR h1 p.2 p.1 := fun p hp => by
      rcases List.mem_cons.mp (pm.mem_iff.mp hp) with e | hp
      · rw [e]; exact kr_same hx ho hd sb
      · exact kr_same (R.tup p hp) ho hd sb
    have ld1 : w.params.followText "set-order" = true ∨ t1.led = true := by rw [q5]; exact R.led
    by_cases hf : t1.tooFull = true
    · first
        | (refine wpAny_bind ?_; refine wp_if_pos (by simp [hf]) ?_)
        | (refine wp_if_pos (by simp [hf]) ?_; refine wpAny_bind ?_)
      have hfull : (L.length + 1) * 5 ≥ t1.mask * 3 := by
        have h := hf
        unfold SetTable.tooFull at h
        rw [decide_eq_true_eq, q9, List.length_map] at h
        exact h
      rw [hsl]
      have hsz1 : t1.place.size = es1.size := by
        have h := q3.sz
        rw [List.length_map, hlen] at h
        rw [h, hes]
      have cases2 : (t.mask = 7 ∧ L.length = 4) ∨ (t.mask = 31 ∧ L.length = 18) := by
        rcases R.tab.mok with e | e | e
        · left; rw [q4, e] at hfull; rw [e] at hroom; exact ⟨e, by omega⟩
        · right; rw [q4, e] at hfull; rw [e] at hroom; exact ⟨e, by omega⟩
        · exfalso; rw [q4, e] at hfull; omega
      have go : ∀ M, SetTable.sizeAbove (SetTable.grown (L.length + 1)) - 1 = M → MaskOk M → SetTable.sizeAbove (SetTable.grown (L.length + 1)) ≤ 128 → (L.length + 1) * 5 < M * 3 →
          wpAny (model P w) A (setRelay a (SetTable.grown (L.length + 1))) (fun _ s' => wpAny (model P w) A (pure true) Q E s') E { s with heap := h1 } := fun M h1' h2' h3' h4' => by
        refine sk_relay (s := { s with heap := h1 }) ho1 ⟨hex.1, hex.2.1, hex.2.2⟩ rfl hin hsz1 q3.dm (by rw [hes, q4]; rcases cases2 with ⟨e, e2⟩ | ⟨e, e2⟩ <;> omega) nd1 tup1 ld1 (by rw [hlen]; exact hfew) h1' h2' h3' (by rw [hlen]; exact h4') ?_
        intro h2 L2 es2 ep2 t2 sb2 R2 pm2
        refine wpAny_pure (hQ true h2 L2 es2 ep2 t2 (sb.trans sb2) R2 (fun z => absurd z hm) fun _ => pm2.trans pm)
      rcases cases2 with ⟨_, e2⟩ | ⟨_, e2⟩
      · refine go 31 (by rw [e2, size_20]) (.inr (.inl rfl)) (by rw [e2, size_20]; decide) (by omega)
      · refine go 127 (by rw [e2, size_76]) (.inr (.inr rfl)) (by rw [e2, size_76]; decide) (by omega)
    · first
        | refine wp_if_neg (by simp [hf]) ?_
        | (refine wpAny_bind ?_; refine wp_if_neg (by simp [hf]) ?_; refine wpAny_pure ?_)
      refine wpAny_pure (hQ true h1 L1 es1 (ep + 1) t1 sb ⟨⟨_, ho1, ⟨hex.1, hex.2.1, hex.2.2⟩, rfl⟩, hin, q3, nd1, tup1, ld1, ?_, by rw [hlen]; exact hfew⟩ (fun z => absurd z hm) fun _ => pm)
      have h := hf
      unfold SetTable.tooFull at h
      rw [decide_eq_true_eq, q9, List.length_map] at h
      rw [hlen]
      omega
end
/-- what the set has got from the first i items -/
structure KGot (ks : List (Addr × NestedKey)) (i : Nat) (L : List (Addr × NestedKey)) : Prop where
  sub : ∀ p ∈ L, p ∈ ks.take i
  all : ∀ p ∈ ks.take i, p.2 ∈ L.map (·.2)
  len : L.length ≤ i
theorem KGot.zero (ks : List (Addr × NestedKey)) : KGot ks 0 [] := ⟨fun p h => (by cases h), fun p h => (by simp at h), Nat.le_refl _⟩
theorem KGot.same {ks L : List (Addr × NestedKey)} {i : Nat} {x : Addr × NestedKey} (g : KGot ks i L) (h : ks[i]? = some x) (hm : x.2 ∈ L.map (·.2)) : KGot ks (i + 1) L := by
  refine ⟨fun p hp => ?_, fun p hp => ?_, Nat.le_succ_of_le g.len⟩
  · rw [take_next h]
    exact List.mem_append_left _ (g.sub p hp)
  · rw [take_next h] at hp
    rcases List.mem_append.mp hp with z | z
    · exact g.all p z
    · rw [List.mem_singleton.mp z]; exact hm
theorem KGot.more {ks L L' : List (Addr × NestedKey)} {i : Nat} {x : Addr × NestedKey} (g : KGot ks i L) (h : ks[i]? = some x) (pm : L'.Perm (x :: L)) : KGot ks (i + 1) L' := by
  refine ⟨fun p hp => ?_, fun p hp => ?_, ?_⟩
  · rw [take_next h]
    rcases List.mem_cons.mp (pm.mem_iff.mp hp) with e | z
    · rw [e]; exact List.mem_append_right _ (List.mem_singleton.mpr rfl)
    · exact List.mem_append_left _ (g.sub p z)
  · rw [(pm.map (·.2)).mem_iff, List.map_cons]
    rw [take_next h] at hp
    rcases List.mem_append.mp hp with z | z
    · exact List.mem_cons_of_mem _ (g.all p z)
    · rw [List.mem_singleton.mp z]; exact List.mem_cons_self
  · rw [pm.length_eq, List.length_cons]
    exact Nat.succ_le_succ g.len
section
variable {P : Program} {w : World} {A : Around} {E : Value → Shared → Prop} {s : Shared}
theorem kr_keep {h h' : Heap} {k : NestedKey} {b : Addr} (x : KR h k b) (hk : ∀ c o, h.get? c = some o → h'.get? c = some o) : KR h' k b :=
  ⟨NestedIs.at (fun c oc _ _ hc _ => hk c oc hc) k _ x.1, x.2⟩
theorem SK.keep {h h' : Heap} {a : Addr} {L : List (Addr × NestedKey)} {es : Array (Int × Value)} {ep : Nat} {t : SetTable} (R : SK w h a L es ep t) (ha : ∀ o, h.get? a = some o → h'.get? a = some o) (ht : ∀ p ∈ L, KR h' p.2 p.1) : SK w h' a L es ep t := by
  obtain ⟨o, ho, r⟩ := R.ob
  exact ⟨⟨o, ha o ho, r⟩, R.rows, R.tab, R.nd, ht, R.led, R.room, R.few⟩
/-- a new set -/
theorem sk_fresh {h : Heap} {a : Addr} (ho : h.get? a = some { cls := .type "set", dict := none, data := .set #[] 0 (.fresh 0 0 (!w.params.followText "set-order")) }) : SK w h a [] #[] 0 (.fresh 0 0 (!w.params.followText "set-order")) where
  ob := ⟨_, ho, ⟨rfl, rfl, rfl⟩, rfl⟩
  rows := rfl
  tab := ⟨List.Pairwise.nil, rfl, rfl, .inl rfl, fun x hx => (by cases hx), fun i h j hi => (by simp at hi)⟩
  nd := List.nodup_nil
  tup := fun p hp => (by cases hp)
  led := by
    show _ ∨ (!w.params.followText "set-order") = true
    cases w.params.followText "set-order"
    · exact .inr rfl
    · exact .inl rfl
  room := by
    show 0 * 5 < 7 * 3
    decide
  few := by
    show 0 < 64
    decide

/-- set.update's loop -/
theorem sk_update {I : Addr} {fp wr : List Addr} {G : Array GenState → Array GenState → Prop} {n : Nat} {Pv : Nat → Value → Prop} {St : Nat → Shared → Prop} {R : Result → Shared → Prop}
    (W : WalksS P w A.in1 I fp wr G n Pv St) (S : Addr) (hSf : S ∉ fp) (ks : List (Addr × NestedKey)) (hn : n = ks.length) (hfew : ks.length < 64) (hval : ∀ i v, Pv i v → ∃ p, ks[i]? = some p ∧ v = .ref p.1)
    (h0 : Heap) (hk : ∀ p ∈ ks, KR h0 p.2 p.1) (hS0 : h0.get? S = none) (hw0 : ∀ b ∈ wr, h0.get? b = none) (hu : A.in1.units + 8 < cLine) :
    ∀ (k i : Nat) (s : Shared), n - i = k → i ≤ n → St i s → (∀ b o, h0.get? b = some o → s.heap.get? b = some o) → (∃ L es ep t, SK w s.heap S L es ep t ∧ KGot ks i L) →
      (∀ s' L es ep t, Moved (S :: wr) G s s' → SK w s'.heap S L es ep t → KGot ks n L → (∀ b o, h0.get? b = some o → s'.heap.get? b = some o) → R (.ok (.ret .none)) s') →
      codeAny (model P w) A (.builtin "set.update.loop" ⟨[.ref S, .ref I], []⟩) R s := by
  have hSw : S ∉ wr := fun h => hSf (W.sub _ h)
  have hsub : ∀ b ∈ wr, b ∈ S :: wr := fun b hb => List.mem_cons_of_mem _ hb
  have keepM : ∀ {s s' : Shared}, Moved wr G s s' → (∀ b o, h0.get? b = some o → s.heap.get? b = some o) → ∀ b o, h0.get? b = some o → s'.heap.get? b = some o := fun hm hkp b o e =>
    hm.heap b o (fun hb => by rw [hw0 b hb] at e; cases e) (hkp b o e)
  intro k
  induction k with
  | zero =>
    intro i s hk' hi hst hkp ⟨L, es, ep, t, hS, g⟩ hR
    have hin : i = n := by omega
    subst hin
    refine codeAny_builtin F.entry_set_update_loop ?_
    rw [Around.under_plainId F.plain_set_update_loop _]
    show wpAny _ A.in1 (pyNext (.ref I) >>= _) _ _ s
    refine wpAny_bind (W.done s _ _ hst fun s' hm => ?_)
    show wpAny _ A.in1 (ret Value.none) _ _ s'
    have hkp' := keepM hm hkp
    have sub : ∀ p ∈ L, p ∈ ks := fun p hp => List.mem_of_mem_take (g.sub p hp)
    exact wpAny_pure (hR s' L es ep t (hm.mono hsub) (hS.keep (fun o e => hm.heap S o hSw e) fun p hp => kr_keep (hk p (sub p hp)) hkp') g hkp')
  | succ k ih =>
    intro i s hk' hi hst hkp ⟨L, es, ep, t, hS, g⟩ hR
    have hlt : i < n := by omega
    refine codeAny_builtin F.entry_set_update_loop ?_
    rw [Around.under_plainId F.plain_set_update_loop _]
    show wpAny _ A.in1 (pyNext (.ref I) >>= _) _ _ s
    refine wpAny_bind (W.item i s _ _ hlt hst fun v s' hP hst' hm => ?_)
    obtain ⟨p, hp, rfl⟩ := hval i v hP
    have hkp' := keepM hm hkp
    have sub : ∀ p ∈ L, p ∈ ks := fun p hp => List.mem_of_mem_take (g.sub p hp)
    have hS' : SK w s'.heap S L es ep t := hS.keep (fun o e => hm.heap S o hSw e) fun q hq => kr_keep (hk q (sub q hq)) hkp'
    have hx : KR s'.heap p.2 p.1 := kr_keep (hk p (List.mem_of_getElem? hp)) hkp'
    show wpAny _ A.in1 (holding [Value.ref p.1] (setAdd S (.ref p.1)) >>= _) _ _ s'
    refine wpAny_bind (wpAny_holding ?_)
    unfold setAdd
    refine wpAny_holding ?_
    refine wpAny_bind ((nestedKind P w).pyHash hu hx ?_)
    refine sk_add (s := { s' with toks := s'.toks + p.2.draws }) hS' hx hu (by have := g.len; omega) fun b h' L' es' ep' t' hsb hS2 c1 c2 => ?_
    have g' : KGot ks (i + 1) L' := by
      rcases Classical.em (p.2 ∈ L.map (·.2)) with c | c
      · rw [c1 c]; exact g.same hp c
      · exact g.more hp (c2 c)
    have hkp2 : ∀ b o, h0.get? b = some o → h'.get? b = some o := fun b o e => (hsb.2 b (fun z => by rw [z, hS0] at e; cases e)).trans (hkp' b o e)
    refine wpAny_pure ⟨plainId_quiet F.plain_set_update_loop _, ih (i + 1) _ (by omega) hlt (W.frame _ s' _ _ hst' (Nat.le_add_right _ _) fun b hb o e => ?_) hkp2 ⟨L', es', ep', t', hS2, g'⟩ fun s'' L2 es2 ep2 t2 hm'' hS'' g'' hkp'' => ?_⟩
    · rw [hsb.2 b (fun h : b = S => hSf (by rw [← h]; exact hb))]; exact e
    · refine hR s'' L2 es2 ep2 t2 (Moved.trans W.gtrans ((hm.mono hsub).then_heap (Nat.le_add_right _ _) fun b o hb e => ?_) hm'') hS'' g'' hkp''
      rw [hsb.2 b (fun h : b = S => hb (by rw [h]; exact List.mem_cons_self))]; exact e

set_option maxRecDepth 100000 in
set_option maxHeartbeats 3200000 in
/-- set(xs) -/
theorem call_set_keys {l : Addr} {items : Array Value} (ks : List (Addr × NestedKey)) {Q : Value → Shared → Prop} (hh : A.handled = none) (hl : s.heap.IsList l items) (hit : items.toList = ks.map fun p => Value.ref p.1)
    (hk : ∀ p ∈ ks, KR s.heap p.2 p.1) (hfew : ks.length < 64) (hu : A.units + 12 < cLine)
    (h : ∀ (h' : Heap) (tk : Nat) L es ep t, SK w h' s.heap.objs.size L es ep t → KGot ks ks.length L → (∀ b o, s.heap.get? b = some o → h'.get? b = some o) → Q (.ref s.heap.objs.size) { s with heap := h', toks := tk }) :
    wpAny (model P w) A (call (.type "set") [.ref l]) Q E s := by
  have hisz : items.size = ks.length := by
    have q := congrArg List.length hit
    rw [Array.length_toList, List.length_map] at q
    exact q
  obtain ⟨c, tl, hmro⟩ := F.called_set.mro
  have hmade := F.called_set.made
  have hsub := F.called_set.sub
  refine wpAny_call (codeAny_of_tree ?_)
  show wpAny _ _ (callAny (.type "set") _) _ _ _
  refine wpAny_pure ⟨Code.quiet_builtin _ (by decide +kernel), codeAny_builtin F.entry_type_call ?_⟩
  rw [Around.under_plain (weight_type_call_type "set" [.ref l] []) rfl]
  have h1 := F.called_set.notType
  have h2 := F.called_set.canCreate
  have hct := F.typeCall_set_1 (.ref l)
  repeat (any_goals (first | assumption | wp_step))

  refine codeAny_mono (code_set_led1 (.ref l) (E := E) (Q₁ := fun obj s₁ => obj = .ref s.heap.objs.size ∧ s₁ = { s with heap := s.heap.push { cls := .type "set", dict := none, data := .set #[] 0 (.fresh 0 0 (!w.params.followText "set-order")) } }) ⟨rfl, rfl⟩) fun r s₁ hr => ?_
  cases r with
  | error e => exact hr
  | ok fl =>
    cases fl with
    | ret obj =>
      obtain ⟨rfl, rfl⟩ := hr
      have hS : (s.heap.push { cls := .type "set", dict := none, data := .set #[] 0 (.fresh 0 0 (!w.params.followText "set-order")) }).get? s.heap.objs.size = some { cls := .type "set", dict := none, data := .set #[] 0 (.fresh 0 0 (!w.params.followText "set-order")) } := Heap.get?_push_size _ rfl
      have hT : Shared.TypeIs { s with heap := s.heap.push { cls := .type "set", dict := none, data := .set #[] 0 (.fresh 0 0 (!w.params.followText "set-order")) } } (.ref s.heap.objs.size) "set" := ⟨_, hS, rfl⟩
      have hli := F.called_set.init.lookup
      have hbi := F.called_set.init.bind (.ref s.heap.objs.size)
      repeat (any_goals (first | assumption | wp_step))

      refine codeAny_mono (codeAny_call_builtin (R := wants (fun r s₂ => r = .none ∧ ∃ h' tk L es ep t, s₂ = { s with heap := h', toks := tk } ∧ SK w h' s.heap.objs.size L es ep t ∧ KGot ks ks.length L ∧
          (∀ b o, s.heap.get? b = some o → h'.get? b = some o)) E) F.called_set.init.plain F.entry_set_init (check_set_init_1 hT ?_)) fun r₂ s₂ hr₂ => ?_
      · obtain ⟨ol, hol, hcl, nl, hdl⟩ := hl
        obtain ⟨ocls, odict, odata, oslots⟩ := ol
        simp only at hcl hdl
        subst hcl; subst hdl
        have hol' : (s.heap.push { cls := .type "set", dict := none, data := .set #[] 0 (.fresh 0 0 (!w.params.followText "set-order")) }).get? l = some { cls := .type "list", dict := odict, data := .seq items nl, slots := oslots } := Heap.get?_push_of_some _ hol
        have hsls := F.sub_list_set
        have hslf := F.sub_list_frozenset
        have hne : (Value.type "list" == Value.type "dict") = false := by decide
        have hl1 : (s.heap.push { cls := .type "set", dict := none, data := .set #[] 0 (.fresh 0 0 (!w.params.followText "set-order")) }).IsList l items := ⟨_, hol', rfl, nl, rfl⟩
        unfold Builtin.«set.__init__» noKeywords Builtin.Frozenset.updateFrom
        generalize hPI : pyIter = PI
        wp_walk
        subst hPI

        refine wpAny_pyIter_list hl1 ?_
        refine wpAny_bind (wpAny_runValue ?_)
        have hlS : l < s.heap.objs.size := Heap.lt_size hol
        have hh3 : A.in1.in1.in1.handled = none := by simp [hh]
        have hz1 : (s.heap.push { cls := .type "set", dict := none, data := .set #[] 0 (.fresh 0 0 (!w.params.followText "set-order")) }).objs.size = s.heap.objs.size + 1 := Heap.size_push ..
        have hneI : l ≠ (s.heap.push { cls := .type "set", dict := none, data := .set #[] 0 (.fresh 0 0 (!w.params.followText "set-order")) }).objs.size := by
          rw [Heap.size_push]; exact Nat.ne_of_lt (Nat.lt_succ_of_lt hlS)
        have hSf : s.heap.objs.size ∉ [(s.heap.push { cls := .type "set", dict := none, data := .set #[] 0 (.fresh 0 0 (!w.params.followText "set-order")) }).objs.size, l] := by
          rw [Heap.size_push]; simp only [List.mem_cons, List.mem_singleton, List.not_mem_nil, or_false, not_or]
          exact ⟨Nat.ne_of_lt (Nat.lt_succ_self _), Nat.ne_of_gt hlS⟩
        have hval : ∀ (i : Nat) (v : Value), items[i]? = some v → ∃ p, ks[i]? = some p ∧ v = .ref p.1 := fun i v hv => by
          have q : items.toList[i]? = some v := by rw [Array.getElem?_toList]; exact hv
          rw [hit, List.getElem?_map] at q
          cases hq : ks[i]? with
          | none => rw [hq] at q; cases q
          | some p =>
            rw [hq] at q
            exact ⟨p, rfl, (Option.some.inj q).symm⟩
        have none_of : ∀ b, s.heap.objs.size ≤ b → s.heap.get? b = none := fun b hb => by
          cases q : s.heap.get? b with
          | none => rfl
          | some o => exact absurd (Nat.lt_of_lt_of_le (Heap.lt_size q) hb) (Nat.lt_irrefl _)
        refine sk_update ((Walks.list hh3 _ l hneI items).toS) s.heap.objs.size
          hSf ks hisz hfew hval s.heap hk (none_of _ (Nat.le_refl _)) (fun b hb => none_of b (by
            rw [List.mem_singleton.mp hb, Heap.size_push]
            exact Nat.le_succ _)) (by simp only [Around.in1_units]; omega) (items.size - 0) 0 _ (by omega) (Nat.zero_le _)
          ⟨⟨_, Heap.get?_push_size _ rfl, rfl, rfl⟩, (hl1.push _)⟩ (fun b o e => Heap.get?_push_of_some _ (Heap.get?_push_of_some _ e)) ?hS0 ?hR
        case hS0 =>
          have hget : ((s.heap.push { cls := .type "set", dict := none, data := .set #[] 0 (.fresh 0 0 (!w.params.followText "set-order")) }).push { cls := .type "list_iterator", data := .fields #[.ref l, .int 0 0] }).get? s.heap.objs.size
              = some { cls := .type "set", dict := none, data := .set #[] 0 (.fresh 0 0 (!w.params.followText "set-order")) } := Heap.get?_push_of_some _ hS
          exact ⟨[], #[], 0, _, sk_fresh hget, KGot.zero ks⟩
        case hR =>
          intro s' L es ep t hm hS' g' hkp
          obtain ⟨h', g2, d', tk', os'⟩ := s'
          have eg : g2 = s.gens := hm.gens
          have ed : d' = s.drawn := hm.drawn
          have eo : os' = s.os := hm.os
          subst eg; subst ed; subst eo
          show wpAny _ _ _ _ _ _
          refine wpAny_pure ?_
          show wpAny _ _ (ret Value.none) _ _ _
          rw [hisz] at g'
          exact wpAny_pure ⟨rfl, h', tk', L, es, ep, t, rfl, hS', g', hkp⟩

      · cases r₂ with
        | error e => exact hr₂
        | ok fl₂ =>
          cases fl₂ with
          | ret r =>
            obtain ⟨rfl, h', tk, L, es, ep, t, rfl, hS', g', hk'⟩ := hr₂
            repeat (any_goals (first | assumption | wp_step))
            exact h _ _ _ _ _ _ hS' g' hk'
          | _ => exact hr₂.elim
    | _ => exact hr.elim

/-! ### sorted -/

end
end DL
set_option Elab.async false
set_option linter.all false
set_option maxRecDepth 100000
set_option maxHeartbeats 2000000
namespace DL
open PySem PySem.Spec PyProof.Rows L2 LamX
mutual
/-- what may be a key: numbers, texts, None, tuples of such -/
def keyOf : D → Option NestedKey
  | .none => some .none
  | .bool b => some (.num (if b = true then 1 else 0))
  | .int i => some (.num i)
  | .str x => some (.text x)
  | .tuple ds => (keysOf ds).map .tup
  | .list _ => none
  | .dict _ => none
def keysOf : List D → Option (List NestedKey)
  | [] => some []
  | d :: ds => (keyOf d).bind fun k => (keysOf ds).map (k :: ·)
end
/-- each once -/
def ddl : List NestedKey → List NestedKey
  | [] => []
  | k :: ks => if k ∈ ks then ddl ks else k :: ddl ks
theorem ddl_mem {x : NestedKey} : ∀ {ks : List NestedKey}, x ∈ ddl ks ↔ x ∈ ks
  | [] => Iff.rfl
  | k :: ks => by
    unfold ddl
    split
    · rw [ddl_mem (ks := ks), List.mem_cons]
      exact ⟨.inr, fun h => h.elim (fun e => e ▸ (by assumption)) id⟩
    · rw [List.mem_cons, List.mem_cons, ddl_mem (ks := ks)]
theorem ddl_nodup : ∀ {ks : List NestedKey}, (ddl ks).Nodup
  | [] => List.nodup_nil
  | k :: ks => by
    unfold ddl
    split
    · exact ddl_nodup (ks := ks)
    · exact List.nodup_cons.mpr ⟨fun h => absurd (ddl_mem.mp h) (by assumption), ddl_nodup (ks := ks)⟩
theorem ddl_len {ks L : List NestedKey} (hn : L.Nodup) (h : ∀ x, x ∈ L ↔ x ∈ ks) : L.length = (ddl ks).length :=
  ((List.perm_ext_iff_of_nodup hn ddl_nodup).mpr fun x => (h x).trans ddl_mem.symm).length_eq
theorem ddl_le : ∀ {ks : List NestedKey}, (ddl ks).length ≤ ks.length
  | [] => Nat.le_refl _
  | k :: ks => by
    unfold ddl
    have := ddl_le (ks := ks)
    split
    · rw [List.length_cons]; omega
    · rw [List.length_cons, List.length_cons]; omega
theorem ddl_full : ∀ {ks : List NestedKey}, (ddl ks).length = ks.length ↔ ks.Nodup
  | [] => ⟨fun _ => List.nodup_nil, fun _ => rfl⟩
  | k :: ks => by
    unfold ddl
    have := ddl_le (ks := ks)
    split
    · rw [List.length_cons]
      refine ⟨fun h => by omega, fun h => ?_⟩
      exact absurd (by assumption) (List.nodup_cons.mp h).1
    · rw [List.length_cons, List.length_cons, List.nodup_cons, ← ddl_full (ks := ks)]
      exact ⟨fun h => ⟨by assumption, by omega⟩, fun h => by omega⟩
def isTupD : D → Bool
  | .tuple _ => true
  | _ => false
/-- the keys of a list of tuples -/
def setKeys (d : D) : Option (List NestedKey) := match d with
  | .list ds => (keysOf ds).bind fun ks => if ds.length < 64 && ds.all isTupD && ks.all (fun k => decide (k.depth ≤ 8)) then some ks else none
  | _ => none
def mSetLen (d : D) : R D := match setKeys d with
  | some ks => okI (ddl ks).length
  | none => .no
section
variable {X : Cx} {T : List (Addr × Str)} {W : WX} {e : Expr} {fe : Rho → R D} {p p2 q pos : Pos} {pins : List (Addr × Obj)} {σ : L2.St} {H : Hp} {s : Shared}
mutual
theorem key_is (I : Inv X pins σ H s) : ∀ (d : D) (v : V) (u : Value) (k : NestedKey), Rp X.K H d v → RelV v u → keyOf d = some k → NestedIs s.heap k u
  | .none, _, _, _, h, r, e => by
    cases h; cases r; cases e; exact .none
  | .bool b, _, _, _, h, r, e => by
    cases h; cases r; cases e; exact .bool rfl
  | .int i, _, _, _, h, r, e => by
    cases h; obtain ⟨t, rfl⟩ := r; cases e; exact .int i t
  | .str x, _, _, _, h, r, e => by
    obtain ⟨h, _⟩ := h
    cases h; obtain ⟨t, rfl⟩ := r; cases e; exact .text x t
  | .tuple ds, _, _, _, h, r, e => by
    obtain ⟨a, xs, rfl, ha, hs, _⟩ := h
    cases r
    obtain ⟨its, rv, ⟨o, ho, hc, n, hd⟩, _⟩ := I.tuple ha
    simp only [keyOf, Option.map_eq_some_iff] at e
    obtain ⟨ks, ek, rfl⟩ := e
    exact .tup ho hc hd (by simpa using keys_are I ds xs its ks hs rv ek)
  | .list _, _, _, _, _, _, e => by cases e
  | .dict _, _, _, _, _, _, e => by cases e
theorem keys_are (I : Inv X pins σ H s) : ∀ (ds : List D) (vs : List V) (us : List Value) (ks : List NestedKey), RpL X.K H ds vs → Vals vs us → keysOf ds = some ks → NestedAll s.heap ks us
  | [], _, _, _, h, r, e => by
    have h : _ = [] := h
    subst h; cases r; cases e; exact .nil
  | d :: ds, _, _, _, h, r, e => by
    obtain ⟨v, vr, rfl, h1, h2⟩ := h
    cases r with
    | cons r1 r2 =>
      simp only [keysOf, Option.bind_eq_some_iff, Option.map_eq_some_iff] at e
      obtain ⟨k, ek, ks', eks, rfl⟩ := e
      exact .cons (key_is I d v _ k h1 r1 ek) (keys_are I ds vr _ ks' h2 r2 eks)
end
theorem keys_refs {h : Heap} : ∀ (ds : List D) (vs : List V) (us : List Value) (ks : List NestedKey), RpL X.K H ds vs → Vals vs us → NestedAll h ks us → ds.all isTupD = true → ks.all (fun k => decide (k.depth ≤ 8)) = true →
    ∃ ps : List (Addr × NestedKey), us = ps.map (fun p => Value.ref p.1) ∧ ks = ps.map (·.2) ∧ ∀ p ∈ ps, KR h p.2 p.1
  | [], _, _, _, hr, r, a, _, _ => by
    have hr : _ = [] := hr
    subst hr; cases r; cases a; exact ⟨[], rfl, rfl, fun p hp => by cases hp⟩
  | d :: ds, _, _, _, hr, r, a, h1, h2 => by
    obtain ⟨v, vr, rfl, hv, hvs⟩ := hr
    cases r with
    | cons r1 r2 =>
      cases a with
      | cons a1 a2 =>
        rw [List.all_cons, Bool.and_eq_true] at h1 h2
        obtain ⟨ps, e1, e2, e3⟩ := keys_refs ds vr _ _ hvs r2 a2 h1.2 h2.2
        cases d with
        | tuple ts =>
          obtain ⟨ad, xs, rfl, _⟩ := hv
          cases r1
          refine ⟨(ad, _) :: ps, by rw [e1]; rfl, by rw [e2]; rfl, fun p hp => ?_⟩
          rcases List.mem_cons.mp hp with rfl | hp
          · exact ⟨a1, of_decide_eq_true h2.1⟩
          · exact e3 p hp
        | _ => exact absurd h1.1 (by simp [isTupD])
theorem d_lenSet (hc : X.calm = true) (hu : X.A.units + 64 < cLine) (hm : X.mg "len" = none) (hm2 : X.mg "set" = none) (he : DE T X W e fe) (hg : X.env.kindOf "len" = some .globalImplicit := by kernel_rfl) (hg2 : X.env.kindOf "set" = some .globalImplicit := by kernel_rfl)
    (na : starEach [e] X.env = (false, eval e X.env) :: starEach [] X.env := by kernel_rfl) (hpl : (backTo q (starEach [] X.env)).any (·.1) = false := by kernel_rfl)
    (nb : starEach [.Call (.Name "set" p2) [e] [] q] X.env = (false, eval (.Call (.Name "set" p2) [e] [] q) X.env) :: starEach [] X.env := by kernel_rfl) (hpl2 : (backTo pos (starEach [] X.env)).any (·.1) = false := by kernel_rfl) :
    DE T X W (.Call (.Name "len" p) [.Call (.Name "set" p2) [e] [] q] [] pos) (eUn mSetLen fe) := by
  refine ⟨fun pins s σ H Q I h => ?_⟩
  obtain ⟨Hb, ρ, S, q0⟩ := h
  refine Call_ (ld_blt I hg hm PySem.boot_len ?_)
  refine PyProof.Rows.callWith_builtin1 (PyProof.Rows.args_cons ?_ nb) nb hpl2
  refine Call_ (ld_blt I hg2 hm2 PyProof.Rows.boot_set ?_)
  refine PyProof.Rows.callWith_type1 (PyProof.Rows.args_cons (thn (he.run pins s σ H (fun x H1 => ∃ d, fe ρ = .ok d ∧ Ex T H H1 ∧ Rp X.K H1 d x) I ⟨Hb, ρ, S, ?_⟩) fun v s1 ⟨x, H1, I1, r1, d, ed, x1, rd⟩ => PyProof.Rows.args_nil ?_) na) na hpl
  · unfold eUn at q0
    cases ef : fe ρ with
    | no => rw [ef] at q0; exact q0
    | exc c => rw [ef] at q0; exact q0
    | ok d => exact fun v H' x r => ⟨d, rfl, x, r⟩
  · unfold eUn at q0
    rw [ed, R.bind_ok] at q0
    unfold mSetLen at q0
    cases ek : setKeys d with
    | none => rw [ek] at q0; exact q0.elim
    | some ks =>
      rw [ek] at q0
      cases d with
      | list ds =>
        simp only [setKeys, Option.bind_eq_some_iff] at ek
        obtain ⟨ks', ek1, ek2⟩ := ek
        split at ek2
        · cases ek2
          rename_i hcond
          simp only [Bool.and_eq_true, decide_eq_true_eq] at hcond
          obtain ⟨⟨hlt, htup⟩, hdep⟩ := hcond
          obtain ⟨l, o, xs, rfl, hl, hrs, _⟩ := rd
          cases r1
          obtain ⟨its, rv, pl, hz⟩ := I1.list (a := l) (xs := xs) (hl.sq)
          have all := keys_are I1 ds xs its ks hrs rv ek1
          obtain ⟨ps, e1, e2, e3⟩ := keys_refs ds xs its ks hrs rv all htup hdep
          have hlen : ps.length = ds.length := by
            have z1 := hrs.len
            have z2 := rv.length
            rw [e1, List.length_map] at z2
            omega
          refine call_set_keys ps (I1.ok.hd hc) pl.isList (by simpa using e1) e3 (by omega) (by first | omega | (simp only [Around.in1_units]; omega)) fun h' tk L es ep t R g hk => ?_
          refine PyProof.Rows.args_nil ?_
          obtain ⟨ob, ho, hex, hd⟩ := R.ob
          have Rs := SK.size (s := { s1 with heap := h', toks := tk }) R
          have Rf := SK.fits (s := { s1 with heap := h', toks := tk }) R
          have I2 : Inv X pins σ H1 { s1 with heap := h', toks := tk } := I1.kept fun b o e => hk b o e
          have hn : L.length = (ddl ks).length := by
            have z := ddl_len (ks := ks) (L := L.map (·.2)) R.nd fun x => ?_
            · rw [List.length_map] at z; exact z
            · rw [e2]
              constructor
              · intro hx
                obtain ⟨p, hp, rfl⟩ := List.mem_map.mp hx
                exact List.mem_map.mpr ⟨p, List.mem_of_mem_take (g.sub p hp), rfl⟩
              · intro hx
                obtain ⟨p, hp, rfl⟩ := List.mem_map.mp hx
                exact g.all p (by rw [List.take_length]; exact hp)
          refine call_len_set ho hex hd Rf (by rw [Rs]; have := R.few; omega) ⟨.int (ddl ks).length, H1, I2.tok _, ⟨_, by rw [Rs, hn]⟩, q0 _ _ x1 rfl⟩
        · cases ek2
      | _ => cases ek
end
end DL
set_option Elab.async false
set_option linter.all false
set_option maxRecDepth 100000
set_option maxHeartbeats 2000000
namespace DL
open PySem PySem.Spec PyProof.Rows L2 LamX
section
variable {prog : Program} {w : World} {A : Around} {E : Value → Shared → Prop} {s : Shared}
theorem rev_pick (xs : Array Value) : ((List.range xs.size).filterMap fun (m : Nat) => xs[(((xs.size : Int) - 1) + (m : Int) * (-1)).toNat]?).toArray = xs.toList.reverse.toArray := by
  have e : (List.range xs.size).filterMap (fun (m : Nat) => xs[(((xs.size : Int) - 1) + (m : Int) * (-1)).toNat]?) = ((List.range xs.size).map (fun k => xs.size - 1 - k)).filterMap (fun i => xs[i]?) := by
    rw [List.filterMap_map]
    have key : ∀ l : List Nat, (∀ m ∈ l, m < xs.size) → l.filterMap (fun (m : Nat) => xs[(((xs.size : Int) - 1) + (m : Int) * (-1)).toNat]?) = l.filterMap ((fun i => xs[i]?) ∘ fun k => xs.size - 1 - k) := by
      intro l
      induction l with
      | nil => intro _; rfl
      | cons m l ih =>
        intro hl
        have hm := hl m List.mem_cons_self
        have e : ((((xs.size : Int) - 1) + (m : Int) * (-1)).toNat) = xs.size - 1 - m := by omega
        rw [List.filterMap_cons, List.filterMap_cons, ih fun k hk => hl k (List.mem_cons_of_mem _ hk), e]
        rfl
    exact key _ fun m hm => List.mem_range.mp hm
  rw [e, PySem.W.krv_range, List.filterMap_reverse, PySem.W.krv_all]
theorem getItem_tuple_rev {t sl : Addr} {items : Array Value} {vl vu vs : Value} {Q : Value → Shared → Prop} (ht : IsTup s.heap t items) (hs : s.heap.IsSliceOf sl vl vu vs) (pl : IsPart vl none) (pu : IsPart vu none) (ps : IsPart vs (some (-1)))
    (h : Q (.ref s.heap.objs.size) { s with heap := s.heap.push { cls := .type "tuple", data := .seq items.toList.reverse.toArray } })
    (hsz : items.size ≤ sizeLine) : wpAny (model prog w) A (getItem (.ref t) (.ref sl)) Q E s := by
  have htake : sizeOk (.seq items.toList.reverse.toArray) := by
    show items.toList.reverse.toArray.size ≤ sizeLine
    rw [List.size_toArray, List.length_reverse, Array.length_toList]
    exact hsz
  obtain ⟨os, hos, hcs, hds⟩ := id hs
  have hTs : s.TypeIs (.ref sl) "slice" := ⟨os, hos, hcs⟩
  unfold getItem
  try with_reducible refine wpAny_holding ?_
  first | refine wpAny_bind (wpAny_pure ?_) | skip
  refine wpAny_bind (wpAny_sequenceKey ht.typeIs (by decide) ?_)
  refine wpAny_bind (wpAny_callSpecial?_slot (name := Str.ofString "__getitem__") ht.typeIs PyProof.Rows.slot_tuple_getitem
    (wpAny_call_entry PyProof.Rows.slot_tuple_getitem ht.typeIs entry_tuple_getitem ?_ (args_tuple_getitem _ _)))
  show wpAny _ _ (Builtin.Tuple.tupleItemsOf (.ref t) >>= _) _ _ s
  refine wpAny_bind (tupleItemsOf_ ht ?_)
  refine wpAny_bind (wpAny_typeOf hTs ?_)
  rw [if_pos (by decide)]
  have step : ∀ (Q : Int × Int × Nat → Shared → Prop) (A : Around) (E : Value → Shared → Prop), Q ((items.size : Int) - 1, -1, items.size) s → wpAny (model prog w) A (Builtin.Slice.sliceApplied (.ref sl) (pure (items.size : Int))) Q E s := by
    intro Q A E h
    unfold Builtin.Slice.sliceApplied Builtin.Slice.sliceFields
    refine wpAny_bind (wpAny_bind (wpAny_field hos hds (x := vl) rfl (wpAny_bind (wpAny_field hos hds (x := vu) rfl (wpAny_bind (wpAny_field hos hds (x := vs) rfl (wpAny_pure ?_)))))))
    refine wpAny_bind (HT.slicePart_ ps ?_)
    show wpAny _ _ (if ((-1 : Int) == 0) = true then _ else _) _ _ s
    rw [if_neg (by decide)]
    refine wpAny_bind (HT.slicePart_ pl (wpAny_bind (HT.slicePart_ pu (wpAny_bind (wpAny_pure ?_)))))
    have e1 : Builtin.Slice.slicePlaces ((items.size : Int) - 1) (-1) (-1) = items.size := by
      unfold Builtin.Slice.slicePlaces
      have h1 : ¬ ((-1 : Int) > 0) := by omega
      simp only [h1, if_false]
      have h2 : (- (-1) : Int) = 1 := by omega
      rw [h2, Int.ediv_one]
      split <;> omega
    show wpAny _ _ (pure ((items.size : Int) - 1, (-1 : Int), Builtin.Slice.slicePlaces ((items.size : Int) - 1) (-1) (-1))) _ _ s
    rw [e1]
    exact wpAny_pure h
  refine wpAny_bind (step _ _ _ ?_)
  have hno : ¬ ((((items.size : Int) - 1) == 0 && (-1 : Int) == 1 && items.size == items.size) = true) := by
    intro q
    rw [Bool.and_eq_true, Bool.and_eq_true] at q
    exact absurd (eq_of_beq q.1.2) (by decide)
  show wpAny _ _ (if (((items.size : Int) - 1) == 0 && (-1 : Int) == 1 && items.size == items.size) = true then _ else _) _ _ s
  rw [if_neg hno, rev_pick]
  first
    | exact wpAny_bind (m := Builtin.Tuple.tupleExact _) (wpAny_newObj_type (wpAny_pure ⟨_, rfl, wpAny_pure h⟩) htake)
    | exact wpAny_bind (m := Builtin.Tuple.tupleExact _) (wpAny_newObj_type (wpAny_bind (wpAny_pure (wpAny_pure ⟨_, rfl, wpAny_pure h⟩))) htake)
    | exact wpAny_bind (wpAny_bind (m := Builtin.Tuple.tupleExact _) (wpAny_newObj_type (wpAny_pure (wpAny_pure ⟨_, rfl, wpAny_pure h⟩)) htake))
    | exact wpAny_bind (wpAny_bind (m := Builtin.Tuple.tupleExact _) (wpAny_newObj_type (wpAny_pure ⟨_, rfl, wpAny_pure h⟩) htake))
end
section
variable {X : Cx} {T : List (Addr × Str)} {W : WX} {e : Expr} {fe : Rho → R D} {p1 p2 p3 pos : Pos} {k : Nat}
theorem d_rev (he : DE T X W e fe) : DE T X W (.Subscript e (.Slice none none (some (.UnaryOp .USub (.Constant (.int 1) k p1) p2)) p3) pos) (eUn mRev fe) := by
  have key : PE X (.Subscript e (.Slice none none (some (.UnaryOp .USub (.Constant (.int 1) k p1) p2)) p3) pos) (fun σ H Q => dE X.K T W fe σ H fun x H1 => (∃ a xs, x = .ref a ∧ SqT X.K H1 a xs ∧ ∀ p, H1 p = none → Q (.ref p) (upd H1 p (.tup xs.reverse))) ∨ (∃ a xs, x = .ref a ∧ SqL X.K H1 a xs ∧ ∀ p, H1 p = none → Q (.ref p) (upd H1 p (.lst xs.reverse)))) := by
    refine ⟨fun pins s σ H Q I h => ?_⟩
    refine Subscript_ (thn (he.run pins s σ H _ I h) fun v s1 ⟨x, H1, I1, r1, q1⟩ => ?_)
    have hst : PO X (some (.UnaryOp .USub (.Constant (.int 1) k p1) p2)) (tPart (tUn (rU fun i => .int (-i)) (tC (.int 1)))) := po_some (pe_un un_neg pe_int)
    refine wpAny_Slice (thn (po_none.run pins s1 σ H1 (fun o H2 => o = none ∧ H2 = H1) I1 ⟨rfl, rfl⟩) fun vl s2 ⟨l, H2, I2, pl, el, e2⟩ => ?_)
    subst el e2
    refine thn (po_none.run pins s2 σ H2 (fun o H3 => o = none ∧ H3 = H2) I2 ⟨rfl, rfl⟩) fun vu s3 ⟨u, H3, I3, pu, eu, e3⟩ => ?_
    subst eu e3
    refine thn (hst.run pins s3 σ H3 (fun o H4 => o = some (-1) ∧ H4 = H3) I3 ⟨1, rfl, -1, rfl, rfl, rfl⟩) fun vs s4 ⟨o, H4, I4, ps, eo, e4⟩ => ?_
    subst eo e4
    have I5 : Inv X pins σ H4 { s4 with heap := s4.heap.push { cls := .type "slice", data := .fields #[vl, vu, vs] } } := I4.kept (t' := s4.toks) fun b ob q => Heap.get?_push_of_some _ q
    rcases q1 with ⟨a, xs, rfl, hx, q⟩ | ⟨a, xs, rfl, hx, q⟩
    · cases r1
      obtain ⟨its, r, ht, hz⟩ := I5.tuple hx
      have hlen := r.length
      show wpAny (model X.prog X.w) X.A (subscriptTail e (.Slice none none (some (.UnaryOp .USub (.Constant (.int 1) k p1) p2)) p3) (.ref a) (.ref s4.heap.objs.size)) (EP X pins σ Q) X.xe { s4 with heap := s4.heap.push { cls := .type "slice", data := .fields #[vl, vu, vs] } }
      refine tail_any (ops := [.ref a, .ref s4.heap.objs.size]) ht.typeIs (PyProof.Rows.slot_tuple_getitem.lookup) ?_ (by with_unfolding_all rfl)
      refine getItem_tuple_rev ht (Heap.IsSliceOf.new _ vl vu vs) pl pu ps ?_ (by rw [List.size_toArray]; omega)
      refine ⟨.ref _, _, I5.laid (t' := s4.toks) (o := .tup xs.reverse) (fun b ob q => Heap.get?_push_of_some _ q) (Nat.le_refl _) ?_, rfl, q _ (I5.hok.fresh (Nat.le_refl _))⟩
      exact ⟨by rw [List.length_reverse]; exact hz, _, r.reverse, IsTup.new _ _⟩
    · cases r1
      obtain ⟨its, r, ht, hz⟩ := I5.list hx
      have hlen := r.length
      show wpAny (model X.prog X.w) X.A (subscriptTail e (.Slice none none (some (.UnaryOp .USub (.Constant (.int 1) k p1) p2)) p3) (.ref a) (.ref s4.heap.objs.size)) (EP X pins σ Q) X.xe { s4 with heap := s4.heap.push { cls := .type "slice", data := .fields #[vl, vu, vs] } }
      refine tail_any (ops := [.ref a, .ref s4.heap.objs.size]) ht.isList.typeIs (PySem.slot_list_getitem.lookup) ?_ (by with_unfolding_all rfl)
      refine wpAny_getItem_list_slice ht.isList (Heap.IsSliceOf.new _ vl vu vs) pl pu ps (by decide) ?_ (by rw [List.size_toArray]; omega)
      rw [PySem.W.krv_pick]
      refine ⟨.ref _, _, I5.laid (t' := s4.toks) (o := .lst xs.reverse) (fun b ob q => Heap.get?_push_of_some _ q) (Nat.le_refl _) ?_, rfl, q _ (I5.hok.fresh (Nat.le_refl _))⟩
      exact ⟨by rw [List.length_reverse]; exact hz, _, 0, r.reverse, Heap.get?_push_size _ rfl⟩
  refine PE.imp (pe_frz key) fun σ H Q q => ?_
  obtain ⟨Hb, ρ, S, q⟩ := q
  refine ⟨Hb, ρ, S, ?_⟩
  unfold eUn at q
  cases ef : fe ρ with
  | no => rw [ef] at q; exact q
  | exc c => rw [ef] at q; exact q
  | ok d =>
    rw [ef, R.bind_ok] at q
    intro v H1 x1 r1
    cases d with
    | tuple ds =>
      obtain ⟨a, xs, rfl, ha, hs, hl⟩ := r1
      exact .inl ⟨a, xs, rfl, ha, fun p hp => .inl (q _ _ (x1.trans (Ex.new hp)) (rp_tuple hp hs.rev (by rw [List.length_reverse]; exact hl)))⟩
    | list ds =>
      obtain ⟨a, o, xs, rfl, ha, hs, hl⟩ := r1
      refine .inr ⟨a, xs, rfl, ha.sq, fun p hp => .inr ⟨p, _, rfl, upd_same, fun ob => ?_⟩⟩
      have e : upd (upd H1 p (.lst xs.reverse)) p (.frz ob (.lst xs.reverse)) = upd H1 p (.frz ob (.lst xs.reverse)) := by
        funext b
        unfold upd
        split <;> rfl
      rw [e]
      exact q _ _ (x1.trans (Ex.new hp)) (rp_list hp hs.rev (by rw [List.length_reverse]; exact hl))
    | _ => exact q.elim
end
theorem units65 {k : Nat} {A : Around} (r : Room k A) : A.units + 65 < cLine := by have := r.un; omega
end DL
set_option Elab.async false
set_option linter.all false
set_option maxRecDepth 100000
set_option maxHeartbeats 2000000
/-! while an exception is handled: walks over lists, comprehensions, sums -/
namespace DL
open PySem PySem.Spec PyProof.Rows L2 LamX HotX L2H
abbrev HotO (x1 : Addr) (h : Heap) : Prop := ∃ (o : Obj) (vs : Array Value), h.get? x1 = some o ∧ o.data = .fields vs ∧ vs[2]? = some .none
section
variable {prog : Program} {w : World} {A : Around} {E : Value → Shared → Prop} {s : Shared}
theorem next_end_hot {it l x1 : Addr} {i : Nat} {items : Array Value} {Q : Option Value → Shared → Prop} (hot : HotAt A x1 s.heap) (hne : x1 ≠ it)
    (hit : s.heap.IsListIter it l i) (hl : s.heap.IsList l items) (hx : items[i]? = none)
    (hQ : ∀ h', Heap.ExtBut it s.heap h' → Q none { s with heap := h' }) : wpAny (model prog w) A (pyNext (.ref it)) Q E s := by
  obtain ⟨o, ho, hc, hd⟩ := id hit
  obtain ⟨ol, hol, _, nl, hdl⟩ := hl
  obtain ⟨hh, o1, vs1, h1, d1, c1⟩ := hot
  unfold pyNext
  refine wpAny_bind (wpAny_attempt (wpAny_callSpecial?_slot (name := Str.ofString "__next__") hit.typeIs slot_listiter_next
    (wpAny_call_entry slot_listiter_next hit.typeIs entry_listiter_next ?_ (args_listiter_next _))))
  show wpAny _ _ (field (.ref it) 0 >>= _) _ _ s
  refine wpAny_bind (wpAny_field ho hd (x := .ref l) rfl ?_)
  show wpAny _ _ (if (Value.ref l == Value.none) = true then _ else _) _ _ s
  rw [if_neg (show ¬ ((Value.ref l == Value.none) = true) from Bool.false_ne_true)]
  show wpAny _ _ (field (.ref it) 1 >>= _) _ _ s
  refine wpAny_bind (wpAny_field ho hd (x := .int i 0) rfl ?_)
  show wpAny _ _ (seqItems? (.ref l) >>= _) _ _ s
  refine wpAny_bind (wpAny_seqItems hol hdl ?_)
  simp only [Int.toNat_natCast, hx]
  refine wpAny_bind (wpAny_rule (wpAny_bind (wpAny_setField ho hd (by simp) ?_)))
  have e1 : Heap.ExtBut it s.heap (s.heap.update it (Obj.mapFields (·.setIfInBounds 0 .none))) := (Heap.SameBut.update ..).extBut
  generalize hup : s.heap.update it (Obj.mapFields (·.setIfInBounds 0 .none)) = hu at e1 ⊢
  have k1 : hu.get? x1 = some o1 := e1 x1 o1 hne h1
  show wpAny _ _ (newExc (.type "StopIteration") [] >>= _) _ _ _
  refine wpAny_bind ?_
  simp only [newExc, newTuple]
  refine wpAny_bind (wpAny_newObj_type ?_ (by size_fits))
  refine wpAny_bind (m := firstArgMember _ _) (wpAny_of_eq (a := Value.none) (by first | rfl | (simp only [firstArgMember]; rfl)) ?_)
  refine wpAny_newObj_type ?_ (by size_fits)
  refine raiseNew_hot ⟨hh, o1, vs1, Heap.get?_push_of_some _ (Heap.get?_push_of_some _ k1), d1, c1⟩ (Nat.ne_of_lt (Heap.lt_size (Heap.get?_push_of_some _ k1))) (Heap.get?_push_size _ rfl) rfl (by first | (simp; done) | (simp; omega) | (simp only [Array.size_append]; simp; omega)) ?_
  refine wpAny_bind (wpAny_isInstance (T := "StopIteration") (b := true) ⟨_, Heap.get?_update_self _ (Heap.get?_push_size _ rfl) rfl, rfl⟩ isSubtype_stop ?_)
  refine wpAny_pure (hQ _ fun b ob hb e => ?_)
  have e2 := e1 b ob hb e
  rw [Heap.get?_update_other _ _ (Nat.ne_of_gt (Heap.lt_size (Heap.get?_push_of_some _ e2)))]
  exact Heap.get?_push_of_some _ (Heap.get?_push_of_some _ e2)
theorem walks_hot (x1 : Addr) (hh : A.handled = some (.ref x1)) (I ax : Addr) (hne : ax ≠ I) (hx : x1 ≠ I) (items : Array Value) :
    Walks prog w A I [I, ax, x1] [I] items.size (fun i v => items[i]? = some v) (fun i h => h.IsListIter I ax i ∧ h.IsList ax items ∧ HotO x1 h) where
  sub := fun b hb => by simp at hb; simp [hb]
  frame := fun _ _ _ st hk => ⟨st.1.at fun o e => hk I (by simp) o e, st.2.1.at fun o e => hk ax (by simp) o e, by
    obtain ⟨o, vs, e, r⟩ := st.2.2
    exact ⟨o, vs, hk x1 (by simp) o e, r⟩⟩
  item := fun i s Q E hi st hQ => by
    refine wpAny_pyNext_list_item st.1 st.2.1 (x := items[i]) (by simp [hi]) fun h' hit' hs' => ?_
    refine hQ _ h' s.toks (by simp [hi]) ⟨hit', st.2.1.extBut hs'.extBut hne, ?_⟩ fun b o hb e => hs'.extBut b o (fun h => hb (by simp [h])) e
    obtain ⟨o, vs, e, r⟩ := st.2.2
    exact ⟨o, vs, hs'.extBut x1 o hx e, r⟩
  done := fun s Q E st hQ => next_end_hot ⟨hh, st.2.2⟩ hx st.1 st.2.1 (by simp) fun h' he' => hQ h' s.toks fun b o hb e => he' b o (fun h => hb (by simp [h])) e
  self := fun _ _ _ _ st hQ => wpAny_pyIter_listiter st.1 hQ
theorem sum_hot {l x1 : Addr} {vs : List Value} {ns : List Int} {Q : Value → Shared → Prop} (hot : HotAt A x1 s.heap) (hl : s.heap.IsList l vs.toArray) (hi : IntsAre vs ns)
    (h : ∀ h' tk t', (∀ b o, s.heap.get? b = some o → h'.get? b = some o) → Q (.int ns.sum t') { s with heap := h', toks := tk }) : wpAny (model prog w) A (call (.builtin "sum") [.ref l]) Q E s := by
  obtain ⟨xs, e⟩ := hi.allInts.items
  have hn : numsOf (intItems xs).toList = ns := by rw [← e]; exact hi.numsOf
  rw [nums_intItems] at hn
  rw [e] at hl
  obtain ⟨hh, ho⟩ := hot
  refine PySem.call_sum_walkG (iter_intList hl fun s₂ e2 st hfp hlI => ?_)
  subst e2
  have hlt : x1 < s.heap.objs.size := by
    obtain ⟨o, vs, e, _⟩ := ho
    exact Heap.lt_size e
  have ho2 : HotO x1 (s.heap.push { cls := .type "list_iterator", data := .fields #[.ref l, .int 0 0] }) := by
    obtain ⟨o, vs, e, r⟩ := ho
    exact ⟨o, vs, Heap.get?_push_of_some _ e, r⟩
  refine ⟨_, _, _, _, _, _, numAt xs, rfl, walks_hot (A := A.in1) x1 hh _ l hlI (Nat.ne_of_lt hlt) (intItems xs), ⟨st.1, st.2, ho2⟩, fun b hb => ?_, (fun _ _ => intItems_at), fun h' tk t' hk => ?_⟩
  · rcases List.mem_cons.mp hb with e | hb
    · exact hfp b (by rw [e]; simp)
    · rcases List.mem_cons.mp hb with e | hb
      · exact hfp b (by rw [e]; simp)
      · rw [List.mem_singleton.mp hb]
        rw [Heap.size_push]
        exact Nat.lt_succ_of_lt hlt
  · have := h h' tk t' (old_kept hk)
    have z : preSum (numAt xs) (intItems xs).size = ns.sum := by
      have e3 : (intItems xs).size = xs.size := by simp [intItems]
      rw [e3, preSum_eq, List.take_of_length_le (by simp), hn]
    rw [z]
    exact this
end
/-! ### a comprehension -/
structure TurnX (P : Program) (w : World) (K : PySem.W.Frag) (tg : Expr) (J : It) (fp : List Addr) (it : Addr) (tn : Nat → Heap → Prop) : Prop where
  obj : ∀ i h, tn i h → ∀ b ∈ fp, ∃ o, h.get? b = some o ∧ ∀ v, o.data ≠ .cell v
  keep : ∀ i h h', tn i h → (∀ b ∈ fp, ∀ o, h.get? b = some o → h'.get? b = some o) → tn i h'
  item : ∀ (X : Cx), X.prog = P → X.w = w → X.K = K → ∀ (i : Nat) (pins : List (Addr × Obj)) (s : Shared) (σ : L2.St) (H : Hp) (E : Value → Shared → Prop), Inv X pins σ H s → (∀ b ∈ fp, FpOk X pins H b) → tn i s.heap → J.go i H →
    wpAny (model P w) X.A (pyNext (.ref it)) (fun r s1 => ∃ u, r = some u ∧
      wpAny (model P w) X.A (letOwnedTupleGo tg (.ref it) u) (fun _ s2 => ∃ x H', Inv X pins σ H' s2 ∧ RelV x u ∧ J.yld i H x H' ∧ tn (i + 1) s2.heap ∧ ∀ b ∈ fp, H' b = none) E s1) E s
  done : ∀ (X : Cx), X.prog = P → X.w = w → X.K = K → ∀ (x1 : Addr) (i : Nat) (pins : List (Addr × Obj)) (s : Shared) (σ : L2.St) (H : Hp) (E : Value → Shared → Prop), HotAt X.A x1 s.heap → x1 ∉ fp → Inv X pins σ H s → (∀ b ∈ fp, FpOk X pins H b) → tn i s.heap → J.stop i H →
    wpAny (model P w) X.A (pyNext (.ref it)) (fun r s1 => r = none ∧ Inv X pins σ H s1) E s
  self : ∀ (A : Around) (i : Nat) (s : Shared) (Q : Value → Shared → Prop) (E : Value → Shared → Prop), tn i s.heap → Q (.ref it) s → wpAny (model P w) A (pyIter (.ref it)) Q E s
theorem turnX_list {P : Program} {w : World} {K : PySem.W.Frag} {tg : Expr} (a it : Addr) : TurnX P w K tg (Itl K a) [it] it (fun i h => h.IsListIter it a i) where
  obj := fun i h st b hb => by
    obtain rfl : b = it := by simpa using hb
    obtain ⟨o, e, c, d⟩ := st
    exact ⟨o, e, fun v z => by rw [d] at z; cases z⟩
  keep := fun i h h' st k => st.at fun o e => k it (by simp) o e
  item := by
    intro X hP hw hK i pins s σ H E I hf st hg
    subst hP hw hK
    obtain ⟨xs, x, hq, hx⟩ := hg
    obtain ⟨its, rv, p, hz⟩ := I.list hq
    obtain ⟨u, hu, ru⟩ := rv.get hx
    obtain ⟨f0, f1, f2, f3, f4, f5⟩ := hf it (by simp)
    refine wpAny_pyNext_list_item st p.isList (x := u) (by simpa using hu) fun h' st' sb => ?_
    have I1 : Inv X pins σ H { s with heap := h' } := I.turned (t' := s.toks) (fun b o hb e => (sb.2 b hb).trans e) f0 f1 f3 f4 f5
    obtain ⟨o, e, c, d⟩ := id st'
    exact ⟨u, rfl, go_of (s := { s with heap := h' }) e c d (by decide) ⟨x, H, I1, ru, ⟨rfl, fun ys hy => by rw [I.list_inj hy hq]; exact hx⟩, st', fun b hb => (hf b hb).1⟩⟩
  done := by
    intro X hP hw hK x1 i pins s σ H E hot hnx I hf st hg
    subst hP hw hK
    obtain ⟨xs, hq, hx⟩ := hg
    obtain ⟨its, rv, p, hz⟩ := I.list hq
    obtain ⟨f0, f1, f2, f3, f4, f5⟩ := hf it (by simp)
    have hl := rv.length
    exact next_end_hot hot (by simpa using hnx) st p.isList (by simp; omega) fun h' eb => ⟨rfl, I.turned (t' := s.toks) (fun b o hb e => eb b o hb e) f0 f1 f3 f4 f5⟩
  self := fun _ _ _ _ _ st h => wpAny_pyIter_listiter st h
structure PIX (X : Cx) (tg iter : Expr) (wi : TI) : Prop where
  run : ∀ (pins : List (Addr × Obj)) (s : Shared) (σ : L2.St) (H : Hp) (R : It → Hp → Prop), Inv X pins σ H s → wi σ H R →
    wpAny (model X.prog X.w) X.A (eval iter X.env) (fun v s1 => wpAny (model X.prog X.w) X.A (pyIter v) (fun itv s2 => ∃ (it : Addr) (fp : List Addr) (tn : Nat → Heap → Prop) (J : It) (H' : Hp), itv = .ref it ∧ Inv X pins σ H' s2 ∧ TurnX X.prog X.w X.K tg J fp it tn ∧ tn 0 s2.heap ∧ (∀ b ∈ fp, FpOk X pins H' b) ∧ R J H') X.xe s1) X.xe s
section
variable {X : Cx} {tg : Expr}
theorem pix_list {l : Expr} {tl : TE} (hl : PE X l tl) : PIX X tg l (iList X.K tl) := by
  refine ⟨fun pins s σ H R I h => ?_⟩
  refine thn (hl.run pins s σ H _ I h) fun v s1 ⟨x, H1, I1, r1, q1⟩ => ?_
  obtain ⟨a, e, ⟨xs, hq⟩, q⟩ := q1
  subst e
  cases r1
  obtain ⟨its, rv, p, hz⟩ := I1.list hq
  refine wpAny_pyIter_list p.isList ?_
  refine ⟨s1.heap.objs.size, [s1.heap.objs.size], _, _, H1, rfl, I1.kept (t' := s1.toks) fun b o e => Heap.get?_push_of_some _ e, turnX_list a _, ⟨_, Heap.get?_push_size _ rfl, rfl, rfl⟩, fun b hb => ?_, q⟩
  obtain rfl : b = s1.heap.objs.size := by simpa using hb
  exact I1.fpOk (Nat.le_refl _) (I1.hok.fresh (Nat.le_refl _))
theorem lc_hot {elt tg iter : Expr} {ifs : List Expr} {scope : Scope} {own : List (Str × Nat)} {pos : Pos} {wi : TI} {g : TG} {tt : TT} {te : TE}
    (hc : HotC X) (hN : X.N.Nodup) (hi : PIX X tg iter wi) (ok : BlkOk X.N X.env.scope scope own)
    (hg : ∀ (s : Shared) (H : Hp) (C : Addr) (cl : List (Str × Addr)) (fp : List Addr), PG (X.blk s H scope (compEnvC scope cl C X.env) fp) tg g) (ht : ∀ (s : Shared) (H : Hp) (C : Addr) (cl : List (Str × Addr)) (fp : List Addr), PTs (X.blk s H scope (compEnvC scope cl C X.env) fp) ifs tt)
    (he : ∀ (s : Shared) (H : Hp) (C : Addr) (cl : List (Str × Addr)) (fp : List Addr), PE (X.blk s H scope (compEnvC scope cl C X.env) fp) elt te) (hs : ∀ x, foldedSetIterable iter X.env x = pure x) :
    PE X (.ListComp elt [⟨tg, iter, ifs, 0⟩] scope pos) (tLc wi g tt te (own.map (·.2))) := by
  refine ⟨fun pins s σ H Q I h => ?_⟩
  rw [eval_ListComp]
  have hfree : ∀ y ∈ scope.names, y.2 = .free → ∃ c, X.env.cells.lookup y.1 = some c := fun y hy e => by
    rcases ok.free y hy e with k | k
    · exact I.ok.has _ (.inl k)
    · exact I.ok.has _ (.inr k)
  refine wpAny_comprehension_free (use := none) rfl hs (closure_ok hfree) ok.kind (fun y hy e => by rw [ok.uniq y hy, e])
    (thn (hi.run pins s σ H _ I h) fun xv s1 hx => thn hx fun itv s2 h2 => ?_)
  obtain ⟨it, fp, tn, J, H2, e, I2, T, st2, f2, q⟩ := h2
  subst e
  refine wpAny_newObj_type (newEnv_comp ?_) (by show 0 ≤ sizeLine; decide)
  generalize hD : s2.heap.objs.size = D
  have hDn : H2 D = none := I2.hok.fresh (Nat.le_of_eq hD)
  obtain ⟨W, ⟨m0, w0⟩, turn⟩ := q D hDn
  generalize hs3 : ({ s2 with heap := s2.heap.push { cls := .type "list", data := .seq ([] : List Value).toArray } } : Shared) = s3
  have I3 : Inv X pins σ (upd H2 D (.lst [])) s3 := by
    rw [← hs3]
    refine I2.laid (t' := s2.toks) (fun b o e => Heap.get?_push_of_some _ e) (Nat.le_of_eq hD) ⟨Nat.zero_le _, [], 0, .nil, ?_⟩
    rw [← hD]
    exact Heap.get?_push_size _ rfl
  have h3 : s3.heap = s2.heap.push { cls := .type "list", data := .seq ([] : List Value).toArray } := by rw [← hs3]
  -- the handled exception stands there, out of reach
  obtain ⟨pn, hot1, hpn⟩ := hc
  obtain ⟨hP1, hP2, hP3, hP4, hP5⟩ := I3.pin pn (List.mem_append_left _ hpn)
  have hxf : pn.1 ∉ fp := fun hm => (f2 pn.1 hm).2.2.2.2.2 pn (List.mem_append_left _ hpn) rfl
  have hxfs : pn.1 ∉ frs X.stack := fun hm => (List.mem_cons.mp (I3.stkSub _ hm)).elim hP3 hP4
  have sz : ∀ b ∈ fp, b < s2.heap.objs.size := fun b hb => by
    obtain ⟨o, e, _⟩ := T.obj _ _ st2 b hb
    exact Heap.lt_size e
  have f3 : ∀ b ∈ fp, FpOk X pins (upd H2 D (.lst [])) b ∧ b < s3.heap.objs.size := fun b hb => by
    have hlt := sz b hb
    refine ⟨⟨?_, (f2 b hb).2⟩, by rw [h3, Heap.size_push]; exact Nat.lt_succ_of_lt hlt⟩
    rw [upd_ne (by rw [← hD]; exact Nat.ne_of_lt hlt)]
    exact (f2 b hb).1
  have st3 : tn 0 s3.heap := T.keep _ _ _ st2 fun b _ o e => by rw [h3]; exact Heap.get?_push_of_some _ e
  have I4 := block_start I3 ok hN f3
  have pg := hg s3 (upd H2 D (.lst [])) s3.heap.objs.size (cellsFrom (s3.heap.objs.size + 1) scope.names (cloFrom X.env.cells scope.names [])) fp
  have pt := ht s3 (upd H2 D (.lst [])) s3.heap.objs.size (cellsFrom (s3.heap.objs.size + 1) scope.names (cloFrom X.env.cells scope.names [])) fp
  have pe := he s3 (upd H2 D (.lst [])) s3.heap.objs.size (cellsFrom (s3.heap.objs.size + 1) scope.names (cloFrom X.env.cells scope.names [])) fp
  show codeAny _ _ (.compStart (.ListComp elt [⟨tg, iter, ifs, 0⟩] scope pos) 0 (.ref it) (.ref D) (compEnvC scope (cellsFrom (s3.heap.objs.size + 1) scope.names (cloFrom X.env.cells scope.names [])) s3.heap.objs.size X.env)) (compPost (model X.prog X.w) X.A X.xe none (EP X pins σ Q) (.ref D) s3.heap.objs.size) { s3 with heap := pushCells (s3.heap.push { cls := .type "dict", data := .dict #[] }) scope.names }
  have nfp : ∀ b ∈ fp, (upd H2 D (.lst [])) b = none := fun b hb => (f3 b hb).1.1
  generalize hce : compEnvC scope (cellsFrom (s3.heap.objs.size + 1) scope.names (cloFrom X.env.cells scope.names [])) s3.heap.objs.size X.env = ce at I4 pg pt pe ⊢
  have cL : ce.locals = s3.heap.objs.size := by subst hce; rfl
  generalize hH3 : upd H2 D (.lst []) = H3 at I3 I4 pg pt pe w0 nfp f3 hP2
  generalize hs4 : ({ s3 with heap := pushCells (s3.heap.push { cls := .type "dict", data := .dict #[] }) scope.names } : Shared) = s4 at I4 ⊢
  have st4 : tn 0 s4.heap := T.keep _ _ _ st3 fun b _ o e => by rw [← hs4]; exact pushCells_keeps _ _ _ _ (Heap.get?_push_of_some _ e)
  have stat : ∀ {σ' : L2.St} {H' : Hp} {s' : Shared}, Inv (X.blk s3 H3 scope ce fp) [] σ' H' s' → (∀ b ∈ fp, H' b = none) → ∀ b ∈ fp, FpOk (X.blk s3 H3 scope ce fp) [] H' b := fun {σ' H' s'} I' hn b hb =>
    ⟨hn b hb, (I'.ok.exf b hb).1, I'.ok.exfs b hb, .inl hb, fun x c e => (I'.ok.exf b hb).2 x c e, fun p hp => absurd (show p ∈ ([] : List (Addr × Obj)) ++ [] from hp) (by simp)⟩
  have hotS : ∀ {σ' : L2.St} {H' : Hp} {s' : Shared}, Inv (X.blk s3 H3 scope ce fp) [] σ' H' s' → HotAt X.A pn.1 s'.heap := fun {σ' H' s'} I' => by
    obtain ⟨hh, vs, hd, hv⟩ := hot1
    exact ⟨hh, pn.2, vs, I'.base.keep pn.1 pn.2 hP1 hP2 hxfs hxf, hd, hv⟩
  have loop : codeAny (model X.prog X.w) X.A (.compLoop (.ListComp elt [⟨tg, iter, ifs, 0⟩] scope pos) 0 (.ref it) (.ref D) ce) (compPost (model X.prog X.w) X.A X.xe none (EP X pins σ Q) (.ref D) s3.heap.objs.size) s4 := by
    refine compLoop_any (fun n s' => ∃ i H', Inv (X.blk s3 H3 scope ce fp) [] (L2.wipe σ (own.map (·.2))) H' s' ∧ tn i s'.heap ∧ (∀ b ∈ fp, H' b = none) ∧ W i n H') ?_ m0 ⟨0, H3, I4, st4, nfp, w0⟩
    rintro n s5 ⟨i, H5, I5, st5, n5, w5⟩
    rcases turn i n H5 w5 with ⟨stop, qq⟩ | ⟨go, Nx, hNx, step⟩
    · have td := T.done (X.blk s3 H3 scope ce fp) rfl rfl rfl pn.1 i [] s5 _ H5 (fun _ _ => False) (hotS I5) hxf I5 (stat I5 n5) st5 stop
      refine thnF td fun r s6 ⟨hr, I6⟩ => ?_
      subst hr
      have I7 : Inv X pins σ H5 s6 := I3.call' (ch := fp) I6.os I6.base I6.hok I6.bare fun b hb => ⟨(f3 b hb).1.2.2.2.1, (f3 b hb).1.2.1, (f3 b hb).1.2.2.2.2.1, (f3 b hb).1.2.2.2.2.2⟩
      have nC : H5 s3.heap.objs.size = none := by
        have z : H5 ce.locals = none := I6.free
        rw [cL] at z
        exact z
      obtain ⟨m, hn, _⟩ := I6.loc
      have hn : s6.heap.Ns ce.locals m := hn
      rw [cL] at hn
      obtain ⟨f0, f1, f2, f3, f4, f5⟩ := I3.fpOk (Nat.le_refl _) nC
      exact ⟨m, hn, fun h'' sb => ⟨.ref D, H5, I7.turned (t' := s6.toks) (fun b o hb e => (sb.2 b hb).trans e) f0 f1 f3 f4 f5, rfl, qq⟩⟩
    · have ti := T.item (X.blk s3 H3 scope ce fp) rfl rfl rfl i [] s5 _ H5 (fun _ _ => False) I5 (stat I5 n5) st5 go
      refine thnF ti fun r s6 ⟨u, hr, h6⟩ => ?_
      subst hr
      refine thnF h6 fun _ s7 ⟨x, H7, I7, r7, y7, st7, n7⟩ => ?_
      have I7' := I7.pinned (stat I7 n7) (T.obj _ _ st7)
      refine thnF (pg.run _ s7 _ H7 x u _ I7' r7 (step x H7 y7)) fun _ s8 ⟨σ8, H8, I8, hw8, q8⟩ => ?_
      refine thnF (pt.run _ s8 σ8 H8 _ I8 q8) fun b s9 ⟨H9, I9, q9⟩ => ?_
      have fin : ∀ {s' : Shared} {H' : Hp}, Inv (X.blk s3 H3 scope ce fp) ([] ++ pinsAt fp s7.heap) σ8 H' s' → Nx H' → ∃ m, m < n ∧ ∃ i H', Inv (X.blk s3 H3 scope ce fp) [] (L2.wipe σ (own.map (·.2))) H' s' ∧ tn i s'.heap ∧ (∀ b ∈ fp, H' b = none) ∧ W i m H' := fun {s' H'} I' nx => by
        obtain ⟨m', hm, w'⟩ := hNx H' nx
        have pin' : ∀ b ∈ fp, ∀ o, s7.heap.get? b = some o → s'.heap.get? b = some o ∧ H' b = none := fun b hb o e =>
          let z := I'.pin (b, o) (List.mem_append_right _ (List.mem_append_right _ (mem_pinsAt hb e)))
          ⟨z.1, z.2.1⟩
        have hl : (L2.wipe σ (own.map (·.2))).length = σ8.length := by rw [← hw8, wipe_length]
        refine ⟨m', hm, i + 1, H', (I'.unpinned (pins := [])).weak hl (fun j v e => ?_), T.keep _ _ _ st7 fun b hb o e => (pin' b hb o e).1, fun b hb => ?_, w'⟩
        · rw [← hw8] at e
          exact (wipe_some e).1
        · obtain ⟨o, e, _⟩ := T.obj _ _ st7 b hb
          exact (pin' b hb o e).2
      cases b with
      | false =>
        simp only [Bool.false_eq_true, if_false] at q9 ⊢
        exact fin I9 q9
      | true =>
        simp only [if_true] at q9 ⊢
        refine thnF (pe.run _ s9 σ8 H9 _ I9 q9) fun z s10 ⟨yv, H10, I10, r10, acc, hD10, hz10, nx⟩ => ?_
        exact app_ok (X := X.blk s3 H3 scope ce fp) I10 hD10 hz10 r10 fun s11 I11 => fin I11 nx
  exact codeAny_compStart_list loop (T.self X.A 0 _ _ _ st4 loop)
end
end DL
set_option Elab.async false
set_option linter.all false
set_option maxRecDepth 100000
set_option maxHeartbeats 2000000
/-! what a suite's def may ask, an exception being handled -/
namespace DL
open PySem PySem.Spec PyProof.Rows L2 LamX HotX L2H
def iOfL (f : Rho → R D) : Rho → R (List D) := fun ρ => (f ρ).bind fun d => match d with
  | .list ds => .ok ds
  | _ => .no
def mSumL : List D → R D
  | [.list ds] => match asIs ds with
    | some ns => okI ns.sum
    | none => .no
  | _ => .no
def mIndex (d : D) (xs : List D) : R D := match d, xs with
  | .list ds, [x] => if SeqAt.shaped (.list ds) && SeqAt.shaped x then match ds.findIdx? (fun z => PyData.eqv z x) with
      | some j => okI (j : Nat)
      | none => .no
    else .no
  | _, _ => .no
theorem tm_sumL : Tame1 mSumL := fun a c h => by unfold mSumL at h; split at h <;> (try split at h) <;> cases h
theorem tm_index : TameM mIndex := fun a b c h => by unfold mIndex at h; split at h <;> (try split at h) <;> (try split at h) <;> cases h
open Classical in
noncomputable def eIsE (i : Nat) (v : V) (b : Bool) : Rho → R D := fun ρ => if ρ[i]? = some (.obj v) then .ok (.bool b) else .no
section
variable {X : Cx} {T : List (Addr × Str)} {W : WX} {tg e iter elt : Expr} {f : Rho → R D} {pos p p2 : Pos}
theorem PIX.imp {t u : TI} (h : PIX X tg e t) (k : ∀ σ H Q, u σ H Q → t σ H Q) : PIX X tg e u := ⟨fun pins s σ H Q I q => h.run pins s σ H Q I (k σ H Q q)⟩
theorem dix_of (h : DE T X W e f) : PIX X tg e (dIr X.K T W ExtF (iOfL f)) := by
  refine PIX.imp (pix_list h) fun σ H Q q => ?_
  obtain ⟨Hb, ρ, S, q⟩ := q
  unfold iOfL at q
  refine ⟨Hb, ρ, S, ?_⟩
  cases ef : f ρ with
  | no => rw [ef] at q; exact q.elim
  | exc c => rw [ef] at q; exact q
  | ok d =>
    rw [ef] at q
    cases d with
    | list ds =>
      intro v H1 x1 r1
      obtain ⟨a, o, xs, rfl, ha, hs, hl⟩ := r1
      exact ⟨a, rfl, ⟨xs, ha.sq⟩, q _ H1 x1 (walk_fl ha hs) hl⟩
    | _ => exact q.elim
theorem d_lcH {fi : Rho → R (List D)} {k : Tgt} {t : Rho → R Bool} {fe : Rho → R D} {own : List (Str × Nat)} {scope : Scope} {ifs : List Expr} (hc : HotC X) (hN : X.N.Nodup) (hi : PIX X tg iter (dIr X.K T W ExtF fi)) (ok : BlkOk X.N X.env.scope scope own)
    (hg : ∀ (s : Shared) (H : Hp) (C : Addr) (cl : List (Str × Addr)) (fp : List Addr), DG T (X.blk s H scope (compEnvC scope cl C X.env) fp) (own.map (·.2)) tg k)
    (ht : ∀ (s : Shared) (H : Hp) (C : Addr) (cl : List (Str × Addr)) (fp : List Addr), DTs T (X.blk s H scope (compEnvC scope cl C X.env) fp) W0 ifs t)
    (he : ∀ (s : Shared) (H : Hp) (C : Addr) (cl : List (Str × Addr)) (fp : List Addr), DE T (X.blk s H scope (compEnvC scope cl C X.env) fp) W0 elt fe)
    (hs : ∀ x, foldedSetIterable iter X.env x = pure x := by intro _; kernel_rfl) : DE T X W (.ListComp elt [⟨tg, iter, ifs, 0⟩] scope pos) (eLc (own.map (·.2)) fi k t fe) :=
  PE.imp (pe_frz (lc_hot hc hN hi ok hg ht he hs)) fun σ H Q q => lc_reads q (fun p xs H1 hp z => .inr ⟨p, xs, rfl, hp, z⟩) exF
theorem c_sumH (hc : HotC X) : CallR X (.builtin "sum") (rDn X.K T mSumL) := by
  rintro pins s σ H xs us Q I r ⟨ds, rd, q⟩
  unfold mSumL at q
  split at q
  · split at q
    · rename_i bs e
      obtain ⟨v, rfl, p, o, vs, rfl, hp, hs, hl⟩ := rd.inv1
      have := asIs_vals e hs
      subst this
      rw [Vals.ref1 r]
      obtain ⟨its, rv, hl, _⟩ := I.list (a := p) (hp.sq)
      obtain ⟨x1, hot⟩ := hc.at I
      exact sum_hot hot hl.isList rv.ints fun h' tk t' hk => ⟨.int _, H, I.kept hk, ⟨_, rfl⟩, q _ H Ex.refl rfl⟩
    · exact q.elim
  · exact q.elim
theorem c_index (hu : X.A.units + 65 < cLine) : MtR X "list.index" (rDm X.K T mIndex) := by
  rintro pins s σ H x xs v us Q I rx r ⟨d, ds, rd, rs, q⟩
  unfold mIndex at q
  split at q
  · rename_i ls y
    split at q
    · rename_i hsh
      rw [Bool.and_eq_true] at hsh
      split at q
      · rename_i j ej
        obtain ⟨yv, rfl, ry⟩ := rs.inv1
        have rd' := rd
        obtain ⟨a, o, vs, rfl, ha, hs, hl⟩ := rd
        obtain ⟨hj, hz, hb⟩ := List.findIdx?_eq_some_iff_getElem.mp ej
        refine mt_indexD hu pins s σ H _ _ v us Q I rx r ⟨a, yv, y, ls, j, ls[j], rfl, rfl, Rp.dp _ _ rd', Rp.dp _ _ ry, hsh.1, hsh.2, List.getElem?_eq_getElem hj, hz, fun m z' hm ez => ?_, q _ H Ex.refl rfl⟩
        have hm2 : m < ls.length := Nat.lt_trans hm hj
        rw [List.getElem?_eq_getElem hm2] at ez
        cases ez
        have := hb m hm
        simpa using this
      · exact q.elim
    · exact q.elim
  · exact q.elim
/-- isinstance(e, c), e the exception that stands at a -/
theorem call_isP {a Dc : Addr} {oe : Obj} (hp : (a, oe) ∈ X.pn) (C : ExcC X.K Dc) (hz : Zc (.ref Dc) none oe) (hf : ∃ vs, oe.data = .fields vs) : CallR X (.builtin "isinstance") (rIsE X.K Dc a) := by
  intro pins s σ H xs us Q I r h
  obtain ⟨c, cv, b, rfl, hcv, e, q⟩ := h
  cases r with
  | cons rx rr =>
    cases rr with
    | cons rt rr =>
      cases rr
      cases rx
      have ec := hcv _ rt
      subst ec
      obtain ⟨hget, _⟩ := I.pin (a, oe) (List.mem_append.mpr (.inl hp))
      obtain ⟨vs, hv⟩ := hf
      have J : PySem.W.InstAt s.heap a oe Dc none := by
        obtain ⟨oc, od, oda, osl⟩ := oe
        obtain ⟨h1, h2⟩ := hz
        dsimp only at h1 h2 hv
        subst h1 h2 hv
        exact ⟨hget, rfl, rfl, trivial⟩
      exact PySem.W.kia_one (PySem.W.handS_kitx_exc C.hg C.hk C.hs C.hd C.ha C.hn C.ht C.hm) I.kIn J e (fun z => nomatch z) fun tk => ⟨.bl b, H, I.kept (t' := tk) fun _ _ z => z, rfl, q⟩
theorem d_isE (i : Nat) {x y : Str} {a Dc C : Addr} {b : Bool} (hc : CallR X (.builtin "isinstance") (rIsE X.K Dc a)) (hk : PySem.W.kitOne X.K (.ref Dc) (.ref C) = some b) (hmy : X.mg y = some (.ref C)) (hm : X.mg "isinstance" = none)
    (hN : X.N[i]? = some x := by kernel_rfl) (hv : visB X.env.scope x = true := by kernel_rfl) (hd : (x == ("__debug__" : Str)) = false := by kernel_rfl) (hcd : (x == ("__classdict__" : Str)) = false := by kernel_rfl)
    (hgy : X.env.kindOf y = some .globalImplicit := by kernel_rfl) (hdy : (y == ("__debug__" : Str)) = false := by kernel_rfl) (hg : X.env.kindOf "isinstance" = some .globalImplicit := by kernel_rfl)
    (hb : bootBuiltins "isinstance" = some (.builtin "isinstance") := by decide +kernel)
    (hs : starEach [.Name x p, .Name y p2] X.env = (false, eval (.Name x p) X.env) :: starEach [.Name y p2] X.env := by kernel_rfl) (hpl : (backTo pos (starEach [.Name y p2] X.env)).any (·.1) = false := by kernel_rfl)
    (hs2 : starEach [.Name y p2] X.env = (false, eval (.Name y p2) X.env) :: starEach [] X.env := by kernel_rfl) {pc : Pos} :
    DE T X W (.Call (.Name "isinstance" pc) [.Name x p, .Name y p2] [] pos) (eIsE i (.ref a) b) := by
  refine PE.imp (pe_callB hc hg hm hb (pa_cons (pe_var (i := i) hN (vis_of hv) hd hcd) (pa_cons (pe_glob (v := .ref C) hgy hmy rfl hdy) pa_nil hs2) hs) (by decide) (by decide) hs hpl) fun σ H Q q => ?_
  obtain ⟨Hb, ρ, S, q⟩ := q
  unfold eIsE at q
  split at q
  · rename_i e
    have hσ := S.sl i _ e
    have hσ : σ.getD i none = some (.ref a) := hσ
    refine ⟨.ref a, slot_at S e hσ, ?_⟩
    exact ⟨_, .ref C, b, rfl, fun u r => by cases r; rfl, hk, q _ _ Ex.refl rfl⟩
  · exact q.elim
theorem d_isB (i : Nat) {x y : Str} {n : String} {a Dc : Addr} {b : Bool} (hc : CallR X (.builtin "isinstance") (rIsE X.K Dc a)) (hk : PySem.W.kitOne X.K (.ref Dc) (.type n) = some b) (hmy : X.mg y = none) (hby : bootBuiltins y = some (.type n)) (hm : X.mg "isinstance" = none)
    (hN : X.N[i]? = some x := by kernel_rfl) (hv : visB X.env.scope x = true := by kernel_rfl) (hd : (x == ("__debug__" : Str)) = false := by kernel_rfl) (hcd : (x == ("__classdict__" : Str)) = false := by kernel_rfl)
    (hgy : X.env.kindOf y = some .globalImplicit := by kernel_rfl) (hny : y ≠ "__name__" := by decide) (hdy : (y == ("__debug__" : Str)) = false := by kernel_rfl) (hg : X.env.kindOf "isinstance" = some .globalImplicit := by kernel_rfl)
    (hb : bootBuiltins "isinstance" = some (.builtin "isinstance") := by decide +kernel)
    (hs : starEach [.Name x p, .Name y p2] X.env = (false, eval (.Name x p) X.env) :: starEach [.Name y p2] X.env := by kernel_rfl) (hpl : (backTo pos (starEach [.Name y p2] X.env)).any (·.1) = false := by kernel_rfl)
    (hs2 : starEach [.Name y p2] X.env = (false, eval (.Name y p2) X.env) :: starEach [] X.env := by kernel_rfl) {pc : Pos} :
    DE T X W (.Call (.Name "isinstance" pc) [.Name x p, .Name y p2] [] pos) (eIsE i (.ref a) b) := by
  refine PE.imp (pe_callB hc hg hm hb (pa_cons (pe_var (i := i) hN (vis_of hv) hd hcd) (pa_cons (pe_bltn (v := .ty n) hgy hmy hby rfl hny hdy) pa_nil hs2) hs) (by decide) (by decide) hs hpl) fun σ H Q q => ?_
  obtain ⟨Hb, ρ, S, q⟩ := q
  unfold eIsE at q
  split at q
  · rename_i e
    have hσ : σ.getD i none = some (.ref a) := S.sl i _ e
    refine ⟨.ref a, slot_at S e hσ, ?_⟩
    exact ⟨_, .type n, b, rfl, fun u r => by cases r; rfl, hk, q _ _ Ex.refl rfl⟩
  · exact q.elim
end
/-! ### a def that gets the handled exception -/
section
theorem run_ofP {CX : CXT} {P : Program} {w : World} {K : PySem.W.Frag} {mg : Str → Option Value} {base : Heap} {k : Nat} {f : Addr} {name qual : Str} {params : Arguments} {body : List Stmt} {scope : Scope} {dV kV doc pm cdv ct oc : Value} {an od : Option Addr}
    {osl : Array (Option Value)} {N ps : List Str} (lk : K.lookup f = some ⟨oc, od, .func (PySem.W.fnOf name qual params body scope dV kV doc pm an cdv ct), osl⟩) (hcd : PySem.W.codeIn K cdv qual = true) (S : FnScope N ps scope)
    {A : Around} {outer : List Env} {s : Shared} {H : Hp} {args : Args} {us : List Value} {vs : List V} {Q : VK} {E : XK} {p : Addr × Obj} (hr : RoomH (k + 1) A) (hpin : PinOk outer H s p) (e0 : Env0 P w K mg base A outer s H) (hb : BindsTo s (PySem.W.fnOf name qual params body scope dV kV doc pm an cdv ct) args (ps.zip us)) (r : Vals vs us) (hl : vs.length = ps.length)
    (hbody : RoomH k (A.deeper (envOfC qual scope s.heap.objs.size f cdv)) → ∃ t, PSs (cxH CX P w K mg base N qual scope f cdv A outer s H E p) body t ∧ t { nx := fun _ H' => Q .non H', rt := Q } (L2.start N vs) H) :
    codeAny (model P w) A (.call (.ref f) args) (CR CX outer P w H s Q E) s := by
  have KX : K.In s.heap := e0.mod.kin.keeps fun b o e => (e0.bs b o e).1
  have lim : s.heap.NoLimit := e0.mod.nolimit.keeps fun b o e => (e0.bs b o e).1
  have hkind : ∀ y ∈ ps.zip us, scope.names.lookup y.1 = some .local ∨ (scope.names.lookup y.1 = some .cell ∧ ((cellsFrom (s.heap.objs.size + 1) scope.names []).lookup y.1).isSome = true) := fun ⟨n, v⟩ hy => by
    rcases S.par n (List.of_mem_zip hy).1 with q | q
    · exact .inl q
    · exact .inr ⟨q, PySem.W.cellsFrom_some _ _ _ (.inl q)⟩
  refine codeAny_call_function hr.depth (KX _ _ lk) rfl S.co S.gen rfl (PySem.W.codeRec_of KX hcd) (hb _ _ _ _ ?_)
  refine wpAny_newFunctionEnv_cells S.kind hkind fun env he s1 x => ?_
  subst he
  refine ⟨lim.keeps x.toInCall.keep, codeAny_func ?_⟩
  obtain ⟨t, ht, hq⟩ := hbody (hr.deeper _)
  have I : Inv (cxH CX P w K mg base N qual scope f cdv A outer s H E p) [] (L2.start N vs) H s1 := inv_startH S hpin e0 hl r x
  refine wpAny_mono (ht.run [] s1 (L2.start N vs) H _ I hq) (fun fl s' hs => ?_) fun e s' hs => hs
  have fin : ∀ {σ' : L2.St} {H' : Hp} {v : V} {u : Value}, Inv (cxH CX P w K mg base N qual scope f cdv A outer s H E p) [] σ' H' s' → L2.RelV v u → Q v H' → CE outer P w H s Q u s' :=
    fun {σ' H' v u} J rv q => ⟨v, H', J.os, J.bare, J.base, J.hok, rv, q⟩
  cases fl with
  | ret u =>
    obtain ⟨v, σ', H', J, rv, q⟩ := hs
    exact fin J rv q
  | next =>
    obtain ⟨σ', H', J, q⟩ := hs
    exact fin (v := V.non) (u := Value.none) J rfl q
  | brk =>
    obtain ⟨_, _, _, q⟩ := hs
    exact False.elim q
  | cont =>
    obtain ⟨_, _, _, q⟩ := hs
    exact False.elim q
end
end DL
set_option Elab.async false
set_option linter.all false
set_option maxRecDepth 100000
set_option maxHeartbeats 2000000
/-! told(lambda: ..): what a deed tells, or the word of its refusal -/
namespace DL
open PySem PySem.Spec PyProof.Rows L2 LamX HotX L2H
/-- the def x words a handled exception of the class c -/
structure Wd (P : Program) (w : World) (K : Frag) (mg : Str → Option Value) (base : Heap) (T : List (Addr × Str)) (k : Nat) (x c : Str) : Prop where
  run : ∀ (A : Around) (outer : List Env) (s : Shared) (H : Hp) (Q : VK) (a : Addr) (oe : Obj), RoomH k A → A.handled = some (.ref a) → L2N.Zn (.ref (He.ga K c)) none oe → (∃ vs, oe.data = .fields vs) → PinOk outer H s (a, oe) →
    Env0 P w K mg base A outer s H → Tabs T H → (∀ v H', Ex T H H' → Rp K H' (.str c) v → Q v H') → codeAny (model P w) A (.call (.ref (He.ga K x)) ⟨[.ref a], []⟩) (CR C8.CX0 outer P w H s Q C8.E0) s
theorem sr_obj {K : Frag} {T : List (Addr × Str)} {H : Hp} {N : List Str} {v : V} (hN : 0 < N.length) (ht : Tabs T H) : SR K T H (.obj v :: List.replicate (N.length - 1) .no) (L2.start N [v]) H := by
  have no : ∀ (i : Nat) (s : Sl), (Sl.obj v :: List.replicate (N.length - 1) Sl.no)[i]? = some s → (i = 0 ∧ s = .obj v) ∨ s = .no := fun i s e => by
    cases i with
    | zero => left; simp at e; exact ⟨rfl, e.symm⟩
    | succ i =>
      right
      rw [List.getElem?_cons_succ, List.getElem?_replicate] at e
      split at e
      · cases e; rfl
      · cases e
  refine ⟨?_, fun i s e => ?_, fun i j s u p e1 e2 o1 o2 _ _ => ?_, ExtN.refl H, ht⟩
  · unfold L2.start
    simp only [List.length_append, List.length_map, List.length_replicate, List.length_cons, List.length_nil]
    omega
  · rcases no i s e with ⟨rfl, rfl⟩ | rfl
    · rfl
    · trivial
  · rcases no i s e1 with ⟨_, rfl⟩ | rfl <;> cases o1
section
variable {P : Program} {w : World} {K : Frag} {mg : Str → Option Value} {base : Heap} {T : List (Addr × Str)} {x c e : Str} {params : Arguments} {body : List Stmt} {scope : Scope} {fd : FuncData} {N : List Str} {k : Nat} {g : V → Rho → Fl}
theorem wd_of (F : FunD K x x params body scope [] [] (He.ga K x) fd) (S : FnScope N [e] scope) (hb : Binds K fd [e] [])
    (hbody : ∀ (cdv : Value) (A : Around) (outer : List Env) (s : Shared) (H : Hp) (a : Addr) (oe : Obj), Hot1 A (a, oe) → L2N.Zn (.ref (He.ga K c)) none oe → (∃ vs, oe.data = .fields vs) → RoomH k (A.deeper (envOfC x scope s.heap.objs.size (He.ga K x) cdv)) →
      DSs T (cxH C8.CX0 P w K mg base N x scope (He.ga K x) cdv A outer s H C8.E0 (a, oe)) W0 body (g (.ref a)))
    (hfin : ∀ v, fin (g v (.obj v :: List.replicate (N.length - 1) .no)) = .ok (.str c)) : Wd P w K mg base T (k + 1) x c := by
  refine ⟨fun A outer s H Q a oe hr hh hz hf hpin e0 ht q => ?_⟩
  obtain ⟨oc, od, dV, kV, doc, pm, an, cdv, ct, osl, rfl, lk, hcd, _, _⟩ := F.ex
  have KX : K.In s.heap := e0.mod.kin.keeps fun b o e => (e0.bs b o e).1
  have b := hb s [.ref a] KX rfl
  obtain ⟨vs, hv⟩ := id hf
  have hot : Hot1 A (a, oe) := ⟨hh, vs, hv, hz.2.2 vs hv⟩
  have hN : 0 < N.length := by
    have := congrArg List.length S.pre
    rw [List.length_take] at this
    simp at this
    omega
  refine run_ofP (N := N) (ps := [e]) (us := [.ref a]) (vs := [.ref a]) (p := (a, oe)) lk hcd S hr hpin e0 b (.cons rfl .nil) rfl fun hr' => ?_
  refine ⟨_, hbody cdv A outer s H a oe hot hz hf hr', H, _, sr_obj hN ht, ?_⟩
  have z := hfin (.ref a)
  cases eg : g (.ref a) (.obj (.ref a) :: List.replicate (N.length - 1) .no) with
  | rt d =>
    rw [eg] at z
    cases z
    exact fun v H' e t r => q v H' ⟨e, fun _ => t⟩ r
  | _ => rw [eg] at z; cases z
end
/-- it is asked within the suite -/
theorem pe_word {X : Cx} {T : List (Addr × Str)} {x n c : Str} {i k : Nat} {a : Addr} {oe : Obj} {pn : List (Addr × Obj)} {p p2 pos : Pos} (G : Wd X.prog X.w X.K X.mg X.base T k x c) (hr : RoomH k X.A) (hz : L2N.Zn (.ref (He.ga X.K c)) none oe) (hf : ∃ vs, oe.data = .fields vs)
    (hm : X.mg x = some (.ref (He.ga X.K x))) (hk : PySem.W.keepIn X.K (.ref (He.ga X.K x)) = true) (hg : Gl X x) (hdb : (x == ("__debug__" : Str)) = false) (hN : X.N[i]? = some n) (hv : Vis X.env.scope n) (hd : (n == ("__debug__" : Str)) = false) (hcd : (n == ("__classdict__" : Str)) = false) :
    PE (X.suite a ((a, oe) :: pn)) (.Call (.Name x p) [.Name n p2] [] pos) (fun σ H Q => σ[i]? = some (some (.ref a)) ∧ Tabs T H ∧ ∀ v H', Ex T H H' → Rp X.K H' (.str c) v → Q v H') := by
  refine ⟨fun pins s σ H Q I h => ?_⟩
  obtain ⟨hs, ht, q⟩ := h
  have hg' : Gl (X.suite a ((a, oe) :: pn)) x := hg
  refine wpAny_Call_Name_kw (ld_glob I hg' hm ?_ hdb)
  have ha : PA (X.suite a ((a, oe) :: pn)) [.Name n p2] (tCons (fun σ H Q => ∃ v, σ[i]? = some (some v) ∧ Q v H) tNil) := pa_cons (pe_var (i := i) hN hv hd hcd) pa_nil
  refine PySem.W.callWith_K (h₀ := X.base) I.ok.mod.kin hk (thn (ha.run pos pins s σ H (fun vs H1 => vs = [.ref a] ∧ H1 = H) I ⟨.ref a, hs, rfl, rfl⟩) fun us s1 ⟨vs, H1, I1, r, e1, e2⟩ => ⟨I1.kIn, ?_⟩) (by rfl) (by rfl)
  subst e1
  subst e2
  rw [Vals.ref1 r]
  have P1 := I1.pin (a, oe) (List.mem_append_left _ List.mem_cons_self)
  have hpin : PinOk X.stack H1 s1 (a, oe) := ⟨P1.1, P1.2.1, fun hm => (List.mem_cons.mp (I1.stkSub a hm)).elim P1.2.2.1 P1.2.2.2.1, P1.2.2.2.2⟩
  refine wpAny_call (codeAny_mono (G.run (X.A.mark (some (.ref a))) X.stack s1 H1 Q a oe ⟨hr.dp, hr.un⟩ rfl hz hf hpin I1.env0 ht q) fun r s' hq => ?_)
  cases r with
  | error e => exact (show False from hq).elim
  | ok fl =>
    cases fl with
    | ret u => exact I1.after hq
    | next => exact False.elim hq
    | brk => exact False.elim hq
    | cont => exact False.elim hq
/-! ### the lambda -/
abbrev lamN (X : Cx) (A : Around) (outer : List Env) (s : Shared) (H : Hp) (E : XK) (scope : Scope) (f c' : Addr) : Cx := (lamCx X A outer s H E scope f c').tr [] (fun e s' => wpAny (model X.prog X.w) (A.deeper (lamEnv X scope s.heap.objs.size f c')) (leaving (lamEnv X scope s.heap.objs.size f c') e) (fun _ s'' => L2N.CX X.prog X.w outer H s E e s'') (fun e' s'' => L2N.CX X.prog X.w outer H s E e' s'') s')
section
variable {X : Cx} {pins : List (Addr × Obj)} {σ : L2.St} {H : Hp} {s : Shared}
theorem pe_actN {CXg : CXT} {Eg : XK} {Ng : List Str} {qg : Str} {sg : Scope} {g f c' : Addr} {cdg pm ctv : Value} {params : Arguments} {body : Expr} {scope : Scope} {k i : Nat} {a : Str} {pn : List (Addr × Obj)} {xe : Value → Shared → Prop} {W : WX} {tb : XK → TE} {p1 p2 : Pos}
    (I : Inv X pins σ H s) (L : LamS X.env.scope scope) (hf : s.heap.get? f = some (PySem.W.kla_obj "<lambda>" (X.env.qual ++ "<lambda>") params body scope (cloFrom X.env.cells scope.names []) pm c' ctv)) (hfn : H f = none) (hfr : f ∉ frs X.stack)
    (hbind : bindArgs (PySem.W.kla_fn "<lambda>" (X.env.qual ++ "<lambda>") params body scope (cloFrom X.env.cells scope.names []) pm (.ref c') ctv) ⟨[], []⟩ = pure [])
    (tk : L2N.Takes ((cxOf CXg X.prog X.w X.K X.mg X.base Ng qg sg g cdg X.A X.stack s H Eg).tr pn xe) W) (hr : Room (k + 1) (X.A.deeper (envOfC qg sg s.heap.objs.size g cdg)))
    (hbody : ∀ (A : Around) (outer : List Env) (s : Shared) (H : Hp) (E : XK), Room k (A.deeper (lamEnv X scope s.heap.objs.size f c')) → PE (lamN X A outer s H E scope f c') body (tb E))
    (hN : Ng[i]? = some a) (hv : Vis sg a) (hd : (a == ("__debug__" : Str)) = false := by decide) (hcd : (a == ("__classdict__" : Str)) = false := by decide) :
    PE ((cxOf CXg X.prog X.w X.K X.mg X.base Ng qg sg g cdg X.A X.stack s H Eg).tr pn xe) (.Call (.Name a p1) [] [] p2)
      (fun σZ HZ Q => σZ[i]? = some (some (.ref f)) ∧ HZ c' = some (CodeO c' (X.env.qual ++ "<lambda>")) ∧ tb (fun cls d H' => W cls d σZ H') σ HZ Q) := by
  refine ⟨fun pinsZ sZ σZ HZ Q IZ h => ?_⟩
  obtain ⟨hs, hc, ht⟩ := h
  refine wpAny_Call_Name_kw (thn ((pe_var (pos := p1) (i := i) hN hv hd hcd).run pinsZ sZ σZ HZ (fun v H1 => v = .ref f ∧ H1 = HZ) IZ ⟨.ref f, hs, rfl, rfl⟩) fun u s1 ⟨v, H1, I1, r1, q1⟩ => ?_)
  obtain ⟨ev, eH⟩ := q1
  subst ev
  rw [eH] at I1
  obtain rfl : u = Value.ref f := r1
  have of1 : s1.heap.get? f = some (PySem.W.kla_obj "<lambda>" (X.env.qual ++ "<lambda>") params body scope (cloFrom X.env.cells scope.names []) pm c' ctv) := I1.base.keep f _ hf hfn hfr (fun z => nomatch (show f ∈ ([] : List Addr) from z))
  refine PySem.W.callWith_F0 ⟨_, _, _, _, of1⟩ ?_
  have un : Un (frs X.stack) [] H HZ s.heap s1.heap := I1.base
  obtain ⟨⟨oc, vs, t, hoc, hdc, hvc⟩, _, _⟩ := I1.hok c' _ hc
  have rc : codeAny (model X.prog X.w) (X.A.deeper (envOfC qg sg s.heap.objs.size g cdg)) (.call (.ref f) ⟨[], []⟩) (CR (L2N.CX X.prog X.w) (envOfC qg sg s.heap.objs.size g cdg :: X.stack) X.prog X.w HZ s1 Q (fun cls d H' => W cls d σZ H')) s1 := by
    refine PySem.W.kla_callFunE hr.depth of1 rfl L.co L.gen rfl ⟨c', oc, vs, t, rfl, hoc, hdc, hvc⟩ ?_
    rw [hbind]
    refine wpAny_pure (wpAny_newFunctionEnv (fun y hy => (L.own y hy).2) (fun y hy => absurd hy (by simp)) (fun h₁ hns hsb => ⟨I1.nolimit.fresh _ hsb, ?_⟩) L.kind)
    show codeAny _ _ (.expr body (lamEnv X scope s1.heap.objs.size f c')) _ _
    have kp : ∀ b o, s1.heap.get? b = some o → h₁.get? b = some o := fun b o e => hsb.extBut b o (Nat.ne_of_lt (Heap.lt_size e)) (Heap.get?_push_of_some _ e)
    have J0 : Inv (lamCx X (X.A.deeper (envOfC qg sg s.heap.objs.size g cdg)) (envOfC qg sg s.heap.objs.size g cdg :: X.stack) s1 HZ (fun cls d H' => W cls d σZ H') scope f c') [] σ HZ { s1 with heap := h₁, toks := s1.toks + ([] : List (Str × Value)).length } :=
      lam_start2 I L I1.env0 hr.hd un hns kp
    have J := J0.toTry (fun e s' => wpAny (model X.prog X.w) ((X.A.deeper (envOfC qg sg s.heap.objs.size g cdg)).deeper (lamEnv X scope s1.heap.objs.size f c')) (leaving (lamEnv X scope s1.heap.objs.size f c') e) (fun _ s'' => L2N.CX X.prog X.w (envOfC qg sg s.heap.objs.size g cdg :: X.stack) HZ s1 (fun cls d H' => W cls d σZ H') e s'') (fun e' s'' => L2N.CX X.prog X.w (envOfC qg sg s.heap.objs.size g cdg :: X.stack) HZ s1 (fun cls d H' => W cls d σZ H') e' s'') s')
    refine PySem.W.kla_codeExpr (wpAny_mono ((hbody _ _ s1 HZ (fun cls d H' => W cls d σZ H') (hr.deeper _)).run [] _ _ HZ Q J ht) (fun v s' hq => ?_) fun e s' hq => hq)
    obtain ⟨w', H', J', rv, q⟩ := hq
    exact ⟨w', H', J'.os, J'.bare, J'.base, J'.hok, rv, q⟩
  have hx := L2N.passAt tk σZ
  refine wpAny_call (codeAny_mono rc fun r s' hq => ?_)
  cases r with
  | error e => exact hx pinsZ HZ s1 e s' I1 hq
  | ok fl =>
    cases fl with
    | ret u => exact I1.after hq
    | next => exact False.elim hq
    | brk => exact False.elim hq
    | cont => exact False.elim hq
end
def eTold (ws : List Str) (f : Rho → R D) : Rho → R D := fun ρ => match f ρ with
  | .ok d => .ok d
  | .exc c => if c ∈ ws then .ok (.str c) else .no
  | .no => .no
/-- what is known of told, and of the def that words -/
structure Told (P : Program) (w : World) (K : Frag) (mg : Str → Option Value) (base : Heap) (T : List (Addr × Str)) (k : Nat) (x a n wd cl : Str) (ws : List Str) (pg : Arguments) (bg : List Stmt) (sg : Scope) (Ng : List Str) : Prop where
  fn : ∃ fd, FunD K x x pg bg sg [] [] (He.ga K x) fd ∧ Binds K fd [a] []
  glo : mg x = some (.ref (He.ga K x))
  sc : FnScope Ng [a] sg
  nd : Ng.Nodup
  n0 : Ng[0]? = some a
  n1 : Ng[1]? = some n
  va : Vis sg a
  ln : sg.names.lookup n = some .local
  gw : sg.names.lookup wd = some .globalImplicit
  gc : sg.names.lookup cl = some .globalImplicit
  body : ∃ p1 p2 p3 p4 p5 p6 p7 p8 p9 p10, bg = [.Try [.Return (some (.Call (.Name a p1) [] [] p2)) p3] [.ExceptHandler (some (.Name cl p4)) (some n) [.Return (some (.Call (.Name wd p5) [.Name n p6] [] p7)) p8] p9] [] [] p10]
  mw : mg wd = some (.ref (He.ga K wd))
  kw : PySem.W.keepIn K (.ref (He.ga K wd)) = true
  mc : mg cl = some (.ref (He.ga K cl))
  exm : ∀ c ∈ ws, PySem.W.exmOne K (.ref (He.ga K c)) (.ref (He.ga K cl)) = some true
  wrd : ∀ c ∈ ws, Wd P w K mg base T k wd c
  d1 : (a == ("__debug__" : Str)) = false
  d2 : (a == ("__classdict__" : Str)) = false
  d3 : (n == ("__debug__" : Str)) = false
  d4 : (n == ("__classdict__" : Str)) = false
  d5 : (wd == ("__debug__" : Str)) = false
  d6 : (cl == ("__debug__" : Str)) = false
section
variable {X : Cx} {T : List (Addr × Str)} {W : WX} {ws : List Str} {x a n wd cl : Str} {pg : Arguments} {bg : List Stmt} {sg : Scope} {Ng : List Str} {k kw : Nat}
theorem told_body (G : Told X.prog X.w X.K X.mg X.base T kw x a n wd cl ws pg bg sg Ng) {f c' g : Addr} {cdg : Value} {s : Shared} {H : Hp} {Q : VK} {q : Str} {tl : XK → Hp → VK → Prop} (hr : RoomH kw (X.A.deeper (envOfC x sg s.heap.objs.size g cdg)))
    (act : ∀ (W : WX) (pn : List (Addr × Obj)) (xe : Value → Shared → Prop) (p1 p2 : Pos), L2N.Takes ((cxOf C8.CX0 X.prog X.w X.K X.mg X.base Ng x sg g cdg X.A X.stack s H C8.E0).tr pn xe) W →
      PE ((cxOf C8.CX0 X.prog X.w X.K X.mg X.base Ng x sg g cdg X.A X.stack s H C8.E0).tr pn xe) (.Call (.Name a p1) [] [] p2) (fun σZ HZ Q => σZ[0]? = some (some (.ref f)) ∧ HZ c' = some (CodeO c' q) ∧ tl (fun cls d H' => W cls d σZ H') HZ Q))
    (hc : H c' = some (CodeO c' q)) (h : ∀ E : XK, (∀ c ∈ ws, ∀ H', Tabs T H' → (∀ v H'', Ex T H' H'' → Rp X.K H'' (.str c) v → Q v H'') → E (.ref (He.ga X.K c)) none H') → tl E H Q) :
    ∃ t, PSs (cxOf C8.CX0 X.prog X.w X.K X.mg X.base Ng x sg g cdg X.A X.stack s H C8.E0).nox bg t ∧ t { nx := fun _ H' => Q .non H', rt := Q } (L2.start Ng [.ref f]) H := by
  obtain ⟨p1, p2, p3, p4, p5, p6, p7, p8, p9, p10, rfl⟩ := G.body
  have hgl : Gl (cxOf C8.CX0 X.prog X.w X.K X.mg X.base Ng x sg g cdg X.A X.stack s H C8.E0).nox cl := G.gc
  have hgw : Gl (cxOf C8.CX0 X.prog X.w X.K X.mg X.base Ng x sg g cdg X.A X.stack s H C8.E0).nox wd := G.gw
  refine ⟨_, pss_one (L2N.ps_try_as (X := (cxOf C8.CX0 X.prog X.w X.K X.mg X.base Ng x sg g cdg X.A X.stack s H C8.E0).nox) (c := .ref (He.ga X.K cl)) (i := 1)
      (tb := fun W D σ H => σ[0]? = some (some (.ref f)) ∧ H c' = some (CodeO c' q) ∧ tl (fun cls d H' => W cls d σ H') H D.rt)
      (ts := fun a cls d D σ H => ∃ c ∈ ws, cls = .ref (He.ga X.K c) ∧ d = none ∧ σ[1]? = some (some (.ref a)) ∧ Tabs T H ∧ ∀ v H', Ex T H H' → Rp X.K H' (.str c) v → D.rt v H')
      (Wout := fun _ _ _ _ => False)
      rfl rfl G.nd G.n1 G.ln ⟨hgl, G.d6, .inl G.mc⟩ takesN0 (fun W pn xe tk _ => ?_) (fun a oe cls d pn hz hf => ?_)), ?_⟩
  · refine ⟨fun pins s' σ H' D I h' => ?_⟩
    obtain ⟨h1, h2, h3⟩ := h'
    exact (pss_one (ps_ret (pos := p3) (act W pn xe p1 p2 tk))).run pins s' σ H' D I ⟨h1, h2, h3⟩
  · refine ⟨fun pins s' σ H' D I h' => ?_⟩
    obtain ⟨c, hcw, rfl, rfl, h1, h2, h3⟩ := h'
    have pw := pe_word (X := (cxOf C8.CX0 X.prog X.w X.K X.mg X.base Ng x sg g cdg X.A X.stack s H C8.E0).nox) (T := T) (a := a) (pn := pn) (p := p5) (p2 := p6) (pos := p7) (i := 1) (G.wrd c hcw) hr hz hf G.mw G.kw hgw G.d5 G.n1 (.inl G.ln) G.d3 G.d4
    exact (pss_one (ps_ret (pos := p8) pw)).run pins s' σ H' D I ⟨h1, h2, h3⟩
  · have l1 : 1 < (L2.start Ng [V.ref f]).length := by
      have := (List.getElem?_eq_some_iff.mp G.n1).1
      unfold L2.start
      simp only [List.length_append, List.length_map, List.length_replicate, List.length_cons, List.length_nil]
      omega
    refine ⟨rfl, hc, h _ fun c hcw H' ht' hq => ⟨true, G.exm c hcw, fun _ a _ => ⟨c, hcw, rfl, rfl, ?_, ht', hq⟩, fun z => by cases z⟩⟩
    rw [List.getElem?_set_self l1]
theorem d_told (G : Told X.prog X.w X.K X.mg X.base T kw x a n wd cl ws pg bg sg Ng) {c P : Addr} {params : Arguments} {body : Expr} {scope : Scope} {f : Rho → R D} {p lpos pos : Pos} (hg : Gl X x)
    (TB : TabB X.base X.mg c P) (hcode : X.env.code = .ref c) (hmT : (P, X.env.qual ++ "<lambda>") ∈ T) (hu : ∀ p ∈ T, p.1 = P → p.2 = X.env.qual ++ "<lambda>") (hr : Room (k + 2) X.A) (hkw : kw ≤ k + 1) (L : LamS X.env.scope scope)
    (hbody : ∀ (A : Around) (outer : List Env) (s : Shared) (H : Hp) (E : XK) (f' c' : Addr), Room k (A.deeper (lamEnv X scope s.heap.objs.size f' c')) → DE T (lamN X A outer s H E scope f' c') (WD E) body f)
    (hdef : defaultsOf params X.env = ([], []) := by kernel_rfl) (hbind : ∀ (q : Str) (cl : List (Str × Addr)) (pm cv ctv : Value), bindArgs (PySem.W.kla_fn "<lambda>" q params body scope cl pm cv ctv) ⟨[], []⟩ = pure [] := by intro _ _ _ _ _; kernel_rfl)
    (hdb : (x == ("__debug__" : Str)) = false := by kernel_rfl) :
    DE T X W (.Call (.Name x p) [.Lambda params body scope lpos] [] pos) (eTold ws f) := by
  refine ⟨fun pins s σ H Q I h => ?_⟩
  obtain ⟨Hb, ρ, S, h⟩ := h
  obtain ⟨fd, F, hb⟩ := G.fn
  obtain ⟨oc, od, dV, kV, doc, pm, an, cdv, ct, osl, rfl, lk, hcg, _, _⟩ := F.ex
  refine wpAny_Call_Name_kw (ld_glob I hg G.glo ?_ hdb)
  refine PySem.W.callWith_K (h₀ := X.base) I.ok.mod.kin F.kp ?_ (by rfl) (by rfl)
  show wpAny _ _ (spliced ((false, eval (.Lambda params body scope lpos) X.env) :: backTo pos (starEach [] X.env))) _ _ s
  refine Calls.spliced_cons (lam_make2 I TB hcode hmT hu S.tab hdef (L.has I.ok) fun f' c' pm' ctv H1 s' I1 eN T1 hf hfn hfr hco => ?_)
  refine Calls.spliced_nil ⟨I1.kIn, ?_⟩
  have rc : codeAny (model X.prog X.w) X.A (.call (.ref (He.ga X.K x)) ⟨[.ref f'], []⟩) (CR C8.CX0 X.stack X.prog X.w H1 s' Q C8.E0) s' := by
    refine run_ofS (N := Ng) (ps := [a]) (us := [.ref f']) (vs := [.ref f']) lk hcg G.sc hr I1.env0 (hb s' [.ref f'] I1.kIn rfl) (.cons rfl .nil) rfl fun hr' => ?_
    have key : ∀ E : XK, (∀ c ∈ ws, ∀ H', Tabs T H' → (∀ v H'', Ex T H' H'' → Rp X.K H'' (.str c) v → Q v H'') → E (.ref (He.ga X.K c)) none H') → dE X.K T (WD E) f σ H1 Q := fun E hE => by
      have x1 : Ex T H H1 := ⟨eN, fun _ => T1⟩
      refine ⟨Hb, ρ, S.mono x1, ?_⟩
      unfold eTold at h
      cases ef : f ρ with
      | no => rw [ef] at h; exact h
      | ok d => rw [ef] at h; exact fun v H' x2 r => h v H' (x1.trans x2) r
      | exc c =>
        rw [ef] at h
        have h : Res X.K T W (if c ∈ ws then .ok (.str c) else .no) σ H Q := h
        by_cases hc : c ∈ ws
        · rw [if_pos hc] at h
          exact fun H' x2 => hE c hc H' (x2.t T1) fun v H'' x3 r => h v H'' ((x1.trans x2).trans x3) r
        · rw [if_neg hc] at h; exact h.elim
    obtain ⟨t', ht', hq'⟩ := told_body (f := f') (c' := c') (s := s') (H := H1) (Q := Q) (g := He.ga X.K x) (cdg := cdv) (q := X.env.qual ++ "<lambda>") (tl := fun E H' Q' => dE X.K T (WD E) f σ H' Q') G ((roomH_of hr').mono hkw)
      (fun W pn xe p1 p2 tk => pe_actN (i := 0) (tb := fun E => dE X.K T (WD E) f) I1 L hf hfn hfr (hbind _ _ _ _ _) tk hr' (fun A outer s H E hr2 => hbody A outer s H E f' c' hr2) G.n0 G.va G.d1 G.d2) hco key
    exact ⟨t', ht'.nox, hq'⟩
  refine wpAny_call (codeAny_mono rc fun r s2 hq => ?_)
  cases r with
  | error e => exact (show False from hq).elim
  | ok fl =>
    cases fl with
    | ret u => exact I1.after hq
    | next => exact False.elim hq
    | brk => exact False.elim hq
    | cont => exact False.elim hq
end
end DL
set_option Elab.async false
set_option linter.all false
set_option maxRecDepth 100000
/-! what the head tells of the exceptions' classes -/
namespace DL
open PySem PySem.Spec PyProof.Rows L2
def excCB (K : PySem.W.Frag) (a : Addr) : Bool :=
  He.eqO (PySem.W.findIn K (.ref a) "__getattribute__") (some (some (.builtin "BaseException.__getattribute__"))) && (He.eqO (PySem.W.findIn K (.ref a) "__getattr__") (some none) && (decide (PySem.W.subIn K (.ref a) (.type "BaseException") = some true) && (PySem.W.hasDictIn K a &&
  (He.eqO (PySem.W.findIn K (.ref a) "__class__") (some (some (.builtin "object.__class__"))) && (He.eqO (PySem.W.specialIn K (.builtin "object.__class__") "__get__") (some (some (.builtin "getset_descriptor.__get__"))) && (decide (PySem.W.takesIn K (.builtin "object.__class__") = some true) && decide (PySem.W.mroIn K a (.type "object") = some true)))))))
theorem excCB_ok {K : PySem.W.Frag} {a : Addr} (h : excCB K a = true) : ExcC K a := by
  unfold excCB at h
  simp only [Bool.and_eq_true, decide_eq_true_eq] at h
  obtain ⟨h1, h2, h3, h4, h5, h6, h7, h8⟩ := h
  exact ⟨He.eqO_ok h1, He.eqO_ok h2, h3, h4, He.eqO_ok h5, He.eqO_ok h6, h7, h8⟩
def excB (K : PySem.W.Frag) (cl : Str) (ws : List Str) : Bool := ws.all fun c => excCB K (He.ga K c) && (decide (PySem.W.exmOne K (.ref (He.ga K c)) (.ref (He.ga K cl)) = some true) && (decide (PySem.W.kitOne K (.ref (He.ga K c)) (.type "ValueError") = some true) &&
  ws.all fun d => decide (PySem.W.kitOne K (.ref (He.ga K c)) (.ref (He.ga K d)) = some (c == d))))
theorem excB_ok {K : PySem.W.Frag} {cl : Str} {ws : List Str} (h : excB K cl ws = true) {c : Str} (hc : c ∈ ws) : ExcC K (He.ga K c) ∧ PySem.W.exmOne K (.ref (He.ga K c)) (.ref (He.ga K cl)) = some true ∧ PySem.W.kitOne K (.ref (He.ga K c)) (.type "ValueError") = some true ∧
    ∀ d ∈ ws, PySem.W.kitOne K (.ref (He.ga K c)) (.ref (He.ga K d)) = some (c == d) := by
  unfold excB at h
  have h := List.all_eq_true.mp h c hc
  simp only [Bool.and_eq_true, decide_eq_true_eq, List.all_eq_true] at h
  exact ⟨excCB_ok h.1, h.2.1, h.2.2.1, h.2.2.2⟩
def words : List Str := ["BadBook", "BadIndex", "BadKind", "BadMoves", "BadText", "BadWay", "Doubtful", "NoLand", "NoNumber", "Nothing"]
abbrev TQ := List ((Str × Option Str) × Str)
def apartB (tq : TQ) (K : PySem.W.Frag) : Bool := tq.all fun p => tq.all fun q => !decide ((He.cT K p.1).2 = (He.cT K q.1).2) || decide (p.2 = q.2)
end DL
set_option Elab.async false
set_option linter.all false
set_option maxRecDepth 100000
set_option maxHeartbeats 2000000
namespace DL
open PySem PySem.Spec PyProof.Rows L2 LamX HotX L2H
section
variable {fa : List He.Fa} {fn : List He.DefD} {K : Frag} {mg : Str → Option Value} {base : Heap}
theorem Rw.fun_ (C : Rw fa fn K mg base) (j : Nat) {d : He.DefD} (hd : fn[j]? = some d) (hq : d.dfl = []) (hk : d.kwd = []) : ∃ fd, FunD K d.name d.qual d.params d.body d.scope [] [] (He.fAd K d.at_) fd := by
  obtain ⟨fd, F⟩ := C.says.def_ j hd
  have e1 : d.dvs K = [] := by unfold He.DefD.dvs; rw [hq]; rfl
  have e2 : d.kws K = [] := by unfold He.DefD.kws; rw [hk]; rfl
  rw [e1, e2] at F
  exact ⟨fd, F⟩
end
theorem unitsH {k : Nat} {A : Around} (r : RoomH k A) : A.units + 64 < cLine := by have := r.un; omega
theorem unitsH65 {k : Nat} {A : Around} (r : RoomH k A) : A.units + 65 < cLine := by have := r.un; omega
def toldB (a cl n wd : Str) : List Stmt → Bool
  | [.Try [.Return (some (.Call (.Name a' _) [] [] _)) _] [.ExceptHandler (some (.Name cl' _)) (some n') [.Return (some (.Call (.Name wd' _) [.Name n2 _] [] _)) _] _] [] [] _] => decide (a' = a) && (decide (cl' = cl) && (decide (n' = n) && (decide (wd' = wd) && decide (n2 = n))))
  | _ => false
theorem toldB_ok {a cl n wd : Str} {bg : List Stmt} (h : toldB a cl n wd bg = true) : ∃ p1 p2 p3 p4 p5 p6 p7 p8 p9 p10, bg = [.Try [.Return (some (.Call (.Name a p1) [] [] p2)) p3] [.ExceptHandler (some (.Name cl p4)) (some n) [.Return (some (.Call (.Name wd p5) [.Name n p6] [] p7)) p8] p9] [] [] p10] := by
  unfold toldB at h
  split at h
  · simp only [Bool.and_eq_true, decide_eq_true_eq] at h
    obtain ⟨rfl, rfl, rfl, rfl, rfl⟩ := h
    exact ⟨_, _, _, _, _, _, _, _, _, _, rfl⟩
  · cases h
/-! ### a method's def: self, then data -/
def rhoO (n : Nat) (v : V) (ds : List D) : Rho := .obj v :: (ds.map .dat ++ List.replicate (n - 1 - ds.length) .no)
theorem sr_startO {K : Frag} {T : List (Addr × Str)} {H : Hp} {N : List Str} {v : V} {ds : List D} {vs : List V} (hl : ds.length + 1 ≤ N.length) (ht : Tabs T H) (r : RpL K H ds vs) : SR K T H (rhoO N.length v ds) (L2.start N (v :: vs)) H := by
  have hlen := r.len
  have no : ∀ (i : Nat) (s : Sl), (rhoO N.length v ds)[i]? = some s → (i = 0 ∧ s = .obj v) ∨ (∃ j d, i = j + 1 ∧ ds[j]? = some d ∧ s = .dat d) ∨ s = .no := fun i s e => by
    unfold rhoO at e
    cases i with
    | zero => left; simp at e; exact ⟨rfl, e.symm⟩
    | succ i =>
      right
      rw [List.getElem?_cons_succ] at e
      by_cases hi : i < ds.length
      · left
        rw [List.getElem?_append_left (by simpa using hi), List.getElem?_map, List.getElem?_eq_getElem hi] at e
        cases e
        exact ⟨i, _, rfl, List.getElem?_eq_getElem hi, rfl⟩
      · right
        rw [List.getElem?_append_right (by simpa using hi), List.getElem?_replicate] at e
        split at e
        · cases e; rfl
        · cases e
  refine ⟨?_, fun i s e => ?_, fun i j s u p e1 e2 o1 o2 _ _ => ?_, ExtN.refl H, ht⟩
  · unfold rhoO L2.start
    simp only [List.length_append, List.length_map, List.length_replicate, List.length_cons]
    omega
  · rcases no i s e with ⟨rfl, rfl⟩ | ⟨j, d, rfl, hd, rfl⟩ | rfl
    · rfl
    · obtain ⟨u, q1, q2⟩ := r.get hd
      refine ⟨u, ?_, q2⟩
      have hj : j < vs.length := (List.getElem?_eq_some_iff.mp q1).1
      unfold L2.start
      rw [List.getD_eq_getElem?_getD, List.getElem?_append_left (by simpa using hj), List.getElem?_map, List.getElem?_cons_succ, q1]
      rfl
    · trivial
  · rcases no i s e1 with ⟨_, rfl⟩ | ⟨_, _, _, _, rfl⟩ | rfl <;> cases o1
/-- of a def that is asked with an object ahead: only its refusals are told -/
def spI (K : Frag) (T : List (Addr × Str)) (n : Nat) (F : List D → R D) : Sp := fun vs H Q E => vs.length = n ∧ Tabs T H ∧ ∃ v ws ds c, vs = v :: ws ∧ RpL K H ds ws ∧ F ds = .exc c ∧ ∀ H', Ex T H H' → E (.ref (He.ga K c)) none H'
section
variable {P : Program} {w : World} {K : Frag} {mg : Str → Option Value} {base : Heap} {T : List (Addr × Str)} {x qual : Str} {params : Arguments} {body : List Stmt} {scope : Scope} {f : Addr} {fd : FuncData} {N ps : List Str} {k : Nat} {g : Rho → Fl} {F : List D → R D}
theorem fi_of (Fd : FunD K x qual params body scope [] [] f fd) (S : FnScope N ps scope) (hF : ∀ v ds c, F ds = .exc c → fin (g (rhoO N.length v ds)) = .exc c)
    (hbody : ∀ (cdv : Value) (A : Around) (outer : List Env) (s : Shared) (H : Hp) (E : XK), Room k (A.deeper (envOfC qual scope s.heap.objs.size f cdv)) →
      DSs T (cxOf (L2N.CX P w) P w K mg base N qual scope f cdv A outer s H E) (WD E) body g) : FnOk P w K mg base (L2N.CX P w) (k + 1) f fd ps (spI K T ps.length F) := by
  refine Fd.ok S (fun vs H Q E h => h.1) fun cdv A outer s H vs Q E hr h => ⟨_, hbody cdv A outer s H E hr, ?_⟩
  obtain ⟨hl, ht, v, ws, ds, c, rfl, r, ef, q⟩ := h
  have hpl : ps.length ≤ N.length := by have := congrArg List.length S.pre; rw [List.length_take] at this; omega
  refine ⟨H, _, sr_startO (by have := r.len; simp at hl; omega) ht r, ?_⟩
  have z := hF v ds c ef
  cases eg : g (rhoO N.length v ds) with
  | exc c' ρ =>
    rw [eg] at z
    cases z
    exact fun σ H' S' => q H' ⟨S'.ext, fun _ => S'.tab⟩
  | _ => rw [eg] at z; cases z
end
theorem fin_exp {f : Rho → R D} {ρ ρ' : Rho} (h : f ρ = f ρ') : fin (sSeq (sExp f) (fun _ => .no) ρ) = fin (sSeq (sExp f) (fun _ => .no) ρ') := by
  unfold sSeq sExp
  rw [h]
  cases f ρ' <;> rfl
/-- C(..), where its __init__ refuses -/
def eMkX (n : Nat) (F : List D → R D) (fs : Rho → R (List D)) : Rho → R D := fun ρ => (fs ρ).bind fun ds => if ds.length = n then (match F ds with
  | .exc c => .exc c
  | _ => .no) else .no
theorem d_mkX {X : Cx} {T : List (Addr × Str)} {E : XK} {e : Expr} {es : List Expr} {fs : Rho → R (List D)} {F : List D → R D} {k m n : Nat} {C f : Addr} {fd : FuncData} {ps : List Str} {x : Str} {p pos : Pos} (tk : L2N.Takes X (WD E)) (hr : Room (m + 1) X.A) (M : Mk X.K C f)
    (G : FnOk X.prog X.w X.K X.mg X.base (L2N.CX X.prog X.w) k f fd ps (spI X.K T ps.length F)) (hk : k ≤ m) (hn : ps.length = n + 1) (hb : Binds X.K fd ps []) (hm : X.mg x = some (.ref C)) (ha : DA T X (WD E) (e :: es) fs) (hg : X.env.kindOf x = some .globalImplicit := by kernel_rfl) (hdb : (x == ("__debug__" : Str)) = false := by kernel_rfl)
    (he : starEach (e :: es) X.env = (false, eval e X.env) :: starEach es X.env := by kernel_rfl) (hpl : (backTo pos (starEach es X.env)).any (·.1) = false := by kernel_rfl) : DE T X (WD E) (.Call (.Name x p) (e :: es) [] pos) (eMkX n F fs) := by
  refine PE.imp (pe_make (E := E) (dvs := []) M G (hr.mono (Nat.succ_le_succ hk)) hg hm hb .nil (L2N.passes_call tk fun _ _ _ _ h => h) ha hdb he hpl) fun σ H Q q => ?_
  obtain ⟨Hb, ρ, S, q⟩ := q
  refine ⟨Hb, ρ, S, ?_⟩
  unfold eMkX at q
  cases ef : fs ρ with
  | no => rw [ef] at q; exact q
  | exc c => rw [ef] at q; exact q
  | ok ds =>
    rw [ef, R.bind_ok] at q
    intro vs H1 x1 r1 a dx h1 h2 hne
    by_cases hl : ds.length = n
    · rw [if_pos hl] at q
      cases eg : F ds with
      | exc c =>
        rw [eg] at q
        have xa : Ex T H1 (upd H1 dx (.own a)) := Ex.new h2
        have h3 : (upd H1 dx (.own a)) a = none := by rw [upd_ne (fun z => hne z.symm)]; exact h1
        have xb : Ex T (upd H1 dx (.own a)) (upd (upd H1 dx (.own a)) a (.ins C dx [])) := Ex.new h3
        have xc := xa.trans xb
        refine ⟨by rw [List.append_nil, List.length_cons, r1.len, hl, hn], xc.t ((S.mono x1).tab), .ref a, vs, ds, c, by rw [List.append_nil], RpL.mono xc.e _ _ r1, eg, fun H' x2 => q H' ((x1.trans xc).trans x2)⟩
      | ok d => rw [eg] at q; exact q.elim
      | no => rw [eg] at q; exact q.elim
    · rw [if_neg hl] at q; exact q.elim
end DL
set_option Elab.async false
set_option linter.all false
set_option maxRecDepth 100000
set_option maxHeartbeats 2000000
/-! the law's own def, and the end -/
namespace DL
open PySem PySem.Spec PyProof.Rows L2 LamX
def scriptD (ns : List Int) : D := .list (ns.map .int)
theorem ints_rp {K : Frag} {H : Hp} : ∀ ns : List Int, RpL K H (ns.map .int) (ns.map V.int)
  | [] => rfl
  | n :: ns => ⟨.int n, ns.map V.int, rfl, rfl, ints_rp ns⟩
/-- the tables of the law's lambdas -/
abbrev tabsOf (K : Frag) (q : Str) : List (Addr × Str) := [((He.cT K ("law", none)).2, q)]
def spL (K : Frag) (T : List (Addr × Str)) : Sp := fun vs H Q _ => ∃ (a : Addr) (ns : List Int), vs = [V.ref a] ∧ ns.length ≤ 63 ∧ (∀ z ∈ ns, Builtin.Int.intBits z ≤ 1048576) ∧ Tabs T H ∧ SqL K H a (ns.map V.int) ∧ ∀ H', Q (.bl true) H'
theorem sr_law {K : Frag} {T : List (Addr × Str)} {H : Hp} {N : List Str} {a : Addr} {ns : List Int} (hN : 0 < N.length) (hl : ns.length ≤ 63) (ht : Tabs T H) (hs : SqL K H a (ns.map V.int)) :
    ∃ Hb ρ, SR K T Hb ρ (L2.start N [V.ref a]) H ∧ frz1 0 ρ = rho0 N.length [scriptD ns] := by
  have small : (ns.map PyData.int).length ≤ sizeLine := by rw [List.length_map, sizeLine_eq]; omega
  have dat : ∀ o, FzL K H a o (ns.map V.int) → ∃ Hb ρ, SR K T Hb ρ (L2.start N [V.ref a]) H ∧ frz1 0 ρ = rho0 N.length [scriptD ns] := fun o h =>
    ⟨H, rho0 N.length [scriptD ns], sr_start ht ⟨.ref a, [], rfl, ⟨a, o, _, rfl, h, ints_rp ns, small⟩, rfl⟩, rfl⟩
  rcases hs with (h | ⟨o, h⟩) | ⟨o, its, n, h⟩
  · refine ⟨fun b => if b = a then none else H b, .ml (ns.map .int) :: List.replicate (N.length - 1) .no, ?_, ?_⟩
    · have no : ∀ (i : Nat) (s : Sl), (Sl.ml (ns.map .int) :: List.replicate (N.length - 1) Sl.no)[i]? = some s → (i = 0 ∧ s = .ml (ns.map .int)) ∨ s = .no := fun i s e => by
        cases i with
        | zero => left; simp at e; exact ⟨rfl, e.symm⟩
        | succ i =>
          right
          rw [List.getElem?_cons_succ, List.getElem?_replicate] at e
          split at e
          · cases e; rfl
          · cases e
      refine ⟨?_, fun i s e => ?_, fun i j s u p e1 e2 o1 o2 _ _ => ?_, fun b o e _ => ?_, ht⟩
      · unfold L2.start
        simp only [List.length_append, List.length_map, List.length_replicate, List.length_cons, List.length_nil]
        omega
      · rcases no i s e with ⟨rfl, rfl⟩ | rfl
        · exact ⟨a, ns.map V.int, rfl, h, ints_rp ns, fun o e => by simp at e⟩
        · trivial
      · rcases no i s e1 with ⟨rfl, rfl⟩ | rfl
        · rcases no j u e2 with ⟨rfl, rfl⟩ | rfl
          · rfl
          · cases o2
        · cases o1
      · by_cases hb : b = a
        · simp [hb] at e
        · simpa [hb] using e
    · show (Sl.ml (ns.map .int) :: List.replicate (N.length - 1) Sl.no).set 0 (.dat (.list (ns.map .int))) = _
      unfold rho0 scriptD
      rfl
  · exact dat o (.inl h)
  · exact dat o (.inr ⟨its, n, h⟩)
theorem law_at {l : PySem.W.OpenLaw} {w : World} {fa : List He.Fa} {fn : List He.DefD} {ex : PySem.W.Frag → Bool} {K : Frag} {mg : Str → Option Value} {h : Heap} {f : Addr} {params : Arguments} {body : List Stmt} {scope : Scope} {N : List Str} {k : Nat} {g : Frag → Rho → Fl} {q : Str}
    (KX : K.In h) (G : h.Ns mainGlobals mg) (hmg : mg ("law" : Str) = some (.ref f)) (Y : He.SaysX fa fn [] [("law", none)] ex w h K) (i j : Nat) (hi : fa[i]? = some (.glo "law")) (hj : fn[j]? = some ⟨("law", none), "law", "law", params, body, scope, [], []⟩) (S : FnScope N ["script"] scope)
    (hbind : ∀ (kV doc pm : Value) (an : Option Addr) (cdv ct : Value) (us : List Value), us.length = (["script"] : List Str).length → bindArgs (PySem.W.fnOf "law" "law" params body scope .none kV doc pm an cdv ct) ⟨us, []⟩ = pure ((["script"] : List Str).zip us))
    (says : He.SaysD fa fn K)
    (hbody : ∀ (base : Heap) (C : Rw fa fn K mg base) (TB : TabB base mg (He.cT K ("law", none)).1 (He.cT K ("law", none)).2) (A : Around) (outer : List Env) (s : Shared) (H : Hp) (E : XK), Room k (A.deeper (envOfC "law" scope s.heap.objs.size (He.ga K "law") (.ref (He.cT K ("law", none)).1))) →
      DSs (tabsOf K q) (cxOf (L2N.CX l.prog w) l.prog w K mg base N "law" scope (He.ga K "law") (.ref (He.cT K ("law", none)).1) A outer s H E) (WD E) body (g K))
    (hlaw : ∀ ns : List Int, ns.length ≤ 63 → (∀ z ∈ ns, Builtin.Int.intBits z ≤ 1048576) → fin (g K (rho0 N.length [scriptD ns])) = .ok (.bool true)) : LawAtS l w K (L2N.CX l.prog w) (k + 1) 63 "script" mg f h := by
  have ef : f = He.ga K "law" := by
    have e := hmg.symm.trans (He.glo_ok KX G (says.fact i hi))
    cases e
    rfl
  subst ef
  obtain ⟨fd, F0⟩ := says.def_ j hj
  have F : FunD K "law" "law" params body scope [] [] (He.ga K "law") fd := F0
  have hmem : (("law", none) : Str × Option Str) ∈ [(("law", none) : Str × Option Str)] := List.mem_singleton.mpr rfl
  have hN : 0 < N.length := by
    have := congrArg List.length S.pre
    rw [List.length_take] at this
    simp at this
    omega
  refine ⟨fd, [He.cT K ("law", none)], spL K (tabsOf K q), fun p hp => ?_, fun p hp => ?_, fun p hp => ?_, fun s v => FunD.bindsA (ps := ["script"]) F hbind s [v] rfl, fun H a ns hl hb hH hS => ?_, fun base hK hns hTB => ?_⟩
  · rw [List.mem_singleton.mp hp]; exact Y.empty _ hmem
  · rw [List.mem_singleton.mp hp]; exact Y.out _ hmem
  · rw [List.mem_singleton.mp hp]; exact PySem.W.codeHd_of_K KX (Y.hd _ hmem)
  · refine ⟨a, ns, rfl, hl, hb, fun p hp => ?_, hS, fun H' => rfl⟩
    rw [List.mem_singleton.mp hp]
    exact TabS.nil (hH _ (List.mem_singleton.mpr rfl))
  · have C : Rw fa fn K mg base := ⟨hK, hns, says⟩
    have TB := hTB _ (List.mem_singleton.mpr rfl)
    obtain ⟨oc, od, dV, kV, doc, pm, an, cdv, ct, osl, rfl, lk, hcd, _, _⟩ := F.ex
    obtain ⟨c, rfl⟩ := He.codeIn_ref hcd
    have ec : (He.cT K ("law", none)).1 = c := He.codeOf_eq (p := ("law", none)) lk rfl
    have hb2 := hbody base C TB
    rw [ec] at hb2
    refine fn_of lk hcd S (fun vs H Q E hh => ?_) fun A outer s H vs Q E hr hh => ?_
    · obtain ⟨a, ns, rfl, _⟩ := hh; rfl
    · obtain ⟨a, ns, rfl, hl, hbits, ht, hs, hq⟩ := hh
      obtain ⟨Hb, ρ, SS, e1⟩ := sr_law hN hl ht hs
      refine ⟨_, ss_frz 0 (hb2 A outer s H E hr), Hb, ρ, SS, ?_⟩
      have z := hlaw ns hl hbits
      show ResS K (tabsOf K q) (WD E) Hb (g K (frz1 0 ρ)) _
      rw [e1]
      cases eg : g K (rho0 N.length [scriptD ns]) with
      | rt d =>
        rw [eg] at z
        cases z
        exact fun v H' _ _ r => by
          have r : v = .bl true := r
          subst r
          exact hq H'
      | nx ρ' => rw [eg] at z; cases z
      | _ => rw [eg] at z; cases z
end DL
set_option Elab.async false
set_option linter.all false
set_option maxRecDepth 100000
set_option maxHeartbeats 2000000
namespace DL
open PySem PySem.Spec PyProof.Rows L2 LamX
/-! ### texts -/
section
variable {X : Cx} {T : List (Addr × Str)}
theorem tm_strip' : TameM mStrip := fun a b c h => by unfold mStrip at h; split at h <;> cases h
theorem tm_join' : TameM mJoin := fun a b c h => by unfold mJoin at h; split at h <;> (try split at h) <;> (try split at h) <;> cases h
theorem c_str : CallR X (.type "str") (rDn X.K T mStr) := by
  rintro pins s σ H xs us Q I r ⟨ds, rd, q⟩
  unfold mStr at q
  split at q
  · split at q
    · rename_i i hi
      obtain ⟨v, rfl, h⟩ := rd.inv1
      cases h
      refine call_str_int pins s σ H _ us Q I r ⟨i, rfl, ?_, q _ H Ex.refl ⟨rfl, ?_⟩⟩
      · by_cases h0 : i.natAbs = 0
        · rw [h0]; decide
        · exact (Nat.log2_lt h0).mpr (Nat.lt_trans hi (by decide +kernel))
      · have := len_str_of_int i
        rw [sizeLine_eq]
        omega
    · exact q.elim
  · exact q.elim
theorem join_fits (a : Str) (ys : List Str) : (Txt.join a ys).length ≤ (ys.map (·.length)).sum + ys.length * a.length := by
  show (PySem.Builtin.Str.glued a ys).length ≤ _
  rw [StrLaws.glued_eq_join]
  cases ys with
  | nil => exact Nat.zero_le _
  | cons y r =>
    rw [len_join_cons, List.length_cons]
    exact Nat.add_le_add_left (Nat.mul_le_mul_right _ (Nat.le_succ _)) _
theorem c_join : MtR X "str.join" (rDm X.K T mJoin) := by
  rintro pins s σ H x xs v us Q I rx r ⟨d, ds, rd, rs, q⟩
  unfold mJoin at q
  split at q
  · rename_i a es
    obtain ⟨rfl, _⟩ := rd
    split at q
    · rename_i ys e
      split at q
      · rename_i hz
        obtain ⟨v, rfl, p, o, vs, rfl, hp, hs, _⟩ := rs.inv1
        obtain ⟨rfl, _⟩ := asSs_vals e hs
        exact mt_join pins s σ H _ _ _ us Q I rx r ⟨_, p, ys, rfl, rfl, .inl hp.sq, hz, q _ H Ex.refl ⟨rfl, by rw [sizeLine_eq]; exact Nat.le_trans (join_fits _ _) hz⟩⟩
      · exact q.elim
    · exact q.elim
  · exact q.elim
theorem c_strip : MtR X "str.strip" (rDm X.K T mStrip) := by
  rintro pins s σ H x xs v us Q I rx r ⟨d, ds, rd, rs, q⟩
  unfold mStrip at q
  split at q
  · rename_i a b
    obtain ⟨rfl, hl⟩ := rd
    obtain ⟨v, rfl, rfl, _⟩ := rs.inv1
    exact mt_stripChars pins s σ H _ _ _ us Q I rx r ⟨_, _, rfl, rfl, hl, q _ H Ex.refl ⟨rfl, Nat.le_trans (len_stripChars _ _) hl⟩⟩
  · exact q.elim
end
/-! ### a, b = [], e -/
def sParL (i j : Nat) (fs : Rho → R (List D)) (f : Rho → R D) : Rho → Fl := fun ρ => (fs ρ).thn ρ fun ds => if ds.length ≤ sizeLine then (f ρ).thn ρ fun d => .nx ((ρ.set i (.ml ds)).set j (.dat d)) else .no
section
variable {X : Cx} {T : List (Addr × Str)} {W : WX} {a : Expr} {es : List Expr} {f : Rho → R D} {fs : Rho → R (List D)} {pos : Pos}
theorem s_parL (i j : Nat) {x y : Str} {px py pt pt2 pl : Pos} {kt k2 : Nat} (hc : X.calm = true) (hN : X.N.Nodup) (hes : DA T X W es fs) (ha : DE T X W a f) (hi : X.N[i]? = some x := by kernel_rfl) (hj : X.N[j]? = some y := by kernel_rfl) (hij : i ≠ j := by decide)
    (hx : X.env.scope.names.lookup x = some .local := by kernel_rfl) (hy : X.env.scope.names.lookup y = some .local := by kernel_rfl)
    (hw : swappedStores [.Tuple [.Name x px, .Name y py] kt pt] (.Tuple [.List es pl, a] k2 pt2) X.env = pure (some [x, y]) := by kernel_rfl)
    (hs : swapsWithSole [.Tuple [.Name x px, .Name y py] kt pt] (.Tuple [.List es pl, a] k2 pt2) pos.line X.env = pure false := by kernel_rfl)
    (s1 : starEach [.List es pl, a] X.env = (false, eval (.List es pl) X.env) :: starEach [a] X.env := by kernel_rfl) (s2 : starEach [a] X.env = (false, eval a X.env) :: starEach [] X.env := by kernel_rfl) :
    DS T X W (.Assign [.Tuple [.Name x px, .Name y py] kt pt] (.Tuple [.List es pl, a] k2 pt2) pos) (sParL i j fs f) := by
  refine PS.imp (ps_par (i := i) (j := j) hc hN hi hj hij hx hy (pa_cons (pe_lst hes) (pa_cons ha pa_nil s2) s1) hw hs) fun E σ H q => ?_
  obtain ⟨Hb, ρ, S, q⟩ := q
  refine ⟨Hb, ρ, S, ?_⟩
  unfold sParL at q
  cases ef : fs ρ with
  | no => rw [ef] at q; exact q
  | exc c => rw [ef] at q; exact fun H' x => q σ H' (S.mono x)
  | ok ds =>
    rw [ef] at q
    intro vs H1 x1 r1
    have q : ResS X.K T W Hb (if ds.length ≤ sizeLine then (f ρ).thn ρ fun d => Fl.nx ((ρ.set i (.ml ds)).set j (.dat d)) else .no) E := q
    by_cases hl : ds.length ≤ sizeLine
    · rw [if_pos hl] at q
      refine ⟨by rw [r1.len]; exact hl, fun p hp => ?_⟩
      have xn := Ex.new (T := T) (o := .lst vs) hp
      have S1 := S.mono x1
      have S2 := S1.mono xn
      refine ⟨Hb, ρ, S2, ?_⟩
      cases eg : f ρ with
      | no => rw [eg] at q; exact q
      | exc c => rw [eg] at q; exact fun H' x => q σ H' (S2.mono x)
      | ok d =>
        rw [eg] at q
        intro v H2 x2 r2
        refine ⟨.ref p, v, rfl, ?_⟩
        have S3 := S2.mono x2
        have hp2 : H2 p = some (.lst vs) := x2.e p _ upd_same fun _ z => by cases z
        refine q _ _ (SR.setD (S3.setM i hp2 (RpL.mono (xn.trans x2).e _ _ r1) (fun o hb => Classical.byContradiction fun h => ?_) fun k u ek ou hz => ?_) j r2)
        · rw [S1.ext p o hb fun ps z => h ⟨ps, z⟩] at hp
          cases hp
        · obtain ⟨zs, h2⟩ := S1.own_lst ek ou hz
          rw [hp] at h2; cases h2
    · rw [if_neg hl] at q; exact q.elim
end
end DL
set_option Elab.async false
set_option linter.all false
set_option maxRecDepth 100000
set_option maxHeartbeats 2000000
/-! sorted(xs, key=lambda y: len(y[1])) -/
namespace DL
open PySem PySem.Spec PyProof.Rows L2 LamX
def len1 : D → Option Nat
  | .tuple (_ :: .str z :: _) => some z.length
  | _ => none
def lenK (d : D) : Nat := (len1 d).getD 0
def mSortLen (d : D) : R D := match d with
  | .list ds => if ds.all fun d => (len1 d).isSome then .ok (.list (ds.mergeSort fun a b => decide (lenK a ≤ lenK b))) else .no
  | _ => .no
/-- the lambda's names: its own y, and len -/
def keyScB (y : Str) (scope : Scope) : Bool := decide (scope.kind = .function) && (!scope.isCoroutine && (!scope.isGenerator && (decide (scope.names.lookup y = some .local) && (decide (scope.names.lookup ("len" : Str) = some .globalImplicit) && scope.names.all fun z => !decide (z.2 = .cell) && !decide (z.2 = .free)))))
theorem seq_one (a b : Value) (r : List Value) : seqIndex? 1 (a :: b :: r).length = some 1 := by
  unfold seqIndex?
  have h : (decide ((0 : Int) ≤ 1) && decide ((1 : Int) < ((a :: b :: r).length : Nat))) = true := by
    rw [Bool.and_eq_true, decide_eq_true_eq, decide_eq_true_eq]
    simp only [List.length_cons]
    omega
  show (if (decide ((0 : Int) ≤ 1) && decide ((1 : Int) < ((a :: b :: r).length : Nat))) = true then some (1 : Int).toNat else none) = _
  rw [if_pos h]
  rfl
section
variable {X : Cx} {pins : List (Addr × Obj)} {σ : L2.St} {H : Hp} {s : Shared}
theorem lam_turn {y q : Str} {f c' : Addr} {params : Arguments} {scope : Scope} {clo : List (Str × Addr)} {pm ctv : Value} {q1 q2 q3 q4 q5 : Pos} {j : Nat} {d : D} {x : V} {u : Value} {n : Nat} (I : Inv X pins σ H s)
    (hf : s.heap.get? f = some (PySem.W.kla_obj "<lambda>" q params (.Call (.Name "len" q1) [.Subscript (.Name y q2) (.Constant (.int 1) j q3) q4] [] q5) scope clo pm c' ctv)) (hco : H c' = some (CodeO c' q)) (hsc : keyScB y scope = true)
    (hbind : ∀ (u cv : Value), bindArgs (PySem.W.kla_fn "<lambda>" q params (.Call (.Name "len" q1) [.Subscript (.Name y q2) (.Constant (.int 1) j q3) q4] [] q5) scope clo pm cv ctv) ⟨[u], []⟩ = pure [(y, u)])
    (hroom : X.A.depth < recursionLimit) (hml : X.mg "len" = none) (hyd : (y == ("__debug__" : Str)) = false) (rx : RelV x u) (rd : Rp X.K H d x) (hn : len1 d = some n)
    {h : Heap} {tk : Nat} (kp : ∀ b o, s.heap.get? b = some o → h.get? b = some o) :
    wpAny (model X.prog X.w) X.A.in1.in1 (call (.ref f) [u]) (PySem.W.KeyPure (.int n) { s with heap := h, toks := tk }) (fun _ _ => False) { s with heap := h, toks := tk } := by
  unfold keyScB at hsc
  simp only [Bool.and_eq_true, decide_eq_true_eq, Bool.not_eq_true', List.all_eq_true, decide_eq_false_iff_not] at hsc
  obtain ⟨sk, sco, sg, sy, sl, sa⟩ := hsc
  have J : Inv X pins σ H { s with heap := h, toks := tk } := I.kept kp
  obtain ⟨⟨oc, vs, t, hoc, hdc, hvc⟩, _, _⟩ := J.hok c' _ hco
  have rc : codeAny (model X.prog X.w) X.A.in1.in1 (.call (.ref f) ⟨[u], []⟩) (fun r s' => ∃ v, r = .ok (.ret v) ∧ PySem.W.KeyPure (.int n) { s with heap := h, toks := tk } v s') { s with heap := h, toks := tk } := by
    refine PySem.W.kla_callFunE hroom (kp _ _ hf) rfl sco sg rfl ⟨c', oc, vs, t, rfl, hoc, hdc, hvc⟩ ?_
    rw [hbind]
    refine wpAny_pure (wpAny_newFunctionEnv (fun z hz => (sa z hz).1) (fun z hz => by rw [List.mem_singleton.mp hz]; exact sy) (fun h₁ hns hsb => ⟨J.nolimit.fresh _ hsb, ?_⟩) sk)
    refine PySem.W.kla_codeExpr ?_
    have kp2 : ∀ b o, h.get? b = some o → h₁.get? b = some o := fun b o e => hsb.extBut b o (Nat.ne_of_lt (Heap.lt_size e)) (Heap.get?_push_of_some _ e)
    have J2 : Inv X pins σ H { s with heap := h₁, toks := tk + [(y, u)].length } := I.kept fun b o e => kp2 b o (kp b o e)
    cases d with
    | tuple ds =>
      match ds, hn with
      | a :: .str z :: r, hn =>
        injection hn with hn
        obtain ⟨p, xs, rfl, hp, hr, hl⟩ := rd
        obtain ⟨x0, xs0, rfl, _, x1, xs1, rfl, ⟨rfl, hz⟩, _⟩ := hr
        cases rx
        obtain ⟨its, rv, pl, hsz⟩ := J2.tuple hp
        cases rv with
        | cons r0 rv =>
          cases rv with
          | cons r1 rv =>
            obtain ⟨t1, rfl⟩ := r1
            obtain ⟨mb, g1, g2⟩ := J2.mod.blt
            refine Call_ (Calls.Name_function_global sk sl (Calls.loadGlobal_builtin (J2.mod.glob.keeps J2.bk) hml (g1.keeps J2.bk) ((g2 "len" (by decide)).trans PySem.boot_len) ?_) rfl)
            refine PyProof.Rows.callWith_builtin1 (PyProof.Rows.args_cons ?_ rfl) rfl rfl
            refine Subscript_ (wpAny_Name (wpAny_loadName_local (v := .ref p) sk sy hns (by simp) ?_) hyd)
            refine wpAny_Constant_int ?_
            have hline := line63
            refine subscriptTail_builtinR (x := .str z t1) pl.typeIs slot_tuple_getitem.lookup (getItem_tuple (j := 1) (Q := fun r s' => r = Value.str z t1 ∧ _) pl (by omega) (by omega) (by rw [List.size_toArray]; exact seq_one _ _ _) (by simp) ⟨rfl, ?_⟩) (by rfl)
            refine PyProof.Rows.args_nil ?_
            refine len_str (by omega) ?_
            exact ⟨_, rfl, h₁, _, rfl, kp2, by rw [← hn]; exact .int _ _⟩
    | _ => cases hn
  refine wpAny_call (codeAny_mono rc fun r s' hq => ?_)
  obtain ⟨v, rfl, hq⟩ := hq
  exact hq
end
section
variable {X : Cx} {T : List (Addr × Str)} {W : WX} {e : Expr} {fe : Rho → R D} {y : Str} {params : Arguments} {scope : Scope} {p q1 q2 q3 q4 q5 lpos kpos pos : Pos} {j k : Nat} {c P : Addr}
theorem d_sortLen (hu : X.A.units + 64 < cLine) (TB : TabB X.base X.mg c P) (hcode : X.env.code = .ref c) (hmT : (P, X.env.qual ++ "<lambda>") ∈ T) (huT : ∀ p ∈ T, p.1 = P → p.2 = X.env.qual ++ "<lambda>") (hr : Room k X.A) (hm : X.mg "sorted" = none) (hml : X.mg "len" = none) (he : DE T X W e fe)
    (hsc : keyScB y scope = true := by kernel_rfl) (hyd : (y == ("__debug__" : Str)) = false := by kernel_rfl) (hdef : defaultsOf params X.env = ([], []) := by kernel_rfl)
    (hbind : ∀ (q : Str) (cl : List (Str × Addr)) (pm u cv ctv : Value), bindArgs (PySem.W.kla_fn "<lambda>" q params (.Call (.Name "len" q1) [.Subscript (.Name y q2) (.Constant (.int 1) j q3) q4] [] q5) scope cl pm cv ctv) ⟨[u], []⟩ = pure [(y, u)] := by intro _ _ _ _ _ _; kernel_rfl)
    (hg : X.env.kindOf "sorted" = some .globalImplicit := by kernel_rfl)
    (hs1 : starEach [e] X.env = (false, eval e X.env) :: starEach [] X.env := by kernel_rfl) (hst : backTo pos (starEach [e] X.env) = (false, eval e X.env) :: backTo pos (starEach [] X.env) := by kernel_rfl) (hpl : (backTo pos (starEach [e] X.env)).any (·.1) = false := by kernel_rfl) :
    DE T X W (.Call (.Name "sorted" p) [e] [⟨some "key", .Lambda params (.Call (.Name "len" q1) [.Subscript (.Name y q2) (.Constant (.int 1) j q3) q4] [] q5) scope lpos, kpos⟩] pos) (eUn mSortLen fe) := by
  refine ⟨fun pins s σ H Q I h => ?_⟩
  obtain ⟨Hb, ρ, S, q0⟩ := h
  have ha : DA T X W [e] (aCons fe aNil) := da_cons he da_nil hs1
  refine wpAny_Call_Name_kw (ld_blt I hg hm (show bootBuiltins ("sorted" : Str) = some (.builtin "sorted") by kernel_rfl) ?_)
  refine PyProof.Rows.callWith_kw (thn (ha.run pos pins s σ H (fun vs H1 => ∃ d v, vs = [v] ∧ fe ρ = .ok d ∧ Ex T H H1 ∧ Rp X.K H1 d v) I ⟨Hb, ρ, S, ?_⟩) fun us s1 ⟨vs, H1, I1, r1, d, v, ev, ed, x1, rd⟩ => ?_) hst hpl (by rfl) (by rfl)
  · unfold eUn at q0
    unfold aCons
    cases ef : fe ρ with
    | no => rw [ef] at q0; exact q0
    | exc c => rw [ef] at q0; exact q0
    | ok d =>
      intro vs H' x r
      obtain ⟨v, r', rfl, h1, h2⟩ := r
      have h2 : r' = [] := h2
      subst h2
      exact ⟨d, v, rfl, rfl, x, h1⟩
  · subst ev
    have S1 := S.mono x1
    obtain ⟨u, rfl, ru⟩ := vals1 r1
    unfold eUn at q0
    rw [ed, R.bind_ok] at q0
    unfold mSortLen at q0
    cases d with
    | list ds =>
      have q0 : Res X.K T W (if (ds.all fun d => (len1 d).isSome) = true then .ok (.list (ds.mergeSort fun a b => decide (lenK a ≤ lenK b))) else .no) σ H Q := q0
      by_cases hall : (ds.all fun d => (len1 d).isSome) = true
      · rw [if_pos hall] at q0
        rw [List.all_eq_true] at hall
        obtain ⟨a, o, xs, rfl, hfz, hs, hl⟩ := rd
        cases ru
        have hfree : ∀ y ∈ scope.names, y.2 = .free → ∃ c, X.env.cells.lookup y.1 = some c := fun y hy e => by
          unfold keyScB at hsc
          simp only [Bool.and_eq_true, decide_eq_true_eq, Bool.not_eq_true', List.all_eq_true, decide_eq_false_iff_not] at hsc
          exact absurd e (hsc.2.2.2.2.2 y hy).2
        show wpAny _ _ (evalAll ((do let v ← eval (.Lambda params _ scope lpos) X.env; standAt pos; pure v) :: [])) _ _ s1
        refine wpAny_evalAll_cons (wpAny_bind (lam_make2 I1 TB hcode hmT huT S1.tab hdef hfree fun f' c' pm' ctv H2 s2 I2 eN T2 hf hfn hfr hco => wpAny_bind (wpAny_standAt (wpAny_pure ?_))))
        refine wpAny_evalAll_nil ?_
        have x2 : Ex T H1 H2 := ⟨eN, fun _ => T2⟩
        have hs2 := RpL.mono x2.e ds xs hs
        have hfz2 : FzL X.K H2 a o xs := hfz.imp fun z => eN _ _ z (fun _ w => by cases w)
        obtain ⟨its, n, sl, e1, e2⟩ := Inv.rdF I2 hfz2
        have E := eachR hs2 e1
        show wpAny _ _ (call (.builtin "sorted") [.ref a] [(Str.ofString "key", .ref f')]) _ _ s2
        refine PySem.W.sorted_key_data (b := false) (k := fun d : D => PyData.int (lenK d)) (bs := ds) ⟨_, e2, rfl, n, rfl⟩ E ?_ ?_ hl ?_ (PyProof.Rows.ksk_s1 _ _) (fun _ => PyProof.Rows.ksk_l1 _ _) (fun x => PyProof.Rows.ksk_t1 f' x) ?_ ?_
        · intro a ha b hb
          obtain ⟨d1, _, rfl⟩ := List.mem_map.mp ha
          obtain ⟨d2, _, rfl⟩ := List.mem_map.mp hb
          rfl
        · refine .inr fun d hd => ?_
          obtain ⟨d1, _, rfl⟩ := List.mem_map.mp hd
          exact ⟨(fun z => by cases z), (fun _ z => by cases z)⟩
        · intro d hd
          show X.A.units + 2 + 0 < cLine
          omega
        · rintro w d ⟨x, rx, rd⟩ hd h tk kp
          have hn : len1 d = some (lenK d) := by
            have := hall d hd
            unfold lenK
            cases e : len1 d with
            | none => rw [e] at this; cases this
            | some n => rfl
          exact lam_turn I2 hf hco hsc (fun u cv => hbind _ _ _ _ _ _) hr.depth hml hyd rx rd hn kp
        · intro out c2 h' tk kp2 hnone hget hlen EO
          obtain ⟨ws, a1, a2⟩ := eachV EO
          have hms : ds.mergeSort (PySem.W.dataLe false fun d : D => PyData.int (lenK d)) = ds.mergeSort fun a b => decide (lenK a ≤ lenK b) := by
            rw [PySem.W.dataLe_int (fun d : D => (lenK d : Int))]
            congr 1
            funext a b
            exact decide_eq_decide.mpr (by omega)
          rw [hms] at a2
          have hlw : ws.length ≤ sizeLine := by rw [a2.len, List.length_mergeSort]; exact hl
          have J : Inv X pins σ (upd H2 (s2.heap.objs.size + 1) (.lst ws)) { s2 with heap := h', toks := tk } := I2.laid kp2 (Nat.le_succ _) ⟨hlw, out, c2, a1, hget⟩
          obtain ⟨ob, J2⟩ := J.lock upd_same trivial
          rw [upd_upd] at J2
          have hn : H2 (s2.heap.objs.size + 1) = none := I2.hok.fresh (Nat.le_succ _)
          exact ⟨.ref _, _, J2, rfl, q0 _ _ ((x1.trans x2).trans (Ex.new hn)) (rp_list hn a2 (by rw [List.length_mergeSort]; exact hl))⟩
      · rw [if_neg hall] at q0; exact q0.elim
    | _ => exact q0.elim
end
/-! ### several defs that make lambdas -/
abbrev tabsL (K : Frag) (tq : TQ) : List (Addr × Str) := tq.map fun p => ((He.cT K p.1).2, p.2)
structure RwT (fa : List He.Fa) (fn : List He.DefD) (tq : TQ) (K : Frag) (mg : Str → Option Value) (base : Heap) : Prop extends Rw fa fn K mg base where
  tb : ∀ p ∈ tq, TabB base mg (He.cT K p.1).1 (He.cT K p.1).2
  ap : apartB tq K = true
section
variable {fa : List He.Fa} {fn : List He.DefD} {tq : TQ} {K : Frag} {mg : Str → Option Value} {base : Heap}
theorem RwT.mem (C : RwT fa fn tq K mg base) (i : Nat) {p : Str × Option Str} {q : Str} (h : tq[i]? = some (p, q)) : ((He.cT K p).2, q) ∈ tabsL K tq := List.mem_map.mpr ⟨(p, q), List.mem_of_getElem? h, rfl⟩
theorem RwT.tab (C : RwT fa fn tq K mg base) (i : Nat) {p : Str × Option Str} {q : Str} (h : tq[i]? = some (p, q)) : TabB base mg (He.cT K p).1 (He.cT K p).2 := C.tb _ (List.mem_of_getElem? h)
theorem RwT.one (C : RwT fa fn tq K mg base) (i : Nat) {p : Str × Option Str} {q : Str} (h : tq[i]? = some (p, q)) : ∀ r ∈ tabsL K tq, r.1 = (He.cT K p).2 → r.2 = q := fun r hr e => by
  obtain ⟨⟨p', q'⟩, hm, rfl⟩ := List.mem_map.mp hr
  have e : (He.cT K p').2 = (He.cT K p).2 := e
  have := C.ap
  unfold apartB at this
  rw [List.all_eq_true] at this
  have := this _ hm
  rw [List.all_eq_true] at this
  have := this _ (List.mem_of_getElem? h)
  rw [Bool.or_eq_true, Bool.not_eq_true', decide_eq_false_iff_not, decide_eq_true_eq] at this
  rcases this with z | z
  · exact absurd e z
  · exact z
theorem RwT.fdT {P : Program} {w : World} {T : List (Addr × Str)} {k : Nat} {N ps : List Str} {g : Rho → Fl} (C : RwT fa fn tq K mg base) (i j : Nat) {x : Str} {d : He.DefD} (hd : fn[j]? = some d) (hx : d.at_ = (x, none)) (hq : d.dfl = []) (hk : d.kwd = []) (hg : fa[i]? = some (.glo x)) (S : FnScope N ps d.scope)
    (hb : ∀ (kV doc pm : Value) (an : Option Addr) (cdv ct : Value) (us : List Value), us.length = ps.length → bindArgs (PySem.W.fnOf d.name d.qual d.params d.body d.scope .none kV doc pm an cdv ct) ⟨us, []⟩ = pure (ps.zip us))
    (hbody : ∀ (A : Around) (outer : List Env) (s : Shared) (H : Hp) (E : XK), Room k (A.deeper (envOfC d.qual d.scope s.heap.objs.size (He.ga K x) (.ref (He.cT K (x, none)).1))) →
      DSs T (cxOf (L2N.CX P w) P w K mg base N d.qual d.scope (He.ga K x) (.ref (He.cT K (x, none)).1) A outer s H E) (WD E) d.body g) : FDx P w K mg base T (k + 1) x ps (fun ds => fin (g (rho0 N.length ds))) := by
  obtain ⟨fd, F⟩ := C.says.def_ j hd
  have e1 : d.dvs K = [] := by unfold He.DefD.dvs; rw [hq]; rfl
  have e2 : d.kws K = [] := by unfold He.DefD.kws; rw [hk]; rfl
  have e3 : He.fAd K d.at_ = He.ga K x := by rw [hx]; rfl
  rw [e1, e2, e3] at F
  refine ⟨C.glo i hg, F.kp, fd, F.bindsN hb, ?_⟩
  obtain ⟨oc, od, dV, kV, doc, pm, an, cdv, ct, osl, rfl, lk, hcd, _, _⟩ := id F.ex
  obtain ⟨c, rfl⟩ := He.codeIn_ref hcd
  have ec : (He.cT K (x, none)).1 = c := He.codeOf_eq (p := (x, none)) lk rfl
  rw [ec] at hbody
  refine fn_of lk hcd S (fun vs H Q E h => h.1) fun A outer s H vs Q E hr h => ⟨_, hbody A outer s H E hr, ?_⟩
  obtain ⟨_, ht, ds, r, q⟩ := h
  refine ⟨H, _, sr_start ht r, ?_⟩
  have q : ResF K T (fin (g (rho0 N.length ds))) H Q E := q
  cases eg : g (rho0 N.length ds) with
  | nx ρ =>
    rw [eg] at q
    exact fun σ H' S' => q .non H' ⟨S'.ext, fun _ => S'.tab⟩ rfl
  | rt d =>
    rw [eg] at q
    exact fun v H' e t r => q v H' ⟨e, fun _ => t⟩ r
  | exc c ρ =>
    rw [eg] at q
    exact fun σ H' S' => q H' ⟨S'.ext, fun _ => S'.tab⟩
  | bk ρ => rw [eg] at q; exact q.elim
  | ct ρ => rw [eg] at q; exact q.elim
  | no => rw [eg] at q; exact q.elim
end
theorem law_atT {l : PySem.W.OpenLaw} {w : World} {fa : List He.Fa} {fn : List He.DefD} {tq : TQ} {ex : PySem.W.Frag → Bool} {K : Frag} {mg : Str → Option Value} {h : Heap} {f : Addr} {params : Arguments} {body : List Stmt} {scope : Scope} {N : List Str} {k : Nat} {g : Frag → Rho → Fl}
    (KX : K.In h) (G : h.Ns mainGlobals mg) (hmg : mg ("law" : Str) = some (.ref f)) (Y : He.SaysX fa fn [] (tq.map (·.1)) ex w h K) (hap : apartB tq K = true) (i j : Nat) (hi : fa[i]? = some (.glo "law")) (hj : fn[j]? = some ⟨("law", none), "law", "law", params, body, scope, [], []⟩) (S : FnScope N ["script"] scope)
    (hbind : ∀ (kV doc pm : Value) (an : Option Addr) (cdv ct : Value) (us : List Value), us.length = (["script"] : List Str).length → bindArgs (PySem.W.fnOf "law" "law" params body scope .none kV doc pm an cdv ct) ⟨us, []⟩ = pure ((["script"] : List Str).zip us))
    (says : He.SaysD fa fn K)
    (hbody : ∀ (base : Heap) (C : RwT fa fn tq K mg base) (A : Around) (outer : List Env) (s : Shared) (H : Hp) (E : XK), Room k (A.deeper (envOfC "law" scope s.heap.objs.size (He.ga K "law") (.ref (He.cT K ("law", none)).1))) →
      DSs (tabsL K tq) (cxOf (L2N.CX l.prog w) l.prog w K mg base N "law" scope (He.ga K "law") (.ref (He.cT K ("law", none)).1) A outer s H E) (WD E) body (g K))
    (hlaw : ∀ ns : List Int, ns.length ≤ 63 → (∀ z ∈ ns, Builtin.Int.intBits z ≤ 1048576) → fin (g K (rho0 N.length [scriptD ns])) = .ok (.bool true)) : LawAtS l w K (L2N.CX l.prog w) (k + 1) 63 "script" mg f h := by
  have ef : f = He.ga K "law" := by
    have e := hmg.symm.trans (He.glo_ok KX G (says.fact i hi))
    cases e
    rfl
  subst ef
  obtain ⟨fd, F0⟩ := says.def_ j hj
  have F : FunD K "law" "law" params body scope [] [] (He.ga K "law") fd := F0
  have hN : 0 < N.length := by
    have := congrArg List.length S.pre
    rw [List.length_take] at this
    simp at this
    omega
  have tabs : ∀ p ∈ tq.map fun p => He.cT K p.1, ∃ d ∈ tq.map (·.1), p = He.cT K d := fun p hp => by
    obtain ⟨r, hr, rfl⟩ := List.mem_map.mp hp
    exact ⟨r.1, List.mem_map.mpr ⟨r, hr, rfl⟩, rfl⟩
  refine ⟨fd, tq.map fun p => He.cT K p.1, spL K (tabsL K tq), fun p hp => ?_, fun p hp => ?_, fun p hp => ?_, fun s v => FunD.bindsA (ps := ["script"]) F hbind s [v] rfl, fun H a ns hl hb hH hS => ?_, fun base hK hns hTB => ?_⟩
  · obtain ⟨d, hd, rfl⟩ := tabs p hp; exact Y.empty _ hd
  · obtain ⟨d, hd, rfl⟩ := tabs p hp; exact Y.out _ hd
  · obtain ⟨d, hd, rfl⟩ := tabs p hp; exact PySem.W.codeHd_of_K KX (Y.hd _ hd)
  · refine ⟨a, ns, rfl, hl, hb, fun p hp => ?_, hS, fun H' => rfl⟩
    obtain ⟨r, hr, rfl⟩ := List.mem_map.mp hp
    exact TabS.nil (hH _ (List.mem_map.mpr ⟨r, hr, rfl⟩))
  · have C : RwT fa fn tq K mg base := ⟨⟨hK, hns, says⟩, fun p hp => hTB _ (List.mem_map.mpr ⟨p, hp, rfl⟩), hap⟩
    obtain ⟨oc, od, dV, kV, doc, pm, an, cdv, ct, osl, rfl, lk, hcd, _, _⟩ := F.ex
    obtain ⟨c, rfl⟩ := He.codeIn_ref hcd
    have ec : (He.cT K ("law", none)).1 = c := He.codeOf_eq (p := ("law", none)) lk rfl
    have hb2 := hbody base C
    rw [ec] at hb2
    refine fn_of lk hcd S (fun vs H Q E hh => ?_) fun A outer s H vs Q E hr hh => ?_
    · obtain ⟨a, ns, rfl, _⟩ := hh; rfl
    · obtain ⟨a, ns, rfl, hl, hbits, ht, hs, hq⟩ := hh
      obtain ⟨Hb, ρ, SS, e1⟩ := sr_law hN hl ht hs
      refine ⟨_, ss_frz 0 (hb2 A outer s H E hr), Hb, ρ, SS, ?_⟩
      have z := hlaw ns hl hbits
      show ResS K (tabsL K tq) (WD E) Hb (g K (frz1 0 ρ)) _
      rw [e1]
      cases eg : g K (rho0 N.length [scriptD ns]) with
      | rt d =>
        rw [eg] at z
        cases z
        exact fun v H' _ _ r => by
          have r : v = .bl true := r
          subst r
          exact hq H'
      | nx ρ' => rw [eg] at z; cases z
      | _ => rw [eg] at z; cases z
end DL
set_option Elab.async false
set_option linter.all false
set_option maxRecDepth 100000
set_option maxHeartbeats 4000000
namespace MC
open PySem L2 DL
def den__wall : Rho → Fl :=
  sFgt [] (sWhile (fun _ => 1000) (tVal (eC (.bool true))) (sBeh [] (sNil)))
def m__wall (ds : List D) : R D := fin (den__wall (rho0 1 ds))
def den_is_count : Rho → Fl :=
  sRet (eAnd (eUn (isiD "int") (eVar 0)) (eAnd (eNot (eUn (isiD "bool") (eVar 0))) (eCh mLe mLe (eVar 1) (eVar 0) (eVar 2))))
def m_is_count (ds : List D) : R D := fin (den_is_count (rho0 3 ds))
def den_is_figures : Rho → Fl :=
  sRet (eAnd (eUn (isiD "str") (eVar 0)) (eAnd (eCh mLe mLe (eVar 1) (eCallB mLen (aCons (eVar 0) (aNil))) (eVar 2)) (eCallB mAll (aCons (eLc [3] (iOf (eVar 0)) (gNm 3) (tTrue) (eBin mIn (eVar 3) (eC (.str "0123456789")))) (aNil)))))
def m_is_figures (ds : List D) : R D := fin (den_is_figures (rho0 4 ds))
def den_is_kind : Rho → Fl :=
  sRet (eAnd (eUn (isiD "str") (eVar 0)) (eAnd (eCh mLe mLe (eC (.int 1)) (eCallB mLen (aCons (eVar 0) (aNil))) (eC (.int 8))) (eCallB mAll (aCons (eLc [1] (iOf (eVar 0)) (gNm 1) (tTrue) (eBin mIn (eVar 1) (eC (.str "abcdefghijklmnopqrstuvwxyz")))) (aNil)))))
def m_is_kind (ds : List D) : R D := fin (den_is_kind (rho0 2 ds))
def den_is_row : Rho → Fl :=
  sSeq (sIf (tOrr (tNt (tVal (eUn (isiD "tuple") (eVar 0)))) (tVal (eBin mNe (eCallB mLen (aCons (eVar 0) (aNil))) (eC (.int 4))))) (sRet (eC (.bool false))) (sNil)) (sSeq (sIf (tOrr (tNt (tVal (eCall (ar 1 m_is_kind) (aCons (eBin mIdx (eVar 0) (eC (.int 0))) (aNil))))) (tNt (tVal (eCall (ar 3 m_is_figures) (aCons (eBin mIdx (eVar 0) (eC (.int 1))) (aCons (eC (.int 0)) (aCons (eC (.int 4)) (aNil)))))))) (sRet (eC (.bool false))) (sNil)) (sSeq (sIf (tOrr (tNt (tVal (eCall (ar 3 m_is_count) (aCons (eBin mIdx (eVar 0) (eC (.int 2))) (aCons (eCallB mMax2 (aCons (eC (.int 3)) (aCons (eBin mAdd (eCallB mLen (aCons (eBin mIdx (eVar 0) (eC (.int 1))) (aNil))) (eC (.int 1))) (aNil)))) (aCons (eC (.int 12)) (aNil))))))) (tNt (tVal (eUn (isiD "tuple") (eBin mIdx (eVar 0) (eC (.int 3))))))) (sRet (eC (.bool false))) (sNil)) (sRet (eAnd (eBin mNe (eBin mIdx (eVar 0) (eC (.int 3))) (eTup (aNil))) (eAnd (eCallB mAll (aCons (eLc [1] (iOf (eBin mIdx (eVar 0) (eC (.int 3)))) (gNm 1) (tTrue) (eCall (ar 3 m_is_count) (aCons (eVar 1) (aCons (eC (.int 1)) (aCons (eC (.int 12)) (aNil)))))) (aNil))) (eBin mEq (eCallB mSum (aCons (eBin mIdx (eVar 0) (eC (.int 3))) (aNil))) (eBin mIdx (eVar 0) (eC (.int 2)))))))))
def m_is_row (ds : List D) : R D := fin (den_is_row (rho0 2 ds))
def den_is_land : Rho → Fl :=
  sSeq (sIf (tOrr (tNt (tVal (eUn (isiD "tuple") (eVar 0)))) (tOrr (tVal (eBin mNe (eCallB mLen (aCons (eVar 0) (aNil))) (eC (.int 4)))) (tOrr (tNt (tVal (eCall (ar 3 m_is_figures) (aCons (eBin mIdx (eVar 0) (eC (.int 0))) (aCons (eC (.int 1)) (aCons (eC (.int 3)) (aNil))))))) (tVal (eBin mEq (eBin mIdx (eBin mIdx (eVar 0) (eC (.int 0))) (eC (.int 0))) (eC (.str "0"))))))) (sRet (eC (.bool false))) (sNil)) (sSeq (sIf (tOrr (tNt (tVal (eCall (ar 3 m_is_figures) (aCons (eBin mIdx (eVar 0) (eC (.int 1))) (aCons (eC (.int 1)) (aCons (eC (.int 4)) (aNil))))))) (tOrr (tNt (tVal (eCall (ar 3 m_is_figures) (aCons (eBin mIdx (eVar 0) (eC (.int 2))) (aCons (eC (.int 0)) (aCons (eC (.int 2)) (aNil))))))) (tNt (tVal (eUn (isiD "tuple") (eBin mIdx (eVar 0) (eC (.int 3)))))))) (sRet (eC (.bool false))) (sNil)) (sSeq (sIf (tOrr (tNt (tVal (eCh mLe mLe (eC (.int 1)) (eCallB mLen (aCons (eBin mIdx (eVar 0) (eC (.int 3))) (aNil))) (eC (.int 8))))) (tNt (tVal (eCallB mAll (aCons (eLc [1] (iOf (eBin mIdx (eVar 0) (eC (.int 3)))) (gNm 1) (tTrue) (eCall (ar 1 m_is_row) (aCons (eVar 1) (aNil)))) (aNil)))))) (sRet (eC (.bool false))) (sNil)) (sRet (eBin mEq (eUn mSetLen (eLc [1] (iOf (eBin mIdx (eVar 0) (eC (.int 3)))) (gNm 1) (tTrue) (eSl (eVar 1) (oSome (eC (.int 1))) (oSome (eC (.int 3)))))) (eCallB mLen (aCons (eBin mIdx (eVar 0) (eC (.int 3))) (aNil)))))))
def m_is_land (ds : List D) : R D := fin (den_is_land (rho0 2 ds))
def den_is_book : Rho → Fl :=
  sSeq (sIf (tOrr (tNt (tVal (eUn (isiD "tuple") (eVar 0)))) (tNt (tVal (eCh mLe mLe (eC (.int 1)) (eCallB mLen (aCons (eVar 0) (aNil))) (eC (.int 6)))))) (sRet (eC (.bool false))) (sNil)) (sSeq (sIf (tNt (tVal (eCallB mAll (aCons (eLc [2] (iOf (eVar 0)) (gNm 2) (tTrue) (eCall (ar 1 m_is_land) (aCons (eVar 2) (aNil)))) (aNil))))) (sRet (eC (.bool false))) (sNil)) (sSeq (sSet 1 (eLc [2] (iOf (eVar 0)) (gNm 2) (tTrue) (eBin mIdx (eVar 2) (eC (.int 0))))) (sRet (eCallB mAll (aCons (eLc [3, 4] (iRg zp (aCons (eSl (eVar 1) (oNone) (oSome (eUn mNeg (eC (.int 1))))) (aCons (eSl (eVar 1) (oSome (eC (.int 1))) (oNone)) (aNil)))) (gTp 2 (gsCons (gNm 3) (gsCons (gNm 4) (gsNil)))) (tTrue) (eAnd (eBin mLt (eVar 3) (eVar 4)) (eNot (eMt "str" mStarts (eVar 4) (aCons (eVar 3) (aNil)))))) (aNil))))))
def m_is_book (ds : List D) : R D := fin (den_is_book (rho0 5 ds))
def den_need_book : Rho → Fl :=
  sIf (tNt (tVal (eCall (ar 1 m_is_book) (aCons (eVar 0) (aNil))))) (sRaise "BadBook") (sNil)
def m_need_book (ds : List D) : R D := fin (den_need_book (rho0 1 ds))
def den_land_of : Rho → Fl :=
  sSeq (sSet 2 (eLc [3] (iOf (eVar 0)) (gNm 3) (tVal (eBin mEq (eBin mIdx (eVar 3) (eC (.int 0))) (eVar 1))) (eVar 3))) (sRet (eIf (tVal (eBin mNe (eVar 2) (eLst (aNil)))) (eBin mIdx (eVar 2) (eC (.int 0))) (eC .none)))
def m_land_of (ds : List D) : R D := fin (den_land_of (rho0 4 ds))
def den_need_land : Rho → Fl :=
  sSeq (sExp (eCall (ar 1 m_need_book) (aCons (eVar 0) (aNil)))) (sIf (tOrr (tNt (tVal (eUn (isiD "str") (eVar 1)))) (tVal (eBin mIs (eCall (ar 2 m_land_of) (aCons (eVar 0) (aCons (eVar 1) (aNil)))) (eC .none)))) (sRaise "NoLand") (sNil))
def m_need_land (ds : List D) : R D := fin (den_need_land (rho0 2 ds))
def den_codes : Rho → Fl :=
  sSeq (sExp (eCall (ar 1 m_need_book) (aCons (eVar 0) (aNil)))) (sRet (eLc [1] (iOf (eVar 0)) (gNm 1) (tTrue) (eBin mIdx (eVar 1) (eC (.int 0)))))
def m_codes (ds : List D) : R D := fin (den_codes (rho0 2 ds))
def den_kinds : Rho → Fl :=
  sSeq (sExp (eCall (ar 1 m_need_book) (aCons (eVar 0) (aNil)))) (sSeq (sNewM 1 (aNil)) (sSeq (sBeh [2] (sFgt [2] (sFor (iOf (eVar 0)) (gNm 2) (sBeh [2] (sExt 1 (eLc [3] (iOf (eBin mIdx (eVar 2) (eC (.int 3)))) (gNm 3) (tTrue) (eBin mIdx (eVar 3) (eC (.int 0))))))))) (sFrz 1 (sRet (eLc [4, 5] (iRg enu (aCons (eVar 1) (aNil))) (gTp 2 (gsCons (gNm 4) (gsCons (gNm 5) (gsNil)))) (tVal (eBin mNotIn (eVar 5) (eSl (eVar 1) (oNone) (oSome (eVar 4))))) (eVar 5))))))
def m_kinds (ds : List D) : R D := fin (den_kinds (rho0 6 ds))
def den_row_of : Rho → Fl :=
  sSeq (sSet 2 (eC .none)) (sSeq (sBeh [3] (sFgt [3] (sFor (iOf (eBin mIdx (eVar 0) (eC (.int 3)))) (gNm 3) (sBeh [3] (sIf (tAn (tVal (eBin mEq (eCallB mLen (aCons (eVar 1) (aNil))) (eBin mIdx (eVar 3) (eC (.int 2))))) (tVal (eMt "str" mStarts (eVar 1) (aCons (eBin mIdx (eVar 3) (eC (.int 1))) (aNil))))) (sIf (tOrr (tVal (eBin mIs (eVar 2) (eC .none))) (tVal (eBin mGt (eCallB mLen (aCons (eBin mIdx (eVar 3) (eC (.int 1))) (aNil))) (eCallB mLen (aCons (eBin mIdx (eVar 2) (eC (.int 1))) (aNil)))))) (sSet 2 (eVar 3)) (sNil)) (sNil)))))) (sRet (eVar 2)))
def m_row_of (ds : List D) : R D := fin (den_row_of (rho0 4 ds))
def den_has_number : Rho → Fl :=
  sSeq (sIf (tOrr (tNt (tVal (eUn (isiD "tuple") (eVar 1)))) (tOrr (tVal (eBin mNe (eCallB mLen (aCons (eVar 1) (aNil))) (eC (.int 2)))) (tNt (tVal (eUn (isiD "str") (eBin mIdx (eVar 1) (eC (.int 0)))))))) (sRet (eC (.bool false))) (sNil)) (sSeq (sSet 2 (eCall (ar 2 m_land_of) (aCons (eVar 0) (aCons (eBin mIdx (eVar 1) (eC (.int 0))) (aNil))))) (sRet (eAnd (eBin mIsNot (eVar 2) (eC .none)) (eAnd (eCall (ar 3 m_is_figures) (aCons (eBin mIdx (eVar 1) (eC (.int 1))) (aCons (eC (.int 3)) (aCons (eC (.int 12)) (aNil))))) (eBin mIsNot (eCall (ar 2 m_row_of) (aCons (eVar 2) (aCons (eBin mIdx (eVar 1) (eC (.int 1))) (aNil)))) (eC .none))))))
def m_has_number (ds : List D) : R D := fin (den_has_number (rho0 3 ds))
def den_is_number : Rho → Fl :=
  sSeq (sExp (eCall (ar 1 m_need_book) (aCons (eVar 0) (aNil)))) (sRet (eCall (ar 2 m_has_number) (aCons (eVar 0) (aCons (eVar 1) (aNil)))))
def m_is_number (ds : List D) : R D := fin (den_is_number (rho0 2 ds))
def den_need_number : Rho → Fl :=
  sSeq (sExp (eCall (ar 1 m_need_book) (aCons (eVar 0) (aNil)))) (sIf (tNt (tVal (eCall (ar 2 m_has_number) (aCons (eVar 0) (aCons (eVar 1) (aNil)))))) (sRaise "NoNumber") (sNil))
def m_need_number (ds : List D) : R D := fin (den_need_number (rho0 2 ds))
def den_kind : Rho → Fl :=
  sSeq (sExp (eCall (ar 2 m_need_number) (aCons (eVar 0) (aCons (eVar 1) (aNil))))) (sRet (eBin mIdx (eCall (ar 2 m_row_of) (aCons (eCall (ar 2 m_land_of) (aCons (eVar 0) (aCons (eBin mIdx (eVar 1) (eC (.int 0))) (aNil)))) (aCons (eBin mIdx (eVar 1) (eC (.int 1))) (aNil)))) (eC (.int 0))))
def m_kind (ds : List D) : R D := fin (den_kind (rho0 2 ds))
def den_power_of : Rho → Fl :=
  sSeq (sSet 1 (eC (.int 1))) (sSeq (sBeh [2] (sFgt [2] (sFor (iRg rng1 (aCons (eVar 0) (aNil))) (gNm 2) (sBeh [2] (sSet 1 (eBin mMul (eVar 1) (eC (.int 10)))))))) (sRet (eVar 1)))
def m_power_of (ds : List D) : R D := fin (den_power_of (rho0 3 ds))
def den_counted (self : List D → R D) : Rho → Fl :=
  sSeq (sIf (tVal (eBin mGt (eCallB mLen (aCons (eVar 3) (aNil))) (eVar 2))) (sRet (eC (.int 0))) (sNil)) (sSeq (sSet 4 (eLc [6] (iOf (eBin mIdx (eVar 0) (eC (.int 3)))) (gNm 6) (tVal (eBin mEq (eBin mIdx (eVar 6) (eC (.int 2))) (eVar 2))) (eVar 6))) (sSeq (sIf (tVal (eCallB mAny (aCons (eLc [6] (iOf (eVar 4)) (gNm 6) (tTrue) (eAnd (eMt "str" mStarts (eBin mIdx (eVar 6) (eC (.int 1))) (aCons (eVar 3) (aNil))) (eBin mGt (eCallB mLen (aCons (eBin mIdx (eVar 6) (eC (.int 1))) (aNil))) (eCallB mLen (aCons (eVar 3) (aNil)))))) (aNil)))) (sRet (eCallB mSum (aCons (eLc [7] (iOf (eC (.str "0123456789"))) (gNm 7) (tTrue) (eCall (ar 4 self) (aCons (eVar 0) (aCons (eVar 1) (aCons (eVar 2) (aCons (eBin mAdd (eVar 3) (eVar 7)) (aNil))))))) (aNil)))) (sNil)) (sSeq (sSet 5 (eCall (ar 2 m_row_of) (aCons (eTup (aCons (eBin mIdx (eVar 0) (eC (.int 0))) (aCons (eBin mIdx (eVar 0) (eC (.int 1))) (aCons (eBin mIdx (eVar 0) (eC (.int 2))) (aCons (eCallB mTup (aCons (eVar 4) (aNil))) (aNil)))))) (aCons (eBin mAdd (eVar 3) (eBin mMul (eC (.str "x")) (eBin mSub (eVar 2) (eCallB mLen (aCons (eVar 3) (aNil)))))) (aNil))))) (sRet (eIf (tAn (tVal (eBin mIsNot (eVar 5) (eC .none))) (tVal (eBin mEq (eBin mIdx (eVar 5) (eC (.int 0))) (eVar 1)))) (eCall (ar 1 m_power_of) (aCons (eBin mSub (eVar 2) (eCallB mLen (aCons (eVar 3) (aNil)))) (aNil))) (eC (.int 0)))))))
def m_counted : Nat → List D → R D
  | 0 => fun _ => .no
  | n + 1 => fun ds => fin (den_counted (m_counted n) (rho0 8 ds))
def den_look : Rho → Fl :=
  sSeq (sExp (eCall (ar 2 m_need_land) (aCons (eVar 0) (aCons (eVar 1) (aNil))))) (sIf (tOrr (tVal (eBin mNotIn (eVar 2) (eLc [3] (iOf (eBin mIdx (eCall (ar 2 m_land_of) (aCons (eVar 0) (aCons (eVar 1) (aNil)))) (eC (.int 3)))) (gNm 3) (tTrue) (eBin mIdx (eVar 3) (eC (.int 0)))))) (tNt (tVal (eUn (isiD "str") (eVar 2))))) (sRaise "BadKind") (sNil))
def m_look (ds : List D) : R D := fin (den_look (rho0 4 ds))
def den_many : Rho → Fl :=
  sSeq (sExp (eCall (ar 3 m_look) (aCons (eVar 0) (aCons (eVar 1) (aCons (eVar 2) (aNil)))))) (sRet (eCallB mSum (aCons (eLc [3] (iRg rng2 (aCons (eC (.int 3)) (aCons (eBin mAdd (eC (.int 12)) (eC (.int 1))) (aNil)))) (gNm 3) (tTrue) (eCall (ar 4 (m_counted 6)) (aCons (eCall (ar 2 m_land_of) (aCons (eVar 0) (aCons (eVar 1) (aNil)))) (aCons (eVar 2) (aCons (eVar 3) (aCons (eC (.str "")) (aNil))))))) (aNil))))
def m_many (ds : List D) : R D := fin (den_many (rho0 4 ds))
def den_need : Rho → Fl :=
  sIf (tNt (tVal (eVar 0))) (sRaise "BadText") (sNil)
def m_need (ds : List D) : R D := fin (den_need (rho0 1 ds))
def den_figures_of : Rho → Fl :=
  sRet (eMt "str" mJoin (eC (.str "")) (aCons (eLc [1, 2] (iOf (eVar 0)) (gTp 2 (gsCons (gNm 1) (gsCons (gNm 2) (gsNil)))) (tTrue) (eVar 1)) (aNil)))
def m_figures_of (ds : List D) : R D := fin (den_figures_of (rho0 3 ds))
def den_without_ahead : Rho → Fl :=
  sSeq (sSet 3 (eC (.int 0))) (sSeq (sBeh [4, 5, 6] (sFgt [4, 5, 6] (sFor (iRg enu (aCons (eVar 0) (aNil))) (gTp 2 (gsCons (gNm 4) (gsCons (gTp 2 (gsCons (gNm 5) (gsCons (gNm 6) (gsNil)))) (gsNil)))) (sBeh [4, 5, 6] (sSeq (sIf (tAn (tVal (eBin mEq (eVar 3) (eVar 1))) (tAn (tVal (eVar 6)) (tVal (eBin mEq (eVar 5) (eVar 2))))) (sRet (eCall (ar 1 m_figures_of) (aCons (eSl (eVar 0) (oSome (eBin mAdd (eVar 4) (eC (.int 1)))) (oNone)) (aNil)))) (sNil)) (sSet 3 (eBin mAdd (eVar 3) (eCallB mLen (aCons (eVar 5) (aNil)))))))))) (sRet (eSl (eCall (ar 1 m_figures_of) (aCons (eVar 0) (aNil))) (oSome (eVar 1)) (oNone))))
def m_without_ahead (ds : List D) : R D := fin (den_without_ahead (rho0 7 ds))
def den_far_ones : Rho → Fl :=
  sSeq (sNewM 3 (aNil)) (sSeq (sSet 4 (eSl (eCall (ar 1 m_figures_of) (aCons (eVar 1) (aNil))) (oSome (eVar 2)) (oNone))) (sSeq (sBeh [5, 6] (sFgt [5, 6] (sFor (iOf (eVar 0)) (gNm 5) (sBeh [5, 6] (sIf (tVal (eMt "str" mStarts (eVar 4) (aCons (eBin mIdx (eVar 5) (eC (.int 0))) (aNil)))) (sSeq (sSet 6 (eCall (ar 3 m_without_ahead) (aCons (eVar 1) (aCons (eBin mAdd (eVar 2) (eCallB mLen (aCons (eBin mIdx (eVar 5) (eC (.int 0))) (aNil)))) (aCons (eBin mIdx (eVar 5) (eC (.int 2))) (aNil)))))) (sSeq (sApp 3 (eTup (aCons (eBin mIdx (eVar 5) (eC (.int 0))) (aCons (eVar 6) (aNil))))) (sApp 3 (eTup (aCons (eBin mIdx (eVar 5) (eC (.int 0))) (aCons (eSl (eVar 4) (oSome (eCallB mLen (aCons (eBin mIdx (eVar 5) (eC (.int 0))) (aNil)))) (oNone)) (aNil))))))) (sNil)))))) (sFrz 3 (sRet (eVar 3)))))
def m_far_ones (ds : List D) : R D := fin (den_far_ones (rho0 7 ds))
def den_run_end : Rho → Fl :=
  sSeq (sPar 2 3 (aCons (eBin mAdd (eVar 1) (eC (.int 1))) (aCons (eBin mAdd (eVar 1) (eCallB mInt (aCons (eBin mIn (eBin mIdx (eVar 0) (eVar 1)) (eC (.str "0123456789"))) (aNil)))) (aNil)))) (sSeq (sFgt [] (sWhile (fun _ => 1000) (tAn (tVal (eBin mLt (eVar 2) (eCallB mLen (aCons (eVar 0) (aNil))))) (tOrr (tVal (eBin mIn (eBin mIdx (eVar 0) (eVar 2)) (eC (.str "0123456789")))) (tVal (eBin mIn (eBin mIdx (eVar 0) (eVar 2)) (eC (.str " -./()")))))) (sBeh [] (sSeq (sSet 2 (eBin mAdd (eVar 2) (eC (.int 1)))) (sIf (tVal (eBin mIn (eBin mIdx (eVar 0) (eBin mSub (eVar 2) (eC (.int 1)))) (eC (.str "0123456789")))) (sSet 3 (eVar 2)) (sNil)))))) (sRet (eCallB mMax2 (aCons (eVar 3) (aCons (eBin mAdd (eVar 1) (eC (.int 1))) (aNil))))))
def m_run_end (ds : List D) : R D := fin (den_run_end (rho0 4 ds))
def den_nearest_row : Rho → Fl :=
  sSeq (sSet 2 (eC .none)) (sSeq (sBeh [3, 4] (sFgt [3, 4] (sFor (iOf (eBin mIdx (eVar 0) (eC (.int 3)))) (gNm 3) (sBeh [3, 4] (sSeq (sSet 4 (eOr (eMt "str" mStarts (eVar 1) (aCons (eBin mIdx (eVar 3) (eC (.int 1))) (aNil))) (eMt "str" mStarts (eBin mIdx (eVar 3) (eC (.int 1))) (aCons (eVar 1) (aNil))))) (sIf (tAn (tVal (eVar 4)) (tVal (eBin mLe (eCallB mLen (aCons (eVar 1) (aNil))) (eBin mIdx (eVar 3) (eC (.int 2)))))) (sIf (tOrr (tVal (eBin mIs (eVar 2) (eC .none))) (tVal (eBin mLt (eTup (aCons (eBin mIdx (eVar 3) (eC (.int 2))) (aCons (eBin mSub (eC (.int 0)) (eCallB mLen (aCons (eBin mIdx (eVar 3) (eC (.int 1))) (aNil)))) (aNil)))) (eTup (aCons (eBin mIdx (eVar 2) (eC (.int 2))) (aCons (eBin mSub (eC (.int 0)) (eCallB mLen (aCons (eBin mIdx (eVar 2) (eC (.int 1))) (aNil)))) (aNil))))))) (sSet 2 (eVar 3)) (sNil)) (sNil))))))) (sRet (eVar 2)))
def m_nearest_row (ds : List D) : R D := fin (den_nearest_row (rho0 5 ds))
def den_cut : Rho → Fl :=
  sSeq (sParL 2 3 (aNil) (eC (.int 0))) (sSeq (sBeh [4] (sFgt [4] (sFor (iOf (eVar 1)) (gNm 4) (sBeh [4] (sSeq (sIf (tVal (eBin mLt (eVar 3) (eCallB mLen (aCons (eVar 0) (aNil))))) (sApp 2 (eSl (eVar 0) (oSome (eVar 3)) (oSome (eBin mAdd (eVar 3) (eVar 4))))) (sNil)) (sSet 3 (eBin mAdd (eVar 3) (eVar 4)))))))) (sFrz 2 (sRet (eVar 2))))
def m_cut (ds : List D) : R D := fin (den_cut (rho0 5 ds))
def den_heads : Rho → Fl :=
  sSeq (sSet 3 (eCall (ar 2 m_land_of) (aCons (eVar 0) (aCons (eVar 2) (aNil))))) (sSeq (sSet 4 (eLst (aCons (eTup (aCons (eBin mAdd (eC (.str "+")) (eBin mIdx (eVar 1) (eC (.int 0)))) (aCons (eC (.bool true)) (aNil)))) (aCons (eTup (aCons (eBin mAdd (eBin mIdx (eVar 3) (eC (.int 1))) (eBin mIdx (eVar 1) (eC (.int 0)))) (aCons (eC (.bool true)) (aNil)))) (aNil))))) (sSeq (sIf (tVal (eBin mEq (eBin mIdx (eVar 1) (eC (.int 0))) (eVar 2))) (sSet 4 (eBin mAdd (eBin mAdd (eVar 4) (eIf (tVal (eBin mNe (eBin mIdx (eVar 3) (eC (.int 2))) (eC (.str "")))) (eLst (aCons (eTup (aCons (eBin mIdx (eVar 3) (eC (.int 2))) (aCons (eC (.bool false)) (aNil)))) (aNil))) (eLst (aNil)))) (eLst (aCons (eTup (aCons (eC (.str "")) (aCons (eC (.bool false)) (aNil)))) (aNil))))) (sNil)) (sRet (eVar 4))))
def m_heads (ds : List D) : R D := fin (den_heads (rho0 5 ds))
def den_ways_on : Rho → Fl :=
  sSeq (sNewM 3 (aNil)) (sSeq (sBeh [4, 5, 6] (sFgt [4, 5, 6] (sFor (iOf (eVar 0)) (gNm 4) (sBeh [4, 5, 6] (sBeh [5, 6] (sFgt [5, 6] (sFor (iOf (eCall (ar 3 m_heads) (aCons (eVar 0) (aCons (eVar 4) (aCons (eVar 2) (aNil)))))) (gTp 2 (gsCons (gNm 5) (gsCons (gNm 6) (gsNil)))) (sBeh [5, 6] (sIf (tAn (tVal (eVar 6)) (tVal (eMt "str" mStarts (eVar 1) (aCons (eVar 5) (aNil))))) (sApp 3 (eTup (aCons (eVar 5) (aCons (eVar 6) (aCons (eVar 4) (aCons (eSl (eVar 1) (oSome (eCallB mLen (aCons (eVar 5) (aNil)))) (oNone)) (aNil))))))) (sNil)))))))))) (sSeq (sSet 4 (eCall (ar 2 m_land_of) (aCons (eVar 0) (aCons (eVar 2) (aNil))))) (sSeq (sBeh [5, 6] (sFgt [5, 6] (sFor (iOf (eCall (ar 3 m_heads) (aCons (eVar 0) (aCons (eVar 4) (aCons (eVar 2) (aNil)))))) (gTp 2 (gsCons (gNm 5) (gsCons (gNm 6) (gsNil)))) (sBeh [5, 6] (sIf (tAn (tNt (tVal (eVar 6))) (tAn (tVal (eMt "str" mStarts (eVar 1) (aCons (eVar 5) (aNil)))) (tVal (eBin mNe (eSl (eVar 1) (oNone) (oSome (eC (.int 1)))) (eC (.str "+")))))) (sApp 3 (eTup (aCons (eVar 5) (aCons (eVar 6) (aCons (eVar 4) (aCons (eSl (eVar 1) (oSome (eCallB mLen (aCons (eVar 5) (aNil)))) (oNone)) (aNil))))))) (sNil)))))) (sFrz 3 (sRet (eVar 3))))))
def m_ways_on (ds : List D) : R D := fin (den_ways_on (rho0 7 ds))
def den_groups_of : Rho → Fl :=
  sSeq (sParL 2 3 (aNil) (eC (.int 0))) (sSeq (sBeh [4] (sFgt [4] (sFor (iOf (eBin mIdx (eCall (ar 2 m_row_of) (aCons (eVar 0) (aCons (eVar 1) (aNil)))) (eC (.int 3)))) (gNm 4) (sBeh [4] (sSeq (sApp 2 (eSl (eVar 1) (oSome (eVar 3)) (oSome (eBin mAdd (eVar 3) (eVar 4))))) (sSet 3 (eBin mAdd (eVar 3) (eVar 4)))))))) (sFrz 2 (sRet (eVar 2))))
def m_groups_of (ds : List D) : R D := fin (den_groups_of (rho0 5 ds))
def den_dialled_of : Rho → Fl :=
  sSeq (sSet 3 (eCall (ar 2 m_land_of) (aCons (eVar 0) (aCons (eVar 2) (aNil))))) (sRet (eIf (tVal (eBin mEq (eBin mIdx (eVar 1) (eC (.int 0))) (eVar 2))) (eBin mAdd (eBin mIdx (eVar 3) (eC (.int 2))) (eBin mIdx (eVar 1) (eC (.int 1)))) (eBin mAdd (eBin mAdd (eBin mIdx (eVar 3) (eC (.int 1))) (eBin mIdx (eVar 1) (eC (.int 0)))) (eBin mIdx (eVar 1) (eC (.int 1))))))
def m_dialled_of (ds : List D) : R D := fin (den_dialled_of (rho0 4 ds))
def den_dialled : Rho → Fl :=
  sSeq (sExp (eCall (ar 2 m_need_number) (aCons (eVar 0) (aCons (eVar 1) (aNil))))) (sSeq (sExp (eCall (ar 2 m_need_land) (aCons (eVar 0) (aCons (eVar 2) (aNil))))) (sRet (eCall (ar 3 m_dialled_of) (aCons (eVar 0) (aCons (eVar 1) (aCons (eVar 2) (aNil)))))))
def m_dialled (ds : List D) : R D := fin (den_dialled (rho0 3 ds))
def den_linked : Rho → Fl :=
  sSeq (sExp (eCall (ar 2 m_need_number) (aCons (eVar 0) (aCons (eVar 1) (aNil))))) (sRet (eBin mAdd (eC (.str "+")) (eMt "str" mJoin (eC (.str "-")) (aCons (eBin mAdd (eLst (aCons (eBin mIdx (eVar 1) (eC (.int 0))) (aNil))) (eCall (ar 2 m_groups_of) (aCons (eCall (ar 2 m_land_of) (aCons (eVar 0) (aCons (eBin mIdx (eVar 1) (eC (.int 0))) (aNil)))) (aCons (eBin mIdx (eVar 1) (eC (.int 1))) (aNil))))) (aNil)))))
def m_linked (ds : List D) : R D := fin (den_linked (rho0 2 ds))
def den__law_cell : Rho → Fl :=
  sSeq (sIf (tVal (eBin mEq (eVar 0) (eLst (aNil)))) (sRet (eBin mMul (eVar 1) (eC (.int 7919)))) (sNil)) (sRet (eBin mAdd (eBin mIdx (eVar 0) (eBin mMod (eVar 1) (eCallB mLen (aCons (eVar 0) (aNil))))) (eBin mMul (eBin mFdiv (eVar 1) (eCallB mLen (aCons (eVar 0) (aNil)))) (eC (.int 104729)))))
def m__law_cell (ds : List D) : R D := fin (den__law_cell (rho0 2 ds))
def den__law_drawn : Rho → Fl :=
  sSeq (sSet 2 (eBin mMod (eBin mAdd (eBin mMul (eVar 0) (eC (.int 6364136223846793005))) (eBin mMul (eBin mAdd (eVar 1) (eC (.int 1))) (eC (.int 1442695040888963407)))) (eC (.int 340282366920938463463374607431768211507)))) (sSeq (sSet 2 (eBin mMod (eBin mMul (eVar 2) (eVar 2)) (eC (.int 340282366920938463463374607431768211297)))) (sSeq (sSet 2 (eBin mMul (eBin mMul (eBin mAdd (eBin mMod (eVar 2) (eC (.int 18446744073709551557))) (eC (.int 1))) (eBin mAdd (eBin mFdiv (eVar 2) (eC (.int 18446744073709551557))) (eC (.int 1)))) (eVar 2))) (sRet (eBin mMod (eVar 2) (eC (.int 340282366920938463463374607431768211507))))))
def m__law_drawn (ds : List D) : R D := fin (den__law_drawn (rho0 3 ds))
def den__law_one_row : Rho → Fl :=
  sSeq (sSet 1 (eBin mIdx (eLst (aCons (eC (.str "")) (aCons (eC (.str "1")) (aCons (eC (.str "2")) (aCons (eC (.str "12")) (aCons (eC (.str "7")) (aCons (eC (.str "70")) (aCons (eC (.str "0")) (aCons (eC (.str "00")) (aCons (eC (.str "123")) (aCons (eC (.str "9")) (aNil)))))))))))) (eBin mMod (eVar 0) (eC (.int 10))))) (sSeq (sSet 2 (eBin mAdd (eCallB mMax2 (aCons (eC (.int 3)) (aCons (eBin mAdd (eCallB mLen (aCons (eVar 1) (aNil))) (eC (.int 1))) (aNil)))) (eBin mMod (eBin mFdiv (eVar 0) (eC (.int 16))) (eBin mIdx (eLst (aCons (eC (.int 2)) (aCons (eC (.int 3)) (aCons (eC (.int 5)) (aNil))))) (eBin mMod (eBin mFdiv (eVar 0) (eC (.int 64))) (eC (.int 3))))))) (sSeq (sParM 3 4 (eVar 2) (aNil)) (sSeq (sFgt [5] (sWhile (fun _ => 40) (tVal (eBin mGt (eVar 3) (eC (.int 0)))) (sBeh [5] (sSeq (sSet 5 (eBin mAdd (eC (.int 1)) (eBin mMod (eCall (ar 2 m__law_drawn) (aCons (eVar 0) (aCons (eVar 3) (aNil)))) (eCallB mMin2 (aCons (eVar 3) (aCons (eC (.int 4)) (aNil))))))) (sSeq (sApp 4 (eVar 5)) (sSet 3 (eBin mSub (eVar 3) (eVar 5)))))))) (sFrz 4 (sRet (eTup (aCons (eBin mIdx (eLst (aCons (eC (.str "home")) (aCons (eC (.str "cell")) (aCons (eC (.str "free")) (aNil))))) (eBin mMod (eBin mFdiv (eVar 0) (eC (.int 256))) (eC (.int 3)))) (aCons (eVar 1) (aCons (eVar 2) (aCons (eCallB mTup (aCons (eVar 4) (aNil))) (aNil)))))))))))
def m__law_one_row (ds : List D) : R D := fin (den__law_one_row (rho0 6 ds))
def den__law_land : Rho → Fl :=
  sSeq (sNewM 2 (aNil)) (sSeq (sBeh [3, 4] (sFgt [3, 4] (sFor (iRg rng1 (aCons (eBin mAdd (eC (.int 1)) (eBin mMod (eVar 0) (eC (.int 5)))) (aNil))) (gNm 3) (sBeh [3, 4] (sSeq (sSet 4 (eCall (ar 1 m__law_one_row) (aCons (eCall (ar 2 m__law_drawn) (aCons (eVar 0) (aCons (eVar 3) (aNil)))) (aNil)))) (sIf (tVal (eBin mNotIn (eSl (eVar 4) (oSome (eC (.int 1))) (oSome (eC (.int 3)))) (eLc [5] (iMl 2) (gNm 5) (tTrue) (eSl (eVar 5) (oSome (eC (.int 1))) (oSome (eC (.int 3))))))) (sApp 2 (eVar 4)) (sNil))))))) (sFrz 2 (sRet (eTup (aCons (eVar 1) (aCons (eBin mIdx (eLst (aCons (eC (.str "0")) (aCons (eC (.str "00")) (aCons (eC (.str "011")) (aCons (eC (.str "9")) (aCons (eC (.str "1")) (aNil))))))) (eBin mMod (eBin mFdiv (eVar 0) (eC (.int 8))) (eC (.int 5)))) (aCons (eBin mIdx (eLst (aCons (eC (.str "0")) (aCons (eC (.str "")) (aCons (eC (.str "8")) (aCons (eC (.str "0")) (aCons (eC (.str "01")) (aNil))))))) (eBin mMod (eBin mFdiv (eVar 0) (eC (.int 64))) (eC (.int 5)))) (aCons (eCallB mTup (aCons (eVar 2) (aNil))) (aNil)))))))))
def m__law_land (ds : List D) : R D := fin (den__law_land (rho0 6 ds))
def den__law_book : Rho → Fl :=
  sSeq (sSet 1 (eLst (aCons (eC (.str "1")) (aCons (eC (.str "20")) (aCons (eC (.str "21")) (aCons (eC (.str "3")) (aCons (eC (.str "44")) (aCons (eC (.str "455")) (aCons (eC (.str "77")) (aNil)))))))))) (sSeq (sSet 2 (eSl (eLc [3, 4] (iRg enu (aCons (eVar 1) (aNil))) (gTp 2 (gsCons (gNm 3) (gsCons (gNm 4) (gsNil)))) (tVal (eBin mEq (eBin mMod (eCall (ar 2 m__law_drawn) (aCons (eVar 0) (aCons (eVar 3) (aNil)))) (eC (.int 3))) (eC (.int 0)))) (eVar 4)) (oNone) (oSome (eC (.int 4))))) (sSeq (sSet 2 (eIf (tVal (eBin mNe (eVar 2) (eLst (aNil)))) (eVar 2) (eLst (aCons (eBin mIdx (eVar 1) (eBin mMod (eVar 0) (eC (.int 7)))) (aNil))))) (sRet (eCallB mTup (aCons (eLc [3, 4] (iRg enu (aCons (eVar 2) (aNil))) (gTp 2 (gsCons (gNm 3) (gsCons (gNm 4) (gsNil)))) (tTrue) (eCall (ar 2 m__law_land) (aCons (eCall (ar 2 m__law_drawn) (aCons (eVar 0) (aCons (eBin mAdd (eC (.int 20)) (eVar 3)) (aNil)))) (aCons (eVar 4) (aNil))))) (aNil))))))
def m__law_book (ds : List D) : R D := fin (den__law_book (rho0 5 ds))
def den__law_is_figures : Rho → Fl :=
  sSeq (sIf (tOrr (tNt (tVal (eUn (isiD "str") (eVar 0)))) (tOrr (tVal (eBin mLt (eCallB mLen (aCons (eVar 0) (aNil))) (eVar 1))) (tVal (eBin mGt (eCallB mLen (aCons (eVar 0) (aNil))) (eVar 2))))) (sRet (eC (.bool false))) (sNil)) (sRet (eBin mEq (eLc [3] (iOf (eVar 0)) (gNm 3) (tVal (eBin mNotIn (eVar 3) (eC (.str "0123456789")))) (eVar 3)) (eLst (aNil))))
def m__law_is_figures (ds : List D) : R D := fin (den__law_is_figures (rho0 4 ds))
def den__law_is_row : Rho → Fl :=
  sSeq (sIf (tOrr (tNt (tVal (eUn (isiD "tuple") (eVar 0)))) (tOrr (tVal (eBin mNe (eCallB mLen (aCons (eVar 0) (aNil))) (eC (.int 4)))) (tOrr (tNt (tVal (eUn (isiD "str") (eBin mIdx (eVar 0) (eC (.int 0)))))) (tNt (tVal (eCh mLt mLt (eC (.int 0)) (eCallB mLen (aCons (eBin mIdx (eVar 0) (eC (.int 0))) (aNil))) (eC (.int 9)))))))) (sRet (eC (.bool false))) (sNil)) (sSeq (sIf (tOrr (tVal (eBin mNe (eLc [2] (iOf (eBin mIdx (eVar 0) (eC (.int 0)))) (gNm 2) (tNt (tVal (eCh mLe mLe (eC (.str "a")) (eVar 2) (eC (.str "z"))))) (eVar 2)) (eLst (aNil)))) (tNt (tVal (eCall (ar 3 m__law_is_figures) (aCons (eBin mIdx (eVar 0) (eC (.int 1))) (aCons (eC (.int 0)) (aCons (eC (.int 4)) (aNil)))))))) (sRet (eC (.bool false))) (sNil)) (sSeq (sBeh [1] (sFgt [1] (sFor (iOf (eIf (tVal (eUn (isiD "tuple") (eBin mIdx (eVar 0) (eC (.int 3))))) (eBin mAdd (eSl (eVar 0) (oSome (eC (.int 2))) (oSome (eC (.int 3)))) (eBin mIdx (eVar 0) (eC (.int 3)))) (eTup (aCons (eC .none) (aNil))))) (gNm 1) (sBeh [1] (sIf (tOrr (tNt (tVal (eUn (isiD "int") (eVar 1)))) (tOrr (tVal (eUn (isiD "bool") (eVar 1))) (tVal (eBin mLt (eVar 1) (eC (.int 1)))))) (sRet (eC (.bool false))) (sNil)))))) (sRet (eAnd (eCh mLt mLt (eC (.int 2)) (eBin mIdx (eVar 0) (eC (.int 2))) (eC (.int 13))) (eAnd (eBin mGt (eBin mIdx (eVar 0) (eC (.int 2))) (eCallB mLen (aCons (eBin mIdx (eVar 0) (eC (.int 1))) (aNil)))) (eBin mEq (eCallB mSum (aCons (eBin mIdx (eVar 0) (eC (.int 3))) (aNil))) (eBin mIdx (eVar 0) (eC (.int 2)))))))))
def m__law_is_row (ds : List D) : R D := fin (den__law_is_row (rho0 3 ds))
def den__law_is_land : Rho → Fl :=
  sSeq (sIf (tOrr (tNt (tVal (eUn (isiD "tuple") (eVar 0)))) (tOrr (tVal (eBin mNe (eCallB mLen (aCons (eVar 0) (aNil))) (eC (.int 4)))) (tOrr (tNt (tVal (eCall (ar 3 m__law_is_figures) (aCons (eBin mIdx (eVar 0) (eC (.int 0))) (aCons (eC (.int 1)) (aCons (eC (.int 3)) (aNil))))))) (tVal (eBin mEq (eSl (eBin mIdx (eVar 0) (eC (.int 0))) (oNone) (oSome (eC (.int 1)))) (eC (.str "0"))))))) (sRet (eC (.bool false))) (sNil)) (sSeq (sIf (tOrr (tNt (tVal (eCall (ar 3 m__law_is_figures) (aCons (eBin mIdx (eVar 0) (eC (.int 1))) (aCons (eC (.int 1)) (aCons (eC (.int 4)) (aNil))))))) (tOrr (tNt (tVal (eCall (ar 3 m__law_is_figures) (aCons (eBin mIdx (eVar 0) (eC (.int 2))) (aCons (eC (.int 0)) (aCons (eC (.int 2)) (aNil))))))) (tNt (tVal (eUn (isiD "tuple") (eBin mIdx (eVar 0) (eC (.int 3)))))))) (sRet (eC (.bool false))) (sNil)) (sSeq (sIf (tOrr (tNt (tVal (eCh mLt mLt (eC (.int 0)) (eCallB mLen (aCons (eBin mIdx (eVar 0) (eC (.int 3))) (aNil))) (eC (.int 9))))) (tVal (eBin mNe (eLc [2] (iOf (eBin mIdx (eVar 0) (eC (.int 3)))) (gNm 2) (tNt (tVal (eCall (ar 1 m__law_is_row) (aCons (eVar 2) (aNil))))) (eVar 2)) (eLst (aNil))))) (sRet (eC (.bool false))) (sNil)) (sSeq (sSet 1 (eLc [2] (iOf (eBin mIdx (eVar 0) (eC (.int 3)))) (gNm 2) (tTrue) (eSl (eVar 2) (oSome (eC (.int 1))) (oSome (eC (.int 3)))))) (sRet (eBin mEq (eLc [3] (iOf (eVar 1)) (gNm 3) (tVal (eBin mGt (eMt "list" mCount (eVar 1) (aCons (eVar 3) (aNil))) (eC (.int 1)))) (eVar 3)) (eLst (aNil)))))))
def m__law_is_land (ds : List D) : R D := fin (den__law_is_land (rho0 4 ds))
def den__law_is_book : Rho → Fl :=
  sSeq (sIf (tOrr (tNt (tVal (eUn (isiD "tuple") (eVar 0)))) (tNt (tVal (eCh mLt mLt (eC (.int 0)) (eCallB mLen (aCons (eVar 0) (aNil))) (eC (.int 7)))))) (sRet (eC (.bool false))) (sNil)) (sSeq (sIf (tVal (eBin mNe (eLc [4] (iOf (eVar 0)) (gNm 4) (tNt (tVal (eCall (ar 1 m__law_is_land) (aCons (eVar 4) (aNil))))) (eVar 4)) (eLst (aNil)))) (sRet (eC (.bool false))) (sNil)) (sSeq (sSet 1 (eLc [4] (iOf (eVar 0)) (gNm 4) (tTrue) (eBin mIdx (eVar 4) (eC (.int 0))))) (sSeq (sIf (tVal (eBin mNe (eVar 1) (eCallB mSorted (aCons (eVar 1) (aNil))))) (sRet (eC (.bool false))) (sNil)) (sSeq (sBeh [2, 3] (sFgt [2, 3] (sFor (iRg enu (aCons (eVar 1) (aNil))) (gTp 2 (gsCons (gNm 2) (gsCons (gNm 3) (gsNil)))) (sBeh [2, 3] (sIf (tVal (eBin mNe (eLc [5] (iOf (eSl (eVar 1) (oNone) (oSome (eVar 2)))) (gNm 5) (tVal (eBin mEq (eSl (eVar 3) (oNone) (oSome (eCallB mLen (aCons (eVar 5) (aNil))))) (eVar 5))) (eVar 5)) (eLst (aNil)))) (sRet (eC (.bool false))) (sNil)))))) (sRet (eC (.bool true)))))))
def m__law_is_book (ds : List D) : R D := fin (den__law_is_book (rho0 6 ds))
def den__law_bent (self : List D → R D) : Rho → Fl :=
  sSeq (sIf (tAn (tVal (eBin mGt (eVar 2) (eC (.int 0)))) (tAn (tVal (eUn (isiD "tuple") (eVar 0))) (tAn (tVal (eBin mGt (eCallB mLen (aCons (eVar 0) (aNil))) (eC (.int 0)))) (tVal (eBin mGt (eBin mMod (eVar 1) (eC (.int 6))) (eC (.int 0))))))) (sSeq (sSet 3 (eBin mMod (eBin mFdiv (eVar 1) (eC (.int 8))) (eCallB mLen (aCons (eVar 0) (aNil))))) (sSeq (sSet 4 (eCall (ar 3 self) (aCons (eBin mIdx (eVar 0) (eVar 3)) (aCons (eCall (ar 2 m__law_drawn) (aCons (eVar 1) (aCons (eVar 2) (aNil)))) (aCons (eBin mSub (eVar 2) (eC (.int 1))) (aNil)))))) (sRet (eBin mAdd (eBin mAdd (eSl (eVar 0) (oNone) (oSome (eVar 3))) (eTup (aCons (eVar 4) (aNil)))) (eSl (eVar 0) (oSome (eBin mAdd (eVar 3) (eC (.int 1)))) (oNone)))))) (sNil)) (sSeq (sSet 5 (eLst (aCons (eC (.str "")) (aCons (eC (.str "0")) (aCons (eC (.str "1")) (aCons (eC (.str "20")) (aCons (eC (.str "0000")) (aCons (eC (.str "12345")) (aCons (eC (.str "a")) (aCons (eC (.str "cell")) (aCons (eC (.str "abcdefghi")) (aCons (eC (.int 0)) (aCons (eC (.int 1)) (aCons (eC (.int 3)) (aCons (eC (.int 12)) (aCons (eC (.int 13)) (aCons (eC (.bool true)) (aCons (eC .none) (aCons (eTup (aNil)) (aCons (eC (.str "1a")) (aCons (eC (.str "201")) (aNil)))))))))))))))))))))) (sSeq (sIf (tVal (eUn (isiD "tuple") (eVar 0))) (sSet 5 (eBin mAdd (eVar 5) (eLst (aCons (eBin mAdd (eVar 0) (eVar 0)) (aCons (eSl (eVar 0) (oNone) (oSome (eUn mNeg (eC (.int 1))))) (aCons (eUn mRev (eVar 0)) (aCons (eCallB mLst (aCons (eVar 0) (aNil))) (aCons (eSl (eVar 0) (oSome (eC (.int 1))) (oNone)) (aCons (eBin mAdd (eVar 0) (eSl (eVar 0) (oNone) (oSome (eC (.int 1))))) (aNil)))))))))) (sNil)) (sRet (eBin mIdx (eVar 5) (eBin mMod (eBin mFdiv (eVar 1) (eC (.int 64))) (eCallB mLen (aCons (eVar 5) (aNil))))))))
def m__law_bent : Nat → List D → R D
  | 0 => fun _ => .no
  | n + 1 => fun ds => fin (den__law_bent (m__law_bent n) (rho0 6 ds))
def den_number_at : Rho → Fl :=
  sSeq (sExp (eCall (ar 3 m_look) (aCons (eVar 0) (aCons (eVar 1) (aCons (eVar 2) (aNil)))))) (sSeq (sSet 4 (eCall (ar 2 m_land_of) (aCons (eVar 0) (aCons (eVar 1) (aNil))))) (sSeq (sIf (tNt (tVal (eCall (ar 3 m_is_count) (aCons (eVar 3) (aCons (eC (.int 0)) (aCons (eBin mSub (eCall (ar 3 m_many) (aCons (eVar 0) (aCons (eVar 1) (aCons (eVar 2) (aNil))))) (eC (.int 1))) (aNil))))))) (sRaise "BadIndex") (sNil)) (sSeq (sSet 5 (eC (.int 3))) (sSeq (sFgt [] (sWhile (fun _ => 1000) (tVal (eBin mGe (eVar 3) (eCall (ar 4 (m_counted 6)) (aCons (eVar 4) (aCons (eVar 2) (aCons (eVar 5) (aCons (eC (.str "")) (aNil)))))))) (sBeh [] (sSeq (sSet 3 (eBin mSub (eVar 3) (eCall (ar 4 (m_counted 6)) (aCons (eVar 4) (aCons (eVar 2) (aCons (eVar 5) (aCons (eC (.str "")) (aNil)))))))) (sSet 5 (eBin mAdd (eVar 5) (eC (.int 1)))))))) (sSeq (sSet 6 (eC (.str ""))) (sSeq (sBeh [7, 8] (sFgt [7, 8] (sFor (iRg rng1 (aCons (eVar 5) (aNil))) (gNm 7) (sBeh [7, 8] (sSeq (sSet 8 (eC (.int 0))) (sSeq (sFgt [] (sWhile (fun _ => 1000) (tVal (eBin mGe (eVar 3) (eCall (ar 4 (m_counted 6)) (aCons (eVar 4) (aCons (eVar 2) (aCons (eVar 5) (aCons (eBin mAdd (eVar 6) (eCallB mStr (aCons (eVar 8) (aNil)))) (aNil)))))))) (sBeh [] (sSeq (sSet 3 (eBin mSub (eVar 3) (eCall (ar 4 (m_counted 6)) (aCons (eVar 4) (aCons (eVar 2) (aCons (eVar 5) (aCons (eBin mAdd (eVar 6) (eCallB mStr (aCons (eVar 8) (aNil)))) (aNil)))))))) (sSet 8 (eBin mAdd (eVar 8) (eC (.int 1)))))))) (sSet 6 (eBin mAdd (eVar 6) (eCallB mStr (aCons (eVar 8) (aNil))))))))))) (sRet (eTup (aCons (eVar 1) (aCons (eVar 6) (aNil)))))))))))
def m_number_at (ds : List D) : R D := fin (den_number_at (rho0 9 ds))
def den_index_of : Rho → Fl :=
  sSeq (sExp (eCall (ar 2 m_need_number) (aCons (eVar 0) (aCons (eVar 1) (aNil))))) (sSeq (sAsg (gTp 2 (gsCons (gNm 2) (gsCons (gNm 3) (gsNil)))) (eTup (aCons (eCall (ar 2 m_land_of) (aCons (eVar 0) (aCons (eBin mIdx (eVar 1) (eC (.int 0))) (aNil)))) (aCons (eBin mIdx (eVar 1) (eC (.int 1))) (aNil))))) (sSeq (sSet 4 (eBin mIdx (eCall (ar 2 m_row_of) (aCons (eVar 2) (aCons (eVar 3) (aNil)))) (eC (.int 0)))) (sSeq (sSet 5 (eCallB mSum (aCons (eLc [8] (iRg rng2 (aCons (eC (.int 3)) (aCons (eCallB mLen (aCons (eVar 3) (aNil))) (aNil)))) (gNm 8) (tTrue) (eCall (ar 4 (m_counted 6)) (aCons (eVar 2) (aCons (eVar 4) (aCons (eVar 8) (aCons (eC (.str "")) (aNil))))))) (aNil)))) (sSeq (sBeh [6, 7] (sFgt [6, 7] (sFor (iRg rng1 (aCons (eCallB mLen (aCons (eVar 3) (aNil))) (aNil))) (gNm 6) (sBeh [6, 7] (sBeh [7] (sFgt [7] (sFor (iRg rng1 (aCons (eCallB mInt (aCons (eBin mIdx (eVar 3) (eVar 6)) (aNil))) (aNil))) (gNm 7) (sBeh [7] (sSet 5 (eBin mAdd (eVar 5) (eCall (ar 4 (m_counted 6)) (aCons (eVar 2) (aCons (eVar 4) (aCons (eCallB mLen (aCons (eVar 3) (aNil))) (aCons (eBin mAdd (eSl (eVar 3) (oNone) (oSome (eVar 6))) (eCallB mStr (aCons (eVar 7) (aNil)))) (aNil)))))))))))))))) (sRet (eVar 5))))))
def m_index_of (ds : List D) : R D := fin (den_index_of (rho0 9 ds))
def den__law_row_of : Rho → Fl :=
  sSeq (sSet 2 (eLc [3] (iOf (eBin mIdx (eVar 0) (eC (.int 3)))) (gNm 3) (tAn (tVal (eBin mEq (eBin mIdx (eVar 3) (eC (.int 2))) (eCallB mLen (aCons (eVar 1) (aNil))))) (tVal (eBin mEq (eSl (eVar 1) (oNone) (oSome (eCallB mLen (aCons (eBin mIdx (eVar 3) (eC (.int 1))) (aNil))))) (eBin mIdx (eVar 3) (eC (.int 1)))))) (eVar 3))) (sRet (eIf (tVal (eBin mNe (eVar 2) (eLst (aNil)))) (eBin mIdx (eUn mSortLen (eVar 2)) (eUn mNeg (eC (.int 1)))) (eC .none)))
def m__law_row_of (ds : List D) : R D := fin (den__law_row_of (rho0 4 ds))
def den__law_at_code : Rho → Fl :=
  sRet (eBin mIdx (eBin mAdd (eLc [2] (iOf (eVar 0)) (gNm 2) (tVal (eBin mEq (eBin mIdx (eVar 2) (eC (.int 0))) (eVar 1))) (eVar 2)) (eLst (aCons (eC .none) (aNil)))) (eC (.int 0)))
def m__law_at_code (ds : List D) : R D := fin (den__law_at_code (rho0 3 ds))
def den__law_ok : Rho → Fl :=
  sSeq (sSet 2 (eCall (ar 2 m__law_at_code) (aCons (eVar 0) (aCons (eBin mIdx (eVar 1) (eC (.int 0))) (aNil))))) (sRet (eAnd (eBin mIsNot (eVar 2) (eC .none)) (eBin mIsNot (eCall (ar 2 m__law_row_of) (aCons (eVar 2) (aCons (eBin mIdx (eVar 1) (eC (.int 1))) (aNil)))) (eC .none))))
def m__law_ok (ds : List D) : R D := fin (den__law_ok (rho0 3 ds))
def den__law_digits : Rho → Fl :=
  sRet (eBin mAdd (eBin mIdx (eVar 1) (eC (.int 1))) (eMt "str" mJoin (eC (.str "")) (aCons (eLc [2] (iRg rng1 (aCons (eBin mSub (eBin mIdx (eVar 1) (eC (.int 2))) (eCallB mLen (aCons (eBin mIdx (eVar 1) (eC (.int 1))) (aNil)))) (aNil))) (gNm 2) (tTrue) (eCallB mStr (aCons (eBin mMod (eBin mFdiv (eCall (ar 2 m__law_drawn) (aCons (eVar 0) (aCons (eVar 2) (aNil)))) (eC (.int 8))) (eBin mIdx (eLst (aCons (eC (.int 10)) (aCons (eC (.int 3)) (aNil)))) (eBin mMod (eVar 0) (eC (.int 2))))) (aNil)))) (aNil))))
def m__law_digits (ds : List D) : R D := fin (den__law_digits (rho0 3 ds))
def den__law_number : Rho → Fl :=
  sSeq (sSet 2 (eBin mIdx (eVar 0) (eBin mMod (eVar 1) (eCallB mLen (aCons (eVar 0) (aNil)))))) (sRet (eTup (aCons (eBin mIdx (eVar 2) (eC (.int 0))) (aCons (eCall (ar 2 m__law_digits) (aCons (eCall (ar 2 m__law_drawn) (aCons (eVar 1) (aCons (eC (.int 1)) (aNil)))) (aCons (eBin mIdx (eBin mIdx (eVar 2) (eC (.int 3))) (eBin mMod (eBin mFdiv (eVar 1) (eC (.int 8))) (eCallB mLen (aCons (eBin mIdx (eVar 2) (eC (.int 3))) (aNil))))) (aNil)))) (aNil)))))
def m__law_number (ds : List D) : R D := fin (den__law_number (rho0 3 ds))
def den__law_begins : Rho → Fl :=
  sSeq (sSet 1 (eLst (aCons (eC (.str "")) (aNil)))) (sSeq (sBeh [2, 3, 4] (sFgt [2, 3, 4] (sFor (iRg rng1 (aCons (eVar 0) (aNil))) (gNm 2) (sBeh [2, 3, 4] (sSeq (sNewM 3 (aNil)) (sSeq (sBeh [4] (sFgt [4] (sFor (iOf (eVar 1)) (gNm 4) (sBeh [4] (sExt 3 (eLc [5] (iOf (eC (.str "0123456789"))) (gNm 5) (tTrue) (eBin mAdd (eVar 4) (eVar 5)))))))) (sFrz 3 (sSet 1 (eVar 3))))))))) (sRet (eVar 1)))
def m__law_begins (ds : List D) : R D := fin (den__law_begins (rho0 6 ds))
def den__law_kind : Rho → Fl :=
  sSeq (sSet 2 (eLc [3] (iOf (eVar 0)) (gNm 3) (tVal (eBin mEq (eSl (eVar 1) (oNone) (oSome (eCallB mLen (aCons (eBin mIdx (eVar 3) (eC (.int 1))) (aNil))))) (eBin mIdx (eVar 3) (eC (.int 1))))) (eVar 3))) (sRet (eIf (tVal (eBin mNe (eVar 2) (eLst (aNil)))) (eBin mIdx (eBin mIdx (eUn mSortLen (eVar 2)) (eUn mNeg (eC (.int 1)))) (eC (.int 0))) (eC .none)))
def m__law_kind (ds : List D) : R D := fin (den__law_kind (rho0 4 ds))
def den__law_ten : Rho → Fl :=
  sRet (eCallB mInt (aCons (eBin mAdd (eC (.str "1")) (eBin mMul (eC (.str "0")) (eVar 0))) (aNil)))
def m__law_ten (ds : List D) : R D := fin (den__law_ten (rho0 1 ds))
def den__law_index : Rho → Fl :=
  sSeq (sSet 2 (eC (.int 0))) (sSeq (sBeh [3, 4, 5] (sFgt [3, 4, 5] (sFor (iOf (eCallB mSorted (aCons (eVar 0) (aNil)))) (gNm 3) (sBeh [3, 4, 5] (sSeq (sAsg (gTp 2 (gsCons (gNm 4) (gsCons (gNm 5) (gsNil)))) (eBin mIdx (eVar 0) (eVar 3))) (sIf (tVal (eBin mLt (eVar 3) (eCallB mLen (aCons (eVar 1) (aNil))))) (sSet 2 (eBin mAdd (eVar 2) (eBin mMul (eCallB mLen (aCons (eVar 5) (aNil))) (eCall (ar 1 m__law_ten) (aCons (eBin mSub (eVar 3) (eVar 4)) (aNil)))))) (sNil))))))) (sSeq (sAsg (gTp 2 (gsCons (gNm 4) (gsCons (gNm 5) (gsNil)))) (eBin mIdx (eVar 0) (eCallB mLen (aCons (eVar 1) (aNil))))) (sSeq (sSet 2 (eBin mAdd (eVar 2) (eBin mMul (eCallB mLen (aCons (eLc [6] (iOf (eVar 5)) (gNm 6) (tVal (eBin mLt (eVar 6) (eSl (eVar 1) (oNone) (oSome (eVar 4))))) (eVar 6)) (aNil))) (eCall (ar 1 m__law_ten) (aCons (eBin mSub (eCallB mLen (aCons (eVar 1) (aNil))) (eVar 4)) (aNil)))))) (sRet (eBin mAdd (eVar 2) (eCallB mInt (aCons (eBin mAdd (eC (.str "0")) (eSl (eVar 1) (oSome (eVar 4)) (oNone))) (aNil))))))))
def m__law_index (ds : List D) : R D := fin (den__law_index (rho0 7 ds))
def den__law_put_down : Rho → Fl :=
  sSeq (sPar 4 5 (aCons (eCall (ar 2 m__law_at_code) (aCons (eVar 1) (aCons (eBin mIdx (eVar 0) (eC (.int 0))) (aNil)))) (aCons (eCall (ar 2 m__law_at_code) (aCons (eVar 1) (aCons (eVar 2) (aNil)))) (aNil)))) (sSeq (sSet 6 (eBin mIdx (eVar 0) (eC (.int 1)))) (sSeq (sSet 7 (eLst (aCons (eTup (aCons (eC (.str "")) (aCons (eBin mAdd (eC (.str "+")) (eBin mIdx (eVar 4) (eC (.int 0)))) (aCons (eC (.bool true)) (aNil))))) (aCons (eTup (aCons (eC (.str "")) (aCons (eBin mAdd (eBin mIdx (eVar 5) (eC (.int 1))) (eBin mIdx (eVar 4) (eC (.int 0)))) (aCons (eC (.bool true)) (aNil))))) (aCons (eTup (aCons (eC (.str "")) (aCons (eBin mIdx (eVar 5) (eC (.int 2))) (aCons (eC (.bool false)) (aNil))))) (aCons (eTup (aCons (eC (.str "")) (aCons (eC (.str "")) (aCons (eC (.bool false)) (aNil))))) (aNil))))))) (sSeq (sSet 8 (eBin mIdx (eBin mIdx (eVar 7) (eBin mMod (eVar 3) (eC (.int 4)))) (eC (.int 1)))) (sSeq (sIf (tAn (tVal (eBin mIdx (eBin mIdx (eVar 7) (eBin mMod (eVar 3) (eC (.int 4)))) (eC (.int 2)))) (tAn (tVal (eBin mNe (eBin mIdx (eVar 4) (eC (.int 2))) (eC (.str "")))) (tVal (eBin mEq (eBin mMod (eBin mFdiv (eVar 3) (eC (.int 4))) (eC (.int 3))) (eC (.int 0)))))) (sSet 8 (eBin mAdd (eVar 8) (eBin mIdx (eLst (aCons (eBin mAdd (eBin mAdd (eC (.str " (")) (eBin mIdx (eVar 4) (eC (.int 2)))) (eC (.str ") "))) (aCons (eBin mAdd (eBin mAdd (eC (.str "(")) (eBin mIdx (eVar 4) (eC (.int 2)))) (eC (.str ")"))) (aCons (eBin mIdx (eVar 4) (eC (.int 2))) (aNil))))) (eBin mMod (eBin mFdiv (eVar 3) (eC (.int 16))) (eC (.int 3)))))) (sNil)) (sSeq (sSet 9 (eVar 8)) (sSeq (sBeh [10, 11] (sFgt [10, 11] (sFor (iRg enu (aCons (eVar 6) (aNil))) (gTp 2 (gsCons (gNm 10) (gsCons (gNm 11) (gsNil)))) (sBeh [10, 11] (sSet 9 (eBin mAdd (eBin mAdd (eVar 9) (eBin mMul (eBin mIdx (eLst (aCons (eC (.str "")) (aCons (eC (.str "")) (aCons (eC (.str " ")) (aCons (eC (.str "-")) (aCons (eC (.str "")) (aCons (eC (.str ".")) (aCons (eC (.str "/")) (aCons (eC (.str "  ")) (aNil)))))))))) (eBin mMod (eBin mFdiv (eCall (ar 2 m__law_drawn) (aCons (eVar 3) (aCons (eVar 10) (aNil)))) (eC (.int 8))) (eC (.int 8)))) (eCallB mInt (aCons (eBin mGt (eVar 10) (eC (.int 0))) (aNil))))) (eVar 11))))))) (sRet (eBin mAdd (eBin mAdd (eBin mIdx (eLst (aCons (eC (.str "")) (aCons (eC (.str " ")) (aNil)))) (eBin mMod (eBin mFdiv (eVar 3) (eC (.int 64))) (eC (.int 2)))) (eVar 9)) (eBin mIdx (eLst (aCons (eC (.str "")) (aCons (eC (.str " ")) (aNil)))) (eBin mMod (eBin mFdiv (eVar 3) (eC (.int 128))) (eC (.int 2))))))))))))
def m__law_put_down (ds : List D) : R D := fin (den__law_put_down (rho0 12 ds))
def den__law_alone : Rho → Fl :=
  sRet (eAnd (eBin mGt (eBin mIdx (eVar 0) (eC (.int 0))) (eC (.int 0))) (eAnd (eBin mEq (eVar 0) (eRep (aCons (eBin mIdx (eVar 0) (eC (.int 0))) (aNil)) (eCallB mLen (aCons (eVar 0) (aNil))))) (eBin mNotIn (eBin mIdx (eVar 0) (eC (.int 0))) (eVar 1))))
def m__law_alone (ds : List D) : R D := fin (den__law_alone (rho0 2 ds))
def den__law_spread : Rho → Fl :=
  sSeq (sSet 2 (eSl (eVar 0) (oNone) (oSome (eC (.int 1))))) (sSeq (sBeh [3, 4] (sFgt [3, 4] (sFor (iRg enu (aCons (eSl (eVar 0) (oSome (eC (.int 1))) (oNone)) (aNil))) (gTp 2 (gsCons (gNm 3) (gsCons (gNm 4) (gsNil)))) (sBeh [3, 4] (sSet 2 (eBin mAdd (eBin mAdd (eVar 2) (eBin mIdx (eLst (aCons (eC (.str "")) (aCons (eC (.str "")) (aCons (eC (.str " ")) (aCons (eC (.str "-")) (aCons (eC (.str ".")) (aCons (eC (.str "/")) (aNil)))))))) (eBin mMod (eBin mFdiv (eCall (ar 2 m__law_drawn) (aCons (eVar 1) (aCons (eVar 3) (aNil)))) (eC (.int 8))) (eC (.int 6))))) (eVar 4))))))) (sRet (eVar 2)))
def m__law_spread (ds : List D) : R D := fin (den__law_spread (rho0 5 ds))
def den__law_written : Rho → Fl :=
  sSeq (sPar 4 5 (aCons (eCall (ar 2 m__law_at_code) (aCons (eVar 0) (aCons (eBin mIdx (eVar 1) (eC (.int 0))) (aNil)))) (aCons (eCall (ar 2 m__law_at_code) (aCons (eVar 0) (aCons (eVar 3) (aNil)))) (aNil)))) (sSeq (sParL 6 7 (aNil) (eC (.int 0))) (sSeq (sBeh [8] (sFgt [8] (sFor (iOf (eBin mIdx (eCall (ar 2 m__law_row_of) (aCons (eVar 4) (aCons (eBin mIdx (eVar 1) (eC (.int 1))) (aNil)))) (eC (.int 3)))) (gNm 8) (sBeh [8] (sSeq (sApp 6 (eSl (eBin mIdx (eVar 1) (eC (.int 1))) (oSome (eVar 7)) (oSome (eBin mAdd (eVar 7) (eVar 8))))) (sSet 7 (eBin mAdd (eVar 7) (eVar 8)))))))) (sFrz 6 (sSeq (sSet 9 (eMt "str" mJoin (eC (.str " ")) (aCons (eVar 6) (aNil)))) (sSeq (sIf (tVal (eBin mEq (eVar 2) (eC (.str "plain")))) (sRet (eBin mAdd (eBin mAdd (eC (.str "+")) (eBin mIdx (eVar 1) (eC (.int 0)))) (eBin mIdx (eVar 1) (eC (.int 1))))) (sNil)) (sSeq (sIf (tVal (eBin mEq (eVar 2) (eC (.str "far")))) (sRet (eBin mAdd (eBin mAdd (eBin mAdd (eC (.str "+")) (eBin mIdx (eVar 1) (eC (.int 0)))) (eC (.str " "))) (eVar 9))) (sNil)) (sSeq (sIf (tVal (eBin mEq (eVar 2) (eC (.str "home")))) (sRet (eIf (tVal (eBin mEq (eBin mIdx (eVar 1) (eC (.int 0))) (eVar 3))) (eBin mAdd (eBin mIdx (eVar 5) (eC (.int 2))) (eVar 9)) (eBin mAdd (eBin mAdd (eBin mAdd (eBin mIdx (eVar 5) (eC (.int 1))) (eBin mIdx (eVar 1) (eC (.int 0)))) (eC (.str " "))) (eVar 9)))) (sNil)) (sRet (eVar 9)))))))))
def m__law_written (ds : List D) : R D := fin (den__law_written (rho0 10 ds))
def den__law_row_to_be : Rho → Fl :=
  sSeq (sNewM 2 (aNil)) (sSeq (sBeh [3, 4] (sFgt [3, 4] (sFor (iOf (eBin mIdx (eVar 0) (eC (.int 3)))) (gNm 3) (sBeh [3, 4] (sSeq (sSet 4 (eCallB mMin2 (aCons (eCallB mLen (aCons (eVar 1) (aNil))) (aCons (eCallB mLen (aCons (eBin mIdx (eVar 3) (eC (.int 1))) (aNil))) (aNil))))) (sIf (tAn (tVal (eBin mEq (eSl (eVar 1) (oNone) (oSome (eVar 4))) (eSl (eBin mIdx (eVar 3) (eC (.int 1))) (oNone) (oSome (eVar 4))))) (tVal (eBin mLe (eCallB mLen (aCons (eVar 1) (aNil))) (eBin mIdx (eVar 3) (eC (.int 2)))))) (sApp 2 (eTup (aCons (eBin mIdx (eVar 3) (eC (.int 2))) (aCons (eBin mSub (eC (.int 0)) (eCallB mLen (aCons (eBin mIdx (eVar 3) (eC (.int 1))) (aNil)))) (aCons (eVar 3) (aNil)))))) (sNil))))))) (sFrz 2 (sRet (eIf (tVal (eBin mNe (eVar 2) (eLst (aNil)))) (eBin mIdx (eBin mIdx (eCallB mSorted (aCons (eVar 2) (aNil))) (eC (.int 0))) (eC (.int 2))) (eC .none)))))
def m__law_row_to_be (ds : List D) : R D := fin (den__law_row_to_be (rho0 5 ds))
def den__law_ways : Rho → Fl :=
  sSeq (sPar 2 3 (aCons (eCall (ar 2 m__law_at_code) (aCons (eVar 0) (aCons (eVar 1) (aNil)))) (aCons (eLst (aNil)) (aNil)))) (sSeq (sBeh [4] (sFgt [4] (sFor (iOf (eVar 0)) (gNm 4) (sBeh [4] (sSet 3 (eBin mAdd (eVar 3) (eLst (aCons (eTup (aCons (eBin mAdd (eC (.str "+")) (eBin mIdx (eVar 4) (eC (.int 0)))) (aCons (eVar 4) (aCons (eC (.str " ")) (aNil))))) (aCons (eTup (aCons (eBin mAdd (eBin mIdx (eVar 2) (eC (.int 1))) (eBin mIdx (eVar 4) (eC (.int 0)))) (aCons (eVar 4) (aCons (eC (.str " ")) (aNil))))) (aNil)))))))))) (sRet (eBin mAdd (eBin mAdd (eVar 3) (eRep (aCons (eTup (aCons (eBin mIdx (eVar 2) (eC (.int 2))) (aCons (eVar 2) (aCons (eC (.str "")) (aNil))))) (aNil)) (eCallB mInt (aCons (eBin mNe (eBin mIdx (eVar 2) (eC (.int 2))) (eC (.str ""))) (aNil))))) (eLst (aCons (eTup (aCons (eC (.str "")) (aCons (eVar 2) (aCons (eC (.str "")) (aNil))))) (aNil))))))
def m__law_ways (ds : List D) : R D := fin (den__law_ways (rho0 5 ds))
def den__law_shown : Rho → Fl :=
  sSeq (sBeh [3, 4, 5, 6, 7, 8, 9, 10] (sFgt [3, 4, 5, 6, 7, 8, 9, 10] (sFor (iOf (eCall (ar 2 m__law_ways) (aCons (eVar 0) (aCons (eVar 2) (aNil))))) (gTp 3 (gsCons (gNm 3) (gsCons (gNm 4) (gsCons (gNm 5) (gsNil))))) (sBeh [3, 4, 5, 6, 7, 8, 9, 10] (sSeq (sSet 6 (eSl (eVar 1) (oSome (eCallB mLen (aCons (eVar 3) (aNil)))) (oNone))) (sIf (tAn (tVal (eBin mEq (eSl (eVar 1) (oNone) (oSome (eCallB mLen (aCons (eVar 3) (aNil))))) (eVar 3))) (tVal (eBin mNe (eSl (eVar 6) (oNone) (oSome (eC (.int 1)))) (eC (.str "+"))))) (sSeq (sSet 7 (eCall (ar 2 m__law_row_to_be) (aCons (eVar 4) (aCons (eVar 6) (aNil))))) (sIf (tVal (eBin mIsNot (eVar 7) (eC .none))) (sSeq (sParL 8 9 (aNil) (eC (.int 0))) (sSeq (sBeh [10] (sFgt [10] (sFor (iOf (eBin mIdx (eVar 7) (eC (.int 3)))) (gNm 10) (sBeh [10] (sSeq (sIf (tVal (eBin mLt (eVar 9) (eCallB mLen (aCons (eVar 6) (aNil))))) (sApp 8 (eSl (eVar 6) (oSome (eVar 9)) (oSome (eBin mAdd (eVar 9) (eVar 10))))) (sNil)) (sSet 9 (eBin mAdd (eVar 9) (eVar 10)))))))) (sFrz 8 (sRet (eBin mAdd (eBin mAdd (eVar 3) (eBin mMul (eVar 5) (eCallB mInt (aCons (eBin mNe (eVar 6) (eC (.str ""))) (aNil))))) (eMt "str" mJoin (eC (.str " ")) (aCons (eVar 8) (aNil)))))))) (sNil))) (sNil))))))) (sRet (eVar 1))
def m__law_shown (ds : List D) : R D := fin (den__law_shown (rho0 11 ds))
def den__law_signs : Rho → Fl :=
  sSeq (sSet 3 (eCall (ar 2 m__law_number) (aCons (eVar 0) (aCons (eBin mFdiv (eVar 2) (eC (.int 8))) (aNil))))) (sSeq (sSet 4 (eCall (ar 2 m__law_at_code) (aCons (eVar 0) (aCons (eVar 1) (aNil))))) (sSeq (sSet 5 (eBin mIdx (eLst (aCons (eBin mAdd (eC (.str "+")) (eBin mIdx (eVar 3) (eC (.int 0)))) (aCons (eBin mAdd (eBin mIdx (eVar 4) (eC (.int 1))) (eBin mIdx (eVar 3) (eC (.int 0)))) (aCons (eBin mIdx (eVar 4) (eC (.int 2))) (aCons (eC (.str "")) (aNil)))))) (eBin mMod (eVar 2) (eC (.int 4))))) (sSeq (sSet 6 (eBin mAdd (eBin mAdd (eVar 5) (eBin mIdx (eVar 3) (eC (.int 1)))) (eBin mIdx (eLst (aCons (eC (.str "")) (aCons (eC (.str "7")) (aCons (eC (.str "00")) (aNil))))) (eBin mMod (eBin mFdiv (eVar 2) (eC (.int 4))) (eC (.int 3)))))) (sRet (eIf (tVal (eBin mGt (eBin mMod (eBin mFdiv (eVar 2) (eC (.int 64))) (eC (.int 4))) (eC (.int 0)))) (eVar 6) (eMt "str" mJoin (eC (.str "")) (aCons (eLc [7] (iRg rng1 (aCons (eC (.int 9)) (aNil))) (gNm 7) (tTrue) (eCallB mStr (aCons (eBin mMod (eCall (ar 2 m__law_drawn) (aCons (eVar 2) (aCons (eVar 7) (aNil)))) (eC (.int 10))) (aNil)))) (aNil))))))))
def m__law_signs (ds : List D) : R D := fin (den__law_signs (rho0 8 ds))
def den_is_move : Rho → Fl :=
  sSeq (sIf (tOrr (tNt (tVal (eUn (isiD "tuple") (eVar 1)))) (tOrr (tVal (eBin mNe (eCallB mLen (aCons (eVar 1) (aNil))) (eC (.int 3)))) (tVal (eBin mNotIn (eBin mIdx (eVar 1) (eC (.int 0))) (eLc [2] (iOf (eVar 0)) (gNm 2) (tTrue) (eBin mIdx (eVar 2) (eC (.int 0)))))))) (sRet (eC (.bool false))) (sNil)) (sRet (eAnd (eCall (ar 3 m_is_figures) (aCons (eBin mIdx (eVar 1) (eC (.int 1))) (aCons (eC (.int 0)) (aCons (eC (.int 12)) (aNil))))) (eCall (ar 3 m_is_figures) (aCons (eBin mIdx (eVar 1) (eC (.int 2))) (aCons (eC (.int 0)) (aCons (eC (.int 12)) (aNil)))))))
def m_is_move (ds : List D) : R D := fin (den_is_move (rho0 3 ds))
def den_need_moves : Rho → Fl :=
  sSeq (sExp (eCall (ar 1 m_need_book) (aCons (eVar 0) (aNil)))) (sSeq (sSet 2 (eAnd (eUn (isiD "list") (eVar 1)) (eAnd (eBin mLe (eCallB mLen (aCons (eVar 1) (aNil))) (eC (.int 8))) (eCallB mAll (aCons (eLc [3] (iOf (eVar 1)) (gNm 3) (tTrue) (eCall (ar 2 m_is_move) (aCons (eVar 0) (aCons (eVar 3) (aNil))))) (aNil)))))) (sIf (tOrr (tNt (tVal (eVar 2))) (tVal (eBin mNe (eUn mSetLen (eLc [3] (iOf (eVar 1)) (gNm 3) (tTrue) (eSl (eVar 3) (oNone) (oSome (eC (.int 2)))))) (eCallB mLen (aCons (eVar 1) (aNil)))))) (sRaise "BadMoves") (sNil)))
def m_need_moves (ds : List D) : R D := fin (den_need_moves (rho0 4 ds))
def den_moved_of : Rho → Fl :=
  sSeq (sSet 2 (eC .none)) (sSeq (sBeh [3, 4, 5] (sFgt [3, 4, 5] (sFor (iOf (eVar 0)) (gTp 3 (gsCons (gNm 3) (gsCons (gNm 4) (gsCons (gNm 5) (gsNil))))) (sBeh [3, 4, 5] (sIf (tAn (tVal (eBin mEq (eBin mIdx (eVar 1) (eC (.int 0))) (eVar 3))) (tVal (eMt "str" mStarts (eBin mIdx (eVar 1) (eC (.int 1))) (aCons (eVar 4) (aNil))))) (sIf (tOrr (tVal (eBin mIs (eVar 2) (eC .none))) (tVal (eBin mGt (eCallB mLen (aCons (eVar 4) (aNil))) (eCallB mLen (aCons (eBin mIdx (eVar 2) (eC (.int 0))) (aNil)))))) (sSet 2 (eTup (aCons (eVar 4) (aCons (eVar 5) (aNil))))) (sNil)) (sNil)))))) (sRet (eIf (tVal (eBin mIs (eVar 2) (eC .none))) (eVar 1) (eTup (aCons (eBin mIdx (eVar 1) (eC (.int 0))) (aCons (eBin mAdd (eBin mIdx (eVar 2) (eC (.int 1))) (eSl (eBin mIdx (eVar 1) (eC (.int 1))) (oSome (eCallB mLen (aCons (eBin mIdx (eVar 2) (eC (.int 0))) (aNil)))) (oNone))) (aNil)))))))
def m_moved_of (ds : List D) : R D := fin (den_moved_of (rho0 6 ds))
def den_moved : Rho → Fl :=
  sSeq (sExp (eCall (ar 2 m_need_moves) (aCons (eVar 0) (aCons (eVar 1) (aNil))))) (sSeq (sExp (eCall (ar 2 m_need_number) (aCons (eVar 0) (aCons (eVar 2) (aNil))))) (sRet (eCall (ar 2 m_moved_of) (aCons (eVar 1) (aCons (eVar 2) (aNil))))))
def m_moved (ds : List D) : R D := fin (den_moved (rho0 3 ds))
def den_is_shared : Rho → Fl :=
  sRet (eCallB mAny (aCons (eLc [3] (iRg rng1 (aCons (eCallB mLen (aCons (eVar 1) (aNil))) (aNil))) (gNm 3) (tTrue) (eAnd (eBin mEq (eBin mIdx (eVar 1) (eVar 3)) (eBin mIdx (eVar 1) (eVar 2))) (eBin mNe (eBin mIdx (eVar 0) (eVar 3)) (eBin mIdx (eVar 0) (eVar 2))))) (aNil)))
def m_is_shared (ds : List D) : R D := fin (den_is_shared (rho0 4 ds))
def den__law_moves : Rho → Fl :=
  sSeq (sNewM 2 (aNil)) (sSeq (sBeh [3, 4, 5, 6] (sFgt [3, 4, 5, 6] (sFor (iRg rng1 (aCons (eBin mMod (eVar 1) (eC (.int 6))) (aNil))) (gNm 3) (sBeh [3, 4, 5, 6] (sSeq (sSet 4 (eCall (ar 2 m__law_drawn) (aCons (eVar 1) (aCons (eBin mAdd (eC (.int 10)) (eVar 3)) (aNil))))) (sSeq (sSet 5 (eCall (ar 2 m__law_number) (aCons (eVar 0) (aCons (eVar 4) (aNil))))) (sSeq (sSet 6 (eTup (aCons (eBin mIdx (eVar 5) (eC (.int 0))) (aCons (eSl (eBin mIdx (eVar 5) (eC (.int 1))) (oNone) (oSome (eBin mMod (eBin mFdiv (eVar 4) (eC (.int 8))) (eC (.int 4))))) (aCons (eBin mIdx (eLst (aCons (eC (.str "")) (aCons (eC (.str "5")) (aCons (eC (.str "70")) (aCons (eSl (eBin mIdx (eVar 5) (eC (.int 1))) (oNone) (oSome (eC (.int 1)))) (aCons (eC (.str "1")) (aCons (eC (.str "12")) (aNil)))))))) (eBin mMod (eBin mFdiv (eVar 4) (eC (.int 64))) (eC (.int 6)))) (aNil)))))) (sIf (tVal (eBin mNotIn (eSl (eVar 6) (oNone) (oSome (eC (.int 2)))) (eLc [7] (iMl 2) (gNm 7) (tTrue) (eSl (eVar 7) (oNone) (oSome (eC (.int 2))))))) (sApp 2 (eVar 6)) (sNil))))))))) (sFrz 2 (sRet (eVar 2))))
def m__law_moves (ds : List D) : R D := fin (den__law_moves (rho0 8 ds))
def den__law_moved : Rho → Fl :=
  sSeq (sNewM 2 (aNil)) (sSeq (sBeh [3, 4, 5] (sFgt [3, 4, 5] (sFor (iOf (eVar 0)) (gTp 3 (gsCons (gNm 3) (gsCons (gNm 4) (gsCons (gNm 5) (gsNil))))) (sBeh [3, 4, 5] (sIf (tAn (tVal (eBin mEq (eVar 3) (eBin mIdx (eVar 1) (eC (.int 0))))) (tVal (eBin mEq (eSl (eBin mIdx (eVar 1) (eC (.int 1))) (oNone) (oSome (eCallB mLen (aCons (eVar 4) (aNil))))) (eVar 4)))) (sApp 2 (eTup (aCons (eCallB mLen (aCons (eVar 4) (aNil))) (aCons (eVar 4) (aCons (eVar 5) (aNil)))))) (sNil)))))) (sFrz 2 (sSeq (sIf (tVal (eBin mEq (eVar 2) (eLst (aNil)))) (sRet (eVar 1)) (sNil)) (sSeq (sAsg (gTp 3 (gsCons (gNm 6) (gsCons (gNm 4) (gsCons (gNm 5) (gsNil))))) (eBin mIdx (eCallB mSorted (aCons (eVar 2) (aNil))) (eUn mNeg (eC (.int 1))))) (sRet (eTup (aCons (eBin mIdx (eVar 1) (eC (.int 0))) (aCons (eBin mAdd (eVar 5) (eSl (eBin mIdx (eVar 1) (eC (.int 1))) (oSome (eVar 6)) (oNone))) (aNil)))))))))
def m__law_moved (ds : List D) : R D := fin (den__law_moved (rho0 7 ds))
def den_all_moved : Rho → Fl :=
  sSeq (sExp (eCall (ar 2 m_need_moves) (aCons (eVar 0) (aCons (eVar 1) (aNil))))) (sSeq (sBeh [] (sFgt [] (sFor (iOf (eVar 2)) (gNm 3) (sBeh [] (sExp (eCall (ar 2 m_need_number) (aCons (eVar 0) (aCons (eVar 3) (aNil))))))))) (sSeq (sSet 4 (eLc [3] (iOf (eVar 2)) (gNm 3) (tTrue) (eCall (ar 2 m_moved_of) (aCons (eVar 1) (aCons (eVar 3) (aNil)))))) (sSeq (sSet 5 (eLc [6, 7] (iRg enu (aCons (eVar 4) (aNil))) (gTp 2 (gsCons (gNm 6) (gsCons (gNm 7) (gsNil)))) (tNt (tVal (eCall (ar 2 m_has_number) (aCons (eVar 0) (aCons (eVar 7) (aNil)))))) (eVar 6))) (sRet (eTup (aCons (eVar 4) (aCons (eVar 5) (aCons (eLc [6, 7] (iRg enu (aCons (eVar 4) (aNil))) (gTp 2 (gsCons (gNm 6) (gsCons (gNm 7) (gsNil)))) (tVal (eCall (ar 3 m_is_shared) (aCons (eVar 2) (aCons (eVar 4) (aCons (eVar 6) (aNil)))))) (eVar 6)) (aNil)))))))))
def m_all_moved (ds : List D) : R D := fin (den_all_moved (rho0 8 ds))
def den__law_named : Rho → Fl :=
  sRet (eBin mIdx (eLst (aCons (eC (.str "ann")) (aCons (eC (.str "bob")) (aCons (eC (.str "cy")) (aCons (eC (.str "dora")) (aCons (eC (.str "e")) (aCons (eC (.str "fitzroys")) (aNil)))))))) (eBin mMod (eVar 0) (eC (.int 6))))
def m__law_named (ds : List D) : R D := fin (den__law_named (rho0 1 ds))
def den__law_some_text : Rho → Fl :=
  sSeq (sSet 3 (eCall (ar 2 m__law_number) (aCons (eVar 0) (aCons (eBin mMul (eBin mMod (eCall (ar 2 m__law_drawn) (aCons (eVar 2) (aCons (eC (.int 3)) (aNil)))) (eC (.int 7))) (eC (.int 7919))) (aNil))))) (sSeq (sIf (tVal (eBin mEq (eBin mMod (eVar 2) (eC (.int 9))) (eC (.int 0)))) (sRet (eBin mIdx (eLst (aCons (eC (.str "")) (aCons (eC (.str "0")) (aCons (eC (.str "x")) (aCons (eC (.str "+1 (")) (aCons (eC .none) (aNil))))))) (eBin mMod (eBin mFdiv (eVar 2) (eC (.int 64))) (eC (.int 5))))) (sNil)) (sSeq (sIf (tVal (eBin mEq (eBin mMod (eVar 2) (eC (.int 3))) (eC (.int 0)))) (sRet (eBin mAdd (eBin mAdd (eBin mAdd (eC (.str "+")) (eBin mIdx (eVar 3) (eC (.int 0)))) (eC (.str " "))) (eBin mIdx (eVar 3) (eC (.int 1))))) (sNil)) (sRet (eCall (ar 4 m__law_put_down) (aCons (eVar 3) (aCons (eVar 0) (aCons (eVar 1) (aCons (eBin mFdiv (eVar 2) (eC (.int 8))) (aNil)))))))))
def m__law_some_text (ds : List D) : R D := fin (den__law_some_text (rho0 4 ds))
def den__law_starts : Rho → Fl :=
  sSeq (sSet 4 (eCall (ar 2 m__law_at_code) (aCons (eVar 0) (aCons (eVar 1) (aNil))))) (sSeq (sSet 5 (eIf (tVal (eBin mEq (eBin mIdx (eVar 2) (eC (.int 0))) (eVar 1))) (eBin mIdx (eVar 4) (eC (.int 2))) (eBin mAdd (eBin mIdx (eVar 4) (eC (.int 1))) (eBin mIdx (eVar 2) (eC (.int 0)))))) (sRet (eOr (eBin mEq (eSl (eBin mIdx (eVar 2) (eC (.int 1))) (oNone) (oSome (eCallB mLen (aCons (eVar 3) (aNil))))) (eVar 3)) (eBin mEq (eSl (eBin mAdd (eVar 5) (eBin mIdx (eVar 2) (eC (.int 1)))) (oNone) (oSome (eCallB mLen (aCons (eVar 3) (aNil))))) (eVar 3)))))
def m__law_starts (ds : List D) : R D := fin (den__law_starts (rho0 6 ds))
end MC
set_option Elab.async false
set_option linter.all false
set_option maxRecDepth 100000
set_option maxHeartbeats 4000000
namespace M60
open PySem L2 DL MC
noncomputable def den__law_word (v : V) (bs : Str → Bool) : Rho → Fl :=
  sSeq (sSet 1 (eLst (aCons (eIsE 0 v (bs "BadBook")) (aCons (eIsE 0 v (bs "BadIndex")) (aCons (eIsE 0 v (bs "BadKind")) (aCons (eIsE 0 v (bs "BadMoves")) (aNil))))))) (sSeq (sSet 1 (eBin mAdd (eVar 1) (eLst (aCons (eIsE 0 v (bs "BadText")) (aCons (eIsE 0 v (bs "BadWay")) (aCons (eIsE 0 v (bs "Doubtful")) (aCons (eIsE 0 v (bs "NoLand")) (aNil)))))))) (sSeq (sSet 1 (eBin mAdd (eVar 1) (eLst (aCons (eIsE 0 v (bs "NoNumber")) (aCons (eIsE 0 v (bs "Nothing")) (aNil)))))) (sSeq (sIf (tOrr (tVal (eBin mNe (eCallB mSumL (aCons (eLc [3] (iOfL (eVar 1)) (gNm 3) (tTrue) (eCallB mInt (aCons (eVar 3) (aNil)))) (aNil))) (eC (.int 1)))) (tNt (tVal (eIsE 0 v (bs "ValueError"))))) (sRet (eC (.str "other"))) (sNil)) (sSeq (sSet 2 (eLst (aCons (eC (.str "BadBook")) (aCons (eC (.str "BadIndex")) (aCons (eC (.str "BadKind")) (aCons (eC (.str "BadMoves")) (aCons (eC (.str "BadText")) (aCons (eC (.str "BadWay")) (aCons (eC (.str "Doubtful")) (aCons (eC (.str "NoLand")) (aCons (eC (.str "NoNumber")) (aNil)))))))))))) (sRet (eBin mIdx (eBin mAdd (eVar 2) (eLst (aCons (eC (.str "Nothing")) (aNil)))) (eMt "list" mIndex (eVar 1) (aCons (eC (.bool true)) (aNil)))))))))
def den_law : Rho → Fl :=
  sSeq (sBeh [1, 2, 3, 4, 5, 6, 7, 8, 9, 10, 13, 15, 16, 17] (sFgt [1, 2, 3, 4, 5, 6, 7, 8, 9, 10, 13, 15, 16, 17] (sFor (iRg rng1 (aCons (eCallB mMax2 (aCons (eC (.int 1)) (aCons (eCallB mMin2 (aCons (eC (.int 3)) (aCons (eCallB mLen (aCons (eVar 0) (aNil))) (aNil)))) (aNil)))) (aNil))) (gNm 1) (sBeh [1, 2, 3, 4, 5, 6, 7, 8, 9, 10, 13, 15, 16, 17] (sSeq (sSet 2 (eCall (ar 2 m__law_drawn) (aCons (eCall (ar 2 m__law_cell) (aCons (eVar 0) (aCons (eVar 1) (aNil)))) (aCons (eVar 1) (aNil))))) (sSeq (sSet 3 (eCall (ar 1 m__law_book) (aCons (eBin mFdiv (eVar 2) (eC (.int 64))) (aNil)))) (sSeq (sBeh [4, 5, 6, 7, 8, 9, 10] (sFgt [4, 5, 6, 7, 8, 9, 10] (sFor (iRg rng1 (aCons (eC (.int 3)) (aNil))) (gNm 4) (sBeh [4, 5, 6, 7, 8, 9, 10] (sSeq (sSet 5 (eCall (ar 2 m__law_drawn) (aCons (eVar 2) (aCons (eBin mAdd (eC (.int 30)) (eVar 4)) (aNil))))) (sSeq (sSet 6 (eCall (ar 2 m__law_moves) (aCons (eVar 3) (aCons (eVar 5) (aNil))))) (sSeq (sSet 7 (eLc [18] (iRg rng1 (aCons (eBin mMod (eBin mFdiv (eVar 5) (eC (.int 8))) (eC (.int 7))) (aNil))) (gNm 18) (tTrue) (eCall (ar 2 m__law_number) (aCons (eVar 3) (aCons (eCall (ar 2 m__law_drawn) (aCons (eVar 5) (aCons (eBin mAdd (eC (.int 40)) (eVar 18)) (aNil)))) (aNil)))))) (sSeq (sSet 7 (eBin mAdd (eVar 7) (eSl (eVar 7) (oNone) (oSome (eC (.int 1)))))) (sSeq (sSet 8 (eLc [14] (iOf (eVar 7)) (gNm 14) (tTrue) (eCall (ar 2 m__law_moved) (aCons (eVar 6) (aCons (eVar 14) (aNil)))))) (sSeq (sIf (tVal (eBin mNe (eLc [14] (iOf (eVar 7)) (gNm 14) (tTrue) (eCall (ar 3 m_moved) (aCons (eVar 3) (aCons (eVar 6) (aCons (eVar 14) (aNil)))))) (eVar 8))) (sRet (eC (.bool false))) (sNil)) (sSeq (sSet 9 (eLc [11, 12] (iRg enu (aCons (eVar 8) (aNil))) (gTp 2 (gsCons (gNm 11) (gsCons (gNm 12) (gsNil)))) (tNt (tVal (eCall (ar 2 m__law_ok) (aCons (eVar 3) (aCons (eVar 12) (aNil)))))) (eVar 11))) (sSeq (sNewM 10 (aNil)) (sSeq (sBeh [] (sFgt [] (sFor (iRg enu (aCons (eVar 8) (aNil))) (gTp 2 (gsCons (gNm 11) (gsCons (gNm 12) (gsNil)))) (sBeh [] (sIf (tVal (eBin mNe (eLc [19, 14] (iRg zp (aCons (eVar 8) (aCons (eVar 7) (aNil)))) (gTp 2 (gsCons (gNm 19) (gsCons (gNm 14) (gsNil)))) (tAn (tVal (eBin mEq (eVar 19) (eVar 12))) (tVal (eBin mNe (eVar 14) (eBin mIdx (eVar 7) (eVar 11))))) (eC (.int 1))) (eLst (aNil)))) (sApp 10 (eVar 11)) (sNil)))))) (sFrz 10 (sIf (tVal (eBin mNe (eCall (ar 3 m_all_moved) (aCons (eVar 3) (aCons (eVar 6) (aCons (eVar 7) (aNil))))) (eTup (aCons (eVar 8) (aCons (eVar 9) (aCons (eVar 10) (aNil))))))) (sRet (eC (.bool false))) (sNil)))))))))))))))) (sSeq (sAsg (gTp 2 (gsCons (gNm 13) (gsCons (gNm 14) (gsNil)))) (eTup (aCons (eBin mIdx (eBin mIdx (eVar 3) (eC (.int 0))) (eC (.int 0))) (aCons (eCall (ar 2 m__law_number) (aCons (eVar 3) (aCons (eVar 2) (aNil)))) (aNil))))) (sSeq (sSet 15 (eLst (aCons (eC .none) (aCons (eTup (aNil)) (aCons (eLst (aCons (eC .none) (aNil))) (aCons (eLst (aCons (eTup (aCons (eVar 13) (aNil))) (aNil))) (aCons (eLst (aCons (eTup (aCons (eVar 13) (aCons (eC (.str "1")) (aNil)))) (aNil))) (aCons (eLst (aCons (eTup (aCons (eVar 13) (aCons (eC (.int 1)) (aCons (eC (.str "")) (aNil))))) (aNil))) (aCons (eLst (aCons (eTup (aCons (eVar 13) (aCons (eC (.str "x")) (aCons (eC (.str "")) (aNil))))) (aNil))) (aCons (eLst (aCons (eTup (aCons (eC (.str "99")) (aCons (eC (.str "1")) (aCons (eC (.str "")) (aNil))))) (aNil))) (aNil))))))))))) (sSeq (sSet 15 (eBin mAdd (eVar 15) (eLst (aCons (eLst (aCons (eLst (aCons (eVar 13) (aCons (eC (.str "1")) (aCons (eC (.str "2")) (aNil))))) (aNil))) (aCons (eLst (aCons (eTup (aCons (eVar 13) (aCons (eC (.str "1")) (aCons (eC (.str "2")) (aNil))))) (aCons (eTup (aCons (eVar 13) (aCons (eC (.str "1")) (aCons (eC (.str "3")) (aNil))))) (aNil)))) (aNil)))))) (sSeq (sSet 15 (eBin mAdd (eVar 15) (eLst (aCons (eLst (aCons (eTup (aCons (eVar 13) (aCons (eBin mMul (eC (.str "1")) (eC (.int 13))) (aCons (eC (.str "")) (aNil))))) (aNil))) (aCons (eLst (aCons (eTup (aCons (eVar 13) (aCons (eC (.str "")) (aCons (eC .none) (aNil))))) (aNil))) (aNil)))))) (sSeq (sBeh [16, 17] (sFgt [16, 17] (sFor (iOf (eBin mAdd (eVar 15) (eLst (aCons (eLc [18] (iRg rng1 (aCons (eC (.int 9)) (aNil))) (gNm 18) (tTrue) (eTup (aCons (eVar 13) (aCons (eCallB mStr (aCons (eVar 18) (aNil))) (aCons (eC (.str "")) (aNil)))))) (aNil))))) (gNm 16) (sBeh [16, 17] (sSeq (sNewM 17 (aCons (eTold words (eCall (ar 3 m_moved) (aCons (eVar 3) (aCons (eVar 16) (aCons (eC .none) (aNil)))))) (aNil))) (sSeq (sApp 17 (eTold words (eCall (ar 3 m_all_moved) (aCons (eVar 3) (aCons (eVar 16) (aCons (eLst (aCons (eC .none) (aNil))) (aNil))))))) (sFrz 17 (sIf (tVal (eBin mNe (eVar 17) (eRep (aCons (eC (.str "BadMoves")) (aNil)) (eC (.int 2))))) (sRet (eC (.bool false))) (sNil))))))))) (sBeh [16, 17] (sFgt [16, 17] (sFor (iOf (eLst (aCons (eC .none) (aCons (eTup (aCons (eVar 13) (aCons (eC (.str "")) (aNil)))) (aCons (eTup (aCons (eVar 13) (aCons (eBin mMul (eC (.str "1")) (eC (.int 13))) (aNil)))) (aCons (eTup (aCons (eC (.str "99")) (aCons (eC (.str "123")) (aNil)))) (aNil))))))) (gNm 16) (sBeh [16, 17] (sSeq (sNewM 17 (aCons (eTold words (eCall (ar 3 m_moved) (aCons (eVar 3) (aCons (eLst (aNil)) (aCons (eVar 16) (aNil)))))) (aNil))) (sSeq (sApp 17 (eTold words (eCall (ar 3 m_all_moved) (aCons (eVar 3) (aCons (eLst (aNil)) (aCons (eLst (aCons (eVar 14) (aCons (eVar 16) (aNil)))) (aNil))))))) (sFrz 17 (sIf (tOrr (tVal (eBin mNe (eVar 17) (eRep (aCons (eC (.str "NoNumber")) (aNil)) (eC (.int 2))))) (tVal (eBin mNe (eTold words (eCall (ar 3 m_moved) (aCons (eC .none) (aCons (eC .none) (aCons (eVar 16) (aNil)))))) (eC (.str "BadBook"))))) (sRet (eC (.bool false))) (sNil))))))))))))))))))))) (sRet (eC (.bool true)))
end M60
set_option Elab.async false
set_option linter.all false
set_option maxRecDepth 100000
set_option maxHeartbeats 0
namespace Hd
open PySem PySem.Spec PyProof.Rows L2
def top (i : Nat) : Stmt := PySem.Challenge.pw_dialtables_k60_whole_moved.main.body.getD i (.Pass ⟨0, 0, 0, 0⟩)
def meth (i j : Nat) : Stmt := match top i with
  | .ClassDef _ _ _ body _ _ _ _ _ _ _ => body.getD j (.Pass ⟨0, 0, 0, 0⟩)
  | _ => .Pass ⟨0, 0, 0, 0⟩
def fa0 : List (He.Fa) := [.glo "is_count", .glo "is_figures", .glo "is_kind", .glo "is_row", .glo "is_land", .glo "is_book", .glo "need_book", .glo "land_of", .glo "row_of", .glo "has_number", .glo "need_number", .glo "is_move", .glo "need_moves", .glo "moved_of", .glo "moved", .glo "all_moved", .glo "is_shared", .glo "_law_cell", .glo "_law_drawn", .glo "_law_word"]
def fa1 : List (He.Fa) := [.glo "_law_told", .glo "_law_one_row", .glo "_law_land", .glo "_law_book", .glo "_law_row_of", .glo "_law_at_code", .glo "_law_ok", .glo "_law_digits", .glo "_law_number", .glo "_law_moves", .glo "_law_moved", .glo "law", .glo "DialError", .glo "BadBook", .glo "NoLand", .glo "NoNumber", .glo "BadKind", .glo "BadIndex", .glo "BadWay", .glo "BadText"]
def fa2 : List (He.Fa) := [.glo "Doubtful", .glo "BadMoves", .glo "Nothing", .free "all", .free "any", .free "enumerate", .free "int", .free "isinstance", .free "len", .free "list", .free "max", .free "min", .free "range", .free "set", .free "sorted", .free "str", .free "sum", .free "tuple", .free "zip", .free "bool"]
def fa3 : List (He.Fa) := [.free "ValueError", .str "FIGURES" "0123456789", .str "SMALL" "abcdefghijklmnopqrstuvwxyz", .int "MOST_SIZE" 12, .int "LEAST_SIZE" 3, .int "MOST_BEGIN" 4, .int "MOST_ROWS" 8, .int "MOST_LANDS" 6, .int "MOST_KIND" 8, .int "MOST_MOVES" 8, .exc "DialError", .exc "BadBook", .exc "NoLand", .exc "NoNumber", .exc "BadKind", .exc "BadIndex", .exc "BadWay", .exc "BadText", .exc "Doubtful", .exc "BadMoves"]
def fa4 : List (He.Fa) := [.exc "Nothing"]
def fa : List (He.Fa) := fa0 ++ fa1 ++ fa2 ++ fa3 ++ fa4
def fn0 : List (He.DefD) := [⟨("is_count", none), "is_count", "is_count", defArgs (top 21), defBody (top 21), defScope (top 21), [], []⟩, ⟨("is_figures", none), "is_figures", "is_figures", defArgs (top 22), defBody (top 22), defScope (top 22), [], []⟩, ⟨("is_kind", none), "is_kind", "is_kind", defArgs (top 23), defBody (top 23), defScope (top 23), [], []⟩, ⟨("is_row", none), "is_row", "is_row", defArgs (top 24), defBody (top 24), defScope (top 24), [], []⟩, ⟨("is_land", none), "is_land", "is_land", defArgs (top 25), defBody (top 25), defScope (top 25), [], []⟩, ⟨("is_book", none), "is_book", "is_book", defArgs (top 26), defBody (top 26), defScope (top 26), [], []⟩, ⟨("need_book", none), "need_book", "need_book", defArgs (top 27), defBody (top 27), defScope (top 27), [], []⟩, ⟨("land_of", none), "land_of", "land_of", defArgs (top 28), defBody (top 28), defScope (top 28), [], []⟩, ⟨("row_of", none), "row_of", "row_of", defArgs (top 29), defBody (top 29), defScope (top 29), [], []⟩, ⟨("has_number", none), "has_number", "has_number", defArgs (top 31), defBody (top 31), defScope (top 31), [], []⟩, ⟨("need_number", none), "need_number", "need_number", defArgs (top 32), defBody (top 32), defScope (top 32), [], []⟩, ⟨("is_move", none), "is_move", "is_move", defArgs (top 35), defBody (top 35), defScope (top 35), [], []⟩, ⟨("need_moves", none), "need_moves", "need_moves", defArgs (top 36), defBody (top 36), defScope (top 36), [], []⟩, ⟨("moved_of", none), "moved_of", "moved_of", defArgs (top 37), defBody (top 37), defScope (top 37), [], []⟩, ⟨("moved", none), "moved", "moved", defArgs (top 38), defBody (top 38), defScope (top 38), [], []⟩, ⟨("all_moved", none), "all_moved", "all_moved", defArgs (top 39), defBody (top 39), defScope (top 39), [], []⟩, ⟨("is_shared", none), "is_shared", "is_shared", defArgs (top 40), defBody (top 40), defScope (top 40), [], []⟩, ⟨("_law_cell", none), "_law_cell", "_law_cell", defArgs (top 42), defBody (top 42), defScope (top 42), [], []⟩, ⟨("_law_drawn", none), "_law_drawn", "_law_drawn", defArgs (top 43), defBody (top 43), defScope (top 43), [], []⟩, ⟨("_law_word", none), "_law_word", "_law_word", defArgs (top 44), defBody (top 44), defScope (top 44), [], []⟩]
def fn1 : List (He.DefD) := [⟨("_law_told", none), "_law_told", "_law_told", defArgs (top 45), defBody (top 45), defScope (top 45), [], []⟩, ⟨("_law_one_row", none), "_law_one_row", "_law_one_row", defArgs (top 46), defBody (top 46), defScope (top 46), [], []⟩, ⟨("_law_land", none), "_law_land", "_law_land", defArgs (top 47), defBody (top 47), defScope (top 47), [], []⟩, ⟨("_law_book", none), "_law_book", "_law_book", defArgs (top 48), defBody (top 48), defScope (top 48), [], []⟩, ⟨("_law_row_of", none), "_law_row_of", "_law_row_of", defArgs (top 49), defBody (top 49), defScope (top 49), [], []⟩, ⟨("_law_at_code", none), "_law_at_code", "_law_at_code", defArgs (top 50), defBody (top 50), defScope (top 50), [], []⟩, ⟨("_law_ok", none), "_law_ok", "_law_ok", defArgs (top 51), defBody (top 51), defScope (top 51), [], []⟩, ⟨("_law_digits", none), "_law_digits", "_law_digits", defArgs (top 52), defBody (top 52), defScope (top 52), [], []⟩, ⟨("_law_number", none), "_law_number", "_law_number", defArgs (top 53), defBody (top 53), defScope (top 53), [], []⟩, ⟨("_law_moves", none), "_law_moves", "_law_moves", defArgs (top 54), defBody (top 54), defScope (top 54), [], []⟩, ⟨("_law_moved", none), "_law_moved", "_law_moved", defArgs (top 55), defBody (top 55), defScope (top 55), [], []⟩, ⟨("law", none), "law", "law", defArgs (top 56), defBody (top 56), defScope (top 56), [], []⟩]
def fn : List (He.DefD) := fn0 ++ fn1
def tf : List (Str × Option Str) := [("_law_row_of", none), ("law", none)]
def tq : DL.TQ := [(("_law_row_of", none), (envOfC "_law_row_of" (defScope (top 49)) 0 0 .none).qual ++ "<lambda>"), (("law", none), (envOfC "law" (defScope (top 56)) 0 0 .none).qual ++ "<lambda>")]
def ex (K : PySem.W.Frag) : Bool := DL.excB K "DialError" DL.words && DL.apartB tq K
def loose0 : List (Str) := ["is_count", "is_figures", "is_kind", "is_row", "is_land", "is_book", "need_book", "land_of", "row_of", "has_number", "need_number", "is_move", "need_moves", "moved_of", "moved", "all_moved", "is_shared", "_law_cell", "_law_drawn", "_law_word"]
def loose1 : List (Str) := ["_law_told", "_law_one_row", "_law_land", "_law_book", "_law_row_of", "_law_at_code", "_law_ok", "_law_digits", "_law_number", "_law_moves", "_law_moved", "DialError", "BadBook", "NoLand", "NoNumber", "BadKind", "BadIndex", "BadWay", "BadText", "Doubtful"]
def loose2 : List (Str) := ["BadMoves", "Nothing", "FIGURES", "SMALL", "MOST_SIZE", "LEAST_SIZE", "MOST_BEGIN", "MOST_ROWS", "MOST_LANDS", "MOST_KIND", "MOST_MOVES"]
def loose : List (Str) := loose0 ++ loose1 ++ loose2
abbrev R : PySem.W.OpenRow := PySem.W.OpenLaw.row PySem.Challenge.rw_dialtables_k60_whole_moved
abbrev hk : PySem.W.Hook := He.hookX 6 fa fn [] tf ex
def ob (s : PySem.W.SharedT) : He.AlX := He.obsX 6 fa fn [] tf ex (HandSHeadRun.getT s)
theorem ob_eq (s : PySem.W.SharedT) : ob s = hk.obs s.abs := He.obsX_eq (HandSHeadRun.getT_eq s)
theorem run (w : World) : HandSHeadRun.RunEq R (PySem.W.view R.prog [56]) hk ob 40000 loose w := by
  intro os
  kernel_rfl
end Hd
set_option Elab.async false
set_option linter.all false
set_option maxRecDepth 100000
set_option maxHeartbeats 4000000
namespace M60
open PySem PySem.Spec PyProof.Rows L2 DL LamX HotX L2H MC
abbrev RW (K : Frag) (mg : Str → Option Value) (base : Heap) := RwT Hd.fa Hd.fn Hd.tq K mg base
abbrev TT (K : Frag) := tabsL K Hd.tq
variable {P : Program} {w : World} {K : Frag} {mg : Str → Option Value} {base : Heap} {T : List (Addr × Str)}
theorem sc__law_word : FnScope ["e", "flags", "words", "flag"] ["e"] (defScope (Hd.top 44)) := ⟨rfl, rfl, rfl, by decide +kernel, rfl, by decide +kernel, by decide +kernel⟩
def isW (c y : Str) : Bool := if y = "ValueError" then true else c == y
theorem sSeq_nx {g h : Rho → Fl} {ρ ρ' : Rho} (e : g ρ = .nx ρ') : sSeq g h ρ = h ρ' := by
  unfold sSeq
  rw [e]
  rfl
theorem word_fin0 (v : V) : fin (den__law_word v (isW "BadBook") (.obj v :: List.replicate 3 .no)) = .ok (.str "BadBook") := by
  have e0 : ∀ (b : Bool) (r : Rho), eIsE 0 v b (.obj v :: r) = .ok (.bool b) := fun b r => by unfold eIsE; exact if_pos rfl
  have w0 : isW "BadBook" "BadBook" = true := by decide +kernel
  have w1 : isW "BadBook" "BadIndex" = false := by decide +kernel
  have w2 : isW "BadBook" "BadKind" = false := by decide +kernel
  have w3 : isW "BadBook" "BadMoves" = false := by decide +kernel
  have w4 : isW "BadBook" "BadText" = false := by decide +kernel
  have w5 : isW "BadBook" "BadWay" = false := by decide +kernel
  have w6 : isW "BadBook" "Doubtful" = false := by decide +kernel
  have w7 : isW "BadBook" "NoLand" = false := by decide +kernel
  have w8 : isW "BadBook" "NoNumber" = false := by decide +kernel
  have w9 : isW "BadBook" "Nothing" = false := by decide +kernel
  have w10 : isW "BadBook" "ValueError" = true := by decide +kernel
  unfold den__law_word
  rw [w0, w1, w2, w3, w4, w5, w6, w7, w8, w9, w10]
  refine (congrArg fin (sSeq_nx (ρ' := [.obj v, .dat (.list [.bool true, .bool false, .bool false, .bool false]), .no, .no]) ?_)).trans ?_
  · simp only [sSet, eBin, eLst, aCons, e0, aNil, R.bind, List.replicate]; rfl
  refine (congrArg fin (sSeq_nx (ρ' := [.obj v, .dat (.list [.bool true, .bool false, .bool false, .bool false, .bool false, .bool false, .bool false, .bool false]), .no, .no]) ?_)).trans ?_
  · simp only [sSet, eBin, eLst, aCons, e0, aNil, R.bind, List.replicate]; rfl
  refine (congrArg fin (sSeq_nx (ρ' := [.obj v, .dat (.list [.bool true, .bool false, .bool false, .bool false, .bool false, .bool false, .bool false, .bool false, .bool false, .bool false]), .no, .no]) ?_)).trans ?_
  · simp only [sSet, eBin, eLst, aCons, e0, aNil, R.bind, List.replicate]; rfl
  refine (congrArg fin (sSeq_nx (ρ' := [.obj v, .dat (.list [.bool true, .bool false, .bool false, .bool false, .bool false, .bool false, .bool false, .bool false, .bool false, .bool false]), .no, .no]) ?_)).trans ?_
  · simp only [sIf, tOrr, tNt, tVal, e0]; rfl
  rfl
theorem word_fin1 (v : V) : fin (den__law_word v (isW "BadIndex") (.obj v :: List.replicate 3 .no)) = .ok (.str "BadIndex") := by
  have e0 : ∀ (b : Bool) (r : Rho), eIsE 0 v b (.obj v :: r) = .ok (.bool b) := fun b r => by unfold eIsE; exact if_pos rfl
  have w0 : isW "BadIndex" "BadBook" = false := by decide +kernel
  have w1 : isW "BadIndex" "BadIndex" = true := by decide +kernel
  have w2 : isW "BadIndex" "BadKind" = false := by decide +kernel
  have w3 : isW "BadIndex" "BadMoves" = false := by decide +kernel
  have w4 : isW "BadIndex" "BadText" = false := by decide +kernel
  have w5 : isW "BadIndex" "BadWay" = false := by decide +kernel
  have w6 : isW "BadIndex" "Doubtful" = false := by decide +kernel
  have w7 : isW "BadIndex" "NoLand" = false := by decide +kernel
  have w8 : isW "BadIndex" "NoNumber" = false := by decide +kernel
  have w9 : isW "BadIndex" "Nothing" = false := by decide +kernel
  have w10 : isW "BadIndex" "ValueError" = true := by decide +kernel
  unfold den__law_word
  rw [w0, w1, w2, w3, w4, w5, w6, w7, w8, w9, w10]
  refine (congrArg fin (sSeq_nx (ρ' := [.obj v, .dat (.list [.bool false, .bool true, .bool false, .bool false]), .no, .no]) ?_)).trans ?_
  · simp only [sSet, eBin, eLst, aCons, e0, aNil, R.bind, List.replicate]; rfl
  refine (congrArg fin (sSeq_nx (ρ' := [.obj v, .dat (.list [.bool false, .bool true, .bool false, .bool false, .bool false, .bool false, .bool false, .bool false]), .no, .no]) ?_)).trans ?_
  · simp only [sSet, eBin, eLst, aCons, e0, aNil, R.bind, List.replicate]; rfl
  refine (congrArg fin (sSeq_nx (ρ' := [.obj v, .dat (.list [.bool false, .bool true, .bool false, .bool false, .bool false, .bool false, .bool false, .bool false, .bool false, .bool false]), .no, .no]) ?_)).trans ?_
  · simp only [sSet, eBin, eLst, aCons, e0, aNil, R.bind, List.replicate]; rfl
  refine (congrArg fin (sSeq_nx (ρ' := [.obj v, .dat (.list [.bool false, .bool true, .bool false, .bool false, .bool false, .bool false, .bool false, .bool false, .bool false, .bool false]), .no, .no]) ?_)).trans ?_
  · simp only [sIf, tOrr, tNt, tVal, e0]; rfl
  rfl
theorem word_fin2 (v : V) : fin (den__law_word v (isW "BadKind") (.obj v :: List.replicate 3 .no)) = .ok (.str "BadKind") := by
  have e0 : ∀ (b : Bool) (r : Rho), eIsE 0 v b (.obj v :: r) = .ok (.bool b) := fun b r => by unfold eIsE; exact if_pos rfl
  have w0 : isW "BadKind" "BadBook" = false := by decide +kernel
  have w1 : isW "BadKind" "BadIndex" = false := by decide +kernel
  have w2 : isW "BadKind" "BadKind" = true := by decide +kernel
  have w3 : isW "BadKind" "BadMoves" = false := by decide +kernel
  have w4 : isW "BadKind" "BadText" = false := by decide +kernel
  have w5 : isW "BadKind" "BadWay" = false := by decide +kernel
  have w6 : isW "BadKind" "Doubtful" = false := by decide +kernel
  have w7 : isW "BadKind" "NoLand" = false := by decide +kernel
  have w8 : isW "BadKind" "NoNumber" = false := by decide +kernel
  have w9 : isW "BadKind" "Nothing" = false := by decide +kernel
  have w10 : isW "BadKind" "ValueError" = true := by decide +kernel
  unfold den__law_word
  rw [w0, w1, w2, w3, w4, w5, w6, w7, w8, w9, w10]
  refine (congrArg fin (sSeq_nx (ρ' := [.obj v, .dat (.list [.bool false, .bool false, .bool true, .bool false]), .no, .no]) ?_)).trans ?_
  · simp only [sSet, eBin, eLst, aCons, e0, aNil, R.bind, List.replicate]; rfl
  refine (congrArg fin (sSeq_nx (ρ' := [.obj v, .dat (.list [.bool false, .bool false, .bool true, .bool false, .bool false, .bool false, .bool false, .bool false]), .no, .no]) ?_)).trans ?_
  · simp only [sSet, eBin, eLst, aCons, e0, aNil, R.bind, List.replicate]; rfl
  refine (congrArg fin (sSeq_nx (ρ' := [.obj v, .dat (.list [.bool false, .bool false, .bool true, .bool false, .bool false, .bool false, .bool false, .bool false, .bool false, .bool false]), .no, .no]) ?_)).trans ?_
  · simp only [sSet, eBin, eLst, aCons, e0, aNil, R.bind, List.replicate]; rfl
  refine (congrArg fin (sSeq_nx (ρ' := [.obj v, .dat (.list [.bool false, .bool false, .bool true, .bool false, .bool false, .bool false, .bool false, .bool false, .bool false, .bool false]), .no, .no]) ?_)).trans ?_
  · simp only [sIf, tOrr, tNt, tVal, e0]; rfl
  rfl
theorem word_fin3 (v : V) : fin (den__law_word v (isW "BadMoves") (.obj v :: List.replicate 3 .no)) = .ok (.str "BadMoves") := by
  have e0 : ∀ (b : Bool) (r : Rho), eIsE 0 v b (.obj v :: r) = .ok (.bool b) := fun b r => by unfold eIsE; exact if_pos rfl
  have w0 : isW "BadMoves" "BadBook" = false := by decide +kernel
  have w1 : isW "BadMoves" "BadIndex" = false := by decide +kernel
  have w2 : isW "BadMoves" "BadKind" = false := by decide +kernel
  have w3 : isW "BadMoves" "BadMoves" = true := by decide +kernel
  have w4 : isW "BadMoves" "BadText" = false := by decide +kernel
  have w5 : isW "BadMoves" "BadWay" = false := by decide +kernel
  have w6 : isW "BadMoves" "Doubtful" = false := by decide +kernel
  have w7 : isW "BadMoves" "NoLand" = false := by decide +kernel
  have w8 : isW "BadMoves" "NoNumber" = false := by decide +kernel
  have w9 : isW "BadMoves" "Nothing" = false := by decide +kernel
  have w10 : isW "BadMoves" "ValueError" = true := by decide +kernel
  unfold den__law_word
  rw [w0, w1, w2, w3, w4, w5, w6, w7, w8, w9, w10]
  refine (congrArg fin (sSeq_nx (ρ' := [.obj v, .dat (.list [.bool false, .bool false, .bool false, .bool true]), .no, .no]) ?_)).trans ?_
  · simp only [sSet, eBin, eLst, aCons, e0, aNil, R.bind, List.replicate]; rfl
  refine (congrArg fin (sSeq_nx (ρ' := [.obj v, .dat (.list [.bool false, .bool false, .bool false, .bool true, .bool false, .bool false, .bool false, .bool false]), .no, .no]) ?_)).trans ?_
  · simp only [sSet, eBin, eLst, aCons, e0, aNil, R.bind, List.replicate]; rfl
  refine (congrArg fin (sSeq_nx (ρ' := [.obj v, .dat (.list [.bool false, .bool false, .bool false, .bool true, .bool false, .bool false, .bool false, .bool false, .bool false, .bool false]), .no, .no]) ?_)).trans ?_
  · simp only [sSet, eBin, eLst, aCons, e0, aNil, R.bind, List.replicate]; rfl
  refine (congrArg fin (sSeq_nx (ρ' := [.obj v, .dat (.list [.bool false, .bool false, .bool false, .bool true, .bool false, .bool false, .bool false, .bool false, .bool false, .bool false]), .no, .no]) ?_)).trans ?_
  · simp only [sIf, tOrr, tNt, tVal, e0]; rfl
  rfl
theorem word_fin4 (v : V) : fin (den__law_word v (isW "BadText") (.obj v :: List.replicate 3 .no)) = .ok (.str "BadText") := by
  have e0 : ∀ (b : Bool) (r : Rho), eIsE 0 v b (.obj v :: r) = .ok (.bool b) := fun b r => by unfold eIsE; exact if_pos rfl
  have w0 : isW "BadText" "BadBook" = false := by decide +kernel
  have w1 : isW "BadText" "BadIndex" = false := by decide +kernel
  have w2 : isW "BadText" "BadKind" = false := by decide +kernel
  have w3 : isW "BadText" "BadMoves" = false := by decide +kernel
  have w4 : isW "BadText" "BadText" = true := by decide +kernel
  have w5 : isW "BadText" "BadWay" = false := by decide +kernel
  have w6 : isW "BadText" "Doubtful" = false := by decide +kernel
  have w7 : isW "BadText" "NoLand" = false := by decide +kernel
  have w8 : isW "BadText" "NoNumber" = false := by decide +kernel
  have w9 : isW "BadText" "Nothing" = false := by decide +kernel
  have w10 : isW "BadText" "ValueError" = true := by decide +kernel
  unfold den__law_word
  rw [w0, w1, w2, w3, w4, w5, w6, w7, w8, w9, w10]
  refine (congrArg fin (sSeq_nx (ρ' := [.obj v, .dat (.list [.bool false, .bool false, .bool false, .bool false]), .no, .no]) ?_)).trans ?_
  · simp only [sSet, eBin, eLst, aCons, e0, aNil, R.bind, List.replicate]; rfl
  refine (congrArg fin (sSeq_nx (ρ' := [.obj v, .dat (.list [.bool false, .bool false, .bool false, .bool false, .bool true, .bool false, .bool false, .bool false]), .no, .no]) ?_)).trans ?_
  · simp only [sSet, eBin, eLst, aCons, e0, aNil, R.bind, List.replicate]; rfl
  refine (congrArg fin (sSeq_nx (ρ' := [.obj v, .dat (.list [.bool false, .bool false, .bool false, .bool false, .bool true, .bool false, .bool false, .bool false, .bool false, .bool false]), .no, .no]) ?_)).trans ?_
  · simp only [sSet, eBin, eLst, aCons, e0, aNil, R.bind, List.replicate]; rfl
  refine (congrArg fin (sSeq_nx (ρ' := [.obj v, .dat (.list [.bool false, .bool false, .bool false, .bool false, .bool true, .bool false, .bool false, .bool false, .bool false, .bool false]), .no, .no]) ?_)).trans ?_
  · simp only [sIf, tOrr, tNt, tVal, e0]; rfl
  rfl
theorem word_fin5 (v : V) : fin (den__law_word v (isW "BadWay") (.obj v :: List.replicate 3 .no)) = .ok (.str "BadWay") := by
  have e0 : ∀ (b : Bool) (r : Rho), eIsE 0 v b (.obj v :: r) = .ok (.bool b) := fun b r => by unfold eIsE; exact if_pos rfl
  have w0 : isW "BadWay" "BadBook" = false := by decide +kernel
  have w1 : isW "BadWay" "BadIndex" = false := by decide +kernel
  have w2 : isW "BadWay" "BadKind" = false := by decide +kernel
  have w3 : isW "BadWay" "BadMoves" = false := by decide +kernel
  have w4 : isW "BadWay" "BadText" = false := by decide +kernel
  have w5 : isW "BadWay" "BadWay" = true := by decide +kernel
  have w6 : isW "BadWay" "Doubtful" = false := by decide +kernel
  have w7 : isW "BadWay" "NoLand" = false := by decide +kernel
  have w8 : isW "BadWay" "NoNumber" = false := by decide +kernel
  have w9 : isW "BadWay" "Nothing" = false := by decide +kernel
  have w10 : isW "BadWay" "ValueError" = true := by decide +kernel
  unfold den__law_word
  rw [w0, w1, w2, w3, w4, w5, w6, w7, w8, w9, w10]
  refine (congrArg fin (sSeq_nx (ρ' := [.obj v, .dat (.list [.bool false, .bool false, .bool false, .bool false]), .no, .no]) ?_)).trans ?_
  · simp only [sSet, eBin, eLst, aCons, e0, aNil, R.bind, List.replicate]; rfl
  refine (congrArg fin (sSeq_nx (ρ' := [.obj v, .dat (.list [.bool false, .bool false, .bool false, .bool false, .bool false, .bool true, .bool false, .bool false]), .no, .no]) ?_)).trans ?_
  · simp only [sSet, eBin, eLst, aCons, e0, aNil, R.bind, List.replicate]; rfl
  refine (congrArg fin (sSeq_nx (ρ' := [.obj v, .dat (.list [.bool false, .bool false, .bool false, .bool false, .bool false, .bool true, .bool false, .bool false, .bool false, .bool false]), .no, .no]) ?_)).trans ?_
  · simp only [sSet, eBin, eLst, aCons, e0, aNil, R.bind, List.replicate]; rfl
  refine (congrArg fin (sSeq_nx (ρ' := [.obj v, .dat (.list [.bool false, .bool false, .bool false, .bool false, .bool false, .bool true, .bool false, .bool false, .bool false, .bool false]), .no, .no]) ?_)).trans ?_
  · simp only [sIf, tOrr, tNt, tVal, e0]; rfl
  rfl
theorem word_fin6 (v : V) : fin (den__law_word v (isW "Doubtful") (.obj v :: List.replicate 3 .no)) = .ok (.str "Doubtful") := by
  have e0 : ∀ (b : Bool) (r : Rho), eIsE 0 v b (.obj v :: r) = .ok (.bool b) := fun b r => by unfold eIsE; exact if_pos rfl
  have w0 : isW "Doubtful" "BadBook" = false := by decide +kernel
  have w1 : isW "Doubtful" "BadIndex" = false := by decide +kernel
  have w2 : isW "Doubtful" "BadKind" = false := by decide +kernel
  have w3 : isW "Doubtful" "BadMoves" = false := by decide +kernel
  have w4 : isW "Doubtful" "BadText" = false := by decide +kernel
  have w5 : isW "Doubtful" "BadWay" = false := by decide +kernel
  have w6 : isW "Doubtful" "Doubtful" = true := by decide +kernel
  have w7 : isW "Doubtful" "NoLand" = false := by decide +kernel
  have w8 : isW "Doubtful" "NoNumber" = false := by decide +kernel
  have w9 : isW "Doubtful" "Nothing" = false := by decide +kernel
  have w10 : isW "Doubtful" "ValueError" = true := by decide +kernel
  unfold den__law_word
  rw [w0, w1, w2, w3, w4, w5, w6, w7, w8, w9, w10]
  refine (congrArg fin (sSeq_nx (ρ' := [.obj v, .dat (.list [.bool false, .bool false, .bool false, .bool false]), .no, .no]) ?_)).trans ?_
  · simp only [sSet, eBin, eLst, aCons, e0, aNil, R.bind, List.replicate]; rfl
  refine (congrArg fin (sSeq_nx (ρ' := [.obj v, .dat (.list [.bool false, .bool false, .bool false, .bool false, .bool false, .bool false, .bool true, .bool false]), .no, .no]) ?_)).trans ?_
  · simp only [sSet, eBin, eLst, aCons, e0, aNil, R.bind, List.replicate]; rfl
  refine (congrArg fin (sSeq_nx (ρ' := [.obj v, .dat (.list [.bool false, .bool false, .bool false, .bool false, .bool false, .bool false, .bool true, .bool false, .bool false, .bool false]), .no, .no]) ?_)).trans ?_
  · simp only [sSet, eBin, eLst, aCons, e0, aNil, R.bind, List.replicate]; rfl
  refine (congrArg fin (sSeq_nx (ρ' := [.obj v, .dat (.list [.bool false, .bool false, .bool false, .bool false, .bool false, .bool false, .bool true, .bool false, .bool false, .bool false]), .no, .no]) ?_)).trans ?_
  · simp only [sIf, tOrr, tNt, tVal, e0]; rfl
  rfl
theorem word_fin7 (v : V) : fin (den__law_word v (isW "NoLand") (.obj v :: List.replicate 3 .no)) = .ok (.str "NoLand") := by
  have e0 : ∀ (b : Bool) (r : Rho), eIsE 0 v b (.obj v :: r) = .ok (.bool b) := fun b r => by unfold eIsE; exact if_pos rfl
  have w0 : isW "NoLand" "BadBook" = false := by decide +kernel
  have w1 : isW "NoLand" "BadIndex" = false := by decide +kernel
  have w2 : isW "NoLand" "BadKind" = false := by decide +kernel
  have w3 : isW "NoLand" "BadMoves" = false := by decide +kernel
  have w4 : isW "NoLand" "BadText" = false := by decide +kernel
  have w5 : isW "NoLand" "BadWay" = false := by decide +kernel
  have w6 : isW "NoLand" "Doubtful" = false := by decide +kernel
  have w7 : isW "NoLand" "NoLand" = true := by decide +kernel
  have w8 : isW "NoLand" "NoNumber" = false := by decide +kernel
  have w9 : isW "NoLand" "Nothing" = false := by decide +kernel
  have w10 : isW "NoLand" "ValueError" = true := by decide +kernel
  unfold den__law_word
  rw [w0, w1, w2, w3, w4, w5, w6, w7, w8, w9, w10]
  refine (congrArg fin (sSeq_nx (ρ' := [.obj v, .dat (.list [.bool false, .bool false, .bool false, .bool false]), .no, .no]) ?_)).trans ?_
  · simp only [sSet, eBin, eLst, aCons, e0, aNil, R.bind, List.replicate]; rfl
  refine (congrArg fin (sSeq_nx (ρ' := [.obj v, .dat (.list [.bool false, .bool false, .bool false, .bool false, .bool false, .bool false, .bool false, .bool true]), .no, .no]) ?_)).trans ?_
  · simp only [sSet, eBin, eLst, aCons, e0, aNil, R.bind, List.replicate]; rfl
  refine (congrArg fin (sSeq_nx (ρ' := [.obj v, .dat (.list [.bool false, .bool false, .bool false, .bool false, .bool false, .bool false, .bool false, .bool true, .bool false, .bool false]), .no, .no]) ?_)).trans ?_
  · simp only [sSet, eBin, eLst, aCons, e0, aNil, R.bind, List.replicate]; rfl
  refine (congrArg fin (sSeq_nx (ρ' := [.obj v, .dat (.list [.bool false, .bool false, .bool false, .bool false, .bool false, .bool false, .bool false, .bool true, .bool false, .bool false]), .no, .no]) ?_)).trans ?_
  · simp only [sIf, tOrr, tNt, tVal, e0]; rfl
  rfl
theorem word_fin8 (v : V) : fin (den__law_word v (isW "NoNumber") (.obj v :: List.replicate 3 .no)) = .ok (.str "NoNumber") := by
  have e0 : ∀ (b : Bool) (r : Rho), eIsE 0 v b (.obj v :: r) = .ok (.bool b) := fun b r => by unfold eIsE; exact if_pos rfl
  have w0 : isW "NoNumber" "BadBook" = false := by decide +kernel
  have w1 : isW "NoNumber" "BadIndex" = false := by decide +kernel
  have w2 : isW "NoNumber" "BadKind" = false := by decide +kernel
  have w3 : isW "NoNumber" "BadMoves" = false := by decide +kernel
  have w4 : isW "NoNumber" "BadText" = false := by decide +kernel
  have w5 : isW "NoNumber" "BadWay" = false := by decide +kernel
  have w6 : isW "NoNumber" "Doubtful" = false := by decide +kernel
  have w7 : isW "NoNumber" "NoLand" = false := by decide +kernel
  have w8 : isW "NoNumber" "NoNumber" = true := by decide +kernel
  have w9 : isW "NoNumber" "Nothing" = false := by decide +kernel
  have w10 : isW "NoNumber" "ValueError" = true := by decide +kernel
  unfold den__law_word
  rw [w0, w1, w2, w3, w4, w5, w6, w7, w8, w9, w10]
  refine (congrArg fin (sSeq_nx (ρ' := [.obj v, .dat (.list [.bool false, .bool false, .bool false, .bool false]), .no, .no]) ?_)).trans ?_
  · simp only [sSet, eBin, eLst, aCons, e0, aNil, R.bind, List.replicate]; rfl
  refine (congrArg fin (sSeq_nx (ρ' := [.obj v, .dat (.list [.bool false, .bool false, .bool false, .bool false, .bool false, .bool false, .bool false, .bool false]), .no, .no]) ?_)).trans ?_
  · simp only [sSet, eBin, eLst, aCons, e0, aNil, R.bind, List.replicate]; rfl
  refine (congrArg fin (sSeq_nx (ρ' := [.obj v, .dat (.list [.bool false, .bool false, .bool false, .bool false, .bool false, .bool false, .bool false, .bool false, .bool true, .bool false]), .no, .no]) ?_)).trans ?_
  · simp only [sSet, eBin, eLst, aCons, e0, aNil, R.bind, List.replicate]; rfl
  refine (congrArg fin (sSeq_nx (ρ' := [.obj v, .dat (.list [.bool false, .bool false, .bool false, .bool false, .bool false, .bool false, .bool false, .bool false, .bool true, .bool false]), .no, .no]) ?_)).trans ?_
  · simp only [sIf, tOrr, tNt, tVal, e0]; rfl
  rfl
theorem word_fin9 (v : V) : fin (den__law_word v (isW "Nothing") (.obj v :: List.replicate 3 .no)) = .ok (.str "Nothing") := by
  have e0 : ∀ (b : Bool) (r : Rho), eIsE 0 v b (.obj v :: r) = .ok (.bool b) := fun b r => by unfold eIsE; exact if_pos rfl
  have w0 : isW "Nothing" "BadBook" = false := by decide +kernel
  have w1 : isW "Nothing" "BadIndex" = false := by decide +kernel
  have w2 : isW "Nothing" "BadKind" = false := by decide +kernel
  have w3 : isW "Nothing" "BadMoves" = false := by decide +kernel
  have w4 : isW "Nothing" "BadText" = false := by decide +kernel
  have w5 : isW "Nothing" "BadWay" = false := by decide +kernel
  have w6 : isW "Nothing" "Doubtful" = false := by decide +kernel
  have w7 : isW "Nothing" "NoLand" = false := by decide +kernel
  have w8 : isW "Nothing" "NoNumber" = false := by decide +kernel
  have w9 : isW "Nothing" "Nothing" = true := by decide +kernel
  have w10 : isW "Nothing" "ValueError" = true := by decide +kernel
  unfold den__law_word
  rw [w0, w1, w2, w3, w4, w5, w6, w7, w8, w9, w10]
  refine (congrArg fin (sSeq_nx (ρ' := [.obj v, .dat (.list [.bool false, .bool false, .bool false, .bool false]), .no, .no]) ?_)).trans ?_
  · simp only [sSet, eBin, eLst, aCons, e0, aNil, R.bind, List.replicate]; rfl
  refine (congrArg fin (sSeq_nx (ρ' := [.obj v, .dat (.list [.bool false, .bool false, .bool false, .bool false, .bool false, .bool false, .bool false, .bool false]), .no, .no]) ?_)).trans ?_
  · simp only [sSet, eBin, eLst, aCons, e0, aNil, R.bind, List.replicate]; rfl
  refine (congrArg fin (sSeq_nx (ρ' := [.obj v, .dat (.list [.bool false, .bool false, .bool false, .bool false, .bool false, .bool false, .bool false, .bool false, .bool false, .bool true]), .no, .no]) ?_)).trans ?_
  · simp only [sSet, eBin, eLst, aCons, e0, aNil, R.bind, List.replicate]; rfl
  refine (congrArg fin (sSeq_nx (ρ' := [.obj v, .dat (.list [.bool false, .bool false, .bool false, .bool false, .bool false, .bool false, .bool false, .bool false, .bool false, .bool true]), .no, .no]) ?_)).trans ?_
  · simp only [sIf, tOrr, tNt, tVal, e0]; rfl
  rfl

theorem word_fin (c : Str) (hc : c ∈ words) (v : V) : fin (den__law_word v (isW c) (.obj v :: List.replicate 3 .no)) = .ok (.str c) := by
  unfold words at hc
  simp only [List.mem_cons, List.mem_nil_iff, or_false] at hc
  rcases hc with rfl | rfl | rfl | rfl | rfl | rfl | rfl | rfl | rfl | rfl
  · exact word_fin0 v
  · exact word_fin1 v
  · exact word_fin2 v
  · exact word_fin3 v
  · exact word_fin4 v
  · exact word_fin5 v
  · exact word_fin6 v
  · exact word_fin7 v
  · exact word_fin8 v
  · exact word_fin9 v
theorem wd__law_word (C : RW K mg base) (hx : excB K "DialError" words = true) (c : Str) (hc : c ∈ words) : Wd P w K mg base T 1 "_law_word" c := by
  have h1 : Hd.fn[19]? = some ⟨("_law_word", none), "_law_word", "_law_word", defArgs (Hd.top 44), defBody (Hd.top 44), defScope (Hd.top 44), [], []⟩ := by kernel_rfl
  obtain ⟨fd, F⟩ := C.fun_ 19 h1 rfl rfl
  have F : FunD K "_law_word" "_law_word" (defArgs (Hd.top 44)) (defBody (Hd.top 44)) (defScope (Hd.top 44)) [] [] (He.ga K "_law_word") fd := F
  obtain ⟨X1, X2, X3, X4⟩ := excB_ok hx hc
  have hb : Binds K fd ["e"] [] := F.bindsN (ps := ["e"]) fun _ _ _ _ _ _ us hl => match us, hl with | [_], _ => by kernel_rfl
  refine wd_of (g := fun v => den__law_word v (isW c)) F sc__law_word hb (fun cdv A outer s H a oe hot hz hf hr => ?_) (fun v => word_fin c hc v)
  have nd := sc__law_word.nd
  have hotc : HotC (cxH C8.CX0 P w K mg base ["e", "flags", "words", "flag"] "_law_word" (defScope (Hd.top 44)) (He.ga K "_law_word") cdv A outer s H C8.E0 (a, oe)) := ⟨(a, oe), hot, List.mem_singleton.mpr rfl⟩
  have hcall : CallR (cxH C8.CX0 P w K mg base ["e", "flags", "words", "flag"] "_law_word" (defScope (Hd.top 44)) (He.ga K "_law_word") cdv A outer s H C8.E0 (a, oe)) (.builtin "isinstance") (rIsE K (He.ga K c) a) := call_isP (X := (cxH C8.CX0 P w K mg base ["e", "flags", "words", "flag"] "_law_word" (defScope (Hd.top 44)) (He.ga K "_law_word") cdv A outer s H C8.E0 (a, oe))) (a := a) (oe := oe) (List.mem_singleton.mpr rfl) X1 hz.zc hf
  have hu : (cxH C8.CX0 P w K mg base ["e", "flags", "words", "flag"] "_law_word" (defScope (Hd.top 44)) (He.ga K "_law_word") cdv A outer s H C8.E0 (a, oe)).A.units + 64 < cLine := unitsH hr
  have hu65 : (cxH C8.CX0 P w K mg base ["e", "flags", "words", "flag"] "_law_word" (defScope (Hd.top 44)) (He.ga K "_law_word") cdv A outer s H C8.E0 (a, oe)).A.units + 65 < cLine := unitsH65 hr
  have KT : ∀ d, d ∈ words → PySem.W.kitOne K (.ref (He.ga K c)) (.ref (He.ga K d)) = some (isW c d) := fun d hd => by
    have e : isW c d = (c == d) := if_neg (fun z => by subst z; exact absurd hd (by decide))
    rw [e]; exact X4 d hd
  have KV : PySem.W.kitOne K (.ref (He.ga K c)) (.type "ValueError") = some (isW c "ValueError") := X3
  have tk := takesN0 (X := (cxH C8.CX0 P w K mg base ["e", "flags", "words", "flag"] "_law_word" (defScope (Hd.top 44)) (He.ga K "_law_word") cdv A outer s H C8.E0 (a, oe)))
  exact (ss_cons (s_set 1 nd (d_lst (da_cons (d_isE 0 hcall (KT "BadBook" (by decide)) (C.glo 33) (C.free 47)) (da_cons (d_isE 0 hcall (KT "BadIndex" (by decide)) (C.glo 37) (C.free 47)) (da_cons (d_isE 0 hcall (KT "BadKind" (by decide)) (C.glo 36) (C.free 47)) (da_cons (d_isE 0 hcall (KT "BadMoves" (by decide)) (C.glo 41) (C.free 47)) da_nil))))))
    (ss_cons (s_set 1 nd (d_bin o_add tm_add (d_var 1) (d_lst (da_cons (d_isE 0 hcall (KT "BadText" (by decide)) (C.glo 39) (C.free 47)) (da_cons (d_isE 0 hcall (KT "BadWay" (by decide)) (C.glo 38) (C.free 47)) (da_cons (d_isE 0 hcall (KT "Doubtful" (by decide)) (C.glo 40) (C.free 47)) (da_cons (d_isE 0 hcall (KT "NoLand" (by decide)) (C.glo 34) (C.free 47)) da_nil)))))))
    (ss_cons (s_set 1 nd (d_bin o_add tm_add (d_var 1) (d_lst (da_cons (d_isE 0 hcall (KT "NoNumber" (by decide)) (C.glo 35) (C.free 47)) (da_cons (d_isE 0 hcall (KT "Nothing" (by decide)) (C.glo 42) (C.free 47)) da_nil)))))
    (ss_cons (s_if (dt_w (dw_or (dt_cmp (o_ne hu) tm_ne (d_callB (c_sumH hotc) tm_sumL (C.free 56) (by kernel_rfl) (da_cons (d_lcH (own := [("flag", 3)]) hotc nd (dix_of (d_var 1)) (blkOk_by (own := [("flag", 3)]) (by kernel_rfl)) (fun _ _ _ _ _ => (g_nm 3 nd)) (fun _ _ _ _ _ => dts_nil) (fun _ _ _ _ _ => (d_callTy c_int tm_int (C.free 46) (by kernel_rfl) (da_cons (d_var 3) da_nil)))) da_nil)) d_int (nomark _)) (dw_or1 (dt_not (dt_val (d_isB 0 hcall KV (C.free 60) (by decide +kernel) (C.free 47))))))) (ss_one (s_ret d_str)) ss_nil)
    (ss_cons (s_set 2 nd (d_lst (da_cons d_str (da_cons d_str (da_cons d_str (da_cons d_str (da_cons d_str (da_cons d_str (da_cons d_str (da_cons d_str (da_cons d_str da_nil)))))))))))
    (ss_one (s_ret (d_idx o_idx tm_idx (d_bin o_add tm_add (d_var 2) (d_lst (da_cons d_str da_nil))) (d_mt PySem.F.plainAttrs_list PySem.F.slot_list_index PySem.F.type_list_index (c_index hu65) tm_index (d_var 1) (da_cons d_bl da_nil))))))))))
theorem sc__law_told : FnScope ["deed", "e"] ["deed"] (defScope (Hd.top 45)) := ⟨rfl, rfl, rfl, by decide +kernel, rfl, by decide +kernel, by decide +kernel⟩
theorem td__law_told (C : RW K mg base) (hx : excB K "DialError" words = true) : Told P w K mg base T 1 "_law_told" "deed" "e" "_law_word" "DialError" words (defArgs (Hd.top 45)) (defBody (Hd.top 45)) (defScope (Hd.top 45)) ["deed", "e"] := by
  have h1 : Hd.fn[20]? = some ⟨("_law_told", none), "_law_told", "_law_told", defArgs (Hd.top 45), defBody (Hd.top 45), defScope (Hd.top 45), [], []⟩ := by kernel_rfl
  have h2 : Hd.fn[19]? = some ⟨("_law_word", none), "_law_word", "_law_word", defArgs (Hd.top 44), defBody (Hd.top 44), defScope (Hd.top 44), [], []⟩ := by kernel_rfl
  obtain ⟨fd, F⟩ := C.fun_ 20 h1 rfl rfl
  obtain ⟨fd2, F2⟩ := C.fun_ 19 h2 rfl rfl
  have F : FunD K "_law_told" "_law_told" (defArgs (Hd.top 45)) (defBody (Hd.top 45)) (defScope (Hd.top 45)) [] [] (He.ga K "_law_told") fd := F
  have hb : Binds K fd ["deed"] [] := F.bindsN (ps := ["deed"]) fun _ _ _ _ _ _ us hl => match us, hl with | [_], _ => by kernel_rfl
  exact ⟨⟨fd, F, hb⟩, C.glo 20, sc__law_told, sc__law_told.nd, rfl, rfl, vis_of (by kernel_rfl), by kernel_rfl, by kernel_rfl, by kernel_rfl, toldB_ok (by kernel_rfl), C.glo 19, F2.kp, C.glo 32,
    fun c hc => (excB_ok hx hc).2.1, fun c hc => wd__law_word C hx c hc, by kernel_rfl, by kernel_rfl, by kernel_rfl, by kernel_rfl, by kernel_rfl, by kernel_rfl⟩
theorem sc__law_drawn : FnScope ["cell", "k", "more"] ["cell", "k"] (defScope (Hd.top 43)) := ⟨rfl, rfl, rfl, by decide +kernel, rfl, by decide +kernel, by decide +kernel⟩
theorem fx__law_drawn (C : RW K mg base) : FDx P w K mg base (TT K) 1 "_law_drawn" ["cell", "k"] m__law_drawn := by
  have h1 : Hd.fn[18]? = some ⟨("_law_drawn", none), "_law_drawn", "_law_drawn", defArgs (Hd.top 43), defBody (Hd.top 43), defScope (Hd.top 43), [], []⟩ := by kernel_rfl
  have h2 : Hd.fa[18]? = some (.glo "_law_drawn") := by kernel_rfl
  have h3 : ∀ (kV doc pm : Value) (an : Option Addr) (cdv ct : Value) (us : List Value), us.length = (["cell", "k"] : List Str).length → bindArgs (PySem.W.fnOf "_law_drawn" "_law_drawn" (defArgs (Hd.top 43)) (defBody (Hd.top 43)) (defScope (Hd.top 43)) .none kV doc pm an cdv ct) ⟨us, []⟩ = pure ((["cell", "k"] : List Str).zip us) := by
    intro _ _ _ _ _ _ us hl
    match us, hl with
    | [_, _], _ => kernel_rfl
  have h4 := C.fd (P := P) (w := w) (T := TT K) (k := 0) (g := den__law_drawn) 18 18 h1 rfl rfl rfl h2 sc__law_drawn h3
  refine FDx.of_eq (h4 ?_) (by kernel_rfl)
  intro cdv A outer s H E hr
  have nd := sc__law_drawn.nd
  have tk : L2N.Takes (cxOf (L2N.CX P w) P w K mg base ["cell", "k", "more"] "_law_drawn" (defScope (Hd.top 43)) (He.ga K "_law_drawn") cdv A outer s H E) (WD E) := L2N.takes_of rfl rfl rfl rfl
  have po : PassesOwn (model P w) (cxOf (L2N.CX P w) P w K mg base ["cell", "k", "more"] "_law_drawn" (defScope (Hd.top 43)) (He.ga K "_law_drawn") cdv A outer s H E).A (cxOf (L2N.CX P w) P w K mg base ["cell", "k", "more"] "_law_drawn" (defScope (Hd.top 43)) (He.ga K "_law_drawn") cdv A outer s H E).env (cxOf (L2N.CX P w) P w K mg base ["cell", "k", "more"] "_law_drawn" (defScope (Hd.top 43)) (He.ga K "_law_drawn") cdv A outer s H E).xe := passes_of rfl
  have hu := hr.units
  exact (ss_cons (s_set 2 nd (d_bin o_mod tm_mod (d_bin o_add tm_add (d_bin o_mul tm_mul (d_var 0) d_int) (d_bin o_mul tm_mul (d_bin o_add tm_add (d_var 1) d_int) d_int)) d_int))
    (ss_cons (s_set 2 nd (d_bin o_mod tm_mod (d_bin o_mul tm_mul (d_var 2) (d_var 2)) d_int))
    (ss_cons (s_set 2 nd (d_bin o_mul tm_mul (d_bin o_mul tm_mul (d_bin o_add tm_add (d_bin o_mod tm_mod (d_var 2) d_int) d_int) (d_bin o_add tm_add (d_bin o_fdiv tm_fdiv (d_var 2) d_int) d_int)) (d_var 2)))
    (ss_one (s_ret (d_bin o_mod tm_mod (d_var 2) d_int))))))
theorem sc__law_one_row : FnScope ["more", "begin", "size", "left", "groups", "own"] ["more"] (defScope (Hd.top 46)) := ⟨rfl, rfl, rfl, by decide +kernel, rfl, by decide +kernel, by decide +kernel⟩
theorem fx__law_one_row (C : RW K mg base) : FDx P w K mg base (TT K) 2 "_law_one_row" ["more"] m__law_one_row := by
  have G__law_drawn := fx__law_drawn (P := P) (w := w) C
  have h1 : Hd.fn[21]? = some ⟨("_law_one_row", none), "_law_one_row", "_law_one_row", defArgs (Hd.top 46), defBody (Hd.top 46), defScope (Hd.top 46), [], []⟩ := by kernel_rfl
  have h2 : Hd.fa[21]? = some (.glo "_law_one_row") := by kernel_rfl
  have h3 : ∀ (kV doc pm : Value) (an : Option Addr) (cdv ct : Value) (us : List Value), us.length = (["more"] : List Str).length → bindArgs (PySem.W.fnOf "_law_one_row" "_law_one_row" (defArgs (Hd.top 46)) (defBody (Hd.top 46)) (defScope (Hd.top 46)) .none kV doc pm an cdv ct) ⟨us, []⟩ = pure ((["more"] : List Str).zip us) := by
    intro _ _ _ _ _ _ us hl
    match us, hl with
    | [_], _ => kernel_rfl
  have h4 := C.fd (P := P) (w := w) (T := TT K) (k := 1) (g := den__law_one_row) 21 21 h1 rfl rfl rfl h2 sc__law_one_row h3
  refine FDx.of_eq (h4 ?_) (by kernel_rfl)
  intro cdv A outer s H E hr
  have nd := sc__law_one_row.nd
  have tk : L2N.Takes (cxOf (L2N.CX P w) P w K mg base ["more", "begin", "size", "left", "groups", "own"] "_law_one_row" (defScope (Hd.top 46)) (He.ga K "_law_one_row") cdv A outer s H E) (WD E) := L2N.takes_of rfl rfl rfl rfl
  have po : PassesOwn (model P w) (cxOf (L2N.CX P w) P w K mg base ["more", "begin", "size", "left", "groups", "own"] "_law_one_row" (defScope (Hd.top 46)) (He.ga K "_law_one_row") cdv A outer s H E).A (cxOf (L2N.CX P w) P w K mg base ["more", "begin", "size", "left", "groups", "own"] "_law_one_row" (defScope (Hd.top 46)) (He.ga K "_law_one_row") cdv A outer s H E).env (cxOf (L2N.CX P w) P w K mg base ["more", "begin", "size", "left", "groups", "own"] "_law_one_row" (defScope (Hd.top 46)) (He.ga K "_law_one_row") cdv A outer s H E).xe := passes_of rfl
  have hu := hr.units
  exact (ss_cons (s_set 1 nd (d_idx o_idx tm_idx (d_lst (da_cons d_str (da_cons d_str (da_cons d_str (da_cons d_str (da_cons d_str (da_cons d_str (da_cons d_str (da_cons d_str (da_cons d_str (da_cons d_str da_nil))))))))))) (d_bin o_mod tm_mod (d_var 0) d_int)))
    (ss_cons (s_set 2 nd (d_bin o_add tm_add (d_callB (c_max2 rfl) tm_max2 (C.free 50) (by kernel_rfl) (da_cons d_int (da_cons (d_bin o_add tm_add (d_callB c_len tm_len (C.free 48) (by kernel_rfl) (da_cons (d_var 1) da_nil)) d_int) da_nil))) (d_bin o_mod tm_mod (d_bin o_fdiv tm_fdiv (d_var 0) d_int) (d_idx o_idx tm_idx (d_lst (da_cons d_int (da_cons d_int (da_cons d_int da_nil)))) (d_bin o_mod tm_mod (d_bin o_fdiv tm_fdiv (d_var 0) d_int) d_int)))))
    (ss_cons (s_parM 3 4 rfl nd (d_var 2) da_nil)
    (ss_cons (s_fgt [5] (s_while (fun _ => 40) po (dt_cmp o_gt tm_gt (d_var 3) d_int (nomark _)) (ss_beh [5] (ss_cons (s_set 5 nd (d_bin o_add tm_add d_int (d_bin o_mod tm_mod (d_fx (k := 1) (m := 1) tk hr G__law_drawn (da_cons (d_var 0) (da_cons (d_var 3) da_nil))) (d_callB (c_min2 rfl) tm_min2 (C.free 51) (by kernel_rfl) (da_cons (d_var 3) (da_cons d_int da_nil))))))
    (ss_cons (s_app 4 (d_var 5))
    (ss_one (s_set 3 nd (d_bin o_sub tm_sub (d_var 3) (d_var 5)))))))))
    (ss_frz 4 (ss_one (s_ret (d_tup (da_cons (d_idx o_idx tm_idx (d_lst (da_cons d_str (da_cons d_str (da_cons d_str da_nil)))) (d_bin o_mod tm_mod (d_bin o_fdiv tm_fdiv (d_var 0) d_int) d_int)) (da_cons (d_var 1) (da_cons (d_var 2) (da_cons (d_callTy c_tup tm_tup (C.free 57) (by kernel_rfl) (da_cons (d_var 4) da_nil)) da_nil))))))))))))
theorem sc__law_land : FnScope ["more", "code", "rows", "j", "row", "one"] ["more", "code"] (defScope (Hd.top 47)) := ⟨rfl, rfl, rfl, by decide +kernel, rfl, by decide +kernel, by decide +kernel⟩
theorem fx__law_land (C : RW K mg base) : FDx P w K mg base (TT K) 3 "_law_land" ["more", "code"] m__law_land := by
  have G__law_drawn := fx__law_drawn (P := P) (w := w) C
  have G__law_one_row := fx__law_one_row (P := P) (w := w) C
  have h1 : Hd.fn[22]? = some ⟨("_law_land", none), "_law_land", "_law_land", defArgs (Hd.top 47), defBody (Hd.top 47), defScope (Hd.top 47), [], []⟩ := by kernel_rfl
  have h2 : Hd.fa[22]? = some (.glo "_law_land") := by kernel_rfl
  have h3 : ∀ (kV doc pm : Value) (an : Option Addr) (cdv ct : Value) (us : List Value), us.length = (["more", "code"] : List Str).length → bindArgs (PySem.W.fnOf "_law_land" "_law_land" (defArgs (Hd.top 47)) (defBody (Hd.top 47)) (defScope (Hd.top 47)) .none kV doc pm an cdv ct) ⟨us, []⟩ = pure ((["more", "code"] : List Str).zip us) := by
    intro _ _ _ _ _ _ us hl
    match us, hl with
    | [_, _], _ => kernel_rfl
  have h4 := C.fd (P := P) (w := w) (T := TT K) (k := 2) (g := den__law_land) 22 22 h1 rfl rfl rfl h2 sc__law_land h3
  refine FDx.of_eq (h4 ?_) (by kernel_rfl)
  intro cdv A outer s H E hr
  have nd := sc__law_land.nd
  have tk : L2N.Takes (cxOf (L2N.CX P w) P w K mg base ["more", "code", "rows", "j", "row", "one"] "_law_land" (defScope (Hd.top 47)) (He.ga K "_law_land") cdv A outer s H E) (WD E) := L2N.takes_of rfl rfl rfl rfl
  have po : PassesOwn (model P w) (cxOf (L2N.CX P w) P w K mg base ["more", "code", "rows", "j", "row", "one"] "_law_land" (defScope (Hd.top 47)) (He.ga K "_law_land") cdv A outer s H E).A (cxOf (L2N.CX P w) P w K mg base ["more", "code", "rows", "j", "row", "one"] "_law_land" (defScope (Hd.top 47)) (He.ga K "_law_land") cdv A outer s H E).env (cxOf (L2N.CX P w) P w K mg base ["more", "code", "rows", "j", "row", "one"] "_law_land" (defScope (Hd.top 47)) (He.ga K "_law_land") cdv A outer s H E).xe := passes_of rfl
  have hu := hr.units
  exact (ss_cons (s_newM 2 nd da_nil)
    (ss_cons (s_beh [3, 4] (s_fgt [3, 4] (s_for (vs := [3]) po rfl (di_range1 (C.free 52) (da_cons (d_bin o_add tm_add d_int (d_bin o_mod tm_mod (d_var 0) d_int)) da_nil)) (g_nm 3 nd) (ss_beh [3, 4] (ss_cons (s_set 4 nd (d_fx (k := 2) (m := 2) tk hr G__law_one_row (da_cons (d_fx (k := 1) (m := 2) tk hr G__law_drawn (da_cons (d_var 0) (da_cons (d_var 3) da_nil))) da_nil)))
    (ss_one (s_if (dt_cmp (o_notIn hu) tm_notIn (d_sl (d_var 4) (do_some d_int) (do_some d_int)) (d_lcr (own := [("one", 5)]) exN rfl nd (di_ml 2) (blkOk_by (own := [("one", 5)]) (by kernel_rfl)) (fun _ _ _ _ _ => (g_nm 5 nd)) (fun _ _ _ _ _ => dts_nil) (fun _ _ _ _ _ => (d_sl (d_var 5) (do_some d_int) (do_some d_int)))) (by rfl)) (ss_one (s_app 2 (d_var 4))) ss_nil)))))))
    (ss_frz 2 (ss_one (s_ret (d_tup (da_cons (d_var 1) (da_cons (d_idx o_idx tm_idx (d_lst (da_cons d_str (da_cons d_str (da_cons d_str (da_cons d_str (da_cons d_str da_nil)))))) (d_bin o_mod tm_mod (d_bin o_fdiv tm_fdiv (d_var 0) d_int) d_int)) (da_cons (d_idx o_idx tm_idx (d_lst (da_cons d_str (da_cons d_str (da_cons d_str (da_cons d_str (da_cons d_str da_nil)))))) (d_bin o_mod tm_mod (d_bin o_fdiv tm_fdiv (d_var 0) d_int) d_int)) (da_cons (d_callTy c_tup tm_tup (C.free 57) (by kernel_rfl) (da_cons (d_var 2) da_nil)) da_nil))))))))))
theorem sc__law_book : FnScope ["more", "codes_all", "some", "j", "code"] ["more"] (defScope (Hd.top 48)) := ⟨rfl, rfl, rfl, by decide +kernel, rfl, by decide +kernel, by decide +kernel⟩
theorem fx__law_book (C : RW K mg base) : FDx P w K mg base (TT K) 4 "_law_book" ["more"] m__law_book := by
  have G__law_drawn := fx__law_drawn (P := P) (w := w) C
  have G__law_land := fx__law_land (P := P) (w := w) C
  have h1 : Hd.fn[23]? = some ⟨("_law_book", none), "_law_book", "_law_book", defArgs (Hd.top 48), defBody (Hd.top 48), defScope (Hd.top 48), [], []⟩ := by kernel_rfl
  have h2 : Hd.fa[23]? = some (.glo "_law_book") := by kernel_rfl
  have h3 : ∀ (kV doc pm : Value) (an : Option Addr) (cdv ct : Value) (us : List Value), us.length = (["more"] : List Str).length → bindArgs (PySem.W.fnOf "_law_book" "_law_book" (defArgs (Hd.top 48)) (defBody (Hd.top 48)) (defScope (Hd.top 48)) .none kV doc pm an cdv ct) ⟨us, []⟩ = pure ((["more"] : List Str).zip us) := by
    intro _ _ _ _ _ _ us hl
    match us, hl with
    | [_], _ => kernel_rfl
  have h4 := C.fd (P := P) (w := w) (T := TT K) (k := 3) (g := den__law_book) 23 23 h1 rfl rfl rfl h2 sc__law_book h3
  refine FDx.of_eq (h4 ?_) (by kernel_rfl)
  intro cdv A outer s H E hr
  have nd := sc__law_book.nd
  have tk : L2N.Takes (cxOf (L2N.CX P w) P w K mg base ["more", "codes_all", "some", "j", "code"] "_law_book" (defScope (Hd.top 48)) (He.ga K "_law_book") cdv A outer s H E) (WD E) := L2N.takes_of rfl rfl rfl rfl
  have po : PassesOwn (model P w) (cxOf (L2N.CX P w) P w K mg base ["more", "codes_all", "some", "j", "code"] "_law_book" (defScope (Hd.top 48)) (He.ga K "_law_book") cdv A outer s H E).A (cxOf (L2N.CX P w) P w K mg base ["more", "codes_all", "some", "j", "code"] "_law_book" (defScope (Hd.top 48)) (He.ga K "_law_book") cdv A outer s H E).env (cxOf (L2N.CX P w) P w K mg base ["more", "codes_all", "some", "j", "code"] "_law_book" (defScope (Hd.top 48)) (He.ga K "_law_book") cdv A outer s H E).xe := passes_of rfl
  have hu := hr.units
  exact (ss_cons (s_set 1 nd (d_lst (da_cons d_str (da_cons d_str (da_cons d_str (da_cons d_str (da_cons d_str (da_cons d_str (da_cons d_str da_nil)))))))))
    (ss_cons (s_set 2 nd (d_sl (d_lcr (own := [("j", 3), ("code", 4)]) exF rfl nd (di_enum (C.free 45) (da_cons (d_var 1) da_nil)) (blkOk_by (own := [("j", 3), ("code", 4)]) (by kernel_rfl)) (fun _ _ _ _ _ => (g_tp rfl (gs_cons (g_nm 3 nd) (gs_cons (g_nm 4 nd) gs_nil)))) (fun _ _ _ _ _ => (dts_one (dt_cmp (o_eq hu) tm_eq (d_bin o_mod tm_mod (d_fx (k := 1) (m := 3) takesN0 hr G__law_drawn (da_cons (d_var 0) (da_cons (d_var 3) da_nil))) d_int) d_int (nomark _)))) (fun _ _ _ _ _ => (d_var 4))) do_none (do_some d_int)))
    (ss_cons (s_set 2 nd (d_if (dt_cmp (o_ne hu) tm_ne (d_var 2) (d_lst da_nil) (nomark _)) (d_var 2) (d_lst (da_cons (d_idx o_idx tm_idx (d_var 1) (d_bin o_mod tm_mod (d_var 0) d_int)) da_nil))))
    (ss_one (s_ret (d_callTy c_tup tm_tup (C.free 57) (by kernel_rfl) (da_cons (d_lcr (own := [("j", 3), ("code", 4)]) exF rfl nd (di_enum (C.free 45) (da_cons (d_var 2) da_nil)) (blkOk_by (own := [("j", 3), ("code", 4)]) (by kernel_rfl)) (fun _ _ _ _ _ => (g_tp rfl (gs_cons (g_nm 3 nd) (gs_cons (g_nm 4 nd) gs_nil)))) (fun _ _ _ _ _ => dts_nil) (fun _ _ _ _ _ => (d_fx (k := 3) (m := 3) takesN0 hr G__law_land (da_cons (d_fx (k := 1) (m := 3) takesN0 hr G__law_drawn (da_cons (d_var 0) (da_cons (d_bin o_add tm_add d_int (d_var 3)) da_nil))) (da_cons (d_var 4) da_nil))))) da_nil)))))))
theorem sc__law_cell : FnScope ["script", "k"] ["script", "k"] (defScope (Hd.top 42)) := ⟨rfl, rfl, rfl, by decide +kernel, rfl, by decide +kernel, by decide +kernel⟩
theorem fx__law_cell (C : RW K mg base) : FDx P w K mg base (TT K) 1 "_law_cell" ["script", "k"] m__law_cell := by
  have h1 : Hd.fn[17]? = some ⟨("_law_cell", none), "_law_cell", "_law_cell", defArgs (Hd.top 42), defBody (Hd.top 42), defScope (Hd.top 42), [], []⟩ := by kernel_rfl
  have h2 : Hd.fa[17]? = some (.glo "_law_cell") := by kernel_rfl
  have h3 : ∀ (kV doc pm : Value) (an : Option Addr) (cdv ct : Value) (us : List Value), us.length = (["script", "k"] : List Str).length → bindArgs (PySem.W.fnOf "_law_cell" "_law_cell" (defArgs (Hd.top 42)) (defBody (Hd.top 42)) (defScope (Hd.top 42)) .none kV doc pm an cdv ct) ⟨us, []⟩ = pure ((["script", "k"] : List Str).zip us) := by
    intro _ _ _ _ _ _ us hl
    match us, hl with
    | [_, _], _ => kernel_rfl
  have h4 := C.fd (P := P) (w := w) (T := TT K) (k := 0) (g := den__law_cell) 17 17 h1 rfl rfl rfl h2 sc__law_cell h3
  refine FDx.of_eq (h4 ?_) (by kernel_rfl)
  intro cdv A outer s H E hr
  have nd := sc__law_cell.nd
  have tk : L2N.Takes (cxOf (L2N.CX P w) P w K mg base ["script", "k"] "_law_cell" (defScope (Hd.top 42)) (He.ga K "_law_cell") cdv A outer s H E) (WD E) := L2N.takes_of rfl rfl rfl rfl
  have po : PassesOwn (model P w) (cxOf (L2N.CX P w) P w K mg base ["script", "k"] "_law_cell" (defScope (Hd.top 42)) (He.ga K "_law_cell") cdv A outer s H E).A (cxOf (L2N.CX P w) P w K mg base ["script", "k"] "_law_cell" (defScope (Hd.top 42)) (He.ga K "_law_cell") cdv A outer s H E).env (cxOf (L2N.CX P w) P w K mg base ["script", "k"] "_law_cell" (defScope (Hd.top 42)) (He.ga K "_law_cell") cdv A outer s H E).xe := passes_of rfl
  have hu := hr.units
  exact (ss_cons (s_if (dt_cmp (o_eq hu) tm_eq (d_var 0) (d_lst da_nil) (nomark _)) (ss_one (s_ret (d_bin o_mul tm_mul (d_var 1) d_int))) ss_nil)
    (ss_one (s_ret (d_bin o_add tm_add (d_idx o_idx tm_idx (d_var 0) (d_bin o_mod tm_mod (d_var 1) (d_callB c_len tm_len (C.free 48) (by kernel_rfl) (da_cons (d_var 0) da_nil)))) (d_bin o_mul tm_mul (d_bin o_fdiv tm_fdiv (d_var 1) (d_callB c_len tm_len (C.free 48) (by kernel_rfl) (da_cons (d_var 0) da_nil))) d_int)))))
theorem sc__law_moved : FnScope ["moves", "number", "own", "code", "begin", "new", "size"] ["moves", "number"] (defScope (Hd.top 55)) := ⟨rfl, rfl, rfl, by decide +kernel, rfl, by decide +kernel, by decide +kernel⟩
theorem fx__law_moved (C : RW K mg base) : FDx P w K mg base (TT K) 1 "_law_moved" ["moves", "number"] m__law_moved := by
  have h1 : Hd.fn[30]? = some ⟨("_law_moved", none), "_law_moved", "_law_moved", defArgs (Hd.top 55), defBody (Hd.top 55), defScope (Hd.top 55), [], []⟩ := by kernel_rfl
  have h2 : Hd.fa[30]? = some (.glo "_law_moved") := by kernel_rfl
  have h3 : ∀ (kV doc pm : Value) (an : Option Addr) (cdv ct : Value) (us : List Value), us.length = (["moves", "number"] : List Str).length → bindArgs (PySem.W.fnOf "_law_moved" "_law_moved" (defArgs (Hd.top 55)) (defBody (Hd.top 55)) (defScope (Hd.top 55)) .none kV doc pm an cdv ct) ⟨us, []⟩ = pure ((["moves", "number"] : List Str).zip us) := by
    intro _ _ _ _ _ _ us hl
    match us, hl with
    | [_, _], _ => kernel_rfl
  have h4 := C.fd (P := P) (w := w) (T := TT K) (k := 0) (g := den__law_moved) 30 30 h1 rfl rfl rfl h2 sc__law_moved h3
  refine FDx.of_eq (h4 ?_) (by kernel_rfl)
  intro cdv A outer s H E hr
  have nd := sc__law_moved.nd
  have tk : L2N.Takes (cxOf (L2N.CX P w) P w K mg base ["moves", "number", "own", "code", "begin", "new", "size"] "_law_moved" (defScope (Hd.top 55)) (He.ga K "_law_moved") cdv A outer s H E) (WD E) := L2N.takes_of rfl rfl rfl rfl
  have po : PassesOwn (model P w) (cxOf (L2N.CX P w) P w K mg base ["moves", "number", "own", "code", "begin", "new", "size"] "_law_moved" (defScope (Hd.top 55)) (He.ga K "_law_moved") cdv A outer s H E).A (cxOf (L2N.CX P w) P w K mg base ["moves", "number", "own", "code", "begin", "new", "size"] "_law_moved" (defScope (Hd.top 55)) (He.ga K "_law_moved") cdv A outer s H E).env (cxOf (L2N.CX P w) P w K mg base ["moves", "number", "own", "code", "begin", "new", "size"] "_law_moved" (defScope (Hd.top 55)) (He.ga K "_law_moved") cdv A outer s H E).xe := passes_of rfl
  have hu := hr.units
  exact (ss_cons (s_newM 2 nd da_nil)
    (ss_cons (s_beh [3, 4, 5] (s_fgt [3, 4, 5] (s_for (vs := [3, 4, 5]) po rfl (di_of (d_var 0)) (g_tp rfl (gs_cons (g_nm 3 nd) (gs_cons (g_nm 4 nd) (gs_cons (g_nm 5 nd) gs_nil)))) (ss_beh [3, 4, 5] (ss_one (s_if (dt_w (dw_and (dt_cmp (o_eq hu) tm_eq (d_var 3) (d_idx o_idx tm_idx (d_var 1) d_int) (nomark _)) (dw_and1 (dt_cmp (o_eq hu) tm_eq (d_sl (d_idx o_idx tm_idx (d_var 1) d_int) do_none (do_some (d_callB c_len tm_len (C.free 48) (by kernel_rfl) (da_cons (d_var 4) da_nil)))) (d_var 4) (nomark _))))) (ss_one (s_app 2 (d_tup (da_cons (d_callB c_len tm_len (C.free 48) (by kernel_rfl) (da_cons (d_var 4) da_nil)) (da_cons (d_var 4) (da_cons (d_var 5) da_nil)))))) ss_nil))))))
    (ss_frz 2 (ss_cons (s_if (dt_cmp (o_eq hu) tm_eq (d_var 2) (d_lst da_nil) (nomark _)) (ss_one (s_ret (d_var 1))) ss_nil)
    (ss_cons (s_asg (vs := [6, 4, 5]) (d_idx o_idx tm_idx (d_callB (c_sorted hu) tm_sorted (C.free 54) (by kernel_rfl) (da_cons (d_var 2) da_nil)) (d_neg d_int)) (g_tp rfl (gs_cons (g_nm 6 nd) (gs_cons (g_nm 4 nd) (gs_cons (g_nm 5 nd) gs_nil)))))
    (ss_one (s_ret (d_tup (da_cons (d_idx o_idx tm_idx (d_var 1) d_int) (da_cons (d_bin o_add tm_add (d_var 5) (d_sl (d_idx o_idx tm_idx (d_var 1) d_int) (do_some (d_var 6)) do_none)) da_nil))))))))))
theorem sc__law_digits : FnScope ["more", "row", "j"] ["more", "row"] (defScope (Hd.top 52)) := ⟨rfl, rfl, rfl, by decide +kernel, rfl, by decide +kernel, by decide +kernel⟩
theorem fx__law_digits (C : RW K mg base) : FDx P w K mg base (TT K) 2 "_law_digits" ["more", "row"] m__law_digits := by
  have G__law_drawn := fx__law_drawn (P := P) (w := w) C
  have h1 : Hd.fn[27]? = some ⟨("_law_digits", none), "_law_digits", "_law_digits", defArgs (Hd.top 52), defBody (Hd.top 52), defScope (Hd.top 52), [], []⟩ := by kernel_rfl
  have h2 : Hd.fa[27]? = some (.glo "_law_digits") := by kernel_rfl
  have h3 : ∀ (kV doc pm : Value) (an : Option Addr) (cdv ct : Value) (us : List Value), us.length = (["more", "row"] : List Str).length → bindArgs (PySem.W.fnOf "_law_digits" "_law_digits" (defArgs (Hd.top 52)) (defBody (Hd.top 52)) (defScope (Hd.top 52)) .none kV doc pm an cdv ct) ⟨us, []⟩ = pure ((["more", "row"] : List Str).zip us) := by
    intro _ _ _ _ _ _ us hl
    match us, hl with
    | [_, _], _ => kernel_rfl
  have h4 := C.fd (P := P) (w := w) (T := TT K) (k := 1) (g := den__law_digits) 27 27 h1 rfl rfl rfl h2 sc__law_digits h3
  refine FDx.of_eq (h4 ?_) (by kernel_rfl)
  intro cdv A outer s H E hr
  have nd := sc__law_digits.nd
  have tk : L2N.Takes (cxOf (L2N.CX P w) P w K mg base ["more", "row", "j"] "_law_digits" (defScope (Hd.top 52)) (He.ga K "_law_digits") cdv A outer s H E) (WD E) := L2N.takes_of rfl rfl rfl rfl
  have po : PassesOwn (model P w) (cxOf (L2N.CX P w) P w K mg base ["more", "row", "j"] "_law_digits" (defScope (Hd.top 52)) (He.ga K "_law_digits") cdv A outer s H E).A (cxOf (L2N.CX P w) P w K mg base ["more", "row", "j"] "_law_digits" (defScope (Hd.top 52)) (He.ga K "_law_digits") cdv A outer s H E).env (cxOf (L2N.CX P w) P w K mg base ["more", "row", "j"] "_law_digits" (defScope (Hd.top 52)) (He.ga K "_law_digits") cdv A outer s H E).xe := passes_of rfl
  have hu := hr.units
  exact (ss_one (s_ret (d_bin o_add tm_add (d_idx o_idx tm_idx (d_var 1) d_int) (d_mt PySem.F.plainAttrs_str PySem.F.slot_str_join PySem.F.type_str_join c_join tm_join d_str (da_cons (d_lcr (own := [("j", 2)]) exF rfl nd (di_range1 (C.free 52) (da_cons (d_bin o_sub tm_sub (d_idx o_idx tm_idx (d_var 1) d_int) (d_callB c_len tm_len (C.free 48) (by kernel_rfl) (da_cons (d_idx o_idx tm_idx (d_var 1) d_int) da_nil))) da_nil)) (blkOk_by (own := [("j", 2)]) (by kernel_rfl)) (fun _ _ _ _ _ => (g_nm 2 nd)) (fun _ _ _ _ _ => dts_nil) (fun _ _ _ _ _ => (d_callTy c_str tm_str (C.free 55) (by kernel_rfl) (da_cons (d_bin o_mod tm_mod (d_bin o_fdiv tm_fdiv (d_fx (k := 1) (m := 1) takesN0 hr G__law_drawn (da_cons (d_var 0) (da_cons (d_var 2) da_nil))) d_int) (d_idx o_idx tm_idx (d_lst (da_cons d_int (da_cons d_int da_nil))) (d_bin o_mod tm_mod (d_var 0) d_int))) da_nil)))) da_nil)))))
theorem sc__law_number : FnScope ["book", "more", "land"] ["book", "more"] (defScope (Hd.top 53)) := ⟨rfl, rfl, rfl, by decide +kernel, rfl, by decide +kernel, by decide +kernel⟩
theorem fx__law_number (C : RW K mg base) : FDx P w K mg base (TT K) 3 "_law_number" ["book", "more"] m__law_number := by
  have G__law_digits := fx__law_digits (P := P) (w := w) C
  have G__law_drawn := fx__law_drawn (P := P) (w := w) C
  have h1 : Hd.fn[28]? = some ⟨("_law_number", none), "_law_number", "_law_number", defArgs (Hd.top 53), defBody (Hd.top 53), defScope (Hd.top 53), [], []⟩ := by kernel_rfl
  have h2 : Hd.fa[28]? = some (.glo "_law_number") := by kernel_rfl
  have h3 : ∀ (kV doc pm : Value) (an : Option Addr) (cdv ct : Value) (us : List Value), us.length = (["book", "more"] : List Str).length → bindArgs (PySem.W.fnOf "_law_number" "_law_number" (defArgs (Hd.top 53)) (defBody (Hd.top 53)) (defScope (Hd.top 53)) .none kV doc pm an cdv ct) ⟨us, []⟩ = pure ((["book", "more"] : List Str).zip us) := by
    intro _ _ _ _ _ _ us hl
    match us, hl with
    | [_, _], _ => kernel_rfl
  have h4 := C.fd (P := P) (w := w) (T := TT K) (k := 2) (g := den__law_number) 28 28 h1 rfl rfl rfl h2 sc__law_number h3
  refine FDx.of_eq (h4 ?_) (by kernel_rfl)
  intro cdv A outer s H E hr
  have nd := sc__law_number.nd
  have tk : L2N.Takes (cxOf (L2N.CX P w) P w K mg base ["book", "more", "land"] "_law_number" (defScope (Hd.top 53)) (He.ga K "_law_number") cdv A outer s H E) (WD E) := L2N.takes_of rfl rfl rfl rfl
  have po : PassesOwn (model P w) (cxOf (L2N.CX P w) P w K mg base ["book", "more", "land"] "_law_number" (defScope (Hd.top 53)) (He.ga K "_law_number") cdv A outer s H E).A (cxOf (L2N.CX P w) P w K mg base ["book", "more", "land"] "_law_number" (defScope (Hd.top 53)) (He.ga K "_law_number") cdv A outer s H E).env (cxOf (L2N.CX P w) P w K mg base ["book", "more", "land"] "_law_number" (defScope (Hd.top 53)) (He.ga K "_law_number") cdv A outer s H E).xe := passes_of rfl
  have hu := hr.units
  exact (ss_cons (s_set 2 nd (d_idx o_idx tm_idx (d_var 0) (d_bin o_mod tm_mod (d_var 1) (d_callB c_len tm_len (C.free 48) (by kernel_rfl) (da_cons (d_var 0) da_nil)))))
    (ss_one (s_ret (d_tup (da_cons (d_idx o_idx tm_idx (d_var 2) d_int) (da_cons (d_fx (k := 2) (m := 2) tk hr G__law_digits (da_cons (d_fx (k := 1) (m := 2) tk hr G__law_drawn (da_cons (d_var 1) (da_cons d_int da_nil))) (da_cons (d_idx o_idx tm_idx (d_idx o_idx tm_idx (d_var 2) d_int) (d_bin o_mod tm_mod (d_bin o_fdiv tm_fdiv (d_var 1) d_int) (d_callB c_len tm_len (C.free 48) (by kernel_rfl) (da_cons (d_idx o_idx tm_idx (d_var 2) d_int) da_nil)))) da_nil))) da_nil))))))
theorem sc__law_moves : FnScope ["book", "more", "found", "j", "here", "number", "move", "one"] ["book", "more"] (defScope (Hd.top 54)) := ⟨rfl, rfl, rfl, by decide +kernel, rfl, by decide +kernel, by decide +kernel⟩
theorem fx__law_moves (C : RW K mg base) : FDx P w K mg base (TT K) 4 "_law_moves" ["book", "more"] m__law_moves := by
  have G__law_drawn := fx__law_drawn (P := P) (w := w) C
  have G__law_number := fx__law_number (P := P) (w := w) C
  have h1 : Hd.fn[29]? = some ⟨("_law_moves", none), "_law_moves", "_law_moves", defArgs (Hd.top 54), defBody (Hd.top 54), defScope (Hd.top 54), [], []⟩ := by kernel_rfl
  have h2 : Hd.fa[29]? = some (.glo "_law_moves") := by kernel_rfl
  have h3 : ∀ (kV doc pm : Value) (an : Option Addr) (cdv ct : Value) (us : List Value), us.length = (["book", "more"] : List Str).length → bindArgs (PySem.W.fnOf "_law_moves" "_law_moves" (defArgs (Hd.top 54)) (defBody (Hd.top 54)) (defScope (Hd.top 54)) .none kV doc pm an cdv ct) ⟨us, []⟩ = pure ((["book", "more"] : List Str).zip us) := by
    intro _ _ _ _ _ _ us hl
    match us, hl with
    | [_, _], _ => kernel_rfl
  have h4 := C.fd (P := P) (w := w) (T := TT K) (k := 3) (g := den__law_moves) 29 29 h1 rfl rfl rfl h2 sc__law_moves h3
  refine FDx.of_eq (h4 ?_) (by kernel_rfl)
  intro cdv A outer s H E hr
  have nd := sc__law_moves.nd
  have tk : L2N.Takes (cxOf (L2N.CX P w) P w K mg base ["book", "more", "found", "j", "here", "number", "move", "one"] "_law_moves" (defScope (Hd.top 54)) (He.ga K "_law_moves") cdv A outer s H E) (WD E) := L2N.takes_of rfl rfl rfl rfl
  have po : PassesOwn (model P w) (cxOf (L2N.CX P w) P w K mg base ["book", "more", "found", "j", "here", "number", "move", "one"] "_law_moves" (defScope (Hd.top 54)) (He.ga K "_law_moves") cdv A outer s H E).A (cxOf (L2N.CX P w) P w K mg base ["book", "more", "found", "j", "here", "number", "move", "one"] "_law_moves" (defScope (Hd.top 54)) (He.ga K "_law_moves") cdv A outer s H E).env (cxOf (L2N.CX P w) P w K mg base ["book", "more", "found", "j", "here", "number", "move", "one"] "_law_moves" (defScope (Hd.top 54)) (He.ga K "_law_moves") cdv A outer s H E).xe := passes_of rfl
  have hu := hr.units
  exact (ss_cons (s_newM 2 nd da_nil)
    (ss_cons (s_beh [3, 4, 5, 6] (s_fgt [3, 4, 5, 6] (s_for (vs := [3]) po rfl (di_range1 (C.free 52) (da_cons (d_bin o_mod tm_mod (d_var 1) d_int) da_nil)) (g_nm 3 nd) (ss_beh [3, 4, 5, 6] (ss_cons (s_set 4 nd (d_fx (k := 1) (m := 3) tk hr G__law_drawn (da_cons (d_var 1) (da_cons (d_bin o_add tm_add d_int (d_var 3)) da_nil))))
    (ss_cons (s_set 5 nd (d_fx (k := 3) (m := 3) tk hr G__law_number (da_cons (d_var 0) (da_cons (d_var 4) da_nil))))
    (ss_cons (s_set 6 nd (d_tup (da_cons (d_idx o_idx tm_idx (d_var 5) d_int) (da_cons (d_sl (d_idx o_idx tm_idx (d_var 5) d_int) do_none (do_some (d_bin o_mod tm_mod (d_bin o_fdiv tm_fdiv (d_var 4) d_int) d_int))) (da_cons (d_idx o_idx tm_idx (d_lst (da_cons d_str (da_cons d_str (da_cons d_str (da_cons (d_sl (d_idx o_idx tm_idx (d_var 5) d_int) do_none (do_some d_int)) (da_cons d_str (da_cons d_str da_nil))))))) (d_bin o_mod tm_mod (d_bin o_fdiv tm_fdiv (d_var 4) d_int) d_int)) da_nil)))))
    (ss_one (s_if (dt_cmp (o_notIn hu) tm_notIn (d_sl (d_var 6) do_none (do_some d_int)) (d_lcr (own := [("one", 7)]) exN rfl nd (di_ml 2) (blkOk_by (own := [("one", 7)]) (by kernel_rfl)) (fun _ _ _ _ _ => (g_nm 7 nd)) (fun _ _ _ _ _ => dts_nil) (fun _ _ _ _ _ => (d_sl (d_var 7) do_none (do_some d_int)))) (by rfl)) (ss_one (s_app 2 (d_var 6))) ss_nil)))))))))
    (ss_frz 2 (ss_one (s_ret (d_var 2))))))
theorem sc__law_at_code : FnScope ["book", "code", "land"] ["book", "code"] (defScope (Hd.top 50)) := ⟨rfl, rfl, rfl, by decide +kernel, rfl, by decide +kernel, by decide +kernel⟩
theorem fx__law_at_code (C : RW K mg base) : FDx P w K mg base (TT K) 1 "_law_at_code" ["book", "code"] m__law_at_code := by
  have h1 : Hd.fn[25]? = some ⟨("_law_at_code", none), "_law_at_code", "_law_at_code", defArgs (Hd.top 50), defBody (Hd.top 50), defScope (Hd.top 50), [], []⟩ := by kernel_rfl
  have h2 : Hd.fa[25]? = some (.glo "_law_at_code") := by kernel_rfl
  have h3 : ∀ (kV doc pm : Value) (an : Option Addr) (cdv ct : Value) (us : List Value), us.length = (["book", "code"] : List Str).length → bindArgs (PySem.W.fnOf "_law_at_code" "_law_at_code" (defArgs (Hd.top 50)) (defBody (Hd.top 50)) (defScope (Hd.top 50)) .none kV doc pm an cdv ct) ⟨us, []⟩ = pure ((["book", "code"] : List Str).zip us) := by
    intro _ _ _ _ _ _ us hl
    match us, hl with
    | [_, _], _ => kernel_rfl
  have h4 := C.fd (P := P) (w := w) (T := TT K) (k := 0) (g := den__law_at_code) 25 25 h1 rfl rfl rfl h2 sc__law_at_code h3
  refine FDx.of_eq (h4 ?_) (by kernel_rfl)
  intro cdv A outer s H E hr
  have nd := sc__law_at_code.nd
  have tk : L2N.Takes (cxOf (L2N.CX P w) P w K mg base ["book", "code", "land"] "_law_at_code" (defScope (Hd.top 50)) (He.ga K "_law_at_code") cdv A outer s H E) (WD E) := L2N.takes_of rfl rfl rfl rfl
  have po : PassesOwn (model P w) (cxOf (L2N.CX P w) P w K mg base ["book", "code", "land"] "_law_at_code" (defScope (Hd.top 50)) (He.ga K "_law_at_code") cdv A outer s H E).A (cxOf (L2N.CX P w) P w K mg base ["book", "code", "land"] "_law_at_code" (defScope (Hd.top 50)) (He.ga K "_law_at_code") cdv A outer s H E).env (cxOf (L2N.CX P w) P w K mg base ["book", "code", "land"] "_law_at_code" (defScope (Hd.top 50)) (He.ga K "_law_at_code") cdv A outer s H E).xe := passes_of rfl
  have hu := hr.units
  exact (ss_one (s_ret (d_idx o_idx tm_idx (d_bin o_add tm_add (d_lcr (own := [("land", 2)]) exF rfl nd (di_of (d_var 0)) (blkOk_by (own := [("land", 2)]) (by kernel_rfl)) (fun _ _ _ _ _ => (g_nm 2 nd)) (fun _ _ _ _ _ => (dts_one (dt_cmp (o_eq hu) tm_eq (d_idx o_idx tm_idx (d_var 2) d_int) (d_var 1) (nomark _)))) (fun _ _ _ _ _ => (d_var 2))) (d_lst (da_cons d_non da_nil))) d_int)))
theorem sc__law_row_of : FnScope ["land", "digits", "rows", "row"] ["land", "digits"] (defScope (Hd.top 49)) := ⟨rfl, rfl, rfl, by decide +kernel, rfl, by decide +kernel, by decide +kernel⟩
theorem fx__law_row_of (C : RW K mg base) : FDx P w K mg base (TT K) 1 "_law_row_of" ["land", "digits"] m__law_row_of := by
  have h1 : Hd.fn[24]? = some ⟨("_law_row_of", none), "_law_row_of", "_law_row_of", defArgs (Hd.top 49), defBody (Hd.top 49), defScope (Hd.top 49), [], []⟩ := by kernel_rfl
  have h2 : Hd.fa[24]? = some (.glo "_law_row_of") := by kernel_rfl
  have h3 : ∀ (kV doc pm : Value) (an : Option Addr) (cdv ct : Value) (us : List Value), us.length = (["land", "digits"] : List Str).length → bindArgs (PySem.W.fnOf "_law_row_of" "_law_row_of" (defArgs (Hd.top 49)) (defBody (Hd.top 49)) (defScope (Hd.top 49)) .none kV doc pm an cdv ct) ⟨us, []⟩ = pure ((["land", "digits"] : List Str).zip us) := by
    intro _ _ _ _ _ _ us hl
    match us, hl with
    | [_, _], _ => kernel_rfl
  have h4 := C.fdT (P := P) (w := w) (T := TT K) (k := 0) (g := den__law_row_of) 24 24 h1 rfl rfl rfl h2 sc__law_row_of h3
  refine FDx.of_eq (h4 ?_) (by kernel_rfl)
  intro A outer s H E hr
  have nd := sc__law_row_of.nd
  have tk : L2N.Takes (cxOf (L2N.CX P w) P w K mg base ["land", "digits", "rows", "row"] "_law_row_of" (defScope (Hd.top 49)) (He.ga K "_law_row_of") (.ref (He.cT K ("_law_row_of", none)).1) A outer s H E) (WD E) := L2N.takes_of rfl rfl rfl rfl
  have po : PassesOwn (model P w) (cxOf (L2N.CX P w) P w K mg base ["land", "digits", "rows", "row"] "_law_row_of" (defScope (Hd.top 49)) (He.ga K "_law_row_of") (.ref (He.cT K ("_law_row_of", none)).1) A outer s H E).A (cxOf (L2N.CX P w) P w K mg base ["land", "digits", "rows", "row"] "_law_row_of" (defScope (Hd.top 49)) (He.ga K "_law_row_of") (.ref (He.cT K ("_law_row_of", none)).1) A outer s H E).env (cxOf (L2N.CX P w) P w K mg base ["land", "digits", "rows", "row"] "_law_row_of" (defScope (Hd.top 49)) (He.ga K "_law_row_of") (.ref (He.cT K ("_law_row_of", none)).1) A outer s H E).xe := passes_of rfl
  have hu := hr.units
  have TB := C.tab 0 (p := ("_law_row_of", none)) (q := (cxOf (L2N.CX P w) P w K mg base ["land", "digits", "rows", "row"] "_law_row_of" (defScope (Hd.top 49)) (He.ga K "_law_row_of") (.ref (He.cT K ("_law_row_of", none)).1) A outer s H E).env.qual ++ "<lambda>") (by kernel_rfl)
  have hmT := C.mem 0 (p := ("_law_row_of", none)) (q := (cxOf (L2N.CX P w) P w K mg base ["land", "digits", "rows", "row"] "_law_row_of" (defScope (Hd.top 49)) (He.ga K "_law_row_of") (.ref (He.cT K ("_law_row_of", none)).1) A outer s H E).env.qual ++ "<lambda>") (by kernel_rfl)
  have huT := C.one 0 (p := ("_law_row_of", none)) (q := (cxOf (L2N.CX P w) P w K mg base ["land", "digits", "rows", "row"] "_law_row_of" (defScope (Hd.top 49)) (He.ga K "_law_row_of") (.ref (He.cT K ("_law_row_of", none)).1) A outer s H E).env.qual ++ "<lambda>") (by kernel_rfl)
  exact (ss_cons (s_setLcr 2 (own := [("row", 3)]) exF rfl nd (di_of (d_idx o_idx tm_idx (d_var 0) d_int)) (blkOk_by (own := [("row", 3)]) (by kernel_rfl)) (fun _ _ _ _ _ => (g_nm 3 nd)) (fun _ _ _ _ _ => (dts_one (dt_w (dw_and (dt_cmp (o_eq hu) tm_eq (d_idx o_idx tm_idx (d_var 3) d_int) (d_callB c_len tm_len (C.free 48) (by kernel_rfl) (da_cons (d_var 1) da_nil)) (nomark _)) (dw_and1 (dt_cmp (o_eq hu) tm_eq (d_sl (d_var 1) do_none (do_some (d_callB c_len tm_len (C.free 48) (by kernel_rfl) (da_cons (d_idx o_idx tm_idx (d_var 3) d_int) da_nil)))) (d_idx o_idx tm_idx (d_var 3) d_int) (nomark _))))))) (fun _ _ _ _ _ => (d_var 3)) (sw_true rfl (by kernel_rfl) rfl (by kernel_rfl)))
    (ss_one (s_ret (d_if (dt_cmp (o_ne hu) tm_ne (d_var 2) (d_lst da_nil) (nomark _)) (d_idx o_idx tm_idx (d_sortLen hu TB rfl hmT huT hr (C.free 54) (C.free 48) (d_var 2)) (d_neg d_int)) d_non))))
theorem sc__law_ok : FnScope ["book", "number", "land"] ["book", "number"] (defScope (Hd.top 51)) := ⟨rfl, rfl, rfl, by decide +kernel, rfl, by decide +kernel, by decide +kernel⟩
theorem fx__law_ok (C : RW K mg base) : FDx P w K mg base (TT K) 2 "_law_ok" ["book", "number"] m__law_ok := by
  have G__law_at_code := fx__law_at_code (P := P) (w := w) C
  have G__law_row_of := fx__law_row_of (P := P) (w := w) C
  have h1 : Hd.fn[26]? = some ⟨("_law_ok", none), "_law_ok", "_law_ok", defArgs (Hd.top 51), defBody (Hd.top 51), defScope (Hd.top 51), [], []⟩ := by kernel_rfl
  have h2 : Hd.fa[26]? = some (.glo "_law_ok") := by kernel_rfl
  have h3 : ∀ (kV doc pm : Value) (an : Option Addr) (cdv ct : Value) (us : List Value), us.length = (["book", "number"] : List Str).length → bindArgs (PySem.W.fnOf "_law_ok" "_law_ok" (defArgs (Hd.top 51)) (defBody (Hd.top 51)) (defScope (Hd.top 51)) .none kV doc pm an cdv ct) ⟨us, []⟩ = pure ((["book", "number"] : List Str).zip us) := by
    intro _ _ _ _ _ _ us hl
    match us, hl with
    | [_, _], _ => kernel_rfl
  have h4 := C.fd (P := P) (w := w) (T := TT K) (k := 1) (g := den__law_ok) 26 26 h1 rfl rfl rfl h2 sc__law_ok h3
  refine FDx.of_eq (h4 ?_) (by kernel_rfl)
  intro cdv A outer s H E hr
  have nd := sc__law_ok.nd
  have tk : L2N.Takes (cxOf (L2N.CX P w) P w K mg base ["book", "number", "land"] "_law_ok" (defScope (Hd.top 51)) (He.ga K "_law_ok") cdv A outer s H E) (WD E) := L2N.takes_of rfl rfl rfl rfl
  have po : PassesOwn (model P w) (cxOf (L2N.CX P w) P w K mg base ["book", "number", "land"] "_law_ok" (defScope (Hd.top 51)) (He.ga K "_law_ok") cdv A outer s H E).A (cxOf (L2N.CX P w) P w K mg base ["book", "number", "land"] "_law_ok" (defScope (Hd.top 51)) (He.ga K "_law_ok") cdv A outer s H E).env (cxOf (L2N.CX P w) P w K mg base ["book", "number", "land"] "_law_ok" (defScope (Hd.top 51)) (He.ga K "_law_ok") cdv A outer s H E).xe := passes_of rfl
  have hu := hr.units
  exact (ss_cons (s_set 2 nd (d_fx (k := 1) (m := 1) tk hr G__law_at_code (da_cons (d_var 0) (da_cons (d_idx o_idx tm_idx (d_var 1) d_int) da_nil))))
    (ss_one (s_ret (d_and (d_cmp o_isNot tm_isNot (d_var 2) d_non (nomark _)) (d_one (d_cmp o_isNot tm_isNot (d_fx (k := 1) (m := 1) tk hr G__law_row_of (da_cons (d_var 2) (da_cons (d_idx o_idx tm_idx (d_var 1) d_int) da_nil))) d_non (nomark _)))))))
theorem sc_is_figures : FnScope ["thing", "low", "high", "sign"] ["thing", "low", "high"] (defScope (Hd.top 22)) := ⟨rfl, rfl, rfl, by decide +kernel, rfl, by decide +kernel, by decide +kernel⟩
theorem fx_is_figures (C : RW K mg base) : FDx P w K mg base (TT K) 1 "is_figures" ["thing", "low", "high"] m_is_figures := by
  have h1 : Hd.fn[1]? = some ⟨("is_figures", none), "is_figures", "is_figures", defArgs (Hd.top 22), defBody (Hd.top 22), defScope (Hd.top 22), [], []⟩ := by kernel_rfl
  have h2 : Hd.fa[1]? = some (.glo "is_figures") := by kernel_rfl
  have h3 : ∀ (kV doc pm : Value) (an : Option Addr) (cdv ct : Value) (us : List Value), us.length = (["thing", "low", "high"] : List Str).length → bindArgs (PySem.W.fnOf "is_figures" "is_figures" (defArgs (Hd.top 22)) (defBody (Hd.top 22)) (defScope (Hd.top 22)) .none kV doc pm an cdv ct) ⟨us, []⟩ = pure ((["thing", "low", "high"] : List Str).zip us) := by
    intro _ _ _ _ _ _ us hl
    match us, hl with
    | [_, _, _], _ => kernel_rfl
  have h4 := C.fd (P := P) (w := w) (T := TT K) (k := 0) (g := den_is_figures) 1 1 h1 rfl rfl rfl h2 sc_is_figures h3
  refine FDx.of_eq (h4 ?_) (by kernel_rfl)
  intro cdv A outer s H E hr
  have nd := sc_is_figures.nd
  have tk : L2N.Takes (cxOf (L2N.CX P w) P w K mg base ["thing", "low", "high", "sign"] "is_figures" (defScope (Hd.top 22)) (He.ga K "is_figures") cdv A outer s H E) (WD E) := L2N.takes_of rfl rfl rfl rfl
  have po : PassesOwn (model P w) (cxOf (L2N.CX P w) P w K mg base ["thing", "low", "high", "sign"] "is_figures" (defScope (Hd.top 22)) (He.ga K "is_figures") cdv A outer s H E).A (cxOf (L2N.CX P w) P w K mg base ["thing", "low", "high", "sign"] "is_figures" (defScope (Hd.top 22)) (He.ga K "is_figures") cdv A outer s H E).env (cxOf (L2N.CX P w) P w K mg base ["thing", "low", "high", "sign"] "is_figures" (defScope (Hd.top 22)) (He.ga K "is_figures") cdv A outer s H E).xe := passes_of rfl
  have hu := hr.units
  exact (ss_one (s_ret (d_and (d_isi (C.free 47) (C.free 55) boot_str (d_var 0)) (d_and (d_ch o_le tm_le o_le tm_le B_le (d_var 1) (d_callB c_len tm_len (C.free 48) (by kernel_rfl) (da_cons (d_var 0) da_nil)) (d_var 2)) (d_one (d_callB (c_all rfl) tm_all (C.free 43) (by kernel_rfl) (da_cons (d_lcr (own := [("sign", 3)]) exF rfl nd (di_of (d_var 0)) (blkOk_by (own := [("sign", 3)]) (by kernel_rfl)) (fun _ _ _ _ _ => (g_nm 3 nd)) (fun _ _ _ _ _ => dts_nil) (fun _ _ _ _ _ => (d_cmp (o_in hu) tm_in (d_var 3) (d_gstr (C.str 61)) (by rfl)))) da_nil)))))))
theorem sc_land_of : FnScope ["book", "code", "found", "land"] ["book", "code"] (defScope (Hd.top 28)) := ⟨rfl, rfl, rfl, by decide +kernel, rfl, by decide +kernel, by decide +kernel⟩
theorem fx_land_of (C : RW K mg base) : FDx P w K mg base (TT K) 1 "land_of" ["book", "code"] m_land_of := by
  have h1 : Hd.fn[7]? = some ⟨("land_of", none), "land_of", "land_of", defArgs (Hd.top 28), defBody (Hd.top 28), defScope (Hd.top 28), [], []⟩ := by kernel_rfl
  have h2 : Hd.fa[7]? = some (.glo "land_of") := by kernel_rfl
  have h3 : ∀ (kV doc pm : Value) (an : Option Addr) (cdv ct : Value) (us : List Value), us.length = (["book", "code"] : List Str).length → bindArgs (PySem.W.fnOf "land_of" "land_of" (defArgs (Hd.top 28)) (defBody (Hd.top 28)) (defScope (Hd.top 28)) .none kV doc pm an cdv ct) ⟨us, []⟩ = pure ((["book", "code"] : List Str).zip us) := by
    intro _ _ _ _ _ _ us hl
    match us, hl with
    | [_, _], _ => kernel_rfl
  have h4 := C.fd (P := P) (w := w) (T := TT K) (k := 0) (g := den_land_of) 7 7 h1 rfl rfl rfl h2 sc_land_of h3
  refine FDx.of_eq (h4 ?_) (by kernel_rfl)
  intro cdv A outer s H E hr
  have nd := sc_land_of.nd
  have tk : L2N.Takes (cxOf (L2N.CX P w) P w K mg base ["book", "code", "found", "land"] "land_of" (defScope (Hd.top 28)) (He.ga K "land_of") cdv A outer s H E) (WD E) := L2N.takes_of rfl rfl rfl rfl
  have po : PassesOwn (model P w) (cxOf (L2N.CX P w) P w K mg base ["book", "code", "found", "land"] "land_of" (defScope (Hd.top 28)) (He.ga K "land_of") cdv A outer s H E).A (cxOf (L2N.CX P w) P w K mg base ["book", "code", "found", "land"] "land_of" (defScope (Hd.top 28)) (He.ga K "land_of") cdv A outer s H E).env (cxOf (L2N.CX P w) P w K mg base ["book", "code", "found", "land"] "land_of" (defScope (Hd.top 28)) (He.ga K "land_of") cdv A outer s H E).xe := passes_of rfl
  have hu := hr.units
  exact (ss_cons (s_setLcr 2 (own := [("land", 3)]) exF rfl nd (di_of (d_var 0)) (blkOk_by (own := [("land", 3)]) (by kernel_rfl)) (fun _ _ _ _ _ => (g_nm 3 nd)) (fun _ _ _ _ _ => (dts_one (dt_cmp (o_eq hu) tm_eq (d_idx o_idx tm_idx (d_var 3) d_int) (d_var 1) (nomark _)))) (fun _ _ _ _ _ => (d_var 3)) (sw_true rfl (by kernel_rfl) rfl (by kernel_rfl)))
    (ss_one (s_ret (d_if (dt_cmp (o_ne hu) tm_ne (d_var 2) (d_lst da_nil) (nomark _)) (d_idx o_idx tm_idx (d_var 2) d_int) d_non))))
theorem sc_row_of : FnScope ["land", "digits", "found", "row"] ["land", "digits"] (defScope (Hd.top 29)) := ⟨rfl, rfl, rfl, by decide +kernel, rfl, by decide +kernel, by decide +kernel⟩
theorem fx_row_of (C : RW K mg base) : FDx P w K mg base (TT K) 1 "row_of" ["land", "digits"] m_row_of := by
  have h1 : Hd.fn[8]? = some ⟨("row_of", none), "row_of", "row_of", defArgs (Hd.top 29), defBody (Hd.top 29), defScope (Hd.top 29), [], []⟩ := by kernel_rfl
  have h2 : Hd.fa[8]? = some (.glo "row_of") := by kernel_rfl
  have h3 : ∀ (kV doc pm : Value) (an : Option Addr) (cdv ct : Value) (us : List Value), us.length = (["land", "digits"] : List Str).length → bindArgs (PySem.W.fnOf "row_of" "row_of" (defArgs (Hd.top 29)) (defBody (Hd.top 29)) (defScope (Hd.top 29)) .none kV doc pm an cdv ct) ⟨us, []⟩ = pure ((["land", "digits"] : List Str).zip us) := by
    intro _ _ _ _ _ _ us hl
    match us, hl with
    | [_, _], _ => kernel_rfl
  have h4 := C.fd (P := P) (w := w) (T := TT K) (k := 0) (g := den_row_of) 8 8 h1 rfl rfl rfl h2 sc_row_of h3
  refine FDx.of_eq (h4 ?_) (by kernel_rfl)
  intro cdv A outer s H E hr
  have nd := sc_row_of.nd
  have tk : L2N.Takes (cxOf (L2N.CX P w) P w K mg base ["land", "digits", "found", "row"] "row_of" (defScope (Hd.top 29)) (He.ga K "row_of") cdv A outer s H E) (WD E) := L2N.takes_of rfl rfl rfl rfl
  have po : PassesOwn (model P w) (cxOf (L2N.CX P w) P w K mg base ["land", "digits", "found", "row"] "row_of" (defScope (Hd.top 29)) (He.ga K "row_of") cdv A outer s H E).A (cxOf (L2N.CX P w) P w K mg base ["land", "digits", "found", "row"] "row_of" (defScope (Hd.top 29)) (He.ga K "row_of") cdv A outer s H E).env (cxOf (L2N.CX P w) P w K mg base ["land", "digits", "found", "row"] "row_of" (defScope (Hd.top 29)) (He.ga K "row_of") cdv A outer s H E).xe := passes_of rfl
  have hu := hr.units
  exact (ss_cons (s_set 2 nd d_non)
    (ss_cons (s_beh [3] (s_fgt [3] (s_for (vs := [3]) po rfl (di_of (d_idx o_idx tm_idx (d_var 0) d_int)) (g_nm 3 nd) (ss_beh [3] (ss_one (s_if (dt_w (dw_and (dt_cmp (o_eq hu) tm_eq (d_callB c_len tm_len (C.free 48) (by kernel_rfl) (da_cons (d_var 1) da_nil)) (d_idx o_idx tm_idx (d_var 3) d_int) (nomark _)) (dw_and1 (dt_val (d_mt PySem.F.plainAttrs_str PySem.F.slot_str_startswith PySem.F.type_str_startswith c_starts tm_starts (d_var 1) (da_cons (d_idx o_idx tm_idx (d_var 3) d_int) da_nil)))))) (ss_one (s_if (dt_w (dw_or (dt_cmp o_is tm_is (d_var 2) d_non (nomark _)) (dw_or1 (dt_cmp o_gt tm_gt (d_callB c_len tm_len (C.free 48) (by kernel_rfl) (da_cons (d_idx o_idx tm_idx (d_var 3) d_int) da_nil)) (d_callB c_len tm_len (C.free 48) (by kernel_rfl) (da_cons (d_idx o_idx tm_idx (d_var 2) d_int) da_nil)) (nomark _))))) (ss_one (s_set 2 nd (d_var 3))) ss_nil)) ss_nil))))))
    (ss_one (s_ret (d_var 2)))))
theorem sc_has_number : FnScope ["book", "thing", "land"] ["book", "thing"] (defScope (Hd.top 31)) := ⟨rfl, rfl, rfl, by decide +kernel, rfl, by decide +kernel, by decide +kernel⟩
theorem fx_has_number (C : RW K mg base) : FDx P w K mg base (TT K) 2 "has_number" ["book", "thing"] m_has_number := by
  have G_is_figures := fx_is_figures (P := P) (w := w) C
  have G_land_of := fx_land_of (P := P) (w := w) C
  have G_row_of := fx_row_of (P := P) (w := w) C
  have h1 : Hd.fn[9]? = some ⟨("has_number", none), "has_number", "has_number", defArgs (Hd.top 31), defBody (Hd.top 31), defScope (Hd.top 31), [], []⟩ := by kernel_rfl
  have h2 : Hd.fa[9]? = some (.glo "has_number") := by kernel_rfl
  have h3 : ∀ (kV doc pm : Value) (an : Option Addr) (cdv ct : Value) (us : List Value), us.length = (["book", "thing"] : List Str).length → bindArgs (PySem.W.fnOf "has_number" "has_number" (defArgs (Hd.top 31)) (defBody (Hd.top 31)) (defScope (Hd.top 31)) .none kV doc pm an cdv ct) ⟨us, []⟩ = pure ((["book", "thing"] : List Str).zip us) := by
    intro _ _ _ _ _ _ us hl
    match us, hl with
    | [_, _], _ => kernel_rfl
  have h4 := C.fd (P := P) (w := w) (T := TT K) (k := 1) (g := den_has_number) 9 9 h1 rfl rfl rfl h2 sc_has_number h3
  refine FDx.of_eq (h4 ?_) (by kernel_rfl)
  intro cdv A outer s H E hr
  have nd := sc_has_number.nd
  have tk : L2N.Takes (cxOf (L2N.CX P w) P w K mg base ["book", "thing", "land"] "has_number" (defScope (Hd.top 31)) (He.ga K "has_number") cdv A outer s H E) (WD E) := L2N.takes_of rfl rfl rfl rfl
  have po : PassesOwn (model P w) (cxOf (L2N.CX P w) P w K mg base ["book", "thing", "land"] "has_number" (defScope (Hd.top 31)) (He.ga K "has_number") cdv A outer s H E).A (cxOf (L2N.CX P w) P w K mg base ["book", "thing", "land"] "has_number" (defScope (Hd.top 31)) (He.ga K "has_number") cdv A outer s H E).env (cxOf (L2N.CX P w) P w K mg base ["book", "thing", "land"] "has_number" (defScope (Hd.top 31)) (He.ga K "has_number") cdv A outer s H E).xe := passes_of rfl
  have hu := hr.units
  exact (ss_cons (s_if (dt_w (dw_or (dt_not (dt_val (d_isi (C.free 47) (C.free 57) boot_tuple (d_var 1)))) (dw_or (dt_cmp (o_ne hu) tm_ne (d_callB c_len tm_len (C.free 48) (by kernel_rfl) (da_cons (d_var 1) da_nil)) d_int (nomark _)) (dw_or1 (dt_not (dt_val (d_isi (C.free 47) (C.free 55) boot_str (d_idx o_idx tm_idx (d_var 1) d_int)))))))) (ss_one (s_ret d_bl)) ss_nil)
    (ss_cons (s_set 2 nd (d_fx (k := 1) (m := 1) tk hr G_land_of (da_cons (d_var 0) (da_cons (d_idx o_idx tm_idx (d_var 1) d_int) da_nil))))
    (ss_one (s_ret (d_and (d_cmp o_isNot tm_isNot (d_var 2) d_non (nomark _)) (d_and (d_fx (k := 1) (m := 1) tk hr G_is_figures (da_cons (d_idx o_idx tm_idx (d_var 1) d_int) (da_cons (d_gint (C.int 64)) (da_cons (d_gint (C.int 63)) da_nil)))) (d_one (d_cmp o_isNot tm_isNot (d_fx (k := 1) (m := 1) tk hr G_row_of (da_cons (d_var 2) (da_cons (d_idx o_idx tm_idx (d_var 1) d_int) da_nil))) d_non (nomark _)))))))))
theorem sc_is_shared : FnScope ["numbers", "found", "at", "other"] ["numbers", "found", "at"] (defScope (Hd.top 40)) := ⟨rfl, rfl, rfl, by decide +kernel, rfl, by decide +kernel, by decide +kernel⟩
theorem fx_is_shared (C : RW K mg base) : FDx P w K mg base (TT K) 1 "is_shared" ["numbers", "found", "at"] m_is_shared := by
  have h1 : Hd.fn[16]? = some ⟨("is_shared", none), "is_shared", "is_shared", defArgs (Hd.top 40), defBody (Hd.top 40), defScope (Hd.top 40), [], []⟩ := by kernel_rfl
  have h2 : Hd.fa[16]? = some (.glo "is_shared") := by kernel_rfl
  have h3 : ∀ (kV doc pm : Value) (an : Option Addr) (cdv ct : Value) (us : List Value), us.length = (["numbers", "found", "at"] : List Str).length → bindArgs (PySem.W.fnOf "is_shared" "is_shared" (defArgs (Hd.top 40)) (defBody (Hd.top 40)) (defScope (Hd.top 40)) .none kV doc pm an cdv ct) ⟨us, []⟩ = pure ((["numbers", "found", "at"] : List Str).zip us) := by
    intro _ _ _ _ _ _ us hl
    match us, hl with
    | [_, _, _], _ => kernel_rfl
  have h4 := C.fd (P := P) (w := w) (T := TT K) (k := 0) (g := den_is_shared) 16 16 h1 rfl rfl rfl h2 sc_is_shared h3
  refine FDx.of_eq (h4 ?_) (by kernel_rfl)
  intro cdv A outer s H E hr
  have nd := sc_is_shared.nd
  have tk : L2N.Takes (cxOf (L2N.CX P w) P w K mg base ["numbers", "found", "at", "other"] "is_shared" (defScope (Hd.top 40)) (He.ga K "is_shared") cdv A outer s H E) (WD E) := L2N.takes_of rfl rfl rfl rfl
  have po : PassesOwn (model P w) (cxOf (L2N.CX P w) P w K mg base ["numbers", "found", "at", "other"] "is_shared" (defScope (Hd.top 40)) (He.ga K "is_shared") cdv A outer s H E).A (cxOf (L2N.CX P w) P w K mg base ["numbers", "found", "at", "other"] "is_shared" (defScope (Hd.top 40)) (He.ga K "is_shared") cdv A outer s H E).env (cxOf (L2N.CX P w) P w K mg base ["numbers", "found", "at", "other"] "is_shared" (defScope (Hd.top 40)) (He.ga K "is_shared") cdv A outer s H E).xe := passes_of rfl
  have hu := hr.units
  exact (ss_one (s_ret (d_callB (c_any rfl) tm_any (C.free 44) (by kernel_rfl) (da_cons (d_lcr (own := [("other", 3)]) exF rfl nd (di_range1 (C.free 52) (da_cons (d_callB c_len tm_len (C.free 48) (by kernel_rfl) (da_cons (d_var 1) da_nil)) da_nil)) (blkOk_by (own := [("other", 3)]) (by kernel_rfl)) (fun _ _ _ _ _ => (g_nm 3 nd)) (fun _ _ _ _ _ => dts_nil) (fun _ _ _ _ _ => (d_and (d_cmp (o_eq hu) tm_eq (d_idx o_idx tm_idx (d_var 1) (d_var 3)) (d_idx o_idx tm_idx (d_var 1) (d_var 2)) (nomark _)) (d_one (d_cmp (o_ne hu) tm_ne (d_idx o_idx tm_idx (d_var 0) (d_var 3)) (d_idx o_idx tm_idx (d_var 0) (d_var 2)) (nomark _)))))) da_nil))))
theorem sc_moved_of : FnScope ["moves", "number", "best", "code", "begin", "new"] ["moves", "number"] (defScope (Hd.top 37)) := ⟨rfl, rfl, rfl, by decide +kernel, rfl, by decide +kernel, by decide +kernel⟩
theorem fx_moved_of (C : RW K mg base) : FDx P w K mg base (TT K) 1 "moved_of" ["moves", "number"] m_moved_of := by
  have h1 : Hd.fn[13]? = some ⟨("moved_of", none), "moved_of", "moved_of", defArgs (Hd.top 37), defBody (Hd.top 37), defScope (Hd.top 37), [], []⟩ := by kernel_rfl
  have h2 : Hd.fa[13]? = some (.glo "moved_of") := by kernel_rfl
  have h3 : ∀ (kV doc pm : Value) (an : Option Addr) (cdv ct : Value) (us : List Value), us.length = (["moves", "number"] : List Str).length → bindArgs (PySem.W.fnOf "moved_of" "moved_of" (defArgs (Hd.top 37)) (defBody (Hd.top 37)) (defScope (Hd.top 37)) .none kV doc pm an cdv ct) ⟨us, []⟩ = pure ((["moves", "number"] : List Str).zip us) := by
    intro _ _ _ _ _ _ us hl
    match us, hl with
    | [_, _], _ => kernel_rfl
  have h4 := C.fd (P := P) (w := w) (T := TT K) (k := 0) (g := den_moved_of) 13 13 h1 rfl rfl rfl h2 sc_moved_of h3
  refine FDx.of_eq (h4 ?_) (by kernel_rfl)
  intro cdv A outer s H E hr
  have nd := sc_moved_of.nd
  have tk : L2N.Takes (cxOf (L2N.CX P w) P w K mg base ["moves", "number", "best", "code", "begin", "new"] "moved_of" (defScope (Hd.top 37)) (He.ga K "moved_of") cdv A outer s H E) (WD E) := L2N.takes_of rfl rfl rfl rfl
  have po : PassesOwn (model P w) (cxOf (L2N.CX P w) P w K mg base ["moves", "number", "best", "code", "begin", "new"] "moved_of" (defScope (Hd.top 37)) (He.ga K "moved_of") cdv A outer s H E).A (cxOf (L2N.CX P w) P w K mg base ["moves", "number", "best", "code", "begin", "new"] "moved_of" (defScope (Hd.top 37)) (He.ga K "moved_of") cdv A outer s H E).env (cxOf (L2N.CX P w) P w K mg base ["moves", "number", "best", "code", "begin", "new"] "moved_of" (defScope (Hd.top 37)) (He.ga K "moved_of") cdv A outer s H E).xe := passes_of rfl
  have hu := hr.units
  exact (ss_cons (s_set 2 nd d_non)
    (ss_cons (s_beh [3, 4, 5] (s_fgt [3, 4, 5] (s_for (vs := [3, 4, 5]) po rfl (di_of (d_var 0)) (g_tp rfl (gs_cons (g_nm 3 nd) (gs_cons (g_nm 4 nd) (gs_cons (g_nm 5 nd) gs_nil)))) (ss_beh [3, 4, 5] (ss_one (s_if (dt_w (dw_and (dt_cmp (o_eq hu) tm_eq (d_idx o_idx tm_idx (d_var 1) d_int) (d_var 3) (nomark _)) (dw_and1 (dt_val (d_mt PySem.F.plainAttrs_str PySem.F.slot_str_startswith PySem.F.type_str_startswith c_starts tm_starts (d_idx o_idx tm_idx (d_var 1) d_int) (da_cons (d_var 4) da_nil)))))) (ss_one (s_if (dt_w (dw_or (dt_cmp o_is tm_is (d_var 2) d_non (nomark _)) (dw_or1 (dt_cmp o_gt tm_gt (d_callB c_len tm_len (C.free 48) (by kernel_rfl) (da_cons (d_var 4) da_nil)) (d_callB c_len tm_len (C.free 48) (by kernel_rfl) (da_cons (d_idx o_idx tm_idx (d_var 2) d_int) da_nil)) (nomark _))))) (ss_one (s_set 2 nd (d_tup (da_cons (d_var 4) (da_cons (d_var 5) da_nil))))) ss_nil)) ss_nil))))))
    (ss_one (s_ret (d_if (dt_cmp o_is tm_is (d_var 2) d_non (nomark _)) (d_var 1) (d_tup (da_cons (d_idx o_idx tm_idx (d_var 1) d_int) (da_cons (d_bin o_add tm_add (d_idx o_idx tm_idx (d_var 2) d_int) (d_sl (d_idx o_idx tm_idx (d_var 1) d_int) (do_some (d_callB c_len tm_len (C.free 48) (by kernel_rfl) (da_cons (d_idx o_idx tm_idx (d_var 2) d_int) da_nil))) do_none)) da_nil))))))))
theorem sc_is_move : FnScope ["book", "thing", "land"] ["book", "thing"] (defScope (Hd.top 35)) := ⟨rfl, rfl, rfl, by decide +kernel, rfl, by decide +kernel, by decide +kernel⟩
theorem fx_is_move (C : RW K mg base) : FDx P w K mg base (TT K) 2 "is_move" ["book", "thing"] m_is_move := by
  have G_is_figures := fx_is_figures (P := P) (w := w) C
  have h1 : Hd.fn[11]? = some ⟨("is_move", none), "is_move", "is_move", defArgs (Hd.top 35), defBody (Hd.top 35), defScope (Hd.top 35), [], []⟩ := by kernel_rfl
  have h2 : Hd.fa[11]? = some (.glo "is_move") := by kernel_rfl
  have h3 : ∀ (kV doc pm : Value) (an : Option Addr) (cdv ct : Value) (us : List Value), us.length = (["book", "thing"] : List Str).length → bindArgs (PySem.W.fnOf "is_move" "is_move" (defArgs (Hd.top 35)) (defBody (Hd.top 35)) (defScope (Hd.top 35)) .none kV doc pm an cdv ct) ⟨us, []⟩ = pure ((["book", "thing"] : List Str).zip us) := by
    intro _ _ _ _ _ _ us hl
    match us, hl with
    | [_, _], _ => kernel_rfl
  have h4 := C.fd (P := P) (w := w) (T := TT K) (k := 1) (g := den_is_move) 11 11 h1 rfl rfl rfl h2 sc_is_move h3
  refine FDx.of_eq (h4 ?_) (by kernel_rfl)
  intro cdv A outer s H E hr
  have nd := sc_is_move.nd
  have tk : L2N.Takes (cxOf (L2N.CX P w) P w K mg base ["book", "thing", "land"] "is_move" (defScope (Hd.top 35)) (He.ga K "is_move") cdv A outer s H E) (WD E) := L2N.takes_of rfl rfl rfl rfl
  have po : PassesOwn (model P w) (cxOf (L2N.CX P w) P w K mg base ["book", "thing", "land"] "is_move" (defScope (Hd.top 35)) (He.ga K "is_move") cdv A outer s H E).A (cxOf (L2N.CX P w) P w K mg base ["book", "thing", "land"] "is_move" (defScope (Hd.top 35)) (He.ga K "is_move") cdv A outer s H E).env (cxOf (L2N.CX P w) P w K mg base ["book", "thing", "land"] "is_move" (defScope (Hd.top 35)) (He.ga K "is_move") cdv A outer s H E).xe := passes_of rfl
  have hu := hr.units
  exact (ss_cons (s_if (dt_w (dw_or (dt_not (dt_val (d_isi (C.free 47) (C.free 57) boot_tuple (d_var 1)))) (dw_or (dt_cmp (o_ne hu) tm_ne (d_callB c_len tm_len (C.free 48) (by kernel_rfl) (da_cons (d_var 1) da_nil)) d_int (nomark _)) (dw_or1 (dt_cmp (o_notIn hu) tm_notIn (d_idx o_idx tm_idx (d_var 1) d_int) (d_lcr (own := [("land", 2)]) exF rfl nd (di_of (d_var 0)) (blkOk_by (own := [("land", 2)]) (by kernel_rfl)) (fun _ _ _ _ _ => (g_nm 2 nd)) (fun _ _ _ _ _ => dts_nil) (fun _ _ _ _ _ => (d_idx o_idx tm_idx (d_var 2) d_int))) (by rfl)))))) (ss_one (s_ret d_bl)) ss_nil)
    (ss_one (s_ret (d_and (d_fx (k := 1) (m := 1) tk hr G_is_figures (da_cons (d_idx o_idx tm_idx (d_var 1) d_int) (da_cons d_int (da_cons (d_gint (C.int 63)) da_nil)))) (d_one (d_fx (k := 1) (m := 1) tk hr G_is_figures (da_cons (d_idx o_idx tm_idx (d_var 1) d_int) (da_cons d_int (da_cons (d_gint (C.int 63)) da_nil)))))))))
theorem sc_is_count : FnScope ["thing", "low", "high"] ["thing", "low", "high"] (defScope (Hd.top 21)) := ⟨rfl, rfl, rfl, by decide +kernel, rfl, by decide +kernel, by decide +kernel⟩
theorem fx_is_count (C : RW K mg base) : FDx P w K mg base (TT K) 1 "is_count" ["thing", "low", "high"] m_is_count := by
  have h1 : Hd.fn[0]? = some ⟨("is_count", none), "is_count", "is_count", defArgs (Hd.top 21), defBody (Hd.top 21), defScope (Hd.top 21), [], []⟩ := by kernel_rfl
  have h2 : Hd.fa[0]? = some (.glo "is_count") := by kernel_rfl
  have h3 : ∀ (kV doc pm : Value) (an : Option Addr) (cdv ct : Value) (us : List Value), us.length = (["thing", "low", "high"] : List Str).length → bindArgs (PySem.W.fnOf "is_count" "is_count" (defArgs (Hd.top 21)) (defBody (Hd.top 21)) (defScope (Hd.top 21)) .none kV doc pm an cdv ct) ⟨us, []⟩ = pure ((["thing", "low", "high"] : List Str).zip us) := by
    intro _ _ _ _ _ _ us hl
    match us, hl with
    | [_, _, _], _ => kernel_rfl
  have h4 := C.fd (P := P) (w := w) (T := TT K) (k := 0) (g := den_is_count) 0 0 h1 rfl rfl rfl h2 sc_is_count h3
  refine FDx.of_eq (h4 ?_) (by kernel_rfl)
  intro cdv A outer s H E hr
  have nd := sc_is_count.nd
  have tk : L2N.Takes (cxOf (L2N.CX P w) P w K mg base ["thing", "low", "high"] "is_count" (defScope (Hd.top 21)) (He.ga K "is_count") cdv A outer s H E) (WD E) := L2N.takes_of rfl rfl rfl rfl
  have po : PassesOwn (model P w) (cxOf (L2N.CX P w) P w K mg base ["thing", "low", "high"] "is_count" (defScope (Hd.top 21)) (He.ga K "is_count") cdv A outer s H E).A (cxOf (L2N.CX P w) P w K mg base ["thing", "low", "high"] "is_count" (defScope (Hd.top 21)) (He.ga K "is_count") cdv A outer s H E).env (cxOf (L2N.CX P w) P w K mg base ["thing", "low", "high"] "is_count" (defScope (Hd.top 21)) (He.ga K "is_count") cdv A outer s H E).xe := passes_of rfl
  have hu := hr.units
  exact (ss_one (s_ret (d_and (d_isi (C.free 47) (C.free 46) boot_int (d_var 0)) (d_and (d_not (d_isi (C.free 47) (C.free 59) boot_bool (d_var 0))) (d_one (d_ch o_le tm_le o_le tm_le B_le (d_var 1) (d_var 0) (d_var 2)))))))
theorem sc_is_kind : FnScope ["thing", "sign"] ["thing"] (defScope (Hd.top 23)) := ⟨rfl, rfl, rfl, by decide +kernel, rfl, by decide +kernel, by decide +kernel⟩
theorem fx_is_kind (C : RW K mg base) : FDx P w K mg base (TT K) 1 "is_kind" ["thing"] m_is_kind := by
  have h1 : Hd.fn[2]? = some ⟨("is_kind", none), "is_kind", "is_kind", defArgs (Hd.top 23), defBody (Hd.top 23), defScope (Hd.top 23), [], []⟩ := by kernel_rfl
  have h2 : Hd.fa[2]? = some (.glo "is_kind") := by kernel_rfl
  have h3 : ∀ (kV doc pm : Value) (an : Option Addr) (cdv ct : Value) (us : List Value), us.length = (["thing"] : List Str).length → bindArgs (PySem.W.fnOf "is_kind" "is_kind" (defArgs (Hd.top 23)) (defBody (Hd.top 23)) (defScope (Hd.top 23)) .none kV doc pm an cdv ct) ⟨us, []⟩ = pure ((["thing"] : List Str).zip us) := by
    intro _ _ _ _ _ _ us hl
    match us, hl with
    | [_], _ => kernel_rfl
  have h4 := C.fd (P := P) (w := w) (T := TT K) (k := 0) (g := den_is_kind) 2 2 h1 rfl rfl rfl h2 sc_is_kind h3
  refine FDx.of_eq (h4 ?_) (by kernel_rfl)
  intro cdv A outer s H E hr
  have nd := sc_is_kind.nd
  have tk : L2N.Takes (cxOf (L2N.CX P w) P w K mg base ["thing", "sign"] "is_kind" (defScope (Hd.top 23)) (He.ga K "is_kind") cdv A outer s H E) (WD E) := L2N.takes_of rfl rfl rfl rfl
  have po : PassesOwn (model P w) (cxOf (L2N.CX P w) P w K mg base ["thing", "sign"] "is_kind" (defScope (Hd.top 23)) (He.ga K "is_kind") cdv A outer s H E).A (cxOf (L2N.CX P w) P w K mg base ["thing", "sign"] "is_kind" (defScope (Hd.top 23)) (He.ga K "is_kind") cdv A outer s H E).env (cxOf (L2N.CX P w) P w K mg base ["thing", "sign"] "is_kind" (defScope (Hd.top 23)) (He.ga K "is_kind") cdv A outer s H E).xe := passes_of rfl
  have hu := hr.units
  exact (ss_one (s_ret (d_and (d_isi (C.free 47) (C.free 55) boot_str (d_var 0)) (d_and (d_ch o_le tm_le o_le tm_le B_le d_int (d_callB c_len tm_len (C.free 48) (by kernel_rfl) (da_cons (d_var 0) da_nil)) (d_gint (C.int 68))) (d_one (d_callB (c_all rfl) tm_all (C.free 43) (by kernel_rfl) (da_cons (d_lcr (own := [("sign", 1)]) exF rfl nd (di_of (d_var 0)) (blkOk_by (own := [("sign", 1)]) (by kernel_rfl)) (fun _ _ _ _ _ => (g_nm 1 nd)) (fun _ _ _ _ _ => dts_nil) (fun _ _ _ _ _ => (d_cmp (o_in hu) tm_in (d_var 1) (d_gstr (C.str 62)) (by rfl)))) da_nil)))))))
theorem sc_is_row : FnScope ["thing", "one"] ["thing"] (defScope (Hd.top 24)) := ⟨rfl, rfl, rfl, by decide +kernel, rfl, by decide +kernel, by decide +kernel⟩
theorem fx_is_row (C : RW K mg base) : FDx P w K mg base (TT K) 2 "is_row" ["thing"] m_is_row := by
  have G_is_count := fx_is_count (P := P) (w := w) C
  have G_is_figures := fx_is_figures (P := P) (w := w) C
  have G_is_kind := fx_is_kind (P := P) (w := w) C
  have h1 : Hd.fn[3]? = some ⟨("is_row", none), "is_row", "is_row", defArgs (Hd.top 24), defBody (Hd.top 24), defScope (Hd.top 24), [], []⟩ := by kernel_rfl
  have h2 : Hd.fa[3]? = some (.glo "is_row") := by kernel_rfl
  have h3 : ∀ (kV doc pm : Value) (an : Option Addr) (cdv ct : Value) (us : List Value), us.length = (["thing"] : List Str).length → bindArgs (PySem.W.fnOf "is_row" "is_row" (defArgs (Hd.top 24)) (defBody (Hd.top 24)) (defScope (Hd.top 24)) .none kV doc pm an cdv ct) ⟨us, []⟩ = pure ((["thing"] : List Str).zip us) := by
    intro _ _ _ _ _ _ us hl
    match us, hl with
    | [_], _ => kernel_rfl
  have h4 := C.fd (P := P) (w := w) (T := TT K) (k := 1) (g := den_is_row) 3 3 h1 rfl rfl rfl h2 sc_is_row h3
  refine FDx.of_eq (h4 ?_) (by kernel_rfl)
  intro cdv A outer s H E hr
  have nd := sc_is_row.nd
  have tk : L2N.Takes (cxOf (L2N.CX P w) P w K mg base ["thing", "one"] "is_row" (defScope (Hd.top 24)) (He.ga K "is_row") cdv A outer s H E) (WD E) := L2N.takes_of rfl rfl rfl rfl
  have po : PassesOwn (model P w) (cxOf (L2N.CX P w) P w K mg base ["thing", "one"] "is_row" (defScope (Hd.top 24)) (He.ga K "is_row") cdv A outer s H E).A (cxOf (L2N.CX P w) P w K mg base ["thing", "one"] "is_row" (defScope (Hd.top 24)) (He.ga K "is_row") cdv A outer s H E).env (cxOf (L2N.CX P w) P w K mg base ["thing", "one"] "is_row" (defScope (Hd.top 24)) (He.ga K "is_row") cdv A outer s H E).xe := passes_of rfl
  have hu := hr.units
  exact (ss_cons (s_if (dt_w (dw_or (dt_not (dt_val (d_isi (C.free 47) (C.free 57) boot_tuple (d_var 0)))) (dw_or1 (dt_cmp (o_ne hu) tm_ne (d_callB c_len tm_len (C.free 48) (by kernel_rfl) (da_cons (d_var 0) da_nil)) d_int (nomark _))))) (ss_one (s_ret d_bl)) ss_nil)
    (ss_cons (s_if (dt_w (dw_or (dt_not (dt_val (d_fx (k := 1) (m := 1) tk hr G_is_kind (da_cons (d_idx o_idx tm_idx (d_var 0) d_int) da_nil)))) (dw_or1 (dt_not (dt_val (d_fx (k := 1) (m := 1) tk hr G_is_figures (da_cons (d_idx o_idx tm_idx (d_var 0) d_int) (da_cons d_int (da_cons (d_gint (C.int 65)) da_nil))))))))) (ss_one (s_ret d_bl)) ss_nil)
    (ss_cons (s_if (dt_w (dw_or (dt_not (dt_val (d_fx (k := 1) (m := 1) tk hr G_is_count (da_cons (d_idx o_idx tm_idx (d_var 0) d_int) (da_cons (d_callB (c_max2 rfl) tm_max2 (C.free 50) (by kernel_rfl) (da_cons (d_gint (C.int 64)) (da_cons (d_bin o_add tm_add (d_callB c_len tm_len (C.free 48) (by kernel_rfl) (da_cons (d_idx o_idx tm_idx (d_var 0) d_int) da_nil)) d_int) da_nil))) (da_cons (d_gint (C.int 63)) da_nil)))))) (dw_or1 (dt_not (dt_val (d_isi (C.free 47) (C.free 57) boot_tuple (d_idx o_idx tm_idx (d_var 0) d_int))))))) (ss_one (s_ret d_bl)) ss_nil)
    (ss_one (s_ret (d_and (d_cmp (o_ne hu) tm_ne (d_idx o_idx tm_idx (d_var 0) d_int) (d_tup da_nil) (nomark _)) (d_and (d_callB (c_all rfl) tm_all (C.free 43) (by kernel_rfl) (da_cons (d_lcr (own := [("one", 1)]) exF rfl nd (di_of (d_idx o_idx tm_idx (d_var 0) d_int)) (blkOk_by (own := [("one", 1)]) (by kernel_rfl)) (fun _ _ _ _ _ => (g_nm 1 nd)) (fun _ _ _ _ _ => dts_nil) (fun _ _ _ _ _ => (d_fx (k := 1) (m := 1) takesN0 hr G_is_count (da_cons (d_var 1) (da_cons d_int (da_cons (d_gint (C.int 63)) da_nil)))))) da_nil)) (d_one (d_cmp (o_eq hu) tm_eq (d_callB (c_sum rfl) tm_sum (C.free 56) (by kernel_rfl) (da_cons (d_idx o_idx tm_idx (d_var 0) d_int) da_nil)) (d_idx o_idx tm_idx (d_var 0) d_int) (nomark _))))))))))
theorem sc_is_land : FnScope ["thing", "row"] ["thing"] (defScope (Hd.top 25)) := ⟨rfl, rfl, rfl, by decide +kernel, rfl, by decide +kernel, by decide +kernel⟩
theorem fx_is_land (C : RW K mg base) : FDx P w K mg base (TT K) 3 "is_land" ["thing"] m_is_land := by
  have G_is_figures := fx_is_figures (P := P) (w := w) C
  have G_is_row := fx_is_row (P := P) (w := w) C
  have h1 : Hd.fn[4]? = some ⟨("is_land", none), "is_land", "is_land", defArgs (Hd.top 25), defBody (Hd.top 25), defScope (Hd.top 25), [], []⟩ := by kernel_rfl
  have h2 : Hd.fa[4]? = some (.glo "is_land") := by kernel_rfl
  have h3 : ∀ (kV doc pm : Value) (an : Option Addr) (cdv ct : Value) (us : List Value), us.length = (["thing"] : List Str).length → bindArgs (PySem.W.fnOf "is_land" "is_land" (defArgs (Hd.top 25)) (defBody (Hd.top 25)) (defScope (Hd.top 25)) .none kV doc pm an cdv ct) ⟨us, []⟩ = pure ((["thing"] : List Str).zip us) := by
    intro _ _ _ _ _ _ us hl
    match us, hl with
    | [_], _ => kernel_rfl
  have h4 := C.fd (P := P) (w := w) (T := TT K) (k := 2) (g := den_is_land) 4 4 h1 rfl rfl rfl h2 sc_is_land h3
  refine FDx.of_eq (h4 ?_) (by kernel_rfl)
  intro cdv A outer s H E hr
  have nd := sc_is_land.nd
  have tk : L2N.Takes (cxOf (L2N.CX P w) P w K mg base ["thing", "row"] "is_land" (defScope (Hd.top 25)) (He.ga K "is_land") cdv A outer s H E) (WD E) := L2N.takes_of rfl rfl rfl rfl
  have po : PassesOwn (model P w) (cxOf (L2N.CX P w) P w K mg base ["thing", "row"] "is_land" (defScope (Hd.top 25)) (He.ga K "is_land") cdv A outer s H E).A (cxOf (L2N.CX P w) P w K mg base ["thing", "row"] "is_land" (defScope (Hd.top 25)) (He.ga K "is_land") cdv A outer s H E).env (cxOf (L2N.CX P w) P w K mg base ["thing", "row"] "is_land" (defScope (Hd.top 25)) (He.ga K "is_land") cdv A outer s H E).xe := passes_of rfl
  have hu := hr.units
  exact (ss_cons (s_if (dt_w (dw_or (dt_not (dt_val (d_isi (C.free 47) (C.free 57) boot_tuple (d_var 0)))) (dw_or (dt_cmp (o_ne hu) tm_ne (d_callB c_len tm_len (C.free 48) (by kernel_rfl) (da_cons (d_var 0) da_nil)) d_int (nomark _)) (dw_or (dt_not (dt_val (d_fx (k := 1) (m := 2) tk hr G_is_figures (da_cons (d_idx o_idx tm_idx (d_var 0) d_int) (da_cons d_int (da_cons d_int da_nil)))))) (dw_or1 (dt_cmp (o_eq hu) tm_eq (d_idx o_idx tm_idx (d_idx o_idx tm_idx (d_var 0) d_int) d_int) d_str (nomark _))))))) (ss_one (s_ret d_bl)) ss_nil)
    (ss_cons (s_if (dt_w (dw_or (dt_not (dt_val (d_fx (k := 1) (m := 2) tk hr G_is_figures (da_cons (d_idx o_idx tm_idx (d_var 0) d_int) (da_cons d_int (da_cons d_int da_nil)))))) (dw_or (dt_not (dt_val (d_fx (k := 1) (m := 2) tk hr G_is_figures (da_cons (d_idx o_idx tm_idx (d_var 0) d_int) (da_cons d_int (da_cons d_int da_nil)))))) (dw_or1 (dt_not (dt_val (d_isi (C.free 47) (C.free 57) boot_tuple (d_idx o_idx tm_idx (d_var 0) d_int)))))))) (ss_one (s_ret d_bl)) ss_nil)
    (ss_cons (s_if (dt_w (dw_or (dt_not (dt_ch o_le tm_le o_le tm_le B_le d_int (d_callB c_len tm_len (C.free 48) (by kernel_rfl) (da_cons (d_idx o_idx tm_idx (d_var 0) d_int) da_nil)) (d_gint (C.int 66)))) (dw_or1 (dt_not (dt_val (d_callB (c_all rfl) tm_all (C.free 43) (by kernel_rfl) (da_cons (d_lcr (own := [("row", 1)]) exF rfl nd (di_of (d_idx o_idx tm_idx (d_var 0) d_int)) (blkOk_by (own := [("row", 1)]) (by kernel_rfl)) (fun _ _ _ _ _ => (g_nm 1 nd)) (fun _ _ _ _ _ => dts_nil) (fun _ _ _ _ _ => (d_fx (k := 2) (m := 2) takesN0 hr G_is_row (da_cons (d_var 1) da_nil)))) da_nil))))))) (ss_one (s_ret d_bl)) ss_nil)
    (ss_one (s_ret (d_cmp (o_eq hu) tm_eq (d_lenSet rfl hu (C.free 48) (C.free 53) (d_lcr (own := [("row", 1)]) exF rfl nd (di_of (d_idx o_idx tm_idx (d_var 0) d_int)) (blkOk_by (own := [("row", 1)]) (by kernel_rfl)) (fun _ _ _ _ _ => (g_nm 1 nd)) (fun _ _ _ _ _ => dts_nil) (fun _ _ _ _ _ => (d_sl (d_var 1) (do_some d_int) (do_some d_int))))) (d_callB c_len tm_len (C.free 48) (by kernel_rfl) (da_cons (d_idx o_idx tm_idx (d_var 0) d_int) da_nil)) (nomark _)))))))
theorem sc_is_book : FnScope ["thing", "codes", "land", "one", "other"] ["thing"] (defScope (Hd.top 26)) := ⟨rfl, rfl, rfl, by decide +kernel, rfl, by decide +kernel, by decide +kernel⟩
theorem fx_is_book (C : RW K mg base) : FDx P w K mg base (TT K) 4 "is_book" ["thing"] m_is_book := by
  have G_is_land := fx_is_land (P := P) (w := w) C
  have h1 : Hd.fn[5]? = some ⟨("is_book", none), "is_book", "is_book", defArgs (Hd.top 26), defBody (Hd.top 26), defScope (Hd.top 26), [], []⟩ := by kernel_rfl
  have h2 : Hd.fa[5]? = some (.glo "is_book") := by kernel_rfl
  have h3 : ∀ (kV doc pm : Value) (an : Option Addr) (cdv ct : Value) (us : List Value), us.length = (["thing"] : List Str).length → bindArgs (PySem.W.fnOf "is_book" "is_book" (defArgs (Hd.top 26)) (defBody (Hd.top 26)) (defScope (Hd.top 26)) .none kV doc pm an cdv ct) ⟨us, []⟩ = pure ((["thing"] : List Str).zip us) := by
    intro _ _ _ _ _ _ us hl
    match us, hl with
    | [_], _ => kernel_rfl
  have h4 := C.fd (P := P) (w := w) (T := TT K) (k := 3) (g := den_is_book) 5 5 h1 rfl rfl rfl h2 sc_is_book h3
  refine FDx.of_eq (h4 ?_) (by kernel_rfl)
  intro cdv A outer s H E hr
  have nd := sc_is_book.nd
  have tk : L2N.Takes (cxOf (L2N.CX P w) P w K mg base ["thing", "codes", "land", "one", "other"] "is_book" (defScope (Hd.top 26)) (He.ga K "is_book") cdv A outer s H E) (WD E) := L2N.takes_of rfl rfl rfl rfl
  have po : PassesOwn (model P w) (cxOf (L2N.CX P w) P w K mg base ["thing", "codes", "land", "one", "other"] "is_book" (defScope (Hd.top 26)) (He.ga K "is_book") cdv A outer s H E).A (cxOf (L2N.CX P w) P w K mg base ["thing", "codes", "land", "one", "other"] "is_book" (defScope (Hd.top 26)) (He.ga K "is_book") cdv A outer s H E).env (cxOf (L2N.CX P w) P w K mg base ["thing", "codes", "land", "one", "other"] "is_book" (defScope (Hd.top 26)) (He.ga K "is_book") cdv A outer s H E).xe := passes_of rfl
  have hu := hr.units
  exact (ss_cons (s_if (dt_w (dw_or (dt_not (dt_val (d_isi (C.free 47) (C.free 57) boot_tuple (d_var 0)))) (dw_or1 (dt_not (dt_ch o_le tm_le o_le tm_le B_le d_int (d_callB c_len tm_len (C.free 48) (by kernel_rfl) (da_cons (d_var 0) da_nil)) (d_gint (C.int 67))))))) (ss_one (s_ret d_bl)) ss_nil)
    (ss_cons (s_if (dt_not (dt_val (d_callB (c_all rfl) tm_all (C.free 43) (by kernel_rfl) (da_cons (d_lcr (own := [("land", 2)]) exF rfl nd (di_of (d_var 0)) (blkOk_by (own := [("land", 2)]) (by kernel_rfl)) (fun _ _ _ _ _ => (g_nm 2 nd)) (fun _ _ _ _ _ => dts_nil) (fun _ _ _ _ _ => (d_fx (k := 3) (m := 3) takesN0 hr G_is_land (da_cons (d_var 2) da_nil)))) da_nil)))) (ss_one (s_ret d_bl)) ss_nil)
    (ss_cons (s_setLcr 1 (own := [("land", 2)]) exF rfl nd (di_of (d_var 0)) (blkOk_by (own := [("land", 2)]) (by kernel_rfl)) (fun _ _ _ _ _ => (g_nm 2 nd)) (fun _ _ _ _ _ => dts_nil) (fun _ _ _ _ _ => (d_idx o_idx tm_idx (d_var 2) d_int)) (sw_true rfl (by kernel_rfl) rfl (by kernel_rfl)))
    (ss_one (s_ret (d_callB (c_all rfl) tm_all (C.free 43) (by kernel_rfl) (da_cons (d_lcr (own := [("one", 3), ("other", 4)]) exF rfl nd (di_zip (C.free 58) (da_cons (d_sl (d_var 1) do_none (do_some (d_neg d_int))) (da_cons (d_sl (d_var 1) (do_some d_int) do_none) da_nil))) (blkOk_by (own := [("one", 3), ("other", 4)]) (by kernel_rfl)) (fun _ _ _ _ _ => (g_tp rfl (gs_cons (g_nm 3 nd) (gs_cons (g_nm 4 nd) gs_nil)))) (fun _ _ _ _ _ => dts_nil) (fun _ _ _ _ _ => (d_and (d_cmp o_lt tm_lt (d_var 3) (d_var 4) (nomark _)) (d_one (d_not (d_mt PySem.F.plainAttrs_str PySem.F.slot_str_startswith PySem.F.type_str_startswith c_starts tm_starts (d_var 4) (da_cons (d_var 3) da_nil))))))) da_nil)))))))
theorem sc_need_book : FnScope ["book"] ["book"] (defScope (Hd.top 27)) := ⟨rfl, rfl, rfl, by decide +kernel, rfl, by decide +kernel, by decide +kernel⟩
theorem fx_need_book (C : RW K mg base) : FDx P w K mg base (TT K) 5 "need_book" ["book"] m_need_book := by
  have G_is_book := fx_is_book (P := P) (w := w) C
  have X_BadBook := He.exc_ok (C.says.fact 71 (f := .exc "BadBook") (by kernel_rfl))
  have h1 : Hd.fn[6]? = some ⟨("need_book", none), "need_book", "need_book", defArgs (Hd.top 27), defBody (Hd.top 27), defScope (Hd.top 27), [], []⟩ := by kernel_rfl
  have h2 : Hd.fa[6]? = some (.glo "need_book") := by kernel_rfl
  have h3 : ∀ (kV doc pm : Value) (an : Option Addr) (cdv ct : Value) (us : List Value), us.length = (["book"] : List Str).length → bindArgs (PySem.W.fnOf "need_book" "need_book" (defArgs (Hd.top 27)) (defBody (Hd.top 27)) (defScope (Hd.top 27)) .none kV doc pm an cdv ct) ⟨us, []⟩ = pure ((["book"] : List Str).zip us) := by
    intro _ _ _ _ _ _ us hl
    match us, hl with
    | [_], _ => kernel_rfl
  have h4 := C.fd (P := P) (w := w) (T := TT K) (k := 4) (g := den_need_book) 6 6 h1 rfl rfl rfl h2 sc_need_book h3
  refine FDx.of_eq (h4 ?_) (by kernel_rfl)
  intro cdv A outer s H E hr
  have nd := sc_need_book.nd
  have tk : L2N.Takes (cxOf (L2N.CX P w) P w K mg base ["book"] "need_book" (defScope (Hd.top 27)) (He.ga K "need_book") cdv A outer s H E) (WD E) := L2N.takes_of rfl rfl rfl rfl
  have po : PassesOwn (model P w) (cxOf (L2N.CX P w) P w K mg base ["book"] "need_book" (defScope (Hd.top 27)) (He.ga K "need_book") cdv A outer s H E).A (cxOf (L2N.CX P w) P w K mg base ["book"] "need_book" (defScope (Hd.top 27)) (He.ga K "need_book") cdv A outer s H E).env (cxOf (L2N.CX P w) P w K mg base ["book"] "need_book" (defScope (Hd.top 27)) (He.ga K "need_book") cdv A outer s H E).xe := passes_of rfl
  have hu := hr.units
  exact (ss_one (s_if (dt_not (dt_val (d_fx (k := 4) (m := 4) tk hr G_is_book (da_cons (d_var 0) da_nil)))) (ss_one (s_raise rfl tk (L2N.pmk_own PySem.F.excBase_ValueError X_BadBook.1 (C.glo 33) X_BadBook.2.1 (raises_own X_BadBook.2.2.1 X_BadBook.2.2.2) rfl))) ss_nil))
theorem sc_need_moves : FnScope ["book", "moves", "good", "one"] ["book", "moves"] (defScope (Hd.top 36)) := ⟨rfl, rfl, rfl, by decide +kernel, rfl, by decide +kernel, by decide +kernel⟩
theorem fx_need_moves (C : RW K mg base) : FDx P w K mg base (TT K) 6 "need_moves" ["book", "moves"] m_need_moves := by
  have G_is_move := fx_is_move (P := P) (w := w) C
  have G_need_book := fx_need_book (P := P) (w := w) C
  have X_BadMoves := He.exc_ok (C.says.fact 79 (f := .exc "BadMoves") (by kernel_rfl))
  have h1 : Hd.fn[12]? = some ⟨("need_moves", none), "need_moves", "need_moves", defArgs (Hd.top 36), defBody (Hd.top 36), defScope (Hd.top 36), [], []⟩ := by kernel_rfl
  have h2 : Hd.fa[12]? = some (.glo "need_moves") := by kernel_rfl
  have h3 : ∀ (kV doc pm : Value) (an : Option Addr) (cdv ct : Value) (us : List Value), us.length = (["book", "moves"] : List Str).length → bindArgs (PySem.W.fnOf "need_moves" "need_moves" (defArgs (Hd.top 36)) (defBody (Hd.top 36)) (defScope (Hd.top 36)) .none kV doc pm an cdv ct) ⟨us, []⟩ = pure ((["book", "moves"] : List Str).zip us) := by
    intro _ _ _ _ _ _ us hl
    match us, hl with
    | [_, _], _ => kernel_rfl
  have h4 := C.fd (P := P) (w := w) (T := TT K) (k := 5) (g := den_need_moves) 12 12 h1 rfl rfl rfl h2 sc_need_moves h3
  refine FDx.of_eq (h4 ?_) (by kernel_rfl)
  intro cdv A outer s H E hr
  have nd := sc_need_moves.nd
  have tk : L2N.Takes (cxOf (L2N.CX P w) P w K mg base ["book", "moves", "good", "one"] "need_moves" (defScope (Hd.top 36)) (He.ga K "need_moves") cdv A outer s H E) (WD E) := L2N.takes_of rfl rfl rfl rfl
  have po : PassesOwn (model P w) (cxOf (L2N.CX P w) P w K mg base ["book", "moves", "good", "one"] "need_moves" (defScope (Hd.top 36)) (He.ga K "need_moves") cdv A outer s H E).A (cxOf (L2N.CX P w) P w K mg base ["book", "moves", "good", "one"] "need_moves" (defScope (Hd.top 36)) (He.ga K "need_moves") cdv A outer s H E).env (cxOf (L2N.CX P w) P w K mg base ["book", "moves", "good", "one"] "need_moves" (defScope (Hd.top 36)) (He.ga K "need_moves") cdv A outer s H E).xe := passes_of rfl
  have hu := hr.units
  exact (ss_cons (s_exp (d_fx (k := 5) (m := 5) tk hr G_need_book (da_cons (d_var 0) da_nil)))
    (ss_cons (s_set 2 nd (d_and (d_isi (C.free 47) (C.free 49) boot_list (d_var 1)) (d_and (d_cmp o_le tm_le (d_callB c_len tm_len (C.free 48) (by kernel_rfl) (da_cons (d_var 1) da_nil)) (d_gint (C.int 69)) (nomark _)) (d_one (d_callB (c_all rfl) tm_all (C.free 43) (by kernel_rfl) (da_cons (d_lcr (own := [("one", 3)]) exF rfl nd (di_of (d_var 1)) (blkOk_by (own := [("one", 3)]) (by kernel_rfl)) (fun _ _ _ _ _ => (g_nm 3 nd)) (fun _ _ _ _ _ => dts_nil) (fun _ _ _ _ _ => (d_fx (k := 2) (m := 5) takesN0 hr G_is_move (da_cons (d_var 0) (da_cons (d_var 3) da_nil))))) da_nil))))))
    (ss_one (s_if (dt_w (dw_or (dt_not (dt_val (d_var 2))) (dw_or1 (dt_cmp (o_ne hu) tm_ne (d_lenSet rfl hu (C.free 48) (C.free 53) (d_lcr (own := [("one", 3)]) exF rfl nd (di_of (d_var 1)) (blkOk_by (own := [("one", 3)]) (by kernel_rfl)) (fun _ _ _ _ _ => (g_nm 3 nd)) (fun _ _ _ _ _ => dts_nil) (fun _ _ _ _ _ => (d_sl (d_var 3) do_none (do_some d_int))))) (d_callB c_len tm_len (C.free 48) (by kernel_rfl) (da_cons (d_var 1) da_nil)) (nomark _))))) (ss_one (s_raise rfl tk (L2N.pmk_own PySem.F.excBase_ValueError X_BadMoves.1 (C.glo 41) X_BadMoves.2.1 (raises_own X_BadMoves.2.2.1 X_BadMoves.2.2.2) rfl))) ss_nil))))
theorem sc_need_number : FnScope ["book", "number"] ["book", "number"] (defScope (Hd.top 32)) := ⟨rfl, rfl, rfl, by decide +kernel, rfl, by decide +kernel, by decide +kernel⟩
theorem fx_need_number (C : RW K mg base) : FDx P w K mg base (TT K) 6 "need_number" ["book", "number"] m_need_number := by
  have G_has_number := fx_has_number (P := P) (w := w) C
  have G_need_book := fx_need_book (P := P) (w := w) C
  have X_NoNumber := He.exc_ok (C.says.fact 73 (f := .exc "NoNumber") (by kernel_rfl))
  have h1 : Hd.fn[10]? = some ⟨("need_number", none), "need_number", "need_number", defArgs (Hd.top 32), defBody (Hd.top 32), defScope (Hd.top 32), [], []⟩ := by kernel_rfl
  have h2 : Hd.fa[10]? = some (.glo "need_number") := by kernel_rfl
  have h3 : ∀ (kV doc pm : Value) (an : Option Addr) (cdv ct : Value) (us : List Value), us.length = (["book", "number"] : List Str).length → bindArgs (PySem.W.fnOf "need_number" "need_number" (defArgs (Hd.top 32)) (defBody (Hd.top 32)) (defScope (Hd.top 32)) .none kV doc pm an cdv ct) ⟨us, []⟩ = pure ((["book", "number"] : List Str).zip us) := by
    intro _ _ _ _ _ _ us hl
    match us, hl with
    | [_, _], _ => kernel_rfl
  have h4 := C.fd (P := P) (w := w) (T := TT K) (k := 5) (g := den_need_number) 10 10 h1 rfl rfl rfl h2 sc_need_number h3
  refine FDx.of_eq (h4 ?_) (by kernel_rfl)
  intro cdv A outer s H E hr
  have nd := sc_need_number.nd
  have tk : L2N.Takes (cxOf (L2N.CX P w) P w K mg base ["book", "number"] "need_number" (defScope (Hd.top 32)) (He.ga K "need_number") cdv A outer s H E) (WD E) := L2N.takes_of rfl rfl rfl rfl
  have po : PassesOwn (model P w) (cxOf (L2N.CX P w) P w K mg base ["book", "number"] "need_number" (defScope (Hd.top 32)) (He.ga K "need_number") cdv A outer s H E).A (cxOf (L2N.CX P w) P w K mg base ["book", "number"] "need_number" (defScope (Hd.top 32)) (He.ga K "need_number") cdv A outer s H E).env (cxOf (L2N.CX P w) P w K mg base ["book", "number"] "need_number" (defScope (Hd.top 32)) (He.ga K "need_number") cdv A outer s H E).xe := passes_of rfl
  have hu := hr.units
  exact (ss_cons (s_exp (d_fx (k := 5) (m := 5) tk hr G_need_book (da_cons (d_var 0) da_nil)))
    (ss_one (s_if (dt_not (dt_val (d_fx (k := 2) (m := 5) tk hr G_has_number (da_cons (d_var 0) (da_cons (d_var 1) da_nil))))) (ss_one (s_raise rfl tk (L2N.pmk_own PySem.F.excBase_ValueError X_NoNumber.1 (C.glo 35) X_NoNumber.2.1 (raises_own X_NoNumber.2.2.1 X_NoNumber.2.2.2) rfl))) ss_nil)))
theorem sc_all_moved : FnScope ["book", "moves", "numbers", "number", "found", "lost", "at", "one"] ["book", "moves", "numbers"] (defScope (Hd.top 39)) := ⟨rfl, rfl, rfl, by decide +kernel, rfl, by decide +kernel, by decide +kernel⟩
theorem fx_all_moved (C : RW K mg base) : FDx P w K mg base (TT K) 7 "all_moved" ["book", "moves", "numbers"] m_all_moved := by
  have G_has_number := fx_has_number (P := P) (w := w) C
  have G_is_shared := fx_is_shared (P := P) (w := w) C
  have G_moved_of := fx_moved_of (P := P) (w := w) C
  have G_need_moves := fx_need_moves (P := P) (w := w) C
  have G_need_number := fx_need_number (P := P) (w := w) C
  have h1 : Hd.fn[15]? = some ⟨("all_moved", none), "all_moved", "all_moved", defArgs (Hd.top 39), defBody (Hd.top 39), defScope (Hd.top 39), [], []⟩ := by kernel_rfl
  have h2 : Hd.fa[15]? = some (.glo "all_moved") := by kernel_rfl
  have h3 : ∀ (kV doc pm : Value) (an : Option Addr) (cdv ct : Value) (us : List Value), us.length = (["book", "moves", "numbers"] : List Str).length → bindArgs (PySem.W.fnOf "all_moved" "all_moved" (defArgs (Hd.top 39)) (defBody (Hd.top 39)) (defScope (Hd.top 39)) .none kV doc pm an cdv ct) ⟨us, []⟩ = pure ((["book", "moves", "numbers"] : List Str).zip us) := by
    intro _ _ _ _ _ _ us hl
    match us, hl with
    | [_, _, _], _ => kernel_rfl
  have h4 := C.fd (P := P) (w := w) (T := TT K) (k := 6) (g := den_all_moved) 15 15 h1 rfl rfl rfl h2 sc_all_moved h3
  refine FDx.of_eq (h4 ?_) (by kernel_rfl)
  intro cdv A outer s H E hr
  have nd := sc_all_moved.nd
  have tk : L2N.Takes (cxOf (L2N.CX P w) P w K mg base ["book", "moves", "numbers", "number", "found", "lost", "at", "one"] "all_moved" (defScope (Hd.top 39)) (He.ga K "all_moved") cdv A outer s H E) (WD E) := L2N.takes_of rfl rfl rfl rfl
  have po : PassesOwn (model P w) (cxOf (L2N.CX P w) P w K mg base ["book", "moves", "numbers", "number", "found", "lost", "at", "one"] "all_moved" (defScope (Hd.top 39)) (He.ga K "all_moved") cdv A outer s H E).A (cxOf (L2N.CX P w) P w K mg base ["book", "moves", "numbers", "number", "found", "lost", "at", "one"] "all_moved" (defScope (Hd.top 39)) (He.ga K "all_moved") cdv A outer s H E).env (cxOf (L2N.CX P w) P w K mg base ["book", "moves", "numbers", "number", "found", "lost", "at", "one"] "all_moved" (defScope (Hd.top 39)) (He.ga K "all_moved") cdv A outer s H E).xe := passes_of rfl
  have hu := hr.units
  exact (ss_cons (s_exp (d_fx (k := 6) (m := 6) tk hr G_need_moves (da_cons (d_var 0) (da_cons (d_var 1) da_nil))))
    (ss_cons (s_beh [] (s_fgt [] (s_for (vs := [3]) po rfl (di_of (d_var 2)) (g_nm 3 nd) (ss_beh [] (ss_one (s_exp (d_fx (k := 6) (m := 6) tk hr G_need_number (da_cons (d_var 0) (da_cons (d_var 3) da_nil)))))))))
    (ss_cons (s_set 4 nd (d_lcr (own := [("number", 3)]) exF rfl nd (di_of (d_var 2)) (blkOk_by (own := [("number", 3)]) (by kernel_rfl)) (fun _ _ _ _ _ => (g_nm 3 nd)) (fun _ _ _ _ _ => dts_nil) (fun _ _ _ _ _ => (d_fx (k := 1) (m := 6) takesN0 hr G_moved_of (da_cons (d_var 1) (da_cons (d_var 3) da_nil))))))
    (ss_cons (s_setLcr 5 (own := [("at", 6), ("one", 7)]) exF rfl nd (di_enum (C.free 45) (da_cons (d_var 4) da_nil)) (blkOk_by (own := [("at", 6), ("one", 7)]) (by kernel_rfl)) (fun _ _ _ _ _ => (g_tp rfl (gs_cons (g_nm 6 nd) (gs_cons (g_nm 7 nd) gs_nil)))) (fun _ _ _ _ _ => (dts_one (dt_not (dt_val (d_fx (k := 2) (m := 6) takesN0 hr G_has_number (da_cons (d_var 0) (da_cons (d_var 7) da_nil))))))) (fun _ _ _ _ _ => (d_var 6)) (sw_true rfl (by kernel_rfl) rfl (by kernel_rfl)))
    (ss_one (s_ret (d_tup (da_cons (d_var 4) (da_cons (d_var 5) (da_cons (d_lcr (own := [("at", 6), ("one", 7)]) exF rfl nd (di_enum (C.free 45) (da_cons (d_var 4) da_nil)) (blkOk_by (own := [("at", 6), ("one", 7)]) (by kernel_rfl)) (fun _ _ _ _ _ => (g_tp rfl (gs_cons (g_nm 6 nd) (gs_cons (g_nm 7 nd) gs_nil)))) (fun _ _ _ _ _ => (dts_one (dt_val (d_fx (k := 1) (m := 6) takesN0 hr G_is_shared (da_cons (d_var 2) (da_cons (d_var 4) (da_cons (d_var 6) da_nil))))))) (fun _ _ _ _ _ => (d_var 6))) da_nil))))))))))
theorem sc_moved : FnScope ["book", "moves", "number"] ["book", "moves", "number"] (defScope (Hd.top 38)) := ⟨rfl, rfl, rfl, by decide +kernel, rfl, by decide +kernel, by decide +kernel⟩
theorem fx_moved (C : RW K mg base) : FDx P w K mg base (TT K) 7 "moved" ["book", "moves", "number"] m_moved := by
  have G_moved_of := fx_moved_of (P := P) (w := w) C
  have G_need_moves := fx_need_moves (P := P) (w := w) C
  have G_need_number := fx_need_number (P := P) (w := w) C
  have h1 : Hd.fn[14]? = some ⟨("moved", none), "moved", "moved", defArgs (Hd.top 38), defBody (Hd.top 38), defScope (Hd.top 38), [], []⟩ := by kernel_rfl
  have h2 : Hd.fa[14]? = some (.glo "moved") := by kernel_rfl
  have h3 : ∀ (kV doc pm : Value) (an : Option Addr) (cdv ct : Value) (us : List Value), us.length = (["book", "moves", "number"] : List Str).length → bindArgs (PySem.W.fnOf "moved" "moved" (defArgs (Hd.top 38)) (defBody (Hd.top 38)) (defScope (Hd.top 38)) .none kV doc pm an cdv ct) ⟨us, []⟩ = pure ((["book", "moves", "number"] : List Str).zip us) := by
    intro _ _ _ _ _ _ us hl
    match us, hl with
    | [_, _, _], _ => kernel_rfl
  have h4 := C.fd (P := P) (w := w) (T := TT K) (k := 6) (g := den_moved) 14 14 h1 rfl rfl rfl h2 sc_moved h3
  refine FDx.of_eq (h4 ?_) (by kernel_rfl)
  intro cdv A outer s H E hr
  have nd := sc_moved.nd
  have tk : L2N.Takes (cxOf (L2N.CX P w) P w K mg base ["book", "moves", "number"] "moved" (defScope (Hd.top 38)) (He.ga K "moved") cdv A outer s H E) (WD E) := L2N.takes_of rfl rfl rfl rfl
  have po : PassesOwn (model P w) (cxOf (L2N.CX P w) P w K mg base ["book", "moves", "number"] "moved" (defScope (Hd.top 38)) (He.ga K "moved") cdv A outer s H E).A (cxOf (L2N.CX P w) P w K mg base ["book", "moves", "number"] "moved" (defScope (Hd.top 38)) (He.ga K "moved") cdv A outer s H E).env (cxOf (L2N.CX P w) P w K mg base ["book", "moves", "number"] "moved" (defScope (Hd.top 38)) (He.ga K "moved") cdv A outer s H E).xe := passes_of rfl
  have hu := hr.units
  exact (ss_cons (s_exp (d_fx (k := 6) (m := 6) tk hr G_need_moves (da_cons (d_var 0) (da_cons (d_var 1) da_nil))))
    (ss_cons (s_exp (d_fx (k := 6) (m := 6) tk hr G_need_number (da_cons (d_var 0) (da_cons (d_var 2) da_nil))))
    (ss_one (s_ret (d_fx (k := 1) (m := 6) tk hr G_moved_of (da_cons (d_var 1) (da_cons (d_var 2) da_nil)))))))
end M60
set_option Elab.async false
set_option linter.all false
set_option maxRecDepth 100000
set_option maxHeartbeats 4000000
namespace M60
open PySem PySem.Spec PyProof.Rows L2 DL LamX HotX L2H MC
variable {P : Program} {w : World} {K : Frag} {mg : Str → Option Value} {base : Heap} {T : List (Addr × Str)}
theorem sc_law : FnScope ["script", "k", "more", "book", "j", "here", "moves", "numbers", "goal", "lost", "both", "spot", "one", "code", "number", "none", "bad", "some", "n", "other"] ["script"] (defScope (Hd.top 56)) := ⟨rfl, rfl, rfl, by decide +kernel, rfl, by decide +kernel, by decide +kernel⟩
theorem law_body {l : PySem.W.OpenLaw} (hx : excB K "DialError" words = true) (C : RW K mg base) (A : Around) (outer : List Env) (s : Shared) (H : Hp) (E : XK) (hr : Room 9 (A.deeper (envOfC "law" (defScope (Hd.top 56)) s.heap.objs.size (He.ga K "law") (.ref (He.cT K ("law", none)).1)))) :
      DSs (TT K) (cxOf (L2N.CX l.prog w) l.prog w K mg base ["script", "k", "more", "book", "j", "here", "moves", "numbers", "goal", "lost", "both", "spot", "one", "code", "number", "none", "bad", "some", "n", "other"] "law" (defScope (Hd.top 56)) (He.ga K "law") (.ref (He.cT K ("law", none)).1) A outer s H E) (WD E) (defBody (Hd.top 56)) den_law := by
  have G__law_book := fx__law_book (P := l.prog) (w := w) C
  have G__law_cell := fx__law_cell (P := l.prog) (w := w) C
  have G__law_drawn := fx__law_drawn (P := l.prog) (w := w) C
  have G__law_moved := fx__law_moved (P := l.prog) (w := w) C
  have G__law_moves := fx__law_moves (P := l.prog) (w := w) C
  have G__law_number := fx__law_number (P := l.prog) (w := w) C
  have G__law_ok := fx__law_ok (P := l.prog) (w := w) C
  have G_all_moved := fx_all_moved (P := l.prog) (w := w) C
  have G_moved := fx_moved (P := l.prog) (w := w) C
  have TD := td__law_told (P := l.prog) (w := w) (T := TT K) C hx
  have nd := sc_law.nd
  have tk : L2N.Takes (cxOf (L2N.CX l.prog w) l.prog w K mg base ["script", "k", "more", "book", "j", "here", "moves", "numbers", "goal", "lost", "both", "spot", "one", "code", "number", "none", "bad", "some", "n", "other"] "law" (defScope (Hd.top 56)) (He.ga K "law") (.ref (He.cT K ("law", none)).1) A outer s H E) (WD E) := L2N.takes_of rfl rfl rfl rfl
  have po : PassesOwn (model l.prog w) (cxOf (L2N.CX l.prog w) l.prog w K mg base ["script", "k", "more", "book", "j", "here", "moves", "numbers", "goal", "lost", "both", "spot", "one", "code", "number", "none", "bad", "some", "n", "other"] "law" (defScope (Hd.top 56)) (He.ga K "law") (.ref (He.cT K ("law", none)).1) A outer s H E).A (cxOf (L2N.CX l.prog w) l.prog w K mg base ["script", "k", "more", "book", "j", "here", "moves", "numbers", "goal", "lost", "both", "spot", "one", "code", "number", "none", "bad", "some", "n", "other"] "law" (defScope (Hd.top 56)) (He.ga K "law") (.ref (He.cT K ("law", none)).1) A outer s H E).env (cxOf (L2N.CX l.prog w) l.prog w K mg base ["script", "k", "more", "book", "j", "here", "moves", "numbers", "goal", "lost", "both", "spot", "one", "code", "number", "none", "bad", "some", "n", "other"] "law" (defScope (Hd.top 56)) (He.ga K "law") (.ref (He.cT K ("law", none)).1) A outer s H E).xe := passes_of rfl
  have hu := hr.units
  have TB := C.tab 1 (p := ("law", none)) (q := (cxOf (L2N.CX l.prog w) l.prog w K mg base ["script", "k", "more", "book", "j", "here", "moves", "numbers", "goal", "lost", "both", "spot", "one", "code", "number", "none", "bad", "some", "n", "other"] "law" (defScope (Hd.top 56)) (He.ga K "law") (.ref (He.cT K ("law", none)).1) A outer s H E).env.qual ++ "<lambda>") (by kernel_rfl)
  have hmT := C.mem 1 (p := ("law", none)) (q := (cxOf (L2N.CX l.prog w) l.prog w K mg base ["script", "k", "more", "book", "j", "here", "moves", "numbers", "goal", "lost", "both", "spot", "one", "code", "number", "none", "bad", "some", "n", "other"] "law" (defScope (Hd.top 56)) (He.ga K "law") (.ref (He.cT K ("law", none)).1) A outer s H E).env.qual ++ "<lambda>") (by kernel_rfl)
  have huT := C.one 1 (p := ("law", none)) (q := (cxOf (L2N.CX l.prog w) l.prog w K mg base ["script", "k", "more", "book", "j", "here", "moves", "numbers", "goal", "lost", "both", "spot", "one", "code", "number", "none", "bad", "some", "n", "other"] "law" (defScope (Hd.top 56)) (He.ga K "law") (.ref (He.cT K ("law", none)).1) A outer s H E).env.qual ++ "<lambda>") (by kernel_rfl)
  exact (ss_cons (s_beh [1, 2, 3, 4, 5, 6, 7, 8, 9, 10, 13, 15, 16, 17] (s_fgt [1, 2, 3, 4, 5, 6, 7, 8, 9, 10, 13, 15, 16, 17] (s_for (vs := [1]) po rfl (di_range1 (C.free 52) (da_cons (d_callB (c_max2 rfl) tm_max2 (C.free 50) (by kernel_rfl) (da_cons d_int (da_cons (d_callB (c_min2 rfl) tm_min2 (C.free 51) (by kernel_rfl) (da_cons d_int (da_cons (d_callB c_len tm_len (C.free 48) (by kernel_rfl) (da_cons (d_var 0) da_nil)) da_nil))) da_nil))) da_nil)) (g_nm 1 nd) (ss_beh [1, 2, 3, 4, 5, 6, 7, 8, 9, 10, 13, 15, 16, 17] (ss_cons (s_set 2 nd (d_fx (k := 1) (m := 9) tk hr G__law_drawn (da_cons (d_fx (k := 1) (m := 9) tk hr G__law_cell (da_cons (d_var 0) (da_cons (d_var 1) da_nil))) (da_cons (d_var 1) da_nil))))
    (ss_cons (s_set 3 nd (d_fx (k := 4) (m := 9) tk hr G__law_book (da_cons (d_bin o_fdiv tm_fdiv (d_var 2) d_int) da_nil)))
    (ss_cons (s_beh [4, 5, 6, 7, 8, 9, 10] (s_fgt [4, 5, 6, 7, 8, 9, 10] (s_for (vs := [4]) po rfl (di_range1 (C.free 52) (da_cons d_int da_nil)) (g_nm 4 nd) (ss_beh [4, 5, 6, 7, 8, 9, 10] (ss_cons (s_set 5 nd (d_fx (k := 1) (m := 9) tk hr G__law_drawn (da_cons (d_var 2) (da_cons (d_bin o_add tm_add d_int (d_var 4)) da_nil))))
    (ss_cons (s_set 6 nd (d_fx (k := 4) (m := 9) tk hr G__law_moves (da_cons (d_var 3) (da_cons (d_var 5) da_nil))))
    (ss_cons (s_set 7 nd (d_lcr (own := [("n", 18)]) exF rfl nd (di_range1 (C.free 52) (da_cons (d_bin o_mod tm_mod (d_bin o_fdiv tm_fdiv (d_var 5) d_int) d_int) da_nil)) (blkOk_by (own := [("n", 18)]) (by kernel_rfl)) (fun _ _ _ _ _ => (g_nm 18 nd)) (fun _ _ _ _ _ => dts_nil) (fun _ _ _ _ _ => (d_fx (k := 3) (m := 9) takesN0 hr G__law_number (da_cons (d_var 3) (da_cons (d_fx (k := 1) (m := 9) takesN0 hr G__law_drawn (da_cons (d_var 5) (da_cons (d_bin o_add tm_add d_int (d_var 18)) da_nil))) da_nil))))))
    (ss_cons (s_set 7 nd (d_bin o_add tm_add (d_var 7) (d_sl (d_var 7) do_none (do_some d_int))))
    (ss_cons (s_setLcr 8 (own := [("number", 14)]) exF rfl nd (di_of (d_var 7)) (blkOk_by (own := [("number", 14)]) (by kernel_rfl)) (fun _ _ _ _ _ => (g_nm 14 nd)) (fun _ _ _ _ _ => dts_nil) (fun _ _ _ _ _ => (d_fx (k := 1) (m := 9) takesN0 hr G__law_moved (da_cons (d_var 6) (da_cons (d_var 14) da_nil)))) (sw_true rfl (by kernel_rfl) rfl (by kernel_rfl)))
    (ss_cons (s_if (dt_cmp (o_ne hu) tm_ne (d_lcr (own := [("number", 14)]) exF rfl nd (di_of (d_var 7)) (blkOk_by (own := [("number", 14)]) (by kernel_rfl)) (fun _ _ _ _ _ => (g_nm 14 nd)) (fun _ _ _ _ _ => dts_nil) (fun _ _ _ _ _ => (d_fx (k := 7) (m := 9) takesN0 hr G_moved (da_cons (d_var 3) (da_cons (d_var 6) (da_cons (d_var 14) da_nil)))))) (d_var 8) (nomark _)) (ss_one (s_ret d_bl)) ss_nil)
    (ss_cons (s_setLcr 9 (own := [("spot", 11), ("one", 12)]) exF rfl nd (di_enum (C.free 45) (da_cons (d_var 8) da_nil)) (blkOk_by (own := [("spot", 11), ("one", 12)]) (by kernel_rfl)) (fun _ _ _ _ _ => (g_tp rfl (gs_cons (g_nm 11 nd) (gs_cons (g_nm 12 nd) gs_nil)))) (fun _ _ _ _ _ => (dts_one (dt_not (dt_val (d_fx (k := 2) (m := 9) takesN0 hr G__law_ok (da_cons (d_var 3) (da_cons (d_var 12) da_nil))))))) (fun _ _ _ _ _ => (d_var 11)) (sw_true rfl (by kernel_rfl) rfl (by kernel_rfl)))
    (ss_cons (s_newM 10 nd da_nil)
    (ss_cons (s_beh [] (s_fgt [] (s_for (vs := [11, 12]) po rfl (di_enum (C.free 45) (da_cons (d_var 8) da_nil)) (g_tp rfl (gs_cons (g_nm 11 nd) (gs_cons (g_nm 12 nd) gs_nil))) (ss_beh [] (ss_one (s_if (dt_cmp (o_ne hu) tm_ne (d_lcr (own := [("other", 19), ("number", 14)]) exF rfl nd (di_zip (C.free 58) (da_cons (d_var 8) (da_cons (d_var 7) da_nil))) (blkOk_by (own := [("other", 19), ("number", 14)]) (by kernel_rfl)) (fun _ _ _ _ _ => (g_tp rfl (gs_cons (g_nm 19 nd) (gs_cons (g_nm 14 nd) gs_nil)))) (fun _ _ _ _ _ => (dts_one (dt_w (dw_and (dt_cmp (o_eq hu) tm_eq (d_var 19) (d_var 12) (nomark _)) (dw_and1 (dt_cmp (o_ne hu) tm_ne (d_var 14) (d_idx o_idx tm_idx (d_var 7) (d_var 11)) (nomark _))))))) (fun _ _ _ _ _ => d_int)) (d_lst da_nil) (nomark _)) (ss_one (s_app 10 (d_var 11))) ss_nil))))))
    (ss_frz 10 (ss_one (s_if (dt_cmp (o_ne hu) tm_ne (d_fx (k := 7) (m := 9) tk hr G_all_moved (da_cons (d_var 3) (da_cons (d_var 6) (da_cons (d_var 7) da_nil)))) (d_tup (da_cons (d_var 8) (da_cons (d_var 9) (da_cons (d_var 10) da_nil)))) (nomark _)) (ss_one (s_ret d_bl)) ss_nil))))))))))))))))
    (ss_cons (s_asg (vs := [13, 14]) (d_tup (da_cons (d_idx o_idx tm_idx (d_idx o_idx tm_idx (d_var 3) d_int) d_int) (da_cons (d_fx (k := 3) (m := 9) tk hr G__law_number (da_cons (d_var 3) (da_cons (d_var 2) da_nil))) da_nil))) (g_tp rfl (gs_cons (g_nm 13 nd) (gs_cons (g_nm 14 nd) gs_nil))))
    (ss_cons (s_set 15 nd (d_lst (da_cons d_non (da_cons (d_tup da_nil) (da_cons (d_lst (da_cons d_non da_nil)) (da_cons (d_lst (da_cons (d_tup (da_cons (d_var 13) da_nil)) da_nil)) (da_cons (d_lst (da_cons (d_tup (da_cons (d_var 13) (da_cons d_str da_nil))) da_nil)) (da_cons (d_lst (da_cons (d_tup (da_cons (d_var 13) (da_cons d_int (da_cons d_str da_nil)))) da_nil)) (da_cons (d_lst (da_cons (d_tup (da_cons (d_var 13) (da_cons d_str (da_cons d_str da_nil)))) da_nil)) (da_cons (d_lst (da_cons (d_tup (da_cons d_str (da_cons d_str (da_cons d_str da_nil)))) da_nil)) da_nil))))))))))
    (ss_cons (s_set 15 nd (d_bin o_add tm_add (d_var 15) (d_lst (da_cons (d_lst (da_cons (d_lst (da_cons (d_var 13) (da_cons d_str (da_cons d_str da_nil)))) da_nil)) (da_cons (d_lst (da_cons (d_tup (da_cons (d_var 13) (da_cons d_str (da_cons d_str da_nil)))) (da_cons (d_tup (da_cons (d_var 13) (da_cons d_str (da_cons d_str da_nil)))) da_nil))) da_nil)))))
    (ss_cons (s_set 15 nd (d_bin o_add tm_add (d_var 15) (d_lst (da_cons (d_lst (da_cons (d_tup (da_cons (d_var 13) (da_cons (d_bin o_mul tm_mul d_str d_int) (da_cons d_str da_nil)))) da_nil)) (da_cons (d_lst (da_cons (d_tup (da_cons (d_var 13) (da_cons d_str (da_cons d_non da_nil)))) da_nil)) da_nil)))))
    (ss_cons (s_beh [16, 17] (s_fgt [16, 17] (s_for (vs := [16]) po rfl (di_of (d_bin o_add tm_add (d_var 15) (d_lst (da_cons (d_lcr (own := [("n", 18)]) exF rfl nd (di_range1 (C.free 52) (da_cons d_int da_nil)) (blkOk_by (own := [("n", 18)]) (by kernel_rfl)) (fun _ _ _ _ _ => (g_nm 18 nd)) (fun _ _ _ _ _ => dts_nil) (fun _ _ _ _ _ => (d_tup (da_cons (d_var 13) (da_cons (d_callTy c_str tm_str (C.free 55) (by kernel_rfl) (da_cons (d_var 18) da_nil)) (da_cons d_str da_nil)))))) da_nil)))) (g_nm 16 nd) (ss_beh [16, 17] (ss_cons (s_newM 17 nd (da_cons (d_told (k := 7) TD rfl TB rfl hmT huT (hr.mono (by decide)) (by decide) (lamS_by (by kernel_rfl)) (fun _ _ _ _ _ _ _ hr => have hu := hr.units; (d_fx (k := 7) (m := 7) (L2N.takes_of rfl rfl rfl rfl) hr G_moved (da_cons (d_var 3) (da_cons (d_var 16) (da_cons d_non da_nil)))))) da_nil))
    (ss_cons (s_app 17 (d_told (k := 7) TD rfl TB rfl hmT huT (hr.mono (by decide)) (by decide) (lamS_by (by kernel_rfl)) (fun _ _ _ _ _ _ _ hr => have hu := hr.units; (d_fx (k := 7) (m := 7) (L2N.takes_of rfl rfl rfl rfl) hr G_all_moved (da_cons (d_var 3) (da_cons (d_var 16) (da_cons (d_lst (da_cons d_non da_nil)) da_nil)))))))
    (ss_frz 17 (ss_one (s_if (dt_cmp (o_ne hu) tm_ne (d_var 17) (d_rep (da_cons d_str da_nil) d_int) (nomark _)) (ss_one (s_ret d_bl)) ss_nil)))))))))
    (ss_one (s_beh [16, 17] (s_fgt [16, 17] (s_for (vs := [16]) po rfl (di_of (d_lst (da_cons d_non (da_cons (d_tup (da_cons (d_var 13) (da_cons d_str da_nil))) (da_cons (d_tup (da_cons (d_var 13) (da_cons (d_bin o_mul tm_mul d_str d_int) da_nil))) (da_cons (d_tup (da_cons d_str (da_cons d_str da_nil))) da_nil)))))) (g_nm 16 nd) (ss_beh [16, 17] (ss_cons (s_newM 17 nd (da_cons (d_told (k := 7) TD rfl TB rfl hmT huT (hr.mono (by decide)) (by decide) (lamS_by (by kernel_rfl)) (fun _ _ _ _ _ _ _ hr => have hu := hr.units; (d_fx (k := 7) (m := 7) (L2N.takes_of rfl rfl rfl rfl) hr G_moved (da_cons (d_var 3) (da_cons (d_lst da_nil) (da_cons (d_var 16) da_nil)))))) da_nil))
    (ss_cons (s_app 17 (d_told (k := 7) TD rfl TB rfl hmT huT (hr.mono (by decide)) (by decide) (lamS_by (by kernel_rfl)) (fun _ _ _ _ _ _ _ hr => have hu := hr.units; (d_fx (k := 7) (m := 7) (L2N.takes_of rfl rfl rfl rfl) hr G_all_moved (da_cons (d_var 3) (da_cons (d_lst da_nil) (da_cons (d_lst (da_cons (d_var 14) (da_cons (d_var 16) da_nil))) da_nil)))))))
    (ss_frz 17 (ss_one (s_if (dt_w (dw_or (dt_cmp (o_ne hu) tm_ne (d_var 17) (d_rep (da_cons d_str da_nil) d_int) (nomark _)) (dw_or1 (dt_cmp (o_ne hu) tm_ne (d_told (k := 7) TD rfl TB rfl hmT huT (hr.mono (by decide)) (by decide) (lamS_by (by kernel_rfl)) (fun _ _ _ _ _ _ _ hr => have hu := hr.units; (d_fx (k := 7) (m := 7) (L2N.takes_of rfl rfl rfl rfl) hr G_moved (da_cons d_non (da_cons d_non (da_cons (d_var 16) da_nil)))))) d_str (nomark _))))) (ss_one (s_ret d_bl)) ss_nil))))))))))))))))))))))
    (ss_one (s_ret d_bl)))
end M60
set_option Elab.async false
set_option linter.all false
set_option maxRecDepth 100000
set_option maxHeartbeats 4000000
namespace M60
open PySem PySem.Spec PyProof.Rows L2 DL LamX
theorem law_end {l : PySem.W.OpenLaw} {w : World} {K : Frag} {mg : Str → Option Value} {h : Heap} {f : Addr} (KX : K.In h) (G : h.Ns mainGlobals mg) (hmg : mg ("law" : Str) = some (.ref f)) (Y : He.SaysX Hd.fa Hd.fn [] Hd.tf Hd.ex w h K)
    (plain : ∀ ns : List Int, ns.length ≤ 63 → (∀ z ∈ ns, Builtin.Int.intBits z ≤ 1048576) → fin (den_law (rho0 20 [scriptD ns])) = .ok (.bool true)) : LawAtS l w K (L2N.CX l.prog w) 10 63 "script" mg f h := by
  have hj : Hd.fn[31]? = some ⟨("law", none), "law", "law", defArgs (Hd.top 56), defBody (Hd.top 56), defScope (Hd.top 56), [], []⟩ := by kernel_rfl
  have hi : Hd.fa[31]? = some (.glo "law") := by kernel_rfl
  have hbind : ∀ (kV doc pm : Value) (an : Option Addr) (cdv ct : Value) (us : List Value), us.length = (["script"] : List Str).length → bindArgs (PySem.W.fnOf "law" "law" (defArgs (Hd.top 56)) (defBody (Hd.top 56)) (defScope (Hd.top 56)) .none kV doc pm an cdv ct) ⟨us, []⟩ = pure ((["script"] : List Str).zip us) := by
    intro _ _ _ _ _ _ us hl
    match us, hl with
    | [_], _ => kernel_rfl
  have hm : Hd.ex K = true := Y.more
  unfold Hd.ex at hm
  rw [Bool.and_eq_true] at hm
  have hx : excB K "DialError" words = true := hm.1
  have says : He.SaysD Hd.fa Hd.fn K := Y.t.d
  have Y2 : He.SaysX Hd.fa Hd.fn [] (Hd.tq.map (·.1)) Hd.ex w h K := Y
  exact law_atT (l := l) (fa := Hd.fa) (fn := Hd.fn) (tq := Hd.tq) (ex := Hd.ex) (params := defArgs (Hd.top 56)) (body := defBody (Hd.top 56)) (scope := defScope (Hd.top 56)) (N := ["script", "k", "more", "book", "j", "here", "moves", "numbers", "goal", "lost", "both", "spot", "one", "code", "number", "none", "bad", "some", "n", "other"]) (k := 9) (g := fun _ => den_law) KX G hmg Y2 hm.2 31 31 hi hj sc_law hbind says
    (fun base C A outer s H E hr => law_body hx C A outer s H E hr) plain
end M60
set_option Elab.async false
set_option linter.all false
set_option maxRecDepth 100000
set_option maxHeartbeats 2000000
/-! plain lemmas about the combinators -/
namespace DL
open PySem L2
theorem lcGo_map {k : Tgt} {fe : Rho → R D} {ρ : Rho} {F : D → D} : ∀ {ds : List D}, (∀ d ∈ ds, ∃ ρ', k d ρ = .ok ρ' ∧ fe ρ' = .ok (F d)) → lcGo k tTrue fe ρ ds = .ok (ds.map F)
  | [], _ => rfl
  | d :: r, h => by
    obtain ⟨ρ', e1, e2⟩ := h d List.mem_cons_self
    unfold lcGo
    rw [e1]
    show (match tTrue ρ' with
      | .ok true => (match fe ρ' with
        | .ok y => (lcGo k tTrue fe ρ r).bind fun ys => .ok (y :: ys)
        | _ => .no)
      | .ok false => lcGo k tTrue fe ρ r
      | _ => .no) = _
    show (match fe ρ' with
        | .ok y => (lcGo k tTrue fe ρ r).bind fun ys => .ok (y :: ys)
        | _ => .no) = _
    rw [e2]
    show (lcGo k tTrue fe ρ r).bind (fun ys => .ok (F d :: ys)) = _
    rw [lcGo_map fun x hx => h x (List.mem_cons_of_mem _ hx)]
    rfl
theorem lcGo_filter {k : Tgt} {t : Rho → R Bool} {fe : Rho → R D} {ρ : Rho} {F : D → D} {P : D → Bool} : ∀ {ds : List D}, (∀ d ∈ ds, ∃ ρ', k d ρ = .ok ρ' ∧ t ρ' = .ok (P d) ∧ (P d = true → fe ρ' = .ok (F d))) → lcGo k t fe ρ ds = .ok ((ds.filter P).map F)
  | [], _ => rfl
  | d :: r, h => by
    obtain ⟨ρ', e1, e2, e3⟩ := h d List.mem_cons_self
    have ih := lcGo_filter (k := k) (t := t) (fe := fe) (ρ := ρ) (F := F) (P := P) (ds := r) fun x hx => h x (List.mem_cons_of_mem _ hx)
    unfold lcGo
    rw [e1]
    show (match t ρ' with
      | .ok true => (match fe ρ' with
        | .ok y => (lcGo k t fe ρ r).bind fun ys => .ok (y :: ys)
        | _ => .no)
      | .ok false => lcGo k t fe ρ r
      | _ => .no) = _
    rw [e2]
    cases hp : P d with
    | true =>
      show (match fe ρ' with
        | .ok y => (lcGo k t fe ρ r).bind fun ys => .ok (y :: ys)
        | _ => .no) = _
      rw [e3 hp]
      show (lcGo k t fe ρ r).bind (fun ys => .ok (F d :: ys)) = _
      rw [ih, List.filter_cons_of_pos hp]
      rfl
    | false =>
      show lcGo k t fe ρ r = _
      rw [ih, List.filter_cons_of_neg (by rw [hp]; exact Bool.false_ne_true)]
theorem asBs_map {P : D → Bool} : ∀ ds : List D, asBs (ds.map fun d => .bool (P d)) = some (ds.map P)
  | [] => rfl
  | d :: r => by
    show (asBs (r.map fun d => .bool (P d))).map (P d :: ·) = _
    rw [asBs_map r]; rfl
theorem all_lc {vs : List Nat} {fi : Rho → R (List D)} {k : Tgt} {fe : Rho → R D} {ρ : Rho} {P : D → Bool} {ds : List D} (h1 : fi ρ = .ok ds) (h2 : ∀ d ∈ ds, ∃ ρ', k d (fgt vs ρ) = .ok ρ' ∧ fe ρ' = okB (P d)) :
    eCallB mAll (aCons (eLc vs fi k tTrue fe) aNil) ρ = okB (ds.all P) := by
  have e : eLc vs fi k tTrue fe ρ = .ok (.list (ds.map fun d => .bool (P d))) := by
    unfold eLc
    rw [h1, R.bind_ok, lcGo_map (F := fun d => .bool (P d)) h2]
    rfl
  unfold eCallB aCons
  rw [e]
  show mAll [.list _] = _
  unfold mAll
  show (match asBs (ds.map fun d => .bool (P d)) with
    | some bs => okB (bs.all id)
    | none => .no) = _
  rw [asBs_map]
  show okB ((ds.map P).all id) = _
  rw [List.all_map]
  rfl
theorem map_lc {vs : List Nat} {fi : Rho → R (List D)} {k : Tgt} {fe : Rho → R D} {ρ : Rho} {F : D → D} {ds : List D} (h1 : fi ρ = .ok ds) (h2 : ∀ d ∈ ds, ∃ ρ', k d (fgt vs ρ) = .ok ρ' ∧ fe ρ' = .ok (F d)) : eLc vs fi k tTrue fe ρ = .ok (.list (ds.map F)) := by
  unfold eLc
  rw [h1, R.bind_ok, lcGo_map h2]
  rfl
theorem filter_lc {vs : List Nat} {fi : Rho → R (List D)} {k : Tgt} {t : Rho → R Bool} {fe : Rho → R D} {ρ : Rho} {F : D → D} {P : D → Bool} {ds : List D} (h1 : fi ρ = .ok ds) (h2 : ∀ d ∈ ds, ∃ ρ', k d (fgt vs ρ) = .ok ρ' ∧ t ρ' = .ok (P d) ∧ (P d = true → fe ρ' = .ok (F d))) : eLc vs fi k t fe ρ = .ok (.list ((ds.filter P).map F)) := by
  unfold eLc
  rw [h1, R.bind_ok, lcGo_filter h2]
  rfl
/-! steps -/
theorem sSeq_nx {g h : Rho → Fl} {ρ ρ' : Rho} (e : g ρ = .nx ρ') : sSeq g h ρ = h ρ' := by unfold sSeq; rw [e]; rfl
theorem sSeq_rt {g h : Rho → Fl} {ρ : Rho} {d : D} (e : g ρ = .rt d) : sSeq g h ρ = .rt d := by unfold sSeq; rw [e]; rfl
theorem sSeq_exc {g h : Rho → Fl} {ρ ρ' : Rho} {c : Str} (e : g ρ = .exc c ρ') : sSeq g h ρ = .exc c ρ' := by unfold sSeq; rw [e]; rfl
theorem sIf_t {t : Rho → R Bool} {g h : Rho → Fl} {ρ : Rho} (e : t ρ = .ok true) : sIf t g h ρ = g ρ := by unfold sIf; rw [e]; rfl
theorem sIf_f {t : Rho → R Bool} {g h : Rho → Fl} {ρ : Rho} (e : t ρ = .ok false) : sIf t g h ρ = h ρ := by unfold sIf; rw [e]; rfl
theorem sIf_b {t : Rho → R Bool} {g h : Rho → Fl} {ρ : Rho} {b : Bool} (e : t ρ = .ok b) : sIf t g h ρ = if b then g ρ else h ρ := by unfold sIf; rw [e]; rfl
theorem sSet_ok {i : Nat} {f : Rho → R D} {ρ : Rho} {d : D} (e : f ρ = .ok d) : sSet i f ρ = .nx (ρ.set i (.dat d)) := by unfold sSet; rw [e]; rfl
theorem sRet_ok {f : Rho → R D} {ρ : Rho} {d : D} (e : f ρ = .ok d) : sRet f ρ = .rt d := by unfold sRet; rw [e]; rfl
theorem tVal_b {f : Rho → R D} {ρ : Rho} {b : Bool} (e : f ρ = okB b) : tVal f ρ = .ok b := by unfold tVal; rw [e]; rfl
theorem tNt_b {f : Rho → R Bool} {ρ : Rho} {b : Bool} (e : f ρ = .ok b) : tNt f ρ = .ok (!b) := by unfold tNt; rw [e]; rfl
theorem tOrr_b {f g : Rho → R Bool} {ρ : Rho} {b c : Bool} (e : f ρ = .ok b) (h : b = false → g ρ = .ok c) : tOrr f g ρ = .ok (b || c) := by
  unfold tOrr; rw [e]; cases b with
  | true => rfl
  | false => exact h rfl
theorem tAn_b {f g : Rho → R Bool} {ρ : Rho} {b c : Bool} (e : f ρ = .ok b) (h : b = true → g ρ = .ok c) : tAn f g ρ = .ok (b && c) := by
  unfold tAn; rw [e]; cases b with
  | false => rfl
  | true => exact h rfl
theorem eAnd_b {f g : Rho → R D} {ρ : Rho} {b c : Bool} (e : f ρ = okB b) (h : b = true → g ρ = okB c) : eAnd f g ρ = okB (b && c) := by
  unfold eAnd; rw [tVal_b e]; cases b with
  | false => rfl
  | true => exact h rfl
theorem eNot_b {f : Rho → R D} {ρ : Rho} {b : Bool} (e : f ρ = okB b) : eNot f ρ = okB (!b) := by unfold eNot; rw [tVal_b e]; rfl
theorem eBin_ok {g : D → D → R D} {f h : Rho → R D} {ρ : Rho} {x y : D} (e1 : f ρ = .ok x) (e2 : h ρ = .ok y) : eBin g f h ρ = g x y := by unfold eBin; rw [e1, R.bind_ok, e2]; rfl
theorem eUn_ok {g : D → R D} {f : Rho → R D} {ρ : Rho} {x : D} (e1 : f ρ = .ok x) : eUn g f ρ = g x := by unfold eUn; rw [e1]; rfl
theorem eCh_le {f g h : Rho → R D} {ρ : Rho} {i j k : Int} (e1 : f ρ = okI i) (e2 : g ρ = okI j) (e3 : h ρ = okI k) : eCh mLe mLe f g h ρ = okB (decide (i ≤ j) && decide (j ≤ k)) := by
  unfold eCh
  rw [e1, R.bind_ok, e2, R.bind_ok]
  show (R.ok (decide (i ≤ j))).bind (fun b => if b then (h ρ).bind fun c => mLe (.int j) c else okB false) = _
  rw [R.bind_ok, e3]
  cases decide (i ≤ j) <;> rfl
theorem eCh_lt {f g h : Rho → R D} {ρ : Rho} {i j k : Int} (e1 : f ρ = okI i) (e2 : g ρ = okI j) (e3 : h ρ = okI k) : eCh mLt mLt f g h ρ = okB (decide (i < j) && decide (j < k)) := by
  unfold eCh
  rw [e1, R.bind_ok, e2, R.bind_ok]
  show (R.ok (decide (i < j))).bind (fun b => if b then (h ρ).bind fun c => mLt (.int j) c else okB false) = _
  rw [R.bind_ok, e3]
  cases decide (i < j) <;> rfl
theorem a1_ok {f : Rho → R D} {ρ : Rho} {x : D} (e : f ρ = .ok x) : aCons f aNil ρ = .ok [x] := by unfold aCons; rw [e]; rfl
theorem aC_ok {f : Rho → R D} {g : Rho → R (List D)} {ρ : Rho} {x : D} {xs : List D} (e : f ρ = .ok x) (h : g ρ = .ok xs) : aCons f g ρ = .ok (x :: xs) := by unfold aCons; rw [e, R.bind_ok, h]; rfl
theorem eCall_ok {F : List D → R D} {n : Nat} {fs : Rho → R (List D)} {ρ : Rho} {ds : List D} (e : fs ρ = .ok ds) (h : ds.length = n) : eCall (ar n F) fs ρ = F ds := by unfold eCall; rw [e, R.bind_ok]; unfold ar; rw [if_pos h]
theorem eB_ok {F : List D → R D} {fs : Rho → R (List D)} {ρ : Rho} {ds : List D} (e : fs ρ = .ok ds) : eCallB F fs ρ = F ds := by unfold eCallB; rw [e]; rfl
end DL
set_option Elab.async false
set_option linter.all false
set_option maxRecDepth 100000
set_option maxHeartbeats 2000000
namespace MC
open PySem L2 DL
/-! ### the program's own questions, plainly -/
def isCnt (d : D) (lo hi : Int) : Bool := match d with
  | .int i => decide (lo ≤ i) && decide (i ≤ hi)
  | _ => false
theorem p_is_count (d : D) (lo hi : Int) : m_is_count [d, .int lo, .int hi] = okB (isCnt d lo hi) := by
  unfold m_is_count den_is_count
  have e : ∀ b : Bool, ∀ f : Rho → R D, f (rho0 3 [d, .int lo, .int hi]) = okB b → fin (sRet f (rho0 3 [d, .int lo, .int hi])) = okB b := fun b f h => by rw [sRet_ok h]; rfl
  refine e _ _ ?_
  cases d with
  | int i => exact (eAnd_b (b := true) rfl fun _ => eAnd_b (b := true) rfl fun _ => eCh_le (i := lo) (j := i) (k := hi) rfl rfl rfl)
  | _ => rfl
def figs : List Nat := ("0123456789" : Str).cps.toList
def smalls : List Nat := ("abcdefghijklmnopqrstuvwxyz" : Str).cps.toList
def inAll (l : List Nat) (x : Str) : Bool := x.cps.toList.all fun k => decide (k ∈ l)
def isFig (d : D) (lo hi : Int) : Bool := match d with
  | .str x => decide (lo ≤ x.length) && decide ((x.length : Int) ≤ hi) && inAll figs x
  | _ => false
theorem chrs_all {l : List Nat} {z : Str} (hz : z.cps.toList = l) (x : Str) (fe : Rho → R D) (ρ : Rho) (i : Nat) (hf : ∀ c : Nat, fe ((fgt [i] ρ).set i (.dat (.str ⟨#[c]⟩))) = mIn (.str ⟨#[c]⟩) (.str z)) (f : Rho → R D) (h : f ρ = okS x) :
    eCallB mAll (aCons (eLc [i] (iOf f) (gNm i) tTrue fe) aNil) ρ = okB (inAll l x) := by
  have e1 : iOf f ρ = .ok (chrs x) := by unfold iOf; rw [h]; rfl
  have key := all_lc (vs := [i]) (k := gNm i) (fe := fe) (P := fun d => match d with
    | .str y => (match y.cps.toList with
      | [k] => decide (k ∈ l)
      | _ => false)
    | _ => false) e1 fun d hd => by
      obtain ⟨c, _, rfl⟩ := List.mem_map.mp hd
      refine ⟨_, rfl, ?_⟩
      rw [hf c]
      show (inD (.str ⟨#[c]⟩) (.str z)).bind (fun b => okB b) = _
      show okB (decide (c ∈ z.cps.toList)) = _
      rw [hz]
  rw [key]
  unfold chrs inAll
  rw [List.all_map]
  rfl
theorem p_is_figures (d : D) (lo hi : Int) : m_is_figures [d, .int lo, .int hi] = okB (isFig d lo hi) := by
  unfold m_is_figures den_is_figures
  have e : ∀ b : Bool, ∀ f : Rho → R D, f (rho0 4 [d, .int lo, .int hi]) = okB b → fin (sRet f (rho0 4 [d, .int lo, .int hi])) = okB b := fun b f h => by rw [sRet_ok h]; rfl
  refine e _ _ ?_
  cases d with
  | str x =>
    refine (eAnd_b (b := true) rfl fun _ => eAnd_b (c := inAll figs x) (eCh_le (i := lo) (j := x.length) (k := hi) rfl rfl rfl) fun _ => ?_).trans ?_
    · exact chrs_all (z := "0123456789") rfl x _ _ 3 (fun c => rfl) (eVar 0) rfl
    · unfold isFig
      rw [Bool.true_and]
  | _ => rfl
def isKnd (d : D) : Bool := match d with
  | .str x => decide (1 ≤ (x.length : Int)) && decide ((x.length : Int) ≤ 8) && inAll smalls x
  | _ => false
theorem p_is_kind (d : D) : m_is_kind [d] = okB (isKnd d) := by
  unfold m_is_kind den_is_kind
  have e : ∀ b : Bool, ∀ f : Rho → R D, f (rho0 2 [d]) = okB b → fin (sRet f (rho0 2 [d])) = okB b := fun b f h => by rw [sRet_ok h]; rfl
  refine e _ _ ?_
  cases d with
  | str x =>
    refine (eAnd_b (b := true) rfl fun _ => eAnd_b (c := inAll smalls x) (eCh_le (i := 1) (j := x.length) (k := 8) rfl rfl rfl) fun _ => ?_).trans ?_
    · exact chrs_all (z := "abcdefghijklmnopqrstuvwxyz") rfl x _ _ 1 (fun c => rfl) (eVar 0) rfl
    · unfold isKnd
      rw [Bool.true_and]
  | _ => rfl
/-! ### rows -/
theorem guard {t : Rho → R Bool} {rest : Rho → Fl} {ρ : Rho} {b : Bool} (e : t ρ = .ok b) : fin (sSeq (sIf t (sRet (eC (.bool false))) sNil) rest ρ) = if b then okB false else fin (rest ρ) := by
  cases b with
  | true => rw [sSeq_rt (d := .bool false) (by rw [sIf_t e]; rfl)]; rfl
  | false => rw [sSeq_nx (ρ' := ρ) (by rw [sIf_f e]; rfl)]; rfl
theorem eqv_int (a b : Int) : PyData.eqv (.int a) (.int b) = decide (a = b) := by
  first | rfl | (unfold PyData.eqv; rfl) | simp [PyData.eqv]
theorem ne_int (a b : Int) : mNe (.int a) (.int b) = okB (!decide (a = b)) := by
  unfold mNe
  rw [eqv_int]
  rfl
theorem eq_int (a b : Int) : mEq (.int a) (.int b) = okB (decide (a = b)) := by
  unfold mEq
  rw [eqv_int]
  rfl
/-- not a tuple of four -/
def four (d : D) : Bool := match d with
  | .tuple ts => decide (ts.length = 4)
  | _ => false
theorem p_four (d : D) (ρ : Rho) (h : eVar 0 ρ = .ok d) (g : Rho → R Bool) (c : Bool) (hg : four d = true → g ρ = .ok c) : tOrr (tNt (tVal (eUn (isiD "tuple") (eVar 0)))) (tOrr (tVal (eBin mNe (eCallB mLen (aCons (eVar 0) aNil)) (eC (.int 4)))) g) ρ = .ok (!four d || c) := by
  have e1 : tNt (tVal (eUn (isiD "tuple") (eVar 0))) ρ = .ok (!d.isTuple) := tNt_b (tVal_b (by rw [eUn_ok h]; rfl))
  cases d with
  | tuple ts =>
    have e2 : tVal (eBin mNe (eCallB mLen (aCons (eVar 0) aNil)) (eC (.int 4))) ρ = .ok (!four (.tuple ts)) := by
      refine tVal_b ?_
      rw [eBin_ok (x := .int ts.length) (y := .int 4) (by rw [eB_ok (a1_ok h)]; rfl) rfl, ne_int]
      have : decide (((ts.length : Nat) : Int) = 4) = decide (ts.length = 4) := by
        apply decide_eq_decide.mpr
        omega
      rw [this]; rfl
    rw [tOrr_b (c := !four (.tuple ts) || c) e1 fun _ => tOrr_b e2 fun hh => hg (by simpa using hh)]
    rfl
  | _ => rw [tOrr_b (c := c) e1 fun hh => by cases hh]; rfl
theorem p_four2 (d : D) (ρ : Rho) (h : eVar 0 ρ = .ok d) : tOrr (tNt (tVal (eUn (isiD "tuple") (eVar 0)))) (tVal (eBin mNe (eCallB mLen (aCons (eVar 0) aNil)) (eC (.int 4)))) ρ = .ok (!four d) := by
  have e1 : tNt (tVal (eUn (isiD "tuple") (eVar 0))) ρ = .ok (!d.isTuple) := tNt_b (tVal_b (by rw [eUn_ok h]; rfl))
  cases d with
  | tuple ts =>
    have e2 : tVal (eBin mNe (eCallB mLen (aCons (eVar 0) aNil)) (eC (.int 4))) ρ = .ok (!four (.tuple ts)) := by
      refine tVal_b ?_
      rw [eBin_ok (x := .int ts.length) (y := .int 4) (by rw [eB_ok (a1_ok h)]; rfl) rfl, ne_int]
      have : decide (((ts.length : Nat) : Int) = 4) = decide (ts.length = 4) := by
        apply decide_eq_decide.mpr
        omega
      rw [this]; rfl
    rw [tOrr_b (c := !four (.tuple ts)) e1 fun _ => e2]
    rfl
  | _ => rw [tOrr_b (c := false) e1 fun hh => by cases hh]; rfl
theorem four_at {d : D} (h : four d = true) : ∃ a b c g, d = .tuple [a, b, c, g] := by
  unfold four at h
  split at h
  · rename_i ts
    have h := of_decide_eq_true h
    match ts, h with
    | [a, b, c, g], _ => exact ⟨a, b, c, g, rfl⟩
  · cases h
def mx (b : D) : Int := match b with
  | .str x => if (x.length : Int) + 1 > 3 then (x.length : Int) + 1 else 3
  | _ => 0
def sumIs (gs : List D) (s : Int) : Bool := match asIs gs with
  | some ns => decide (ns.sum = s)
  | none => false
def grp (g c : D) : Bool := match g, c with
  | .tuple gs, .int s => !gs.isEmpty && (gs.all (fun x => isCnt x 1 12) && sumIs gs s)
  | _, _ => false
def rowB (a b c g : D) : Bool := isKnd a && isFig b 0 4 && (isCnt c (mx b) 12 && g.isTuple) && grp g c
def isRow (d : D) : Bool := match d with
  | .tuple [a, b, c, g] => rowB a b c g
  | _ => false
theorem cnt_int {d : D} {lo hi : Int} (h : isCnt d lo hi = true) : ∃ i, d = .int i ∧ lo ≤ i ∧ i ≤ hi := by
  cases d with
  | int i =>
    unfold isCnt at h
    simp only [Bool.and_eq_true, decide_eq_true_eq] at h
    exact ⟨i, rfl, h⟩
  | _ => cases h
theorem cnts_ints {lo hi : Int} : ∀ {gs : List D}, gs.all (fun x => isCnt x lo hi) = true → ∃ ns, asIs gs = some ns ∧ gs = ns.map .int
  | [], _ => ⟨[], rfl, rfl⟩
  | d :: r, h => by
    rw [List.all_cons, Bool.and_eq_true] at h
    obtain ⟨i, rfl, _⟩ := cnt_int h.1
    obtain ⟨ns, e, e2⟩ := cnts_ints h.2
    exact ⟨i :: ns, by unfold asIs; rw [e]; rfl, by rw [e2]; rfl⟩
theorem fig_str {d : D} {lo hi : Int} (h : isFig d lo hi = true) : ∃ x, d = .str x := by
  cases d with
  | str x => exact ⟨x, rfl⟩
  | _ => cases h
theorem ne_nil (gs : List D) : mNe (.tuple gs) (.tuple []) = okB (!gs.isEmpty) := by
  cases gs with
  | nil => rfl
  | cons a r =>
    unfold mNe
    have : PyData.eqv (.tuple (a :: r)) (.tuple []) = false := by simp [PyData.eqv, PyData.eqvAll]
    rw [this]
    have e : (dOk (.tuple (a :: r)) || dOk (.tuple [])) = true := by
      rw [Bool.or_eq_true]; right; rfl
    rw [if_pos e]
    rfl
theorem p_is_row (d : D) : m_is_row [d] = okB (isRow d) := by
  unfold m_is_row den_is_row
  rw [guard (p_four2 d _ rfl)]
  cases h4 : four d with
  | false =>
    show okB false = _
    unfold isRow
    split
    · cases h4
    · rfl
  | true =>
    obtain ⟨a, b, c, g, rfl⟩ := four_at h4
    show fin (sSeq _ _ (rho0 2 [.tuple [a, b, c, g]])) = okB (rowB a b c g)
    have t2 : tOrr (tNt (tVal (eCall (ar 1 m_is_kind) (aCons (eBin mIdx (eVar 0) (eC (.int 0))) (aNil))))) (tNt (tVal (eCall (ar 3 m_is_figures) (aCons (eBin mIdx (eVar 0) (eC (.int 1))) (aCons (eC (.int 0)) (aCons (eC (.int 4)) (aNil))))))) (rho0 2 [.tuple [a, b, c, g]]) = .ok (!isKnd a || !isFig b 0 4) :=
      tOrr_b (tNt_b (tVal_b ((eCall_ok (ds := [a]) rfl rfl).trans (p_is_kind a)))) fun _ => tNt_b (tVal_b ((eCall_ok (ds := [b, .int 0, .int 4]) rfl rfl).trans (p_is_figures b 0 4)))
    rw [guard t2]
    unfold rowB
    cases hk : isKnd a with
    | false => rfl
    | true =>
      cases hf : isFig b 0 4 with
      | false => rfl
      | true =>
        show fin (sSeq _ _ (rho0 2 [.tuple [a, b, c, g]])) = _
        obtain ⟨x, rfl⟩ := fig_str hf
        have t3 : tOrr (tNt (tVal (eCall (ar 3 m_is_count) (aCons (eBin mIdx (eVar 0) (eC (.int 2))) (aCons (eCallB mMax2 (aCons (eC (.int 3)) (aCons (eBin mAdd (eCallB mLen (aCons (eBin mIdx (eVar 0) (eC (.int 1))) (aNil))) (eC (.int 1))) (aNil)))) (aCons (eC (.int 12)) (aNil))))))) (tNt (tVal (eUn (isiD "tuple") (eBin mIdx (eVar 0) (eC (.int 3)))))) (rho0 2 [.tuple [a, .str x, c, g]]) = .ok (!isCnt c (mx (.str x)) 12 || !g.isTuple) :=
          tOrr_b (tNt_b (tVal_b ((eCall_ok (ds := [c, .int (mx (.str x)), .int 12]) rfl rfl).trans (p_is_count c _ 12)))) fun _ => tNt_b (tVal_b rfl)
        rw [guard t3]
        cases hc : isCnt c (mx (.str x)) 12 with
        | false => rfl
        | true =>
          cases hg : g.isTuple with
          | false => rfl
          | true =>
            obtain ⟨s, rfl, _⟩ := cnt_int hc
            cases g with
            | tuple gs =>
              show fin (sRet _ (rho0 2 [.tuple [a, .str x, .int s, .tuple gs]])) = okB (grp (.tuple gs) (.int s))
              have key : ∀ f : Rho → R D, f (rho0 2 [.tuple [a, .str x, .int s, .tuple gs]]) = okB (grp (.tuple gs) (.int s)) → fin (sRet f (rho0 2 [.tuple [a, .str x, .int s, .tuple gs]])) = okB (grp (.tuple gs) (.int s)) := fun f h => by rw [sRet_ok h]; rfl
              refine key _ ?_
              unfold grp
              refine eAnd_b ((eBin_ok (x := .tuple gs) (y := .tuple []) rfl rfl).trans (ne_nil gs)) fun _ => ?_
              refine eAnd_b (all_lc (ds := gs) rfl fun d hd => ⟨_, rfl, (eCall_ok (ds := [d, .int 1, .int 12]) rfl rfl).trans (p_is_count d 1 12)⟩) fun hall => ?_
              obtain ⟨ns, e, _⟩ := cnts_ints hall
              have es : eCallB mSum (aCons (eBin mIdx (eVar 0) (eC (.int 3))) aNil) (rho0 2 [.tuple [a, .str x, .int s, .tuple gs]]) = okI ns.sum := by
                rw [eB_ok (ds := [.tuple gs]) rfl]
                unfold mSum
                show (match asIs gs with
                  | some ns => okI ns.sum
                  | none => .no) = _
                rw [e]
              rw [eBin_ok es (y := .int s) rfl, eq_int]
              unfold sumIs
              rw [e]
            | _ => cases hg
end MC
set_option Elab.async false
set_option linter.all false
set_option maxRecDepth 100000
set_option maxHeartbeats 2000000
namespace MC
open PySem L2 DL
def zeroAt (a : D) : Bool := match a with
  | .str x => decide (x.cps.toList.head? = some 48)
  | _ => false
def keyR (r : D) : NestedKey := match r with
  | .tuple [_, .str b, .int s, _] => .tup [.text b, .num s]
  | _ => .none
def distinct (rs : List D) : Bool := decide ((rs.map keyR).Nodup)
def rowsB (g : D) : Bool := match g with
  | .tuple rs => decide (1 ≤ (rs.length : Int)) && decide ((rs.length : Int) ≤ 8) && (rs.all isRow && distinct rs)
  | _ => false
def landB (a b c g : D) : Bool := isFig a 1 3 && !zeroAt a && (isFig b 1 4 && (isFig c 0 2 && rowsB g))
def isLand (d : D) : Bool := match d with
  | .tuple [a, b, c, g] => landB a b c g
  | _ => false
theorem row_at {d : D} (h : isRow d = true) : ∃ k b s gs, d = .tuple [.str k, .str b, .int s, .tuple gs] ∧ isKnd (.str k) = true ∧ isFig (.str b) 0 4 = true ∧ isCnt (.int s) (mx (.str b)) 12 = true ∧ grp (.tuple gs) (.int s) = true := by
  unfold isRow at h
  split at h
  · rename_i a b c g
    unfold rowB at h
    simp only [Bool.and_eq_true] at h
    obtain ⟨⟨⟨h1, h2⟩, h3, h4⟩, h5⟩ := h
    obtain ⟨x, rfl⟩ := fig_str h2
    obtain ⟨s, rfl, _⟩ := cnt_int h3
    cases a with
    | str k =>
      cases g with
      | tuple gs => exact ⟨k, x, s, gs, rfl, h1, h2, h3, h5⟩
      | _ => cases h4
    | _ => cases h1
  · cases h
def pairR (r : D) : D := match r with
  | .tuple [_, b, s, _] => .tuple [b, s]
  | _ => .none
theorem keys_rows : ∀ {rs : List D}, rs.all isRow = true → keysOf (rs.map pairR) = some (rs.map keyR) ∧ (rs.map pairR).all isTupD = true ∧ (rs.map keyR).all (fun k => decide (k.depth ≤ 8)) = true
  | [], _ => ⟨rfl, rfl, rfl⟩
  | r :: rs, h => by
    rw [List.all_cons, Bool.and_eq_true] at h
    obtain ⟨k, b, s, gs, rfl, _⟩ := row_at h.1
    obtain ⟨e1, e2, e3⟩ := keys_rows h.2
    refine ⟨?_, ?_, ?_⟩
    · show (some (NestedKey.tup [.text b, .num s])).bind (fun k => (keysOf (rs.map pairR)).map (k :: ·)) = _
      rw [e1]; rfl
    · show (isTupD (.tuple [.str b, .int s]) && (rs.map pairR).all isTupD) = true
      rw [e2]; rfl
    · show (decide ((NestedKey.tup [.text b, .num s]).depth ≤ 8) && (rs.map keyR).all _) = true
      rw [e3]; rfl
theorem eqv_str (a b : Str) : PyData.eqv (.str a) (.str b) = decide (a = b) := by
  first | rfl | (unfold PyData.eqv; rfl) | simp [PyData.eqv]
theorem eq_str (a b : Str) : mEq (.str a) (.str b) = okB (decide (a = b)) := by
  unfold mEq
  rw [eqv_str]
  rfl
theorem p_zero {x : Str} (h : 1 ≤ (x.length : Int)) (ρ : Rho) (f : Rho → R D) (hf : f ρ = okS x) : eBin mEq (eBin mIdx f (eC (.int 0))) (eC (.str "0")) ρ = okB (zeroAt (.str x)) := by
  obtain ⟨⟨l⟩⟩ := x
  cases l with
  | nil => exact absurd h (by decide)
  | cons c r =>
    have hat : atI (c :: r) 0 = some c := by
      unfold atI ixN
      rw [if_pos (Int.le_refl 0), if_pos (by simp only [List.length_cons]; omega)]
      rfl
    have hix : mIdx (.str ⟨⟨c :: r⟩⟩) (.int 0) = .ok (.str ⟨#[c]⟩) := by
      unfold mIdx
      show (match atI (c :: r) 0 with
        | some c => R.ok (PyData.str ⟨#[c]⟩)
        | none => .no) = _
      rw [hat]
    rw [eBin_ok (x := .str ⟨#[c]⟩) (y := .str "0") (by rw [eBin_ok hf (y := .int 0) rfl]; exact hix) rfl, eq_str]
    unfold zeroAt
    refine congrArg okB ?_
    apply decide_eq_decide.mpr
    constructor
    · intro e
      have e2 := congrArg (fun z : Str => z.cps.toList) e
      have e3 : [c] = [48] := e2
      cases e3; rfl
    · intro e
      have e2 : some c = some 48 := e
      cases e2; rfl
theorem p_is_land (d : D) : m_is_land [d] = okB (isLand d) := by
  unfold m_is_land den_is_land
  have hc : four d = true → ∃ a b c g, d = .tuple [a, b, c, g] := four_at
  have t1 : ∀ (c : Bool), (four d = true → tOrr (tNt (tVal (eCall (ar 3 m_is_figures) (aCons (eBin mIdx (eVar 0) (eC (.int 0))) (aCons (eC (.int 1)) (aCons (eC (.int 3)) (aNil))))))) (tVal (eBin mEq (eBin mIdx (eBin mIdx (eVar 0) (eC (.int 0))) (eC (.int 0))) (eC (.str "0")))) (rho0 2 [d]) = .ok c) → _ := fun c hc => p_four d (rho0 2 [d]) rfl _ c hc
  cases h4 : four d with
  | false =>
    rw [guard (t1 false fun z => by rw [h4] at z; cases z), h4]
    show okB false = _
    unfold isLand
    split
    · cases h4
    · rfl
  | true =>
    obtain ⟨a, b, c, g, rfl⟩ := four_at h4
    have e1 := t1 (!isFig a 1 3 || zeroAt a) fun _ => tOrr_b (tNt_b (tVal_b ((eCall_ok (ds := [a, .int 1, .int 3]) rfl rfl).trans (p_is_figures a 1 3)))) fun hf => by
      have hf : isFig a 1 3 = true := by simpa using hf
      obtain ⟨x, rfl⟩ := fig_str hf
      unfold isFig at hf
      simp only [Bool.and_eq_true, decide_eq_true_eq] at hf
      exact tVal_b (p_zero hf.1.1 _ _ rfl)
    rw [guard e1, h4]
    show (if (!isFig a 1 3 || zeroAt a) = true then okB false else _) = okB (landB a b c g)
    unfold landB
    cases ha : isFig a 1 3 with
    | false => rfl
    | true =>
      cases hz : zeroAt a with
      | true => rfl
      | false =>
        show fin (sSeq _ _ (rho0 2 [.tuple [a, b, c, g]])) = _
        have t2 : tOrr (tNt (tVal (eCall (ar 3 m_is_figures) (aCons (eBin mIdx (eVar 0) (eC (.int 1))) (aCons (eC (.int 1)) (aCons (eC (.int 4)) (aNil))))))) (tOrr (tNt (tVal (eCall (ar 3 m_is_figures) (aCons (eBin mIdx (eVar 0) (eC (.int 2))) (aCons (eC (.int 0)) (aCons (eC (.int 2)) (aNil))))))) (tNt (tVal (eUn (isiD "tuple") (eBin mIdx (eVar 0) (eC (.int 3))))))) (rho0 2 [.tuple [a, b, c, g]]) = .ok (!isFig b 1 4 || (!isFig c 0 2 || !g.isTuple)) :=
          tOrr_b (tNt_b (tVal_b ((eCall_ok (ds := [b, .int 1, .int 4]) rfl rfl).trans (p_is_figures b 1 4)))) fun _ => tOrr_b (tNt_b (tVal_b ((eCall_ok (ds := [c, .int 0, .int 2]) rfl rfl).trans (p_is_figures c 0 2)))) fun _ => tNt_b (tVal_b rfl)
        rw [guard t2]
        cases hb : isFig b 1 4 with
        | false => rfl
        | true =>
          cases hcf : isFig c 0 2 with
          | false => rfl
          | true =>
            cases g with
            | tuple rs =>
              show fin (sSeq _ _ (rho0 2 [.tuple [a, b, c, .tuple rs]])) = okB (rowsB (.tuple rs))
              have t3 : tOrr (tNt (tVal (eCh mLe mLe (eC (.int 1)) (eCallB mLen (aCons (eBin mIdx (eVar 0) (eC (.int 3))) (aNil))) (eC (.int 8))))) (tNt (tVal (eCallB mAll (aCons (eLc [1] (iOf (eBin mIdx (eVar 0) (eC (.int 3)))) (gNm 1) (tTrue) (eCall (ar 1 m_is_row) (aCons (eVar 1) (aNil)))) (aNil))))) (rho0 2 [.tuple [a, b, c, .tuple rs]]) = .ok (!(decide (1 ≤ (rs.length : Int)) && decide ((rs.length : Int) ≤ 8)) || !rs.all isRow) :=
                tOrr_b (tNt_b (tVal_b (eCh_le (i := 1) (j := rs.length) (k := 8) rfl rfl rfl))) fun _ => tNt_b (tVal_b (all_lc (ds := rs) rfl fun d hd => ⟨_, rfl, (eCall_ok (ds := [d]) rfl rfl).trans (p_is_row d)⟩))
              rw [guard t3]
              have hR : rowsB (.tuple rs) = (decide (1 ≤ (rs.length : Int)) && decide ((rs.length : Int) ≤ 8) && (rs.all isRow && distinct rs)) := rfl
              rw [hR]
              cases hn : (decide (1 ≤ (rs.length : Int)) && decide ((rs.length : Int) ≤ 8)) with
              | false => rfl
              | true =>
                cases hr : rs.all isRow with
                | false => rfl
                | true =>
                  show fin (sRet _ (rho0 2 [.tuple [a, b, c, .tuple rs]])) = okB (distinct rs)
                  have key : ∀ f : Rho → R D, f (rho0 2 [.tuple [a, b, c, .tuple rs]]) = okB (distinct rs) → fin (sRet f (rho0 2 [.tuple [a, b, c, .tuple rs]])) = okB (distinct rs) := fun f h => by rw [sRet_ok h]; rfl
                  refine key _ ?_
                  obtain ⟨k1, k2, k3⟩ := keys_rows hr
                  have hlen : rs.length ≤ 8 := by
                    simp only [Bool.and_eq_true, decide_eq_true_eq] at hn
                    omega
                  have es : eUn mSetLen (eLc [1] (iOf (eBin mIdx (eVar 0) (eC (.int 3)))) (gNm 1) (tTrue) (eSl (eVar 1) (oSome (eC (.int 1))) (oSome (eC (.int 3))))) (rho0 2 [.tuple [a, b, c, .tuple rs]]) = okI ((ddl (rs.map keyR)).length : Nat) := by
                    have em : eLc [1] (iOf (eBin mIdx (eVar 0) (eC (.int 3)))) (gNm 1) (tTrue) (eSl (eVar 1) (oSome (eC (.int 1))) (oSome (eC (.int 3)))) (rho0 2 [.tuple [a, b, c, .tuple rs]]) = .ok (.list (rs.map pairR)) := by
                      refine map_lc (F := pairR) (ds := rs) rfl fun d hd => ⟨_, rfl, ?_⟩
                      obtain ⟨k, b', s, gs, rfl, _⟩ := row_at (List.all_eq_true.mp hr d hd)
                      rfl
                    rw [eUn_ok em]
                    · unfold mSetLen setKeys
                      show (match (keysOf (rs.map pairR)).bind fun ks => if ((rs.map pairR).length < 64 && (rs.map pairR).all isTupD && ks.all (fun k => decide (k.depth ≤ 8))) = true then some ks else none with
                        | some ks => okI (ddl ks).length
                        | none => .no) = _
                      rw [k1]
                      have cond : (decide ((rs.map pairR).length < 64) && (rs.map pairR).all isTupD && (rs.map keyR).all (fun k => decide (k.depth ≤ 8))) = true := by
                        rw [k2, k3, List.length_map]
                        simp
                        omega
                      show (match (if (decide ((rs.map pairR).length < 64) && (rs.map pairR).all isTupD && (rs.map keyR).all (fun k => decide (k.depth ≤ 8))) = true then some (rs.map keyR) else none) with
                        | some ks => okI (ddl ks).length
                        | none => .no) = _
                      rw [if_pos cond]
                  rw [eBin_ok es (y := .int rs.length) rfl, eq_int]
                  unfold distinct
                  refine congrArg okB ?_
                  apply decide_eq_decide.mpr
                  have := ddl_full (ks := rs.map keyR)
                  rw [List.length_map] at this
                  rw [← this]
                  omega
            | _ => rfl
end MC
set_option Elab.async false
set_option linter.all false
set_option maxRecDepth 100000
set_option maxHeartbeats 2000000
namespace MC
open PySem L2 DL
theorem land_at {d : D} (h : isLand d = true) : ∃ a b c rs, d = .tuple [.str a, .str b, .str c, .tuple rs] ∧ isFig (.str a) 1 3 = true ∧ zeroAt (.str a) = false ∧ isFig (.str b) 1 4 = true ∧ isFig (.str c) 0 2 = true ∧ rowsB (.tuple rs) = true := by
  unfold isLand at h
  split at h
  · rename_i a b c g
    unfold landB at h
    simp only [Bool.and_eq_true, Bool.not_eq_true'] at h
    obtain ⟨⟨h1, h2⟩, h3, h4, h5⟩ := h
    obtain ⟨x, rfl⟩ := fig_str h1
    obtain ⟨y, rfl⟩ := fig_str h3
    obtain ⟨z, rfl⟩ := fig_str h4
    cases g with
    | tuple rs => exact ⟨x, y, z, rs, rfl, h1, h2, h3, h4, h5⟩
    | _ => cases h5
  · cases h
def codeD (l : D) : D := match l with
  | .tuple (a :: _) => a
  | _ => .none
def codeS (l : D) : Str := match l with
  | .tuple (.str a :: _) => a
  | _ => "x"
def stepS (x y : Str) : Bool := ltS x y && !Txt.startswith y x
def chainS (ss : List Str) : Bool := (ss.dropLast.zip (ss.drop 1)).all fun p => stepS p.1 p.2
def bookB (ls : List D) : Bool := decide (1 ≤ (ls.length : Int)) && decide ((ls.length : Int) ≤ 6) && (ls.all isLand && chainS (ls.map codeS))
def isBook (d : D) : Bool := match d with
  | .tuple ls => bookB ls
  | _ => false
theorem codes_str : ∀ {ls : List D}, ls.all isLand = true → ls.map codeD = (ls.map codeS).map .str
  | [], _ => rfl
  | l :: ls, h => by
    rw [List.all_cons, Bool.and_eq_true] at h
    obtain ⟨a, b, c, rs, rfl, _⟩ := land_at h.1
    rw [List.map_cons, List.map_cons, List.map_cons, codes_str h.2]
    rfl
theorem cut_last (ds : List D) : cutD ds none (some (-1)) = ds.dropLast := by
  unfold cutD
  have e1 : HT.sIx ds.length 0 none = 0 := rfl
  have e2 : HT.sIx ds.length ds.length (some (-1)) = ds.length - 1 := by
    show (if (-1 : Int) < 0 then (-1 + (ds.length : Int)).toNat else min (-1 : Int).toNat ds.length) = _
    rw [if_pos (by decide)]
    omega
  rw [e1, e2, List.drop_zero, Nat.sub_zero, List.dropLast_eq_take]
theorem cut_one (ds : List D) : cutD ds (some 1) none = ds.drop 1 := by
  unfold cutD
  have e1 : HT.sIx ds.length 0 (some 1) = min 1 ds.length := HT.sIx_nat ds.length 0 1
  have e2 : HT.sIx ds.length ds.length none = ds.length := rfl
  rw [e1, e2]
  cases ds with
  | nil => rfl
  | cons a r =>
    have : min 1 (a :: r).length = 1 := by simp only [List.length_cons]; omega
    rw [this, List.drop_one, List.tail_cons, List.take_of_length_le (by simp only [List.length_cons]; omega)]
theorem p_is_book (d : D) : m_is_book [d] = okB (isBook d) := by
  unfold m_is_book den_is_book
  cases d with
  | tuple ls =>
    have t1 : tOrr (tNt (tVal (eUn (isiD "tuple") (eVar 0)))) (tNt (tVal (eCh mLe mLe (eC (.int 1)) (eCallB mLen (aCons (eVar 0) (aNil))) (eC (.int 6))))) (rho0 5 [.tuple ls]) = .ok (!(decide (1 ≤ (ls.length : Int)) && decide ((ls.length : Int) ≤ 6))) := by
      rw [tOrr_b (b := false) (c := !(decide (1 ≤ (ls.length : Int)) && decide ((ls.length : Int) ≤ 6))) rfl fun _ => tNt_b (tVal_b (eCh_le (i := 1) (j := ls.length) (k := 6) rfl rfl rfl))]
      rfl
    rw [guard t1]
    show _ = okB (bookB ls)
    unfold bookB
    cases hn : (decide (1 ≤ (ls.length : Int)) && decide ((ls.length : Int) ≤ 6)) with
    | false => rfl
    | true =>
      show fin (sSeq _ _ (rho0 5 [.tuple ls])) = _
      have t2 : tNt (tVal (eCallB mAll (aCons (eLc [2] (iOf (eVar 0)) (gNm 2) (tTrue) (eCall (ar 1 m_is_land) (aCons (eVar 2) (aNil)))) (aNil)))) (rho0 5 [.tuple ls]) = .ok (!ls.all isLand) :=
        tNt_b (tVal_b (all_lc (ds := ls) rfl fun d hd => ⟨_, rfl, (eCall_ok (ds := [d]) rfl rfl).trans (p_is_land d)⟩))
      rw [guard t2]
      cases hl : ls.all isLand with
      | false => rfl
      | true =>
        show fin (sSeq _ _ (rho0 5 [.tuple ls])) = okB (chainS (ls.map codeS))
        have e1 : eLc [2] (iOf (eVar 0)) (gNm 2) (tTrue) (eBin mIdx (eVar 2) (eC (.int 0))) (rho0 5 [.tuple ls]) = .ok (.list (ls.map codeD)) := by
          refine map_lc (ds := ls) rfl fun d hd => ⟨_, rfl, ?_⟩
          obtain ⟨a, b, c, rs, rfl, _⟩ := land_at (List.all_eq_true.mp hl d hd)
          rfl
        rw [sSeq_nx (sSet_ok e1)]
        rw [codes_str hl]
        generalize ls.map codeS = ss
        show fin (sRet _ [.dat (.tuple ls), .dat (.list (ss.map .str)), .no, .no, .no]) = okB (chainS ss)
        have key : ∀ f : Rho → R D, f [.dat (.tuple ls), .dat (.list (ss.map .str)), .no, .no, .no] = okB (chainS ss) → fin (sRet f [.dat (.tuple ls), .dat (.list (ss.map .str)), .no, .no, .no]) = okB (chainS ss) := fun f h => by rw [sRet_ok h]; rfl
        refine key _ ?_
        have es : iRg zp (aCons (eSl (eVar 1) (oNone) (oSome (eUn mNeg (eC (.int 1))))) (aCons (eSl (eVar 1) (oSome (eC (.int 1))) (oNone)) (aNil))) [.dat (.tuple ls), .dat (.list (ss.map .str)), .no, .no, .no] = .ok ((ss.dropLast.zip (ss.drop 1)).map fun p => .tuple [.str p.1, .str p.2]) := by
          show zp [.list (cutD (ss.map .str) none (some (-1))), .list (cutD (ss.map .str) (some 1) none)] = _
          rw [cut_last, cut_one]
          show R.ok (zipL _ _) = _
          unfold zipL
          rw [← List.map_dropLast, ← List.map_drop, List.zip_map, List.map_map]
          rfl
        refine (all_lc (P := fun d => match d with
          | .tuple [.str x, .str y] => stepS x y
          | _ => false) es fun d hd => ?_).trans ?_
        · obtain ⟨p, _, rfl⟩ := List.mem_map.mp hd
          refine ⟨_, rfl, ?_⟩
          exact eAnd_b (b := ltS p.1 p.2) (c := !Txt.startswith p.2 p.1) rfl fun _ => eNot_b rfl
        · unfold chainS
          rw [List.all_map]
          rfl
  | _ => rfl
theorem p_need_book (d : D) : m_need_book [d] = if isBook d then .ok .none else .exc "BadBook" := by
  unfold m_need_book den_need_book
  have t : tNt (tVal (eCall (ar 1 m_is_book) (aCons (eVar 0) (aNil)))) (rho0 1 [d]) = .ok (!isBook d) := tNt_b (tVal_b ((eCall_ok (ds := [d]) rfl rfl).trans (p_is_book d)))
  cases h : isBook d with
  | true => rw [sIf_f (by rw [t, h]; rfl)]; rfl
  | false => rw [sIf_t (by rw [t, h]; rfl)]; rfl
end MC
set_option Elab.async false
set_option linter.all false
set_option maxRecDepth 100000
set_option maxHeartbeats 2000000
namespace MC
open PySem L2 DL
theorem eqv_nilL (l : List D) : PyData.eqv (.list l) (.list []) = l.isEmpty := by
  cases l with
  | nil => rfl
  | cons a r => simp [PyData.eqv, PyData.eqvAll]
theorem eq_nilL (l : List D) : mEq (.list l) (.list []) = okB l.isEmpty := by
  unfold mEq
  have e : (dOk (.list l) || dOk (.list [])) = true := by rw [Bool.or_eq_true]; right; rfl
  rw [if_pos e, eqv_nilL]
theorem ne_nilL (l : List D) : mNe (.list l) (.list []) = okB (!l.isEmpty) := by
  unfold mNe
  have e : (dOk (.list l) || dOk (.list [])) = true := by rw [Bool.or_eq_true]; right; rfl
  rw [if_pos e, eqv_nilL]
theorem filt_empty {α : Type} (p : α → Bool) : ∀ l : List α, (l.filter fun x => !p x).isEmpty = l.all p
  | [] => rfl
  | a :: r => by
    cases h : p a with
    | true => rw [List.filter_cons_of_neg (by simp [h]), List.all_cons, h, filt_empty p r]; rfl
    | false => rw [List.filter_cons_of_pos (by simp [h]), List.all_cons, h]; rfl
/-- [sign for sign in x if not p(sign)]: whether none -/
theorem signs_none {x : Str} {f : Rho → R D} {t : Rho → R Bool} {ρ : Rho} {i : Nat} (p : Nat → Bool) (h : f ρ = okS x) (hi : i < ρ.length) (ht : ∀ c : Nat, t ((fgt [i] ρ).set i (.dat (.str ⟨#[c]⟩))) = .ok (!p c)) :
    ∃ l, eLc [i] (iOf f) (gNm i) t (eVar i) ρ = .ok (.list l) ∧ l.isEmpty = x.cps.toList.all p := by
  have e1 : iOf f ρ = .ok (chrs x) := by unfold iOf; rw [h]; rfl
  refine ⟨((chrs x).filter fun d => match d with
    | .str y => (match y.cps.toList with
      | [k] => !p k
      | _ => true)
    | _ => true).map id, filter_lc (F := id) e1 fun d hd => ?_, ?_⟩
  · obtain ⟨c, _, rfl⟩ := List.mem_map.mp hd
    refine ⟨_, rfl, ht c, fun _ => ?_⟩
    unfold eVar
    have hl : i < (fgt [i] ρ).length := by
      show i < (ρ.set i .no).length
      rw [List.length_set]; exact hi
    rw [List.getElem?_set_self hl]
    rfl
  · rw [List.map_id]
    unfold chrs
    rw [List.filter_map, List.isEmpty_map]
    exact filt_empty p x.cps.toList
theorem p_law_is_figures (d : D) (lo hi : Int) : m__law_is_figures [d, .int lo, .int hi] = okB (isFig d lo hi) := by
  unfold m__law_is_figures den__law_is_figures
  cases d with
  | str x =>
    have t1 : tOrr (tNt (tVal (eUn (isiD "str") (eVar 0)))) (tOrr (tVal (eBin mLt (eCallB mLen (aCons (eVar 0) (aNil))) (eVar 1))) (tVal (eBin mGt (eCallB mLen (aCons (eVar 0) (aNil))) (eVar 2)))) (rho0 4 [.str x, .int lo, .int hi]) = .ok (decide ((x.length : Int) < lo) || decide (hi < (x.length : Int))) := by
      rw [tOrr_b (b := false) (c := decide ((x.length : Int) < lo) || decide (hi < (x.length : Int))) rfl fun _ => tOrr_b (b := decide ((x.length : Int) < lo)) rfl fun _ => rfl]
      rfl
    rw [guard t1]
    have hF : isFig (.str x) lo hi = (decide (lo ≤ (x.length : Int)) && decide ((x.length : Int) ≤ hi) && inAll figs x) := rfl
    rw [hF]
    have n1 : decide ((x.length : Int) < lo) = !decide (lo ≤ (x.length : Int)) := by
      by_cases h : lo ≤ (x.length : Int)
      · rw [decide_eq_true h, decide_eq_false (by omega)]; rfl
      · rw [decide_eq_false h, decide_eq_true (by omega)]; rfl
    have n2 : decide (hi < (x.length : Int)) = !decide ((x.length : Int) ≤ hi) := by
      by_cases h : (x.length : Int) ≤ hi
      · rw [decide_eq_true h, decide_eq_false (by omega)]; rfl
      · rw [decide_eq_false h, decide_eq_true (by omega)]; rfl
    rw [n1, n2]
    cases decide (lo ≤ (x.length : Int)) with
    | false => rfl
    | true =>
      cases decide ((x.length : Int) ≤ hi) with
      | false => rfl
      | true =>
        show fin (sRet _ (rho0 4 [.str x, .int lo, .int hi])) = okB (inAll figs x)
        obtain ⟨l, e1, e2⟩ := signs_none (f := eVar 0) (t := tVal (eBin mNotIn (eVar 3) (eC (.str "0123456789")))) (ρ := rho0 4 [.str x, .int lo, .int hi]) (i := 3) (x := x) (fun k => decide (k ∈ figs)) rfl (show 3 < 4 by decide) (fun c => rfl)
        have e3 := eBin_ok (g := mEq) e1 (show eLst aNil (rho0 4 [.str x, .int lo, .int hi]) = .ok (.list []) from rfl)
        rw [eq_nilL, e2] at e3
        rw [sRet_ok e3]
        rfl
  | _ => rfl
theorem le_one (a c : Nat) : leS ⟨#[a]⟩ ⟨#[c]⟩ = decide (a ≤ c) := by
  unfold leS ltS
  show (!decide ([c] < [a])) = _
  by_cases h : a ≤ c
  · rw [decide_eq_true h, decide_eq_false]; rfl
    intro z
    have := List.cons_lt_cons_iff.mp z
    rcases this with q | q
    · omega
    · exact absurd q.2 (by simp)
  · rw [decide_eq_false h, decide_eq_true]; rfl
    exact List.cons_lt_cons_iff.mpr (.inl (by omega))
theorem small_iff (c : Nat) : (decide (97 ≤ c) && decide (c ≤ 122)) = decide (c ∈ smalls) := by
  have e : smalls = [97,98,99,100,101,102,103,104,105,106,107,108,109,110,111,112,113,114,115,116,117,118,119,120,121,122] := by decide +kernel
  rw [e]
  by_cases h : 97 ≤ c ∧ c ≤ 122
  · rw [decide_eq_true h.1, decide_eq_true h.2]
    symm
    apply decide_eq_true
    simp only [List.mem_cons, List.mem_nil_iff, or_false]
    omega
  · have : (decide (97 ≤ c) && decide (c ≤ 122)) = false := by
      by_cases h1 : 97 ≤ c
      · rw [decide_eq_true h1, decide_eq_false (fun z => h ⟨h1, z⟩)]; rfl
      · rw [decide_eq_false h1]; rfl
    rw [this]
    symm
    apply decide_eq_false
    simp only [List.mem_cons, List.mem_nil_iff, or_false]
    omega
/-! ### the law's rows -/
mutual
/-- short throughout -/
def sh : D → Bool
  | .tuple ds => decide (ds.length ≤ 1000) && shs ds
  | .list ds => decide (ds.length ≤ 1000) && shs ds
  | _ => true
def shs : List D → Bool
  | [] => true
  | d :: r => sh d && shs r
end
def posI (d : D) : Bool := match d with
  | .int i => decide (1 ≤ i)
  | _ => false
theorem bad_one (d : D) (ρ : Rho) (h : eVar 1 ρ = .ok d) : tOrr (tNt (tVal (eUn (isiD "int") (eVar 1)))) (tOrr (tVal (eUn (isiD "bool") (eVar 1))) (tVal (eBin mLt (eVar 1) (eC (.int 1))))) ρ = .ok (!posI d) := by
  have e1 : tNt (tVal (eUn (isiD "int") (eVar 1))) ρ = .ok (!d.isInt) := tNt_b (tVal_b (by rw [eUn_ok h]; rfl))
  have e2 : tVal (eUn (isiD "bool") (eVar 1)) ρ = .ok d.isBool := tVal_b (by rw [eUn_ok h]; rfl)
  cases d with
  | int i =>
    have e3 : tVal (eBin mLt (eVar 1) (eC (.int 1))) ρ = .ok (!posI (.int i)) := tVal_b (by
      rw [eBin_ok h (y := .int 1) rfl]
      show okB (decide (i < 1)) = okB (!decide (1 ≤ i))
      refine congrArg okB ?_
      by_cases hh : 1 ≤ i
      · rw [decide_eq_true hh, decide_eq_false (by omega)]; rfl
      · rw [decide_eq_false hh, decide_eq_true (by omega)]; rfl)
    rw [tOrr_b (c := !posI (.int i)) e1 fun _ => by rw [tOrr_b (c := !posI (.int i)) e2 fun _ => e3]; rfl]
    rfl
  | bool b => rw [tOrr_b (c := true) e1 fun _ => by rw [tOrr_b (c := true) e2 fun hh => by cases hh]; rfl]; rfl
  | _ => rw [tOrr_b (c := true) e1 fun hh => by cases hh]; rfl
/-- the loop over the size and the groups -/
theorem loop_pos (r0 r2 : Sl) : ∀ ds : List D, loopD (fun d ρ => (gNm 1 d ρ).go (sBeh [1] (sIf (tOrr (tNt (tVal (eUn (isiD "int") (eVar 1)))) (tOrr (tVal (eUn (isiD "bool") (eVar 1))) (tVal (eBin mLt (eVar 1) (eC (.int 1)))))) (sRet (eC (.bool false))) (sNil)))) ds [r0, .no, r2] = if ds.all posI then .nx [r0, .no, r2] else .rt (.bool false)
  | [] => rfl
  | d :: r => by
    unfold loopD
    show (match sBeh [1] (sIf _ (sRet (eC (.bool false))) sNil) [r0, .dat d, r2] with
      | .nx ρ' => loopD _ r ρ'
      | .ct ρ' => loopD _ r ρ'
      | .bk ρ' => .nx ρ'
      | .rt v => .rt v
      | .exc c ρ' => .exc c ρ'
      | .no => .no) = _
    have e := bad_one d [r0, .dat d, r2] rfl
    cases hp : posI d with
    | true =>
      rw [hp] at e
      have e2 : sBeh [1] (sIf (tOrr (tNt (tVal (eUn (isiD "int") (eVar 1)))) (tOrr (tVal (eUn (isiD "bool") (eVar 1))) (tVal (eBin mLt (eVar 1) (eC (.int 1)))))) (sRet (eC (.bool false))) sNil) [r0, .dat d, r2] = .nx [r0, .no, r2] := by
        unfold sBeh
        rw [sIf_f e]
        rfl
      rw [e2]
      show loopD _ r [r0, .no, r2] = _
      rw [loop_pos r0 r2 r, List.all_cons, hp, Bool.true_and]
    | false =>
      rw [hp] at e
      have e2 : sBeh [1] (sIf (tOrr (tNt (tVal (eUn (isiD "int") (eVar 1)))) (tOrr (tVal (eUn (isiD "bool") (eVar 1))) (tVal (eBin mLt (eVar 1) (eC (.int 1)))))) (sRet (eC (.bool false))) sNil) [r0, .dat d, r2] = .rt (.bool false) := by
        unfold sBeh
        rw [sIf_t e]
        rfl
      rw [e2, List.all_cons, hp]
      rfl
end MC
set_option Elab.async false
set_option linter.all false
set_option maxRecDepth 100000
set_option maxHeartbeats 2000000
namespace MC
open PySem L2 DL
theorem sBeh_nx {is : List Nat} {g : Rho → Fl} {ρ ρ' : Rho} (e : g ρ = .nx ρ') : sBeh is g ρ = .nx (fgt is ρ') := by unfold sBeh; rw [e]
theorem sBeh_rt {is : List Nat} {g : Rho → Fl} {ρ : Rho} {d : D} (e : g ρ = .rt d) : sBeh is g ρ = .rt d := by unfold sBeh; rw [e]
theorem pos_ints : ∀ {gs : List D}, gs.all posI = true → ∃ ns : List Int, gs = ns.map .int ∧ asIs gs = some ns ∧ ∀ n ∈ ns, 1 ≤ n
  | [], _ => ⟨[], rfl, rfl, fun n hn => by cases hn⟩
  | d :: r, h => by
    rw [List.all_cons, Bool.and_eq_true] at h
    obtain ⟨ns, e1, e2, e3⟩ := pos_ints h.2
    cases d with
    | int i =>
      have hi : 1 ≤ i := of_decide_eq_true h.1
      refine ⟨i :: ns, by rw [e1]; rfl, by unfold asIs; rw [e2]; rfl, fun n hn => ?_⟩
      rcases List.mem_cons.mp hn with rfl | hn
      · exact hi
      · exact e3 n hn
    | _ => cases h.1
theorem sum_nonneg : ∀ {ns : List Int}, (∀ n ∈ ns, 1 ≤ n) → 0 ≤ ns.sum
  | [], _ => by simp
  | n :: ns, h => by
    have h1 := h n List.mem_cons_self
    have h2 := sum_nonneg fun m hm => h m (List.mem_cons_of_mem _ hm)
    rw [List.sum_cons]; omega
theorem le_sum : ∀ {ns : List Int} {m : Int}, (∀ n ∈ ns, 1 ≤ n) → m ∈ ns → m ≤ ns.sum
  | [], _, _, hm => by cases hm
  | n :: ns, m, h, hm => by
    have h1 := h n List.mem_cons_self
    have h2 := sum_nonneg fun k hk => h k (List.mem_cons_of_mem _ hk)
    rw [List.sum_cons]
    rcases List.mem_cons.mp hm with rfl | hm
    · omega
    · have h3 := le_sum (fun k hk => h k (List.mem_cons_of_mem _ hk)) hm
      omega
theorem cnt_pos {c : D} {lo hi : Int} (hl : 1 ≤ lo) (h : isCnt c lo hi = true) : posI c = true := by
  obtain ⟨i, rfl, h1, _⟩ := cnt_int h
  exact decide_eq_true (by omega)
theorem all_pos {gs : List D} (h : gs.all (fun x => isCnt x 1 12) = true) : gs.all posI = true := by
  rw [List.all_eq_true] at h ⊢
  exact fun d hd => cnt_pos (Int.le_refl 1) (h d hd)
theorem mx_ge (b : D) (h : b.isStr = true) : 3 ≤ mx b := by
  cases b with
  | str x => unfold mx; split <;> omega
  | _ => cases h
/-- the last question of the law's rows -/
theorem last_row (x : Str) (s : Int) (ns : List Int) (h : ∀ n ∈ ns, 1 ≤ n) :
    ((decide (2 < s) && decide (s < 13)) && (decide ((x.length : Int) < s) && decide (ns.sum = s))) = (isCnt (.int s) (mx (.str x)) 12 && grp (.tuple (ns.map .int)) (.int s)) := by
  have e1 : isCnt (.int s) (mx (.str x)) 12 = (decide (mx (.str x) ≤ s) && decide (s ≤ 12)) := rfl
  have asI : ∀ ns : List Int, asIs (ns.map .int) = some ns := fun ns => by
    induction ns with
    | nil => rfl
    | cons n ns ih => show (asIs (ns.map .int)).map (n :: ·) = _; rw [ih]; rfl
  have e2 : grp (.tuple (ns.map .int)) (.int s) = (!(ns.map PyData.int).isEmpty && ((ns.map PyData.int).all (fun x => isCnt x 1 12) && sumIs (ns.map .int) s)) := rfl
  have e3 : sumIs (ns.map .int) s = decide (ns.sum = s) := by unfold sumIs; rw [asI]
  have m3 : mx (.str x) ≤ s ↔ 3 ≤ s ∧ (x.length : Int) < s := by
    show (if (x.length : Int) + 1 > 3 then (x.length : Int) + 1 else 3) ≤ s ↔ _
    split <;> omega
  rw [e1, e2, e3]
  apply Bool.eq_iff_iff.mpr
  simp only [Bool.and_eq_true, decide_eq_true_eq, m3, Bool.not_eq_true', List.all_eq_true, List.isEmpty_eq_false_iff]
  constructor
  · rintro ⟨⟨h1, h2⟩, h3, h4⟩
    refine ⟨⟨⟨by omega, h3⟩, by omega⟩, ?_, fun d hd => ?_, h4⟩
    · intro z
      have : ns = [] := List.map_eq_nil_iff.mp z
      subst this
      simp at h4
      omega
    · obtain ⟨n, hn, rfl⟩ := List.mem_map.mp hd
      have a1 := h n hn
      have a2 := le_sum h hn
      show (decide (1 ≤ n) && decide (n ≤ 12)) = true
      rw [decide_eq_true a1, decide_eq_true (by omega)]; rfl
  · rintro ⟨⟨⟨h1, h2⟩, h3⟩, _, _, h4⟩
    exact ⟨⟨by omega, by omega⟩, h2, h4⟩
theorem p_law_is_row (d : D) (hs : sh d = true) : m__law_is_row [d] = okB (isRow d) := by
  unfold m__law_is_row den__law_is_row
  cases h4 : four d with
  | false =>
    rw [guard (p_four d (rho0 3 [d]) rfl _ false fun z => by rw [h4] at z; cases z), h4]
    show okB false = _
    unfold isRow
    split
    · cases h4
    · rfl
  | true =>
    obtain ⟨a, b, c, g, rfl⟩ := four_at h4
    have e1 := p_four (.tuple [a, b, c, g]) (rho0 3 [.tuple [a, b, c, g]]) rfl (tOrr (tNt (tVal (eUn (isiD "str") (eBin mIdx (eVar 0) (eC (.int 0)))))) (tNt (tVal (eCh mLt mLt (eC (.int 0)) (eCallB mLen (aCons (eBin mIdx (eVar 0) (eC (.int 0))) (aNil))) (eC (.int 9)))))) (match a with
      | .str k => !(decide (0 < (k.length : Int)) && decide ((k.length : Int) < 9))
      | _ => true) fun _ => by
        cases a with
        | str k =>
          rw [tOrr_b (b := false) (c := !(decide (0 < (k.length : Int)) && decide ((k.length : Int) < 9))) rfl fun _ => tNt_b (tVal_b (eCh_lt (i := 0) (j := k.length) (k := 9) rfl rfl rfl))]
          rfl
        | _ => rfl
    rw [guard e1, h4]
    show _ = okB (rowB a b c g)
    have out : isKnd a = false → okB false = okB (rowB a b c g) := fun z => by unfold rowB; rw [z]; rfl
    cases a with
    | str k =>
      show (if (!(decide (0 < (k.length : Int)) && decide ((k.length : Int) < 9))) = true then okB false else _) = _
      have hk : isKnd (.str k) = ((decide (0 < (k.length : Int)) && decide ((k.length : Int) < 9)) && inAll smalls k) := by
        show (decide (1 ≤ (k.length : Int)) && decide ((k.length : Int) ≤ 8) && inAll smalls k) = _
        have n1 : decide (1 ≤ (k.length : Int)) = decide (0 < (k.length : Int)) := decide_eq_decide.mpr (by omega)
        have n2 : decide ((k.length : Int) ≤ 8) = decide ((k.length : Int) < 9) := decide_eq_decide.mpr (by omega)
        rw [n1, n2]
      cases hb : (decide (0 < (k.length : Int)) && decide ((k.length : Int) < 9)) with
      | false => exact out (by rw [hk, hb]; rfl)
      | true =>
        rw [hb, Bool.true_and] at hk
        show fin (sSeq _ _ (rho0 3 [.tuple [.str k, b, c, g]])) = _
        obtain ⟨l, l1, l2⟩ := signs_none (f := eBin mIdx (eVar 0) (eC (.int 0))) (t := tNt (tVal (eCh mLe mLe (eC (.str "a")) (eVar 2) (eC (.str "z"))))) (ρ := rho0 3 [.tuple [.str k, b, c, g]]) (i := 2) (x := k) (fun k => decide (k ∈ smalls)) rfl (show 2 < 3 by decide) (fun ch => by
          refine tNt_b (tVal_b ?_)
          rw [← small_iff]
          unfold eCh
          show (R.ok (leS "a" ⟨#[ch]⟩)).bind (fun b => if b then mLe (.str ⟨#[ch]⟩) (.str "z") else okB false) = _
          have ea : leS "a" ⟨#[ch]⟩ = decide (97 ≤ ch) := le_one 97 ch
          have ez : leS ⟨#[ch]⟩ "z" = decide (ch ≤ 122) := le_one ch 122
          rw [R.bind_ok, ea]
          cases decide (97 ≤ ch) with
          | false => rfl
          | true => show okB (leS ⟨#[ch]⟩ "z") = _; rw [ez]; rfl)
        have t2 := tOrr_b (f := tVal (eBin mNe (eLc [2] (iOf (eBin mIdx (eVar 0) (eC (.int 0)))) (gNm 2) (tNt (tVal (eCh mLe mLe (eC (.str "a")) (eVar 2) (eC (.str "z"))))) (eVar 2)) (eLst (aNil)))) (g := tNt (tVal (eCall (ar 3 m__law_is_figures) (aCons (eBin mIdx (eVar 0) (eC (.int 1))) (aCons (eC (.int 0)) (aCons (eC (.int 4)) (aNil))))))) (ρ := rho0 3 [.tuple [.str k, b, c, g]]) (b := !inAll smalls k) (c := !isFig b 0 4)
          (tVal_b (by rw [eBin_ok l1 (y := .list []) rfl, ne_nilL, l2]; rfl)) fun _ => tNt_b (tVal_b ((eCall_ok (ds := [b, .int 0, .int 4]) rfl rfl).trans (p_law_is_figures b 0 4)))
        rw [guard t2]
        cases hsm : inAll smalls k with
        | false => exact out (by rw [hk, hsm])
        | true =>
          have hk2 : isKnd (.str k) = true := by rw [hk, hsm]
          cases hf : isFig b 0 4 with
          | false => show okB false = _; unfold rowB; rw [hf, Bool.and_false]; rfl
          | true =>
            obtain ⟨x, rfl⟩ := fig_str hf
            show fin (sSeq _ _ (rho0 3 [.tuple [.str k, .str x, c, g]])) = _
            have hrow : rowB (.str k) (.str x) c g = (isCnt c (mx (.str x)) 12 && g.isTuple && grp g c) := by
              unfold rowB
              rw [hk2, hf]
              rfl
            rw [hrow]
            cases hg : g.isTuple with
            | false =>
              have hi : iOf (eIf (tVal (eUn (isiD "tuple") (eBin mIdx (eVar 0) (eC (.int 3))))) (eBin mAdd (eSl (eVar 0) (oSome (eC (.int 2))) (oSome (eC (.int 3)))) (eBin mIdx (eVar 0) (eC (.int 3)))) (eTup (aCons (eC .none) (aNil)))) (rho0 3 [.tuple [.str k, .str x, c, g]]) = .ok [.none] := by
                cases g with
                | tuple gs => cases hg
                | _ => rfl
              rw [sSeq_rt (d := .bool false)]
              · rw [Bool.and_false]; rfl
              · unfold sBeh sFgt sFor
                show (match (iOf _ (rho0 3 [.tuple [.str k, .str x, c, g]])).thn _ _ with
                  | .nx ρ' => Fl.nx (fgt [1] ρ')
                  | .ct ρ' => .ct (fgt [1] ρ')
                  | .bk ρ' => .bk (fgt [1] ρ')
                  | r => r) = _
                rw [hi]
                rfl
            | true =>
              cases g with
              | tuple gs =>
                have hlen : gs.length ≤ 1000 := by
                  simp only [sh, shs, Bool.and_eq_true, decide_eq_true_eq] at hs
                  exact hs.2.2.2.2.1.1
                have hi : iOf (eIf (tVal (eUn (isiD "tuple") (eBin mIdx (eVar 0) (eC (.int 3))))) (eBin mAdd (eSl (eVar 0) (oSome (eC (.int 2))) (oSome (eC (.int 3)))) (eBin mIdx (eVar 0) (eC (.int 3)))) (eTup (aCons (eC .none) (aNil)))) (rho0 3 [.tuple [.str k, .str x, c, .tuple gs]]) = .ok (c :: gs) := by
                  have ef : fits (1 + gs.length) = true := by unfold fits; rw [decide_eq_true_eq, sizeLine_eq]; omega
                  show (if fits (1 + gs.length) = true then R.ok (PyData.tuple (c :: gs)) else R.no).bind itemsOf = _
                  rw [if_pos ef]
                  rfl
                have hloop : sBeh [1] (sFgt [1] (sFor (iOf (eIf (tVal (eUn (isiD "tuple") (eBin mIdx (eVar 0) (eC (.int 3))))) (eBin mAdd (eSl (eVar 0) (oSome (eC (.int 2))) (oSome (eC (.int 3)))) (eBin mIdx (eVar 0) (eC (.int 3)))) (eTup (aCons (eC .none) (aNil))))) (gNm 1) (sBeh [1] (sIf (tOrr (tNt (tVal (eUn (isiD "int") (eVar 1)))) (tOrr (tVal (eUn (isiD "bool") (eVar 1))) (tVal (eBin mLt (eVar 1) (eC (.int 1)))))) (sRet (eC (.bool false))) (sNil))))) (rho0 3 [.tuple [.str k, .str x, c, .tuple gs]]) = if (c :: gs).all posI then .nx (rho0 3 [.tuple [.str k, .str x, c, .tuple gs]]) else .rt (.bool false) := by
                  have e : sFgt [1] (sFor (iOf (eIf (tVal (eUn (isiD "tuple") (eBin mIdx (eVar 0) (eC (.int 3))))) (eBin mAdd (eSl (eVar 0) (oSome (eC (.int 2))) (oSome (eC (.int 3)))) (eBin mIdx (eVar 0) (eC (.int 3)))) (eTup (aCons (eC .none) (aNil))))) (gNm 1) (sBeh [1] (sIf (tOrr (tNt (tVal (eUn (isiD "int") (eVar 1)))) (tOrr (tVal (eUn (isiD "bool") (eVar 1))) (tVal (eBin mLt (eVar 1) (eC (.int 1)))))) (sRet (eC (.bool false))) (sNil)))) (rho0 3 [.tuple [.str k, .str x, c, .tuple gs]]) = if (c :: gs).all posI then .nx (rho0 3 [.tuple [.str k, .str x, c, .tuple gs]]) else .rt (.bool false) := by
                    unfold sFgt sFor
                    show (iOf _ (rho0 3 [.tuple [.str k, .str x, c, .tuple gs]])).thn _ _ = _
                    rw [hi]
                    exact loop_pos (.dat (.tuple [.str k, .str x, c, .tuple gs])) .no (c :: gs)
                  cases hq : (c :: gs).all posI with
                  | true => rw [hq] at e; exact sBeh_nx e
                  | false => rw [hq] at e; exact sBeh_rt e
                cases hp : (c :: gs).all posI with
                | false =>
                  rw [sSeq_rt (d := .bool false) (by rw [hloop, hp]; rfl)]
                  have : (isCnt c (mx (.str x)) 12 && true && grp (.tuple gs) c) = false := by
                    cases hc : isCnt c (mx (.str x)) 12 with
                    | false => rfl
                    | true =>
                      cases hgr : grp (.tuple gs) c with
                      | false => rfl
                      | true =>
                        have p1 := cnt_pos (by have := mx_ge (.str x) rfl; omega) hc
                        obtain ⟨s, rfl, _⟩ := cnt_int hc
                        have e2 : grp (.tuple gs) (.int s) = (!gs.isEmpty && (gs.all (fun x => isCnt x 1 12) && sumIs gs s)) := rfl
                        rw [e2] at hgr
                        simp only [Bool.and_eq_true] at hgr
                        have p2 := all_pos hgr.2.1
                        rw [List.all_cons, p1, p2] at hp
                        cases hp
                  rw [this]
                  rfl
                | true =>
                  rw [sSeq_nx (ρ' := rho0 3 [.tuple [.str k, .str x, c, .tuple gs]]) (by rw [hloop, hp]; rfl)]
                  rw [List.all_cons, Bool.and_eq_true] at hp
                  obtain ⟨ns, rfl, e2, e3⟩ := pos_ints hp.2
                  cases c with
                  | int s =>
                    have es : eCallB mSum (aCons (eBin mIdx (eVar 0) (eC (.int 3))) aNil) (rho0 3 [.tuple [.str k, .str x, .int s, .tuple (ns.map .int)]]) = okI ns.sum := by
                      rw [eB_ok (ds := [.tuple (ns.map .int)]) rfl]
                      unfold mSum
                      show (match asIs (ns.map .int) with
                        | some ns => okI ns.sum
                        | none => .no) = _
                      rw [e2]
                    have er := eAnd_b (f := eCh mLt mLt (eC (.int 2)) (eBin mIdx (eVar 0) (eC (.int 2))) (eC (.int 13))) (g := eAnd (eBin mGt (eBin mIdx (eVar 0) (eC (.int 2))) (eCallB mLen (aCons (eBin mIdx (eVar 0) (eC (.int 1))) (aNil)))) (eBin mEq (eCallB mSum (aCons (eBin mIdx (eVar 0) (eC (.int 3))) (aNil))) (eBin mIdx (eVar 0) (eC (.int 2))))) (ρ := rho0 3 [.tuple [.str k, .str x, .int s, .tuple (ns.map .int)]]) (b := decide (2 < s) && decide (s < 13)) (c := decide ((x.length : Int) < s) && decide (ns.sum = s))
                      (eCh_lt (i := 2) (j := s) (k := 13) rfl rfl rfl) fun _ => eAnd_b (b := decide ((x.length : Int) < s)) (c := decide (ns.sum = s)) rfl fun _ => by rw [eBin_ok es (y := .int s) rfl, eq_int]
                    rw [sRet_ok er, last_row x s ns e3, Bool.and_true]
                    rfl
                  | _ => cases hp.1
              | _ => cases hg
    | _ => exact out rfl
end MC
set_option Elab.async false
set_option linter.all false
set_option maxRecDepth 100000
set_option maxHeartbeats 2000000
namespace MC
open PySem L2 DL
theorem eqv_pair (b b' : Str) (s s' : Int) : PyData.eqv (.tuple [.str b, .int s]) (.tuple [.str b', .int s']) = (NestedKey.tup [.text b, .num s] == NestedKey.tup [.text b', .num s']) := by
  have e : (NestedKey.tup [.text b, .num s] == NestedKey.tup [.text b', .num s']) = (decide (b = b') && decide (s = s')) := by
    rw [Bool.eq_iff_iff, beq_iff_eq, Bool.and_eq_true, decide_eq_true_eq, decide_eq_true_eq]
    constructor
    · intro h; cases h; exact ⟨rfl, rfl⟩
    · rintro ⟨rfl, rfl⟩; rfl
  rw [e]
  simp only [PyData.eqv, PyData.eqvAll, Bool.and_true]
  rw [Bool.eq_iff_iff]
  simp only [Bool.and_eq_true, beq_iff_eq, decide_eq_true_eq]
theorem count_pairs {r : D} (h : isRow r = true) : ∀ {rs : List D}, rs.all isRow = true → (rs.map pairR).countP (fun y => PyData.eqv y (pairR r)) = (rs.map keyR).count (keyR r)
  | [], _ => rfl
  | q :: rs, hq => by
    rw [List.all_cons, Bool.and_eq_true] at hq
    have ih := count_pairs h hq.2
    obtain ⟨k, b, s, gs, rfl, _⟩ := row_at h
    obtain ⟨k', b', s', gs', rfl, _⟩ := row_at hq.1
    rw [List.map_cons, List.map_cons, List.countP_cons, List.count_cons, ih]
    congr 1
    show (if PyData.eqv (.tuple [.str b', .int s']) (.tuple [.str b, .int s]) = true then 1 else 0) = (if (NestedKey.tup [.text b', .num s'] == NestedKey.tup [.text b, .num s]) = true then 1 else 0)
    rw [eqv_pair]
theorem distinct_iff {rs : List D} (h : rs.all isRow = true) : ((rs.map pairR).filter fun p => decide (1 < (((rs.map pairR).countP fun y => PyData.eqv y p : Nat) : Int))).isEmpty = distinct rs := by
  unfold distinct
  rw [Bool.eq_iff_iff, decide_eq_true_eq, List.isEmpty_iff, List.nodup_iff_count]
  rw [List.filter_eq_nil_iff]
  constructor
  · intro hh a
    by_cases ha : a ∈ rs.map keyR
    · obtain ⟨r, hr, rfl⟩ := List.mem_map.mp ha
      have := hh (pairR r) (List.mem_map.mpr ⟨r, hr, rfl⟩)
      rw [count_pairs (List.all_eq_true.mp h r hr) h] at this
      simp only [decide_eq_true_eq] at this
      omega
    · rw [List.count_eq_zero_of_not_mem ha]; omega
  · intro hh p hp
    obtain ⟨r, hr, rfl⟩ := List.mem_map.mp hp
    rw [count_pairs (List.all_eq_true.mp h r hr) h]
    simp only [decide_eq_true_eq]
    have := hh (keyR r)
    omega
theorem sh_at {ds : List D} (h : shs ds = true) : ∀ d ∈ ds, sh d = true := by
  induction ds with
  | nil => intro d hd; cases hd
  | cons a r ih =>
    simp only [shs, Bool.and_eq_true] at h
    intro d hd
    rcases List.mem_cons.mp hd with rfl | hd
    · exact h.1
    · exact ih h.2 d hd
theorem p_zero2 {x : Str} (ρ : Rho) (f : Rho → R D) (hf : f ρ = okS x) : eBin mEq (eSl f oNone (oSome (eC (.int 1)))) (eC (.str "0")) ρ = okB (zeroAt (.str x)) := by
  obtain ⟨⟨l⟩⟩ := x
  have e1 : eSl f oNone (oSome (eC (.int 1))) ρ = .ok (.str ⟨(l.take 1).toArray⟩) := by
    unfold eSl
    rw [hf]
    show R.ok (PyData.str ⟨(cutD l none (some 1)).toArray⟩) = _
    have : cutD l none (some 1) = l.take 1 := by
      unfold cutD
      have h1 : HT.sIx l.length 0 none = 0 := rfl
      have h2 : HT.sIx l.length l.length (some 1) = min 1 l.length := HT.sIx_nat l.length l.length 1
      rw [h1, h2, List.drop_zero, Nat.sub_zero]
      cases l with
      | nil => rfl
      | cons a r => rw [Nat.min_eq_left (by simp only [List.length_cons]; omega)]
    rw [this]
  rw [eBin_ok e1 (y := .str "0") rfl, eq_str]
  unfold zeroAt
  refine congrArg okB ?_
  apply decide_eq_decide.mpr
  cases l with
  | nil =>
    constructor
    · intro e
      have e2 : ([] : List Nat) = [48] := congrArg (fun z : Str => z.cps.toList) e
      cases e2
    · intro e
      have e2 : (none : Option Nat) = some 48 := e
      cases e2
  | cons c r =>
    constructor
    · intro e
      have e3 : [c] = [48] := congrArg (fun z : Str => z.cps.toList) e
      cases e3; rfl
    · intro e
      have e2 : some c = some 48 := e
      cases e2; rfl
theorem filt_empty2 (p : D → Bool) (ds : List D) : ((ds.filter fun x => !p x).map id).isEmpty = ds.all p := by
  rw [List.map_id]; exact filt_empty p ds
theorem p_law_is_land (d : D) (hs : sh d = true) : m__law_is_land [d] = okB (isLand d) := by
  unfold m__law_is_land den__law_is_land
  cases h4 : four d with
  | false =>
    rw [guard (p_four d (rho0 4 [d]) rfl _ false fun z => by rw [h4] at z; cases z), h4]
    show okB false = _
    unfold isLand
    split
    · cases h4
    · rfl
  | true =>
    obtain ⟨a, b, c, g, rfl⟩ := four_at h4
    have e1 := p_four (.tuple [a, b, c, g]) (rho0 4 [.tuple [a, b, c, g]]) rfl (tOrr (tNt (tVal (eCall (ar 3 m__law_is_figures) (aCons (eBin mIdx (eVar 0) (eC (.int 0))) (aCons (eC (.int 1)) (aCons (eC (.int 3)) (aNil))))))) (tVal (eBin mEq (eSl (eBin mIdx (eVar 0) (eC (.int 0))) (oNone) (oSome (eC (.int 1)))) (eC (.str "0"))))) (!isFig a 1 3 || zeroAt a) fun _ => tOrr_b (tNt_b (tVal_b ((eCall_ok (ds := [a, .int 1, .int 3]) rfl rfl).trans (p_law_is_figures a 1 3)))) fun hf => by
      have hf : isFig a 1 3 = true := by simpa using hf
      obtain ⟨x, rfl⟩ := fig_str hf
      exact tVal_b (p_zero2 _ _ rfl)
    rw [guard e1, h4]
    show (if (!isFig a 1 3 || zeroAt a) = true then okB false else _) = okB (landB a b c g)
    unfold landB
    cases ha : isFig a 1 3 with
    | false => rfl
    | true =>
      cases hz : zeroAt a with
      | true => rfl
      | false =>
        show fin (sSeq _ _ (rho0 4 [.tuple [a, b, c, g]])) = _
        have t2 := tOrr_b (f := tNt (tVal (eCall (ar 3 m__law_is_figures) (aCons (eBin mIdx (eVar 0) (eC (.int 1))) (aCons (eC (.int 1)) (aCons (eC (.int 4)) (aNil))))))) (g := tOrr (tNt (tVal (eCall (ar 3 m__law_is_figures) (aCons (eBin mIdx (eVar 0) (eC (.int 2))) (aCons (eC (.int 0)) (aCons (eC (.int 2)) (aNil))))))) (tNt (tVal (eUn (isiD "tuple") (eBin mIdx (eVar 0) (eC (.int 3))))))) (ρ := rho0 4 [.tuple [a, b, c, g]])
          (tNt_b (tVal_b ((eCall_ok (ds := [b, .int 1, .int 4]) rfl rfl).trans (p_law_is_figures b 1 4)))) fun _ => tOrr_b (tNt_b (tVal_b ((eCall_ok (ds := [c, .int 0, .int 2]) rfl rfl).trans (p_law_is_figures c 0 2)))) fun _ => tNt_b (tVal_b (b := g.isTuple) rfl)
        rw [guard t2]
        cases hb : isFig b 1 4 with
        | false => rfl
        | true =>
          cases hcf : isFig c 0 2 with
          | false => rfl
          | true =>
            cases g with
            | tuple rs =>
              show fin (sSeq _ _ (rho0 4 [.tuple [a, b, c, .tuple rs]])) = okB (rowsB (.tuple rs))
              have hsr : ∀ d ∈ rs, sh d = true := by
                simp only [sh, shs, Bool.and_eq_true, decide_eq_true_eq] at hs
                exact sh_at hs.2.2.2.2.1.2
              have el : eLc [2] (iOf (eBin mIdx (eVar 0) (eC (.int 3)))) (gNm 2) (tNt (tVal (eCall (ar 1 m__law_is_row) (aCons (eVar 2) (aNil))))) (eVar 2) (rho0 4 [.tuple [a, b, c, .tuple rs]]) = .ok (.list ((rs.filter fun x => !isRow x).map id)) :=
                filter_lc (ds := rs) rfl fun d hd => ⟨_, rfl, tNt_b (tVal_b ((eCall_ok (ds := [d]) rfl rfl).trans (p_law_is_row d (hsr d hd)))), fun _ => rfl⟩
              have t3 := tOrr_b (f := tNt (tVal (eCh mLt mLt (eC (.int 0)) (eCallB mLen (aCons (eBin mIdx (eVar 0) (eC (.int 3))) (aNil))) (eC (.int 9))))) (g := tVal (eBin mNe (eLc [2] (iOf (eBin mIdx (eVar 0) (eC (.int 3)))) (gNm 2) (tNt (tVal (eCall (ar 1 m__law_is_row) (aCons (eVar 2) (aNil))))) (eVar 2)) (eLst (aNil)))) (ρ := rho0 4 [.tuple [a, b, c, .tuple rs]]) (c := !rs.all isRow)
                (tNt_b (tVal_b (eCh_lt (i := 0) (j := rs.length) (k := 9) rfl rfl rfl))) fun _ => tVal_b (by rw [eBin_ok el (y := .list []) rfl, ne_nilL, filt_empty2])
              rw [guard t3]
              have n1 : decide (0 < (rs.length : Int)) = decide (1 ≤ (rs.length : Int)) := decide_eq_decide.mpr (by omega)
              have n2 : decide ((rs.length : Int) < 9) = decide ((rs.length : Int) ≤ 8) := decide_eq_decide.mpr (by omega)
              rw [n1, n2]
              have hR : rowsB (.tuple rs) = (decide (1 ≤ (rs.length : Int)) && decide ((rs.length : Int) ≤ 8) && (rs.all isRow && distinct rs)) := rfl
              rw [hR]
              cases hn : (decide (1 ≤ (rs.length : Int)) && decide ((rs.length : Int) ≤ 8)) with
              | false => rfl
              | true =>
                cases hr : rs.all isRow with
                | false => rfl
                | true =>
                  show fin (sSeq _ _ (rho0 4 [.tuple [a, b, c, .tuple rs]])) = okB (distinct rs)
                  have em : eLc [2] (iOf (eBin mIdx (eVar 0) (eC (.int 3)))) (gNm 2) (tTrue) (eSl (eVar 2) (oSome (eC (.int 1))) (oSome (eC (.int 3)))) (rho0 4 [.tuple [a, b, c, .tuple rs]]) = .ok (.list (rs.map pairR)) := by
                    refine map_lc (F := pairR) (ds := rs) rfl fun d hd => ⟨_, rfl, ?_⟩
                    obtain ⟨k, b', s, gs, rfl, _⟩ := row_at (List.all_eq_true.mp hr d hd)
                    rfl
                  rw [sSeq_nx (sSet_ok em)]
                  show fin (sRet _ [.dat (.tuple [a, b, c, .tuple rs]), .dat (.list (rs.map pairR)), .no, .no]) = _
                  have ec : eLc [3] (iOf (eVar 1)) (gNm 3) (tVal (eBin mGt (eMt "list" mCount (eVar 1) (aCons (eVar 3) (aNil))) (eC (.int 1)))) (eVar 3) [.dat (.tuple [a, b, c, .tuple rs]), .dat (.list (rs.map pairR)), .no, .no] = .ok (.list (((rs.map pairR).filter fun p => decide (1 < (((rs.map pairR).countP fun y => PyData.eqv y p : Nat) : Int))).map id)) := by
                    refine filter_lc (ds := rs.map pairR) rfl fun d hd => ⟨_, rfl, tVal_b ?_, fun _ => rfl⟩
                    obtain ⟨r, hrm, rfl⟩ := List.mem_map.mp hd
                    obtain ⟨k, b', s, gs, rfl, _⟩ := row_at (List.all_eq_true.mp hr r hrm)
                    rfl
                  have ee := eBin_ok (g := mEq) ec (show eLst aNil [.dat (.tuple [a, b, c, .tuple rs]), .dat (.list (rs.map pairR)), .no, .no] = .ok (.list []) from rfl)
                  rw [eq_nilL, List.map_id, distinct_iff hr] at ee
                  rw [sRet_ok ee]
                  rfl
            | _ => rfl
end MC
set_option Elab.async false
set_option linter.all false
set_option maxRecDepth 100000
set_option maxHeartbeats 2000000
namespace MC
open PySem L2 DL
/-- x begins with y -/
theorem starts_iff (x y : Str) : Txt.startswith x y = true ↔ y.cps.toList <+: x.cps.toList := by
  unfold Txt.startswith
  rw [Bool.and_eq_true, decide_eq_true_eq, StrLaws.subAt_eq, beq_iff_eq, List.drop_zero, List.prefix_iff_eq_take]
  have hl : y.length = y.cps.toList.length := by simp [Str.length]
  constructor
  · rintro ⟨_, h⟩
    rw [hl] at h
    exact h.symm
  · intro h
    refine ⟨?_, ?_⟩
    · have := congrArg List.length h
      rw [List.length_take] at this
      have hx : x.length = x.cps.toList.length := by simp [Str.length]
      omega
    · rw [hl]; exact h.symm
/-- what stands between a text and one that begins with it begins with it, too -/
theorem between : ∀ (p y w : List Nat), ¬ y < p → ¬ (p ++ w) < y → p <+: y
  | [], y, w, _, _ => List.nil_prefix
  | a :: p, [], w, h, _ => absurd (List.nil_lt_cons a p) h
  | a :: p, b :: y, w, h1, h2 => by
    rw [List.cons_lt_cons_iff] at h1
    rw [List.cons_append, List.cons_lt_cons_iff] at h2
    have e : a = b := by
      rcases Nat.lt_trichotomy a b with q | q | q
      · exact absurd (.inl q) h2
      · exact q
      · exact absurd (.inl q) h1
    subst e
    exact (List.cons_prefix_cons).mpr ⟨rfl, between p y w (fun z => h1 (.inr ⟨rfl, z⟩)) fun z => h2 (.inr ⟨rfl, z⟩)⟩
/-! ### sorted texts -/
def leL (a b : Str) : Bool := decide (a.cps.toList ≤ b.cps.toList)
theorem sortOk_strs (ss : List Str) : sortOk (ss.map .str) = true := by
  unfold sortOk alikeB
  simp only [Bool.and_eq_true, Bool.or_eq_true, List.all_eq_true, List.mem_map]
  refine ⟨⟨?_, .inr ?_⟩, ?_⟩
  · rintro d ⟨a, _, rfl⟩ e ⟨b, _, rfl⟩; rfl
  · rintro d ⟨a, _, rfl⟩; rfl
  · rintro d ⟨a, _, rfl⟩; rfl
theorem sorted_strs (ss : List Str) : mSorted [.list (ss.map .str)] = .ok (.list ((ss.mergeSort leL).map .str)) := by
  unfold mSorted
  show (if sortOk (ss.map .str) = true then R.ok (PyData.list ((ss.map PyData.str).mergeSort (PySem.W.dataLe false (fun d : D => d)))) else .no) = _
  rw [if_pos (sortOk_strs ss), List.map_mergeSort (r := leL) (s := PySem.W.dataLe false (fun d : D => d)) (f := PyData.str)]
  intro a _ b _
  have e := congrFun (congrFun (PySem.W.dataLe_str (fun s : Str => s)) a) b
  exact e.symm
theorem leL_trans (a b c : Str) (h1 : leL a b = true) (h2 : leL b c = true) : leL a c = true := by
  unfold leL at *
  exact decide_eq_true (List.le_trans (of_decide_eq_true h1) (of_decide_eq_true h2))
theorem leL_total (a b : Str) : (leL a b || leL b a) = true := by
  unfold leL
  rw [Bool.or_eq_true, decide_eq_true_eq, decide_eq_true_eq]
  exact List.le_total _ _
theorem sorted_iff (ss : List Str) : ss.mergeSort leL = ss ↔ ss.Pairwise (fun a b => leL a b = true) :=
  ⟨fun h => h ▸ List.pairwise_mergeSort leL_trans leL_total ss, List.mergeSort_of_pairwise⟩
theorem eqv_strs : ∀ ss tt : List Str, PyData.eqvAll (ss.map .str) (tt.map .str) = decide (ss = tt)
  | [], [] => rfl
  | [], b :: t => by simp [PyData.eqvAll]
  | a :: s, [] => by simp [PyData.eqvAll]
  | a :: s, b :: t => by
    rw [List.map_cons, List.map_cons]
    simp only [PyData.eqvAll, eqv_strs s t, eqv_str]
    rw [Bool.eq_iff_iff]
    simp
end MC
set_option Elab.async false
set_option linter.all false
set_option maxRecDepth 100000
set_option maxHeartbeats 2000000
namespace MC
open PySem L2 DL
theorem chain_cons (x y : Str) (r : List Str) : chainS (x :: y :: r) = (stepS x y && chainS (y :: r)) := rfl
def goodP (a b : Str) : Prop := a.cps.toList < b.cps.toList ∧ ¬ a.cps.toList <+: b.cps.toList
theorem step_iff (x y : Str) : stepS x y = true ↔ goodP x y := by
  unfold stepS ltS goodP
  rw [Bool.and_eq_true, decide_eq_true_eq, Bool.not_eq_true', ← Bool.not_eq_true, starts_iff]
theorem chain_pair : ∀ {ss : List Str}, chainS ss = true → ss.Pairwise goodP
  | [], _ => List.Pairwise.nil
  | [x], _ => List.pairwise_singleton _ _
  | x :: y :: r, h => by
    rw [chain_cons, Bool.and_eq_true] at h
    have ih := chain_pair h.2
    obtain ⟨s1, s2⟩ := (step_iff x y).mp h.1
    refine List.pairwise_cons.mpr ⟨fun b hb => ?_, ih⟩
    rcases List.mem_cons.mp hb with rfl | hb
    · exact ⟨s1, s2⟩
    · obtain ⟨t1, t2⟩ := (List.pairwise_cons.mp ih).1 b hb
      refine ⟨List.lt_trans s1 t1, fun ⟨w, e⟩ => s2 ?_⟩
      refine between _ _ w (List.lt_asymm s1) ?_
      rw [e]
      exact List.lt_asymm t1
theorem pair_chain : ∀ {ss : List Str}, ss.Pairwise goodP → chainS ss = true
  | [], _ => rfl
  | [x], _ => rfl
  | x :: y :: r, h => by
    obtain ⟨h1, h2⟩ := List.pairwise_cons.mp h
    rw [chain_cons, pair_chain h2, (step_iff x y).mpr (h1 y List.mem_cons_self)]
    rfl
/-- none begins with an earlier one -/
def noPre (ss : List Str) : Bool := (List.range ss.length).all fun j => (ss.take j).all fun o => !Txt.startswith (ss.getD j "") o
theorem noPre_iff (ss : List Str) : noPre ss = true ↔ ss.Pairwise (fun a b => ¬ a.cps.toList <+: b.cps.toList) := by
  unfold noPre
  rw [List.pairwise_iff_getElem]
  simp only [List.all_eq_true, List.mem_range, Bool.not_eq_true', ← Bool.not_eq_true, starts_iff]
  constructor
  · intro h i j hi hj hij
    have := h j hj ss[i] (List.mem_iff_getElem.mpr ⟨i, by rw [List.length_take]; omega, by rw [List.getElem_take]⟩)
    rw [List.getD_eq_getElem?_getD, List.getElem?_eq_getElem hj] at this
    exact this
  · intro h j hj o ho
    obtain ⟨i, hi, rfl⟩ := List.mem_iff_getElem.mp ho
    rw [List.length_take] at hi
    rw [List.getElem_take, List.getD_eq_getElem?_getD, List.getElem?_eq_getElem hj]
    exact h i j (by omega) hj (by omega)
theorem chain_eq (ss : List Str) : chainS ss = (decide (ss = ss.mergeSort leL) && noPre ss) := by
  rw [Bool.eq_iff_iff, Bool.and_eq_true, decide_eq_true_eq, noPre_iff]
  have hs : ss = ss.mergeSort leL ↔ ss.Pairwise (fun a b => leL a b = true) := by rw [← sorted_iff]; exact eq_comm
  rw [hs]
  constructor
  · intro h
    have := chain_pair h
    exact ⟨this.imp fun g => decide_eq_true (List.le_of_lt g.1), this.imp fun g => g.2⟩
  · rintro ⟨h1, h2⟩
    refine pair_chain ((h1.and h2).imp fun {a b} g => ⟨?_, g.2⟩)
    have hle : a.cps.toList ≤ b.cps.toList := of_decide_eq_true g.1
    rcases List.le_iff_lt_or_eq.mp hle with q | q
    · exact q
    · exact absurd (by rw [q]; exact List.prefix_rfl) g.2
theorem loop_all {body : D → Rho → Fl} {ρ : Rho} {P : D → Bool} : ∀ {ds : List D}, (∀ d ∈ ds, body d ρ = if P d then .nx ρ else .rt (.bool false)) → loopD body ds ρ = if ds.all P then .nx ρ else .rt (.bool false)
  | [], _ => rfl
  | d :: r, h => by
    have e := h d List.mem_cons_self
    unfold loopD
    rw [e]
    cases hp : P d with
    | true =>
      show loopD body r ρ = _
      rw [loop_all fun x hx => h x (List.mem_cons_of_mem _ hx), List.all_cons, hp, Bool.true_and]
    | false => rw [List.all_cons, hp]; rfl
theorem cut_take {α : Type} (l : List α) (n : Nat) : cutD l none (some (n : Int)) = l.take n := by
  unfold cutD
  have h1 : HT.sIx l.length 0 none = 0 := rfl
  have h2 : HT.sIx l.length l.length (some (n : Int)) = min n l.length := HT.sIx_nat l.length l.length n
  rw [h1, h2, List.drop_zero, Nat.sub_zero]
  rcases Nat.le_total n l.length with h | h
  · rw [Nat.min_eq_left h]
  · rw [Nat.min_eq_right h, List.take_length, List.take_of_length_le h]
theorem take_eq_starts (one o : Str) : decide ((⟨(one.cps.toList.take o.length).toArray⟩ : Str) = o) = Txt.startswith one o := by
  rw [Bool.eq_iff_iff, decide_eq_true_eq, starts_iff, List.prefix_iff_eq_take]
  have hl : o.length = o.cps.toList.length := by simp [Str.length]
  rw [← hl]
  constructor
  · intro e
    have := congrArg (fun z : Str => z.cps.toList) e
    exact this.symm
  · intro e
    obtain ⟨⟨l⟩⟩ := o
    show (⟨_⟩ : Str) = ⟨_⟩
    have e : l = _ := e
    rw [← e]
end MC
set_option Elab.async false
set_option linter.all false
set_option maxRecDepth 100000
set_option maxHeartbeats 2000000
namespace MC
open PySem L2 DL
theorem dOk_strs (ss : List Str) : dOk (.list (ss.map .str)) = true := by
  have : ∀ ss : List Str, PyData.depthAll (ss.map .str) = 0 := fun ss => by
    induction ss with
    | nil => rfl
    | cons a r ih => simp only [List.map_cons, PyData.depthAll, ih]; rfl
  unfold dOk
  simp only [PyData.depth, this]
  rfl
def enP (ss : List Str) (d : D) : Bool := match d with
  | .tuple [.int j, .str one] => (ss.take j.toNat).all fun o => !Txt.startswith one o
  | _ => true
theorem p_law_is_book (d : D) (hs : sh d = true) : m__law_is_book [d] = okB (isBook d) := by
  unfold m__law_is_book den__law_is_book
  cases d with
  | tuple ls =>
    have hsl : ∀ d ∈ ls, sh d = true := by
      simp only [sh, Bool.and_eq_true] at hs
      exact sh_at hs.2
    have t1 : tOrr (tNt (tVal (eUn (isiD "tuple") (eVar 0)))) (tNt (tVal (eCh mLt mLt (eC (.int 0)) (eCallB mLen (aCons (eVar 0) (aNil))) (eC (.int 7))))) (rho0 6 [.tuple ls]) = .ok (!(decide (1 ≤ (ls.length : Int)) && decide ((ls.length : Int) ≤ 6))) := by
      rw [tOrr_b (b := false) (c := !(decide (0 < (ls.length : Int)) && decide ((ls.length : Int) < 7))) rfl fun _ => tNt_b (tVal_b (eCh_lt (i := 0) (j := ls.length) (k := 7) rfl rfl rfl))]
      have n1 : decide (0 < (ls.length : Int)) = decide (1 ≤ (ls.length : Int)) := decide_eq_decide.mpr (by omega)
      have n2 : decide ((ls.length : Int) < 7) = decide ((ls.length : Int) ≤ 6) := decide_eq_decide.mpr (by omega)
      rw [n1, n2]
      rfl
    rw [guard t1]
    show _ = okB (bookB ls)
    unfold bookB
    cases hn : (decide (1 ≤ (ls.length : Int)) && decide ((ls.length : Int) ≤ 6)) with
    | false => rfl
    | true =>
      show fin (sSeq _ _ (rho0 6 [.tuple ls])) = _
      have el : eLc [4] (iOf (eVar 0)) (gNm 4) (tNt (tVal (eCall (ar 1 m__law_is_land) (aCons (eVar 4) (aNil))))) (eVar 4) (rho0 6 [.tuple ls]) = .ok (.list ((ls.filter fun x => !isLand x).map id)) :=
        filter_lc (ds := ls) rfl fun d hd => ⟨_, rfl, tNt_b (tVal_b ((eCall_ok (ds := [d]) rfl rfl).trans (p_law_is_land d (hsl d hd)))), fun _ => rfl⟩
      have t2 : tVal (eBin mNe (eLc [4] (iOf (eVar 0)) (gNm 4) (tNt (tVal (eCall (ar 1 m__law_is_land) (aCons (eVar 4) (aNil))))) (eVar 4)) (eLst (aNil))) (rho0 6 [.tuple ls]) = .ok (!ls.all isLand) :=
        tVal_b (by rw [eBin_ok el (y := .list []) rfl, ne_nilL, filt_empty2])
      rw [guard t2]
      cases hl : ls.all isLand with
      | false => rfl
      | true =>
        show fin (sSeq _ _ (rho0 6 [.tuple ls])) = okB (chainS (ls.map codeS))
        have e1 : eLc [4] (iOf (eVar 0)) (gNm 4) (tTrue) (eBin mIdx (eVar 4) (eC (.int 0))) (rho0 6 [.tuple ls]) = .ok (.list (ls.map codeD)) := by
          refine map_lc (ds := ls) rfl fun d hd => ⟨_, rfl, ?_⟩
          obtain ⟨a, b, c, rs, rfl, _⟩ := land_at (List.all_eq_true.mp hl d hd)
          rfl
        rw [sSeq_nx (sSet_ok e1)]
        rw [codes_str hl]
        generalize ls.map codeS = ss
        show fin (sSeq _ _ [.dat (.tuple ls), .dat (.list (ss.map .str)), .no, .no, .no, .no]) = okB (chainS ss)
        have t3 : tVal (eBin mNe (eVar 1) (eCallB mSorted (aCons (eVar 1) (aNil)))) [.dat (.tuple ls), .dat (.list (ss.map .str)), .no, .no, .no, .no] = .ok (!decide (ss = ss.mergeSort leL)) := by
          refine tVal_b ?_
          rw [eBin_ok (x := .list (ss.map .str)) (y := .list ((ss.mergeSort leL).map .str)) rfl (by rw [eB_ok (ds := [.list (ss.map .str)]) rfl]; exact sorted_strs ss)]
          unfold mNe
          rw [if_pos (by rw [dOk_strs]; rfl)]
          have : PyData.eqv (.list (ss.map .str)) (.list ((ss.mergeSort leL).map .str)) = PyData.eqvAll (ss.map .str) ((ss.mergeSort leL).map .str) := by simp only [PyData.eqv]
          rw [this, eqv_strs]
        rw [guard t3, chain_eq]
        cases hso : decide (ss = ss.mergeSort leL) with
        | false => rfl
        | true =>
          show fin (sSeq _ _ [.dat (.tuple ls), .dat (.list (ss.map .str)), .no, .no, .no, .no]) = okB (noPre ss)
          have hl2 : loopD (fun d ρ => (gTp 2 (gsCons (gNm 2) (gsCons (gNm 3) (gsNil))) d ρ).go (sBeh [2, 3] (sIf (tVal (eBin mNe (eLc [5] (iOf (eSl (eVar 1) (oNone) (oSome (eVar 2)))) (gNm 5) (tVal (eBin mEq (eSl (eVar 3) (oNone) (oSome (eCallB mLen (aCons (eVar 5) (aNil))))) (eVar 5))) (eVar 5)) (eLst (aNil)))) (sRet (eC (.bool false))) (sNil)))) (enumL (ss.map .str)) [.dat (.tuple ls), .dat (.list (ss.map .str)), .no, .no, .no, .no] = if (enumL (ss.map .str)).all (enP ss) then .nx [.dat (.tuple ls), .dat (.list (ss.map .str)), .no, .no, .no, .no] else .rt (.bool false) := by
            refine loop_all fun d hd => ?_
            unfold enumL at hd
            obtain ⟨j, hj, rfl⟩ := List.mem_map.mp hd
            rw [List.mem_range, List.length_map] at hj
            have eg : (ss.map PyData.str).getD j .none = .str (ss.getD j "") := by
              rw [List.getD_eq_getElem?_getD, List.getElem?_map, List.getD_eq_getElem?_getD, List.getElem?_eq_getElem hj]
              rfl
            rw [eg]
            generalize ss.getD j "" = one
            show sBeh [2, 3] (sIf _ (sRet (eC (.bool false))) sNil) [.dat (.tuple ls), .dat (.list (ss.map .str)), .dat (.int (j : Nat)), .dat (.str one), .no, .no] = _
            have ef : eLc [5] (iOf (eSl (eVar 1) (oNone) (oSome (eVar 2)))) (gNm 5) (tVal (eBin mEq (eSl (eVar 3) (oNone) (oSome (eCallB mLen (aCons (eVar 5) (aNil))))) (eVar 5))) (eVar 5) [.dat (.tuple ls), .dat (.list (ss.map .str)), .dat (.int (j : Nat)), .dat (.str one), .no, .no] = .ok (.list ((((ss.take j).map .str).filter fun d => match d with
                | .str o => Txt.startswith one o
                | _ => false).map id)) := by
              refine filter_lc (ds := (ss.take j).map .str) ?_ fun d hd => ?_
              · show R.ok (cutD (ss.map PyData.str) none (some (j : Int))) = _
                rw [cut_take, List.map_take]
              · obtain ⟨o, _, rfl⟩ := List.mem_map.mp hd
                refine ⟨_, rfl, tVal_b ?_, fun _ => rfl⟩
                show mEq (.str ⟨(cutD one.cps.toList none (some ((o.length : Nat) : Int))).toArray⟩) (.str o) = _
                rw [cut_take, eq_str, take_eq_starts]
            have et := eBin_ok (g := mNe) ef (show eLst aNil [.dat (.tuple ls), .dat (.list (ss.map .str)), .dat (.int (j : Nat)), .dat (.str one), .no, .no] = .ok (.list []) from rfl)
            rw [ne_nilL, List.map_id, List.filter_map, List.isEmpty_map] at et
            have ex : ((ss.take j).filter ((fun d => match d with
                | PyData.str o => Txt.startswith one o
                | _ => false) ∘ PyData.str)).isEmpty = (ss.take j).all fun o => !Txt.startswith one o := by
              have := filt_empty (fun o : Str => !Txt.startswith one o) (ss.take j)
              simp only [Bool.not_not] at this
              exact this
            rw [ex] at et
            have et2 := tVal_b et
            show _ = if ((ss.take ((j : Nat) : Int).toNat).all fun o => !Txt.startswith one o) = true then _ else _
            rw [Int.toNat_natCast]
            cases hb : (ss.take j).all fun o => !Txt.startswith one o with
            | true => rw [hb] at et2; exact sBeh_nx ((sIf_f (g := sRet (eC (.bool false))) (h := sNil) et2).trans rfl)
            | false => rw [hb] at et2; exact sBeh_rt ((sIf_t (g := sRet (eC (.bool false))) (h := sNil) et2).trans rfl)
          have hall : (enumL (ss.map .str)).all (enP ss) = noPre ss := by
            unfold enumL noPre
            rw [List.all_map, List.length_map]
            rw [Bool.eq_iff_iff, List.all_eq_true, List.all_eq_true]
            have each : ∀ j ∈ List.range ss.length, (enP ss ∘ fun i => PyData.tuple [.int (i : Nat), (ss.map PyData.str).getD i .none]) j = (ss.take j).all fun o => !Txt.startswith (ss.getD j "") o := fun j hj => by
              have hj := List.mem_range.mp hj
              have eg : (ss.map PyData.str).getD j .none = .str (ss.getD j "") := by
                rw [List.getD_eq_getElem?_getD, List.getElem?_map, List.getD_eq_getElem?_getD, List.getElem?_eq_getElem hj]
                rfl
              show enP ss (PyData.tuple [.int (j : Nat), (ss.map PyData.str).getD j .none]) = _
              rw [eg]
              show ((ss.take ((j : Nat) : Int).toNat).all fun o => !Txt.startswith (ss.getD j "") o) = _
              rw [Int.toNat_natCast]
            constructor
            · intro h j hj; rw [← each j hj]; exact h j hj
            · intro h j hj; rw [each j hj]; exact h j hj
          rw [hall] at hl2
          cases hq : noPre ss with
          | true =>
            rw [hq] at hl2
            refine (congrArg fin (sSeq_nx (ρ' := [.dat (.tuple ls), .dat (.list (ss.map .str)), .no, .no, .no, .no]) ?_)).trans rfl
            exact sBeh_nx (is := [2, 3]) (ρ' := [.dat (.tuple ls), .dat (.list (ss.map .str)), .no, .no, .no, .no]) hl2
          | false =>
            rw [hq] at hl2
            refine (congrArg fin (sSeq_rt (d := .bool false) ?_)).trans rfl
            exact sBeh_rt (is := [2, 3]) hl2
  | _ => rfl
end MC
set_option Elab.async false
set_option linter.all false
set_option maxRecDepth 100000
set_option maxHeartbeats 2000000
namespace MC
open PySem L2 DL
theorem bits_le {x : Int} {k : Nat} (h : x.natAbs < 2 ^ k) : Builtin.Int.intBits x ≤ k := by
  unfold Builtin.Int.intBits
  by_cases h0 : x = 0
  · subst h0; exact Nat.zero_le _
  · rw [if_neg (by simpa using h0)]
    have hn : x.natAbs ≠ 0 := by omega
    have := (Nat.log2_lt hn).mpr h
    omega
theorem mulOk_short {i j : Int} (h : j.natAbs < 2 ^ 64) : mulOk i j = true := by
  unfold mulOk
  have hb := bits_le h
  have : decide (Builtin.Int.intBits j > shortFactorBits) = false := decide_eq_false (by unfold shortFactorBits; omega)
  rw [this, Bool.and_false, Bool.false_and]
  rfl
theorem mulOk_mid {i j : Int} (h1 : i.natAbs < 2 ^ 1000) (h2 : j.natAbs < 2 ^ 1000) : mulOk i j = true := by
  unfold mulOk
  have b1 := bits_le h1
  have b2 := bits_le h2
  have : Builtin.Int.intTooBig (Builtin.Int.intBits i + Builtin.Int.intBits j) = false := by
    unfold Builtin.Int.intTooBig
    have hbl : (2000 : Int) ≤ bitsLine := by decide
    exact decide_eq_false (by omega)
  rw [this, Bool.and_false]
  rfl
theorem mul_ok {i j : Int} (h : mulOk i j = true) : mMul (.int i) (.int j) = okI (i * j) := by
  unfold mMul
  exact if_pos h
def pA : Int := 340282366920938463463374607431768211507
def pB : Int := 340282366920938463463374607431768211297
def pC : Int := 18446744073709551557
def dr1 (cell k : Int) : Int := (cell * 6364136223846793005 + (k + 1) * 1442695040888963407) % pA
def dr2 (cell k : Int) : Int := dr1 cell k * dr1 cell k % pB
def dr3 (cell k : Int) : Int := (dr2 cell k % pC + 1) * (dr2 cell k / pC + 1) * dr2 cell k
def drawn (cell k : Int) : Int := dr3 cell k % pA
theorem dr1_bd (c k : Int) : 0 ≤ dr1 c k ∧ dr1 c k < 2 ^ 129 := by
  have h1 := Int.emod_nonneg (c * 6364136223846793005 + (k + 1) * 1442695040888963407) (show pA ≠ 0 by decide)
  have h2 := Int.emod_lt_of_pos (c * 6364136223846793005 + (k + 1) * 1442695040888963407) (show 0 < pA by decide)
  exact ⟨h1, Int.lt_trans h2 (by decide)⟩
theorem dr2_bd (c k : Int) : 0 ≤ dr2 c k ∧ dr2 c k < 2 ^ 129 := by
  have h1 := Int.emod_nonneg (dr1 c k * dr1 c k) (show pB ≠ 0 by decide)
  have h2 := Int.emod_lt_of_pos (dr1 c k * dr1 c k) (show 0 < pB by decide)
  exact ⟨h1, Int.lt_trans h2 (by decide)⟩
theorem drawn_bd (c k : Int) : 0 ≤ drawn c k ∧ drawn c k < pA :=
  ⟨Int.emod_nonneg _ (by decide), Int.emod_lt_of_pos _ (by decide)⟩
theorem abs_lt {x : Int} {k m : Nat} (h0 : 0 ≤ x) (h : x < 2 ^ k) (hk : k ≤ m) : x.natAbs < 2 ^ m := by
  have h1 : x.natAbs < 2 ^ k := by
    have : ((x.natAbs : Nat) : Int) < ((2 ^ k : Nat) : Int) := by
      rw [Int.natAbs_of_nonneg h0]
      simpa using h
    exact Int.ofNat_lt.mp this
  exact Nat.lt_of_lt_of_le h1 (Nat.pow_le_pow_right (by decide) hk)
theorem p_drawn (cell k : Int) : m__law_drawn [.int cell, .int k] = okI (drawn cell k) := by
  unfold m__law_drawn den__law_drawn
  have b1 := dr1_bd cell k
  have b2 := dr2_bd cell k
  have e1 : eBin mMod (eBin mAdd (eBin mMul (eVar 0) (eC (.int 6364136223846793005))) (eBin mMul (eBin mAdd (eVar 1) (eC (.int 1))) (eC (.int 1442695040888963407)))) (eC (.int 340282366920938463463374607431768211507)) (rho0 3 [.int cell, .int k]) = okI (dr1 cell k) := by
    rw [eBin_ok (x := .int (cell * 6364136223846793005 + (k + 1) * 1442695040888963407)) (y := .int pA) ?_ rfl]
    · rfl
    · rw [eBin_ok (x := .int (cell * 6364136223846793005)) (y := .int ((k + 1) * 1442695040888963407)) ?_ ?_]
      · rfl
      · rw [eBin_ok (x := .int cell) (y := .int 6364136223846793005) rfl rfl]; exact mul_ok (mulOk_short (by decide))
      · rw [eBin_ok (x := .int (k + 1)) (y := .int 1442695040888963407) rfl rfl]; exact mul_ok (mulOk_short (by decide))
  refine (congrArg fin (sSeq_nx (sSet_ok e1))).trans ?_
  have e2 : eBin mMod (eBin mMul (eVar 2) (eVar 2)) (eC (.int 340282366920938463463374607431768211297)) [.dat (.int cell), .dat (.int k), .dat (.int (dr1 cell k))] = okI (dr2 cell k) := by
    rw [eBin_ok (x := .int (dr1 cell k * dr1 cell k)) (y := .int pB) ?_ rfl]
    · rfl
    · rw [eBin_ok (x := .int (dr1 cell k)) (y := .int (dr1 cell k)) rfl rfl]
      exact mul_ok (mulOk_mid (abs_lt b1.1 b1.2 (by decide)) (abs_lt b1.1 b1.2 (by decide)))
  refine (congrArg fin (sSeq_nx (sSet_ok e2))).trans ?_
  have c1 : 0 ≤ dr2 cell k % pC + 1 ∧ dr2 cell k % pC + 1 < 2 ^ 65 := by
    have h1 := Int.emod_nonneg (dr2 cell k) (show pC ≠ 0 by decide)
    have h2 := Int.emod_lt_of_pos (dr2 cell k) (show 0 < pC by decide)
    have h3 : pC < 2 ^ 64 := by decide
    have h4 : (2 : Int) ^ 64 + 1 < 2 ^ 65 := by decide
    constructor <;> omega
  have c2 : 0 ≤ dr2 cell k / pC + 1 ∧ dr2 cell k / pC + 1 < 2 ^ 130 := by
    have h1 := Int.ediv_nonneg b2.1 (show 0 ≤ pC by decide)
    have h2 : dr2 cell k / pC ≤ dr2 cell k := Int.ediv_le_self _ b2.1
    have h4 : (2 : Int) ^ 129 + 1 < 2 ^ 130 := by decide
    constructor <;> omega
  have c3 : 0 ≤ (dr2 cell k % pC + 1) * (dr2 cell k / pC + 1) ∧ (dr2 cell k % pC + 1) * (dr2 cell k / pC + 1) < 2 ^ 195 := by
    refine ⟨Int.mul_nonneg c1.1 c2.1, ?_⟩
    have e : (2 : Int) ^ 195 = 2 ^ 65 * 2 ^ 130 := by decide
    rw [e]
    exact Int.lt_of_le_of_lt (Int.mul_le_mul_of_nonneg_right (Int.le_of_lt c1.2) c2.1) (Int.mul_lt_mul_of_pos_left c2.2 (by decide))
  have e3 : eBin mMul (eBin mMul (eBin mAdd (eBin mMod (eVar 2) (eC (.int 18446744073709551557))) (eC (.int 1))) (eBin mAdd (eBin mFdiv (eVar 2) (eC (.int 18446744073709551557))) (eC (.int 1)))) (eVar 2) [.dat (.int cell), .dat (.int k), .dat (.int (dr2 cell k))] = okI (dr3 cell k) := by
    rw [eBin_ok (x := .int ((dr2 cell k % pC + 1) * (dr2 cell k / pC + 1))) (y := .int (dr2 cell k)) ?_ rfl]
    · exact mul_ok (mulOk_mid (abs_lt c3.1 c3.2 (by decide)) (abs_lt b2.1 b2.2 (by decide)))
    · rw [eBin_ok (x := .int (dr2 cell k % pC + 1)) (y := .int (dr2 cell k / pC + 1)) rfl rfl]
      exact mul_ok (mulOk_mid (abs_lt c1.1 c1.2 (by decide)) (abs_lt c2.1 c2.2 (by decide)))
  refine (congrArg fin (sSeq_nx (sSet_ok e3))).trans ?_
  rfl
end MC
set_option Elab.async false
set_option linter.all false
set_option maxRecDepth 100000
set_option maxHeartbeats 2000000
namespace MC
open PySem L2 DL
theorem atI_map_int {ns : List Int} {i : Int} (h0 : 0 ≤ i) (h : i < ns.length) : ∃ z, atI (ns.map PyData.int) i = some (.int z) := by
  have hn : i.toNat < ns.length := by omega
  refine ⟨ns[i.toNat], ?_⟩
  unfold atI ixN
  rw [if_pos h0, if_pos (by rw [List.length_map]; exact h)]
  show (ns.map PyData.int)[i.toNat]? = _
  rw [List.getElem?_map, List.getElem?_eq_getElem hn]
  rfl
theorem p_cell (ns : List Int) (hl : ns.length ≤ 63) (k : Int) (hk : 0 ≤ k) : ∃ c : Int, m__law_cell [scriptD ns, .int k] = okI c := by
  unfold m__law_cell den__law_cell
  have t1 : tVal (eBin mEq (eVar 0) (eLst (aNil))) (rho0 2 [scriptD ns, .int k]) = .ok (ns.map PyData.int).isEmpty := tVal_b (by
    rw [eBin_ok (x := .list (ns.map .int)) (y := .list []) rfl rfl, eq_nilL])
  cases ns with
  | nil =>
    refine ⟨k * 7919, ?_⟩
    refine (congrArg fin (sSeq_rt (d := .int (k * 7919)) ?_)).trans rfl
    refine (sIf_t t1).trans ?_
    refine sRet_ok ?_
    rw [eBin_ok (x := .int k) (y := .int 7919) rfl rfl]
    exact mul_ok (mulOk_short (by decide))
  | cons n r =>
    have hn : 0 < ((n :: r).length : Int) := by simp only [List.length_cons]; omega
    obtain ⟨z, hz⟩ := atI_map_int (ns := n :: r) (Int.emod_nonneg k (by omega : ((n :: r).length : Int) ≠ 0)) (Int.emod_lt_of_pos k hn)
    have hlen : ((List.map PyData.int (n :: r)).length : Int) = ((n :: r).length : Int) := by rw [List.length_map]
    refine ⟨z + k / ((n :: r).length : Int) * 104729, ?_⟩
    refine (congrArg fin (sSeq_nx (ρ' := rho0 2 [scriptD (n :: r), .int k]) ?_)).trans ?_
    · exact (sIf_f (by rw [t1]; rfl)).trans rfl
    · have el : eCallB mLen (aCons (eVar 0) (aNil)) (rho0 2 [scriptD (n :: r), .int k]) = okI ((n :: r).length : Int) := by
        rw [eB_ok (ds := [.list ((n :: r).map .int)]) rfl]
        show okI _ = _
        rw [hlen]
      have e : eBin mAdd (eBin mIdx (eVar 0) (eBin mMod (eVar 1) (eCallB mLen (aCons (eVar 0) (aNil))))) (eBin mMul (eBin mFdiv (eVar 1) (eCallB mLen (aCons (eVar 0) (aNil)))) (eC (.int 104729))) (rho0 2 [scriptD (n :: r), .int k]) = okI (z + k / ((n :: r).length : Int) * 104729) := by
        rw [eBin_ok (x := .int z) (y := .int (k / ((n :: r).length : Int) * 104729)) ?_ ?_]
        · rfl
        · rw [eBin_ok (x := .list ((n :: r).map .int)) (y := .int (k % ((n :: r).length : Int))) rfl ?_]
          · show (match atI (List.map PyData.int (n :: r)) (k % ((n :: r).length : Int)) with
              | some d => R.ok d
              | none => .no) = _
            rw [hz]
          · rw [eBin_ok (x := .int k) (y := .int ((n :: r).length : Int)) rfl el]
            exact if_pos hn
        · rw [eBin_ok (x := .int (k / ((n :: r).length : Int))) (y := .int 104729) ?_ rfl]
          · exact mul_ok (mulOk_short (by decide))
          · rw [eBin_ok (x := .int k) (y := .int ((n :: r).length : Int)) rfl el]
            refine if_pos ?_
            unfold divOk
            rw [Bool.and_eq_true, decide_eq_true_eq, decide_eq_true_eq]
            exact ⟨hn, by omega⟩
      rw [sRet_ok e]
      rfl
end MC
set_option Elab.async false
set_option linter.all false
set_option maxRecDepth 100000
set_option maxHeartbeats 2000000
namespace MC
open PySem L2 DL
def wT : Rho → R Bool := tVal (eBin mGt (eVar 3) (eC (.int 0)))
def wG : Rho → Fl := sBeh [5] (sSeq (sSet 5 (eBin mAdd (eC (.int 1)) (eBin mMod (eCall (ar 2 m__law_drawn) (aCons (eVar 0) (aCons (eVar 3) (aNil)))) (eCallB mMin2 (aCons (eVar 3) (aCons (eC (.int 4)) (aNil))))))) (sSeq (sApp 4 (eVar 5)) (sSet 3 (eBin mSub (eVar 3) (eVar 5)))))
theorem while_row (m : Int) (b : D) (size : Int) : ∀ (n left : Nat) (gs : List Int), left < n → gs.length + left ≤ 1000 →
    ∃ hs : List Int, whileD wT wG n [.dat (.int m), .dat b, .dat (.int size), .dat (.int (left : Nat)), .ml (gs.map .int), .no] = .nx [.dat (.int m), .dat b, .dat (.int size), .dat (.int 0), .ml ((gs ++ hs).map .int), .no] ∧ (∀ h ∈ hs, 1 ≤ h) ∧ hs.sum = left ∧ hs.length ≤ left
  | 0, left, gs, h, _ => absurd h (Nat.not_lt_zero _)
  | n + 1, 0, gs, h, hl => ⟨[], by rw [List.append_nil]; rfl, fun h hh => (by cases hh), rfl, Nat.le_refl _⟩
  | n + 1, L + 1, gs, h, hl => by
    have hm : (0 : Int) < (if (4 : Int) < ((L + 1 : Nat) : Int) then 4 else ((L + 1 : Nat) : Int)) := by split <;> omega
    have hm2 : (if (4 : Int) < ((L + 1 : Nat) : Int) then 4 else ((L + 1 : Nat) : Int)) ≤ ((L + 1 : Nat) : Int) := by split <;> omega
    obtain ⟨mn, hmn⟩ : ∃ mn : Int, mn = (if (4 : Int) < ((L + 1 : Nat) : Int) then 4 else ((L + 1 : Nat) : Int)) := ⟨_, rfl⟩
    rw [← hmn] at hm hm2
    have o1 := Int.emod_nonneg (drawn m ((L + 1 : Nat) : Int)) (show mn ≠ 0 by omega)
    have o2 := Int.emod_lt_of_pos (drawn m ((L + 1 : Nat) : Int)) hm
    obtain ⟨own, hown⟩ : ∃ own : Int, own = 1 + drawn m ((L + 1 : Nat) : Int) % mn := ⟨_, rfl⟩
    have w1 : 1 ≤ own := by omega
    have w2 : own ≤ ((L + 1 : Nat) : Int) := by omega
    obtain ⟨left', hleft⟩ : ∃ l' : Nat, (l' : Int) = ((L + 1 : Nat) : Int) - own := ⟨(((L + 1 : Nat) : Int) - own).toNat, by omega⟩
    obtain ⟨hs, e1, e2, e3, e4⟩ := while_row m b size n left' (gs ++ [own]) (by omega) (by simp only [List.length_append, List.length_cons, List.length_nil]; omega)
    refine ⟨own :: hs, ?_, ?_, ?_, ?_⟩
    · have t : wT [.dat (.int m), .dat b, .dat (.int size), .dat (.int ((L + 1 : Nat) : Int)), .ml (gs.map .int), .no] = .ok true := by
        refine tVal_b ?_
        rw [eBin_ok (x := .int ((L + 1 : Nat) : Int)) (y := .int 0) rfl rfl]
        show okB (decide ((0 : Int) < ((L + 1 : Nat) : Int))) = _
        rw [decide_eq_true (by omega)]
      have g : wG [.dat (.int m), .dat b, .dat (.int size), .dat (.int ((L + 1 : Nat) : Int)), .ml (gs.map .int), .no] = .nx [.dat (.int m), .dat b, .dat (.int size), .dat (.int (left' : Nat)), .ml ((gs ++ [own]).map .int), .no] := by
        unfold wG
        have s1 : eBin mAdd (eC (.int 1)) (eBin mMod (eCall (ar 2 m__law_drawn) (aCons (eVar 0) (aCons (eVar 3) (aNil)))) (eCallB mMin2 (aCons (eVar 3) (aCons (eC (.int 4)) (aNil))))) [.dat (.int m), .dat b, .dat (.int size), .dat (.int ((L + 1 : Nat) : Int)), .ml (gs.map .int), .no] = okI own := by
          rw [eBin_ok (x := .int 1) (y := .int (drawn m ((L + 1 : Nat) : Int) % mn)) rfl ?_]
          · rw [hown]; rfl
          · have ed : eCall (ar 2 m__law_drawn) (aCons (eVar 0) (aCons (eVar 3) (aNil))) [.dat (.int m), .dat b, .dat (.int size), .dat (.int ((L + 1 : Nat) : Int)), .ml (gs.map .int), .no] = okI (drawn m ((L + 1 : Nat) : Int)) := (eCall_ok (ds := [.int m, .int ((L + 1 : Nat) : Int)]) rfl rfl).trans (p_drawn _ _)
            rw [eBin_ok (y := .int mn) ed ?_]
            · exact if_pos hm
            · rw [eB_ok (ds := [.int ((L + 1 : Nat) : Int), .int 4]) rfl, hmn]; rfl
        refine (sBeh_nx (ρ' := [.dat (.int m), .dat b, .dat (.int size), .dat (.int (left' : Nat)), .ml ((gs ++ [own]).map .int), .dat (.int own)]) ?_).trans rfl
        refine (sSeq_nx (sSet_ok s1)).trans ?_
        have small : (gs.map PyData.int).length < sizeLine := by rw [List.length_map, sizeLine_eq]; omega
        refine (sSeq_nx (ρ' := [.dat (.int m), .dat b, .dat (.int size), .dat (.int ((L + 1 : Nat) : Int)), .ml ((gs ++ [own]).map .int), .dat (.int own)]) ?_).trans ?_
        · show (if (gs.map PyData.int).length < sizeLine then Fl.nx [.dat (.int m), .dat b, .dat (.int size), .dat (.int ((L + 1 : Nat) : Int)), .ml (gs.map .int ++ [.int own]), .dat (.int own)] else .no) = _
          rw [if_pos small, List.map_append]
          rfl
        · rw [hleft]; rfl
      unfold whileD
      rw [t]
      show (match wG [.dat (.int m), .dat b, .dat (.int size), .dat (.int ((L + 1 : Nat) : Int)), .ml (gs.map .int), .no] with
        | .nx ρ' => whileD wT wG n ρ'
        | .ct ρ' => whileD wT wG n ρ'
        | .bk ρ' => .nx ρ'
        | .rt v => .rt v
        | .exc c ρ' => .exc c ρ'
        | .no => .no) = _
      rw [g]
      show whileD wT wG n _ = _
      rw [e1, List.append_assoc]
      rfl
    · intro x hx
      rcases List.mem_cons.mp hx with rfl | hx
      · exact w1
      · exact e2 x hx
    · rw [List.sum_cons, e3]; omega
    · rw [List.length_cons]; omega
end MC
set_option Elab.async false
set_option linter.all false
set_option maxRecDepth 100000
set_option maxHeartbeats 2000000
namespace MC
open PySem L2 DL
theorem modN (m : Int) {n : Int} (h : 0 < n) : 0 ≤ m % n ∧ m % n < n := ⟨Int.emod_nonneg m (by omega), Int.emod_lt_of_pos m h⟩
theorem begin10 (m : Int) : ∃ b : Str, mIdx (.list [.str "", .str "1", .str "2", .str "12", .str "7", .str "70", .str "0", .str "00", .str "123", .str "9"]) (.int (m % 10)) = okS b ∧ isFig (.str b) 0 4 = true ∧ b.length ≤ 3 := by
  have h := modN m (show (0 : Int) < 10 by decide)
  have : m % 10 = 0 ∨ m % 10 = 1 ∨ m % 10 = 2 ∨ m % 10 = 3 ∨ m % 10 = 4 ∨ m % 10 = 5 ∨ m % 10 = 6 ∨ m % 10 = 7 ∨ m % 10 = 8 ∨ m % 10 = 9 := by omega
  rcases this with e | e | e | e | e | e | e | e | e | e <;> rw [e] <;> exact ⟨_, rfl, by decide +kernel, by decide +kernel⟩
theorem three (m : Int) : ∃ q : Int, mIdx (.list [.int 2, .int 3, .int 5]) (.int (m % 3)) = okI q ∧ 2 ≤ q ∧ q ≤ 5 := by
  have h := modN m (show (0 : Int) < 3 by decide)
  have : m % 3 = 0 ∨ m % 3 = 1 ∨ m % 3 = 2 := by omega
  rcases this with e | e | e <;> rw [e] <;> exact ⟨_, rfl, by decide, by decide⟩
theorem kind3 (m : Int) : ∃ k : Str, mIdx (.list [.str "home", .str "cell", .str "free"]) (.int (m % 3)) = okS k ∧ isKnd (.str k) = true := by
  have h := modN m (show (0 : Int) < 3 by decide)
  have : m % 3 = 0 ∨ m % 3 = 1 ∨ m % 3 = 2 := by omega
  rcases this with e | e | e <;> rw [e] <;> exact ⟨_, rfl, by decide +kernel⟩
theorem shs_ints : ∀ ns : List Int, shs (ns.map .int) = true
  | [] => rfl
  | n :: ns => by show (sh (.int n) && shs (ns.map .int)) = true; rw [shs_ints ns]; rfl
theorem p_one_row (m : Int) : ∃ k b s ns, m__law_one_row [.int m] = .ok (.tuple [.str k, .str b, .int s, .tuple (List.map .int ns)]) ∧ isRow (.tuple [.str k, .str b, .int s, .tuple (List.map .int ns)]) = true ∧ sh (.tuple [.str k, .str b, .int s, .tuple (List.map .int ns)]) = true := by
  obtain ⟨b, eb, fb, lb⟩ := begin10 m
  obtain ⟨q, eq, q1, q2⟩ := three (m / 64)
  obtain ⟨k, ek, fk⟩ := kind3 (m / 256)
  have hq := modN (m / 16) (show 0 < q by omega)
  obtain ⟨s, hs⟩ : ∃ s : Int, s = mx (.str b) + m / 16 % q := ⟨_, rfl⟩
  have hmx : 3 ≤ mx (.str b) ∧ mx (.str b) ≤ 4 := by
    show 3 ≤ (if (b.length : Int) + 1 > 3 then (b.length : Int) + 1 else 3) ∧ (if (b.length : Int) + 1 > 3 then (b.length : Int) + 1 else 3) ≤ 4
    split <;> omega
  have s1 : mx (.str b) ≤ s ∧ s ≤ 8 := by omega
  obtain ⟨S, hS⟩ : ∃ S : Nat, (S : Int) = s := ⟨s.toNat, by omega⟩
  obtain ⟨hs', w1, w2, w3, w4⟩ := while_row m (.str b) s 40 S [] (by omega) (by simp only [List.length_nil]; omega)
  refine ⟨k, b, s, hs', ?_, ?_, ?_⟩
  · unfold m__law_one_row den__law_one_row
    have e1 : eBin mIdx (eLst (aCons (eC (.str "")) (aCons (eC (.str "1")) (aCons (eC (.str "2")) (aCons (eC (.str "12")) (aCons (eC (.str "7")) (aCons (eC (.str "70")) (aCons (eC (.str "0")) (aCons (eC (.str "00")) (aCons (eC (.str "123")) (aCons (eC (.str "9")) (aNil)))))))))))) (eBin mMod (eVar 0) (eC (.int 10))) (rho0 6 [.int m]) = okS b :=
      (eBin_ok (x := .list [.str "", .str "1", .str "2", .str "12", .str "7", .str "70", .str "0", .str "00", .str "123", .str "9"]) (y := .int (m % 10)) rfl rfl).trans eb
    refine (congrArg fin (sSeq_nx (sSet_ok e1))).trans ?_
    have e2 : eBin mAdd (eCallB mMax2 (aCons (eC (.int 3)) (aCons (eBin mAdd (eCallB mLen (aCons (eVar 1) (aNil))) (eC (.int 1))) (aNil)))) (eBin mMod (eBin mFdiv (eVar 0) (eC (.int 16))) (eBin mIdx (eLst (aCons (eC (.int 2)) (aCons (eC (.int 3)) (aCons (eC (.int 5)) (aNil))))) (eBin mMod (eBin mFdiv (eVar 0) (eC (.int 64))) (eC (.int 3))))) [.dat (.int m), .dat (.str b), .no, .no, .no, .no] = okI s := by
      have f1 : eBin mIdx (eLst (aCons (eC (.int 2)) (aCons (eC (.int 3)) (aCons (eC (.int 5)) (aNil))))) (eBin mMod (eBin mFdiv (eVar 0) (eC (.int 64))) (eC (.int 3))) [.dat (.int m), .dat (.str b), .no, .no, .no, .no] = okI q :=
        (eBin_ok (x := .list [.int 2, .int 3, .int 5]) (y := .int (m / 64 % 3)) rfl rfl).trans eq
      have f2 : eBin mMod (eBin mFdiv (eVar 0) (eC (.int 16))) (eBin mIdx (eLst (aCons (eC (.int 2)) (aCons (eC (.int 3)) (aCons (eC (.int 5)) (aNil))))) (eBin mMod (eBin mFdiv (eVar 0) (eC (.int 64))) (eC (.int 3)))) [.dat (.int m), .dat (.str b), .no, .no, .no, .no] = okI (m / 16 % q) :=
        (eBin_ok (x := .int (m / 16)) rfl f1).trans (if_pos (by omega))
      rw [eBin_ok (x := .int (mx (.str b))) rfl f2, hs]
      rfl
    refine (congrArg fin (sSeq_nx (sSet_ok e2))).trans ?_
    refine (congrArg fin (sSeq_nx (ρ' := [.dat (.int m), .dat (.str b), .dat (.int s), .dat (.int s), .ml [], .no]) rfl)).trans ?_
    rw [hS] at w1
    refine (congrArg fin (sSeq_nx (ρ' := [.dat (.int m), .dat (.str b), .dat (.int s), .dat (.int 0), .ml (hs'.map .int), .no]) w1)).trans ?_
    have e3 : eTup (aCons (eBin mIdx (eLst (aCons (eC (.str "home")) (aCons (eC (.str "cell")) (aCons (eC (.str "free")) (aNil))))) (eBin mMod (eBin mFdiv (eVar 0) (eC (.int 256))) (eC (.int 3)))) (aCons (eVar 1) (aCons (eVar 2) (aCons (eCallB mTup (aCons (eVar 4) (aNil))) (aNil))))) [.dat (.int m), .dat (.str b), .dat (.int s), .dat (.int 0), .dat (.list (hs'.map .int)), .no] = .ok (.tuple [.str k, .str b, .int s, .tuple (hs'.map .int)]) := by
      have f1 : eBin mIdx (eLst (aCons (eC (.str "home")) (aCons (eC (.str "cell")) (aCons (eC (.str "free")) (aNil))))) (eBin mMod (eBin mFdiv (eVar 0) (eC (.int 256))) (eC (.int 3))) [.dat (.int m), .dat (.str b), .dat (.int s), .dat (.int 0), .dat (.list (hs'.map .int)), .no] = okS k :=
        (eBin_ok (x := .list [.str "home", .str "cell", .str "free"]) (y := .int (m / 256 % 3)) rfl rfl).trans ek
      unfold eTup
      rw [aC_ok f1 (xs := [.str b, .int s, .tuple (hs'.map .int)]) rfl]
      rfl
    show fin (sRet _ [.dat (.int m), .dat (.str b), .dat (.int s), .dat (.int 0), .dat (.list (hs'.map .int)), .no]) = _
    rw [sRet_ok e3]
    rfl
  · show rowB (.str k) (.str b) (.int s) (.tuple (hs'.map .int)) = true
    have lr := last_row b s hs' w2
    have hb : (b.length : Int) < s := by
      have : (b.length : Int) + 1 ≤ mx (.str b) := by
        show (b.length : Int) + 1 ≤ (if (b.length : Int) + 1 > 3 then (b.length : Int) + 1 else 3)
        split <;> omega
      omega
    rw [decide_eq_true (show 2 < s by omega), decide_eq_true (show s < 13 by omega), decide_eq_true hb, decide_eq_true (show hs'.sum = s by rw [w3, hS])] at lr
    unfold rowB
    rw [fk, fb]
    have lr2 : (isCnt (.int s) (mx (.str b)) 12 && grp (.tuple (hs'.map .int)) (.int s)) = true := lr.symm
    rw [Bool.and_eq_true] at lr2
    rw [lr2.1, lr2.2]
    rfl
  · simp only [sh, shs, shs_ints, Bool.and_true, Bool.true_and, List.length_map, Bool.and_eq_true, decide_eq_true_eq]
    refine ⟨by simp only [List.length_cons, List.length_nil]; omega, ?_⟩
    omega
end MC
set_option Elab.async false
set_option linter.all false
set_option maxRecDepth 100000
set_option maxHeartbeats 2000000
namespace MC
open PySem L2 DL
def lB : Rho → Fl := sBeh [3, 4] (sSeq (sSet 4 (eCall (ar 1 m__law_one_row) (aCons (eCall (ar 2 m__law_drawn) (aCons (eVar 0) (aCons (eVar 3) (aNil)))) (aNil)))) (sIf (tVal (eBin mNotIn (eSl (eVar 4) (oSome (eC (.int 1))) (oSome (eC (.int 3)))) (eLc [5] (iMl 2) (gNm 5) (tTrue) (eSl (eVar 5) (oSome (eC (.int 1))) (oSome (eC (.int 3))))))) (sApp 2 (eVar 4)) (sNil)))
/-- right rows, short, unlike -/
structure Rows (rows : List D) : Prop where
  row : rows.all isRow = true
  short : ∀ d ∈ rows, sh d = true
  nd : (rows.map keyR).Nodup
theorem any_pair {r : D} (h : isRow r = true) : ∀ {rs : List D}, rs.all isRow = true → ((rs.map pairR).any fun y => PyData.eqv y (pairR r)) = decide (keyR r ∈ rs.map keyR)
  | [], _ => rfl
  | q :: rs, hq => by
    rw [List.all_cons, Bool.and_eq_true] at hq
    have ih := any_pair h hq.2
    obtain ⟨k, b, s, gs, rfl, _⟩ := row_at h
    obtain ⟨k', b', s', gs', rfl, _⟩ := row_at hq.1
    rw [List.map_cons, List.map_cons, List.any_cons, ih]
    show (PyData.eqv (.tuple [.str b', .int s']) (.tuple [.str b, .int s]) || _) = _
    rw [eqv_pair, Bool.eq_iff_iff, Bool.or_eq_true, beq_iff_eq, decide_eq_true_eq, decide_eq_true_eq, List.mem_cons]
    exact ⟨fun z => z.elim (fun e => .inl e.symm) .inr, fun z => z.elim (fun e => .inl e.symm) .inr⟩
theorem land_step (m : Int) (c : D) (j : Int) (rows : List D) (R0 : Rows rows) (hl : rows.length ≤ 1000) :
    ∃ rows', lB [.dat (.int m), c |> .dat, .ml rows, .dat (.int j), .no, .no] = .nx [.dat (.int m), .dat c, .ml rows', .no, .no, .no] ∧ Rows rows' ∧ rows.length ≤ rows'.length ∧ rows'.length ≤ rows.length + 1 ∧ rows' ≠ [] := by
  obtain ⟨k, b, s, ns, e1, hr, hsh⟩ := p_one_row (drawn m j)
  generalize hrr : (PyData.tuple [.str k, .str b, .int s, .tuple (List.map .int ns)]) = r at e1 hr hsh
  have s1 : eCall (ar 1 m__law_one_row) (aCons (eCall (ar 2 m__law_drawn) (aCons (eVar 0) (aCons (eVar 3) (aNil)))) (aNil)) [.dat (.int m), .dat c, .ml rows, .dat (.int j), .no, .no] = .ok r := by
    have ed : eCall (ar 2 m__law_drawn) (aCons (eVar 0) (aCons (eVar 3) (aNil))) [.dat (.int m), .dat c, .ml rows, .dat (.int j), .no, .no] = okI (drawn m j) := (eCall_ok (ds := [.int m, .int j]) rfl rfl).trans (p_drawn _ _)
    exact (eCall_ok (n := 1) (a1_ok ed) rfl).trans e1
  have small : rows.length ≤ sizeLine := by rw [sizeLine_eq]; omega
  have s2 : eLc [5] (iMl 2) (gNm 5) (tTrue) (eSl (eVar 5) (oSome (eC (.int 1))) (oSome (eC (.int 3)))) [.dat (.int m), .dat c, .ml rows, .dat (.int j), .dat r, .no] = .ok (.list (rows.map pairR)) := by
    refine map_lc (ds := rows) ?_ fun d hd => ⟨_, rfl, ?_⟩
    · show (if rows.length ≤ sizeLine then R.ok rows else .no) = _
      rw [if_pos small]
    · obtain ⟨k', b', s', gs', rfl, _⟩ := row_at (List.all_eq_true.mp R0.row d hd)
      rfl
  have s3 : tVal (eBin mNotIn (eSl (eVar 4) (oSome (eC (.int 1))) (oSome (eC (.int 3)))) (eLc [5] (iMl 2) (gNm 5) (tTrue) (eSl (eVar 5) (oSome (eC (.int 1))) (oSome (eC (.int 3)))))) [.dat (.int m), .dat c, .ml rows, .dat (.int j), .dat r, .no] = .ok (!decide (keyR r ∈ rows.map keyR)) := by
    refine tVal_b ?_
    rw [eBin_ok (x := pairR r) ?_ s2]
    · rw [← any_pair hr R0.row, ← hrr]
      rfl
    · rw [← hrr]; rfl
  unfold lB
  by_cases hm : keyR r ∈ rows.map keyR
  · refine ⟨rows, ?_, R0, Nat.le_refl _, Nat.le_succ _, fun z => by subst z; cases hm⟩
    rw [decide_eq_true hm] at s3
    refine (sBeh_nx (ρ' := [.dat (.int m), .dat c, .ml rows, .dat (.int j), .dat r, .no]) ?_).trans rfl
    exact (sSeq_nx (sSet_ok s1)).trans ((sIf_f s3).trans rfl)
  · rw [decide_eq_false hm] at s3
    refine ⟨rows ++ [r], ?_, ⟨?_, ?_, ?_⟩, by simp, by simp, by simp⟩
    · refine (sBeh_nx (ρ' := [.dat (.int m), .dat c, .ml (rows ++ [r]), .dat (.int j), .dat r, .no]) ?_).trans rfl
      refine (sSeq_nx (sSet_ok s1)).trans ((sIf_t s3).trans ?_)
      show (if rows.length < sizeLine then Fl.nx [.dat (.int m), .dat c, .ml (rows ++ [r]), .dat (.int j), .dat r, .no] else .no) = _
      rw [if_pos (by rw [sizeLine_eq]; omega)]
    · rw [List.all_append, R0.row]; show (isRow r && true) = true; rw [hr]; rfl
    · intro d hd
      rcases List.mem_append.mp hd with z | z
      · exact R0.short d z
      · rw [List.mem_singleton.mp z]; exact hsh
    · rw [List.map_append]
      refine List.nodup_append.mpr ⟨R0.nd, List.nodup_cons.mpr ⟨by simp, List.nodup_nil⟩, fun a ha b hb => ?_⟩
      have : b = keyR r := by simpa using hb
      subst this
      exact fun z => hm (z ▸ ha)
theorem land_loop (m : Int) (c : D) : ∀ (js : List Int) (rows : List D), Rows rows → rows.length + js.length ≤ 1000 →
    ∃ rows', loopD (fun d ρ => (gNm 3 d ρ).go lB) (js.map .int) [.dat (.int m), .dat c, .ml rows, .no, .no, .no] = .nx [.dat (.int m), .dat c, .ml rows', .no, .no, .no] ∧ Rows rows' ∧ rows'.length ≤ rows.length + js.length ∧ (js ≠ [] ∨ rows ≠ [] → rows' ≠ [])
  | [], rows, R0, _ => ⟨rows, rfl, R0, Nat.le_refl _, fun h => h.elim (fun z => absurd rfl z) id⟩
  | j :: js, rows, R0, hl => by
    rw [List.length_cons] at hl
    obtain ⟨r1, e1, R1, l1, l2, n1⟩ := land_step m c j rows R0 (by omega)
    obtain ⟨r2, e2, R2, l3, n2⟩ := land_loop m c js r1 R1 (by omega)
    refine ⟨r2, ?_, R2, by rw [List.length_cons]; omega, fun _ => n2 (.inr n1)⟩
    rw [List.map_cons]
    unfold loopD
    show (match lB [.dat (.int m), .dat c, .ml rows, .dat (.int j), .no, .no] with
      | .nx ρ' => loopD _ (js.map .int) ρ'
      | .ct ρ' => loopD _ (js.map .int) ρ'
      | .bk ρ' => .nx ρ'
      | .rt v => .rt v
      | .exc c ρ' => .exc c ρ'
      | .no => .no) = _
    rw [e1]
    exact e2
end MC
set_option Elab.async false
set_option linter.all false
set_option maxRecDepth 100000
set_option maxHeartbeats 2000000
namespace MC
open PySem L2 DL
theorem out5 (m : Int) : ∃ b : Str, mIdx (.list [.str "0", .str "00", .str "011", .str "9", .str "1"]) (.int (m % 5)) = okS b ∧ isFig (.str b) 1 4 = true := by
  have h := modN m (show (0 : Int) < 5 by decide)
  have : m % 5 = 0 ∨ m % 5 = 1 ∨ m % 5 = 2 ∨ m % 5 = 3 ∨ m % 5 = 4 := by omega
  rcases this with e | e | e | e | e <;> rw [e] <;> exact ⟨_, rfl, by decide +kernel⟩
theorem trunk5 (m : Int) : ∃ b : Str, mIdx (.list [.str "0", .str "", .str "8", .str "0", .str "01"]) (.int (m % 5)) = okS b ∧ isFig (.str b) 0 2 = true := by
  have h := modN m (show (0 : Int) < 5 by decide)
  have : m % 5 = 0 ∨ m % 5 = 1 ∨ m % 5 = 2 ∨ m % 5 = 3 ∨ m % 5 = 4 := by omega
  rcases this with e | e | e | e | e <;> rw [e] <;> exact ⟨_, rfl, by decide +kernel⟩
theorem shs_all : ∀ {ds : List D}, (∀ d ∈ ds, sh d = true) → shs ds = true
  | [], _ => rfl
  | d :: r, h => by
    show (sh d && shs r) = true
    rw [h d List.mem_cons_self, shs_all fun x hx => h x (List.mem_cons_of_mem _ hx)]
    rfl
theorem p_land (m : Int) (c : Str) (hc : isFig (.str c) 1 3 = true) (hz : zeroAt (.str c) = false) : ∃ b t rs, m__law_land [.int m, .str c] = .ok (.tuple [.str c, .str b, .str t, .tuple rs]) ∧ isLand (.tuple [.str c, .str b, .str t, .tuple rs]) = true ∧ sh (.tuple [.str c, .str b, .str t, .tuple rs]) = true := by
  obtain ⟨b, eb, fb⟩ := out5 (m / 8)
  obtain ⟨t, et, ft⟩ := trunk5 (m / 64)
  have h5 := modN m (show (0 : Int) < 5 by decide)
  obtain ⟨n, hn⟩ : ∃ n : Nat, (n : Int) = 1 + m % 5 := ⟨(1 + m % 5).toNat, by omega⟩
  obtain ⟨rs, e1, R1, l1, n1⟩ := land_loop m (.str c) ((List.range n).map fun i => ((i : Nat) : Int)) [] ⟨rfl, fun d hd => (by cases hd), List.nodup_nil⟩ (by simp only [List.length_map, List.length_range, List.length_nil]; omega)
  have hne : rs ≠ [] := n1 (.inl (by
    intro z
    have := congrArg List.length z
    simp only [List.length_map, List.length_range, List.length_nil] at this
    omega))
  rw [List.length_map, List.length_range, List.length_nil] at l1
  refine ⟨b, t, rs, ?_, ?_, ?_⟩
  · unfold m__law_land den__law_land
    refine (congrArg fin (sSeq_nx (ρ' := [.dat (.int m), .dat (.str c), .ml [], .no, .no, .no]) rfl)).trans ?_
    have er : iRg rng1 (aCons (eBin mAdd (eC (.int 1)) (eBin mMod (eVar 0) (eC (.int 5)))) (aNil)) [.dat (.int m), .dat (.str c), .ml [], .no, .no, .no] = .ok (((List.range n).map fun i => ((i : Nat) : Int)).map .int) := by
      show rng1 [.int (1 + m % 5)] = _
      rw [← hn]
      have : n ≤ 5 := by omega
      match n, this with
      | 0, _ => rfl
      | 1, _ => rfl
      | 2, _ => rfl
      | 3, _ => rfl
      | 4, _ => rfl
      | 5, _ => rfl
    have ef : sBeh [3, 4] (sFgt [3, 4] (sFor (iRg rng1 (aCons (eBin mAdd (eC (.int 1)) (eBin mMod (eVar 0) (eC (.int 5)))) (aNil))) (gNm 3) lB)) [.dat (.int m), .dat (.str c), .ml [], .no, .no, .no] = .nx [.dat (.int m), .dat (.str c), .ml rs, .no, .no, .no] := by
      refine (sBeh_nx (ρ' := [.dat (.int m), .dat (.str c), .ml rs, .no, .no, .no]) ?_).trans rfl
      show (iRg rng1 (aCons (eBin mAdd (eC (.int 1)) (eBin mMod (eVar 0) (eC (.int 5)))) (aNil)) [.dat (.int m), .dat (.str c), .ml [], .no, .no, .no]).thn _ (fun ds => loopD (fun d ρ => (gNm 3 d ρ).go lB) ds [.dat (.int m), .dat (.str c), .ml [], .no, .no, .no]) = _
      rw [er]
      exact e1
    refine (congrArg fin (sSeq_nx ef)).trans ?_
    have e3 : eTup (aCons (eVar 1) (aCons (eBin mIdx (eLst (aCons (eC (.str "0")) (aCons (eC (.str "00")) (aCons (eC (.str "011")) (aCons (eC (.str "9")) (aCons (eC (.str "1")) (aNil))))))) (eBin mMod (eBin mFdiv (eVar 0) (eC (.int 8))) (eC (.int 5)))) (aCons (eBin mIdx (eLst (aCons (eC (.str "0")) (aCons (eC (.str "")) (aCons (eC (.str "8")) (aCons (eC (.str "0")) (aCons (eC (.str "01")) (aNil))))))) (eBin mMod (eBin mFdiv (eVar 0) (eC (.int 64))) (eC (.int 5)))) (aCons (eCallB mTup (aCons (eVar 2) (aNil))) (aNil))))) [.dat (.int m), .dat (.str c), .dat (.list rs), .no, .no, .no] = .ok (.tuple [.str c, .str b, .str t, .tuple rs]) := by
      have f1 := (eBin_ok (g := mIdx) (f := eLst (aCons (eC (.str "0")) (aCons (eC (.str "00")) (aCons (eC (.str "011")) (aCons (eC (.str "9")) (aCons (eC (.str "1")) (aNil))))))) (h := eBin mMod (eBin mFdiv (eVar 0) (eC (.int 8))) (eC (.int 5))) (ρ := [.dat (.int m), .dat (.str c), .dat (.list rs), .no, .no, .no]) (x := .list [.str "0", .str "00", .str "011", .str "9", .str "1"]) (y := .int (m / 8 % 5)) rfl rfl).trans eb
      have f2 := (eBin_ok (g := mIdx) (f := eLst (aCons (eC (.str "0")) (aCons (eC (.str "")) (aCons (eC (.str "8")) (aCons (eC (.str "0")) (aCons (eC (.str "01")) (aNil))))))) (h := eBin mMod (eBin mFdiv (eVar 0) (eC (.int 64))) (eC (.int 5))) (ρ := [.dat (.int m), .dat (.str c), .dat (.list rs), .no, .no, .no]) (x := .list [.str "0", .str "", .str "8", .str "0", .str "01"]) (y := .int (m / 64 % 5)) rfl rfl).trans et
      unfold eTup
      rw [aC_ok (x := .str c) (xs := [.str b, .str t, .tuple rs]) rfl (aC_ok f1 (aC_ok f2 rfl))]
      rfl
    show fin (sRet _ [.dat (.int m), .dat (.str c), .dat (.list rs), .no, .no, .no]) = _
    rw [sRet_ok e3]
    rfl
  · show landB (.str c) (.str b) (.str t) (.tuple rs) = true
    have hR : rowsB (.tuple rs) = (decide (1 ≤ (rs.length : Int)) && decide ((rs.length : Int) ≤ 8) && (rs.all isRow && distinct rs)) := rfl
    have h0 : 0 < rs.length := List.length_pos_iff.mpr hne
    have hd : distinct rs = true := decide_eq_true R1.nd
    unfold landB
    rw [hc, hz, fb, ft, hR, R1.row, hd, decide_eq_true (show 1 ≤ (rs.length : Int) by omega), decide_eq_true (show (rs.length : Int) ≤ 8 by omega)]
    rfl
  · simp only [sh, shs, shs_all R1.short, Bool.and_true, Bool.true_and, Bool.and_eq_true, decide_eq_true_eq]
    refine ⟨by simp only [List.length_cons, List.length_nil]; omega, ?_⟩
    omega
end MC
set_option Elab.async false
set_option linter.all false
set_option maxRecDepth 100000
set_option maxHeartbeats 2000000
/-! evaluation by rewriting -/
namespace DL
open PySem L2
section
variable {α β : Type} {f h : Rho → R D} {fs : Rho → R (List D)} {t t2 : Rho → R Bool} {g k : Rho → Fl} {ρ : Rho}
theorem ev_bind_ok (a : α) (F : α → R β) : (R.ok a).bind F = F a := (rfl)
theorem ev_bind_exc (c : Str) (F : α → R β) : (R.exc c : R α).bind F = .exc c := (rfl)
theorem ev_thn_ok (a : α) (F : α → Fl) : (R.ok a).thn ρ F = F a := (rfl)
theorem ev_thn_exc (c : Str) (F : α → Fl) : (R.exc c : R α).thn ρ F = .exc c ρ := (rfl)
theorem ev_fl_nx (F : Rho → Fl) : (Fl.nx ρ).thn F = F ρ := (rfl)
theorem ev_fl_rt (d : D) (F : Rho → Fl) : (Fl.rt d).thn F = .rt d := (rfl)
theorem ev_fl_ct (F : Rho → Fl) : (Fl.ct ρ).thn F = .ct ρ := (rfl)
theorem ev_fl_bk (F : Rho → Fl) : (Fl.bk ρ).thn F = .bk ρ := (rfl)
theorem ev_fl_exc (c : Str) (F : Rho → Fl) : (Fl.exc c ρ).thn F = .exc c ρ := (rfl)
theorem ev_eBin (G : D → D → R D) : eBin G f h ρ = (f ρ).bind fun x => (h ρ).bind fun y => G x y := (rfl)
theorem ev_eUn (G : D → R D) : eUn G f ρ = (f ρ).bind G := (rfl)
theorem ev_eC (d : D) : eC d ρ = .ok d := (rfl)
theorem ev_var0 (d : D) (r : Rho) : eVar 0 (.dat d :: r) = .ok d := (rfl)
theorem ev_varS (i : Nat) (s : Sl) (r : Rho) : eVar (i + 1) (s :: r) = eVar i r := (rfl)
theorem ev_tVal : tVal f ρ = (f ρ).bind asB := (rfl)
theorem ev_asB (b : Bool) : asB (.bool b) = .ok b := (rfl)
theorem ev_tNt : tNt t ρ = (t ρ).bind fun b => .ok (!b) := (rfl)
theorem ev_tAn : tAn t t2 ρ = (t ρ).bind fun b => if b then t2 ρ else .ok false := (rfl)
theorem ev_tOrr : tOrr t t2 ρ = (t ρ).bind fun b => if b then .ok true else t2 ρ := (rfl)
theorem ev_eAnd : eAnd f h ρ = (tVal f ρ).bind fun b => if b then h ρ else .ok (.bool false) := (rfl)
theorem ev_eOr : eOr f h ρ = (tVal f ρ).bind fun b => if b then .ok (.bool true) else h ρ := (rfl)
theorem ev_eNot : eNot f ρ = (tVal f ρ).bind fun b => .ok (.bool (!b)) := (rfl)
theorem ev_eIf : eIf t f h ρ = (t ρ).bind fun b => if b then f ρ else h ρ := (rfl)
theorem ev_aNil : aNil ρ = .ok [] := (rfl)
theorem ev_aCons : aCons f fs ρ = (f ρ).bind fun d => (fs ρ).bind fun ds => .ok (d :: ds) := (rfl)
theorem ev_callB (G : List D → R D) : eCallB G fs ρ = (fs ρ).bind G := (rfl)
theorem ev_call (G : List D → R D) : eCall G fs ρ = (fs ρ).bind G := (rfl)
theorem ev_ar1 (F : List D → R D) (a : D) : ar 1 F [a] = F [a] := (rfl)
theorem ev_ar2 (F : List D → R D) (a b : D) : ar 2 F [a, b] = F [a, b] := (rfl)
theorem ev_ar3 (F : List D → R D) (a b c : D) : ar 3 F [a, b, c] = F [a, b, c] := (rfl)
theorem ev_ar4 (F : List D → R D) (a b c d : D) : ar 4 F [a, b, c, d] = F [a, b, c, d] := (rfl)
theorem ev_mt (Ty : String) (G : D → List D → R D) : eMt Ty G f fs ρ = (f ρ).bind fun d => if tyD Ty d then (fs ρ).bind fun ds => G d ds else .no := (rfl)
theorem ev_seq : sSeq g k ρ = (g ρ).thn k := (rfl)
theorem ev_nil : sNil ρ = .nx ρ := (rfl)
theorem ev_exp : sExp f ρ = (f ρ).thn ρ fun _ => .nx ρ := (rfl)
theorem ev_ret : sRet f ρ = (f ρ).thn ρ .rt := (rfl)
theorem ev_retN : sRetN ρ = .rt .none := (rfl)
theorem ev_brk : sBrk ρ = .bk ρ := (rfl)
theorem ev_cnt : sCnt ρ = .ct ρ := (rfl)
theorem ev_set (i : Nat) : sSet i f ρ = (f ρ).thn ρ fun d => .nx (ρ.set i (.dat d)) := (rfl)
theorem ev_if : sIf t g k ρ = (t ρ).thn ρ fun b => if b then g ρ else k ρ := (rfl)
theorem ev_raise (c : Str) : sRaise c ρ = .exc c ρ := (rfl)
theorem ev_sFgt (is : List Nat) : sFgt is g ρ = g (fgt is ρ) := (rfl)
theorem ev_sFrz (i : Nat) : sFrz i g ρ = g (frz1 i ρ) := (rfl)
theorem ev_newM (i : Nat) : sNewM i fs ρ = (fs ρ).thn ρ fun ds => if ds.length ≤ sizeLine then .nx (ρ.set i (.ml ds)) else .no := (rfl)
theorem ev_par (i j : Nat) (fs : Rho → R (List D)) (a b : D) (e : fs ρ = .ok [a, b]) : sPar i j fs ρ = .nx ((ρ.set i (.dat a)).set j (.dat b)) := by unfold sPar; rw [e]; rfl
def bodyF (K : Tgt) (g : Rho → Fl) (d : D) (ρ : Rho) : Fl := (K d ρ).go g
def loopB (K : Tgt) (g : Rho → Fl) (ρ : Rho) (ds : List D) : Fl := loopD (bodyF K g) ds ρ
theorem ev_for (fi : Rho → R (List D)) (K : Tgt) : sFor fi K g ρ = (fi ρ).thn ρ (loopB K g ρ) := (rfl)
theorem ev_loopB (K : Tgt) (ds : List D) : loopB K g ρ ds = loopD (bodyF K g) ds ρ := (rfl)
theorem ev_body (K : Tgt) (d : D) : bodyF K g d ρ = (K d ρ).go g := (rfl)
theorem ev_iRg (G : List D → R (List D)) : iRg G fs ρ = (fs ρ).bind G := (rfl)
theorem ev_iOf : iOf f ρ = (f ρ).bind itemsOf := (rfl)
theorem ev_itT (ds : List D) : itemsOf (.tuple ds) = .ok ds := (rfl)
theorem ev_itL (ds : List D) : itemsOf (.list ds) = .ok ds := (rfl)
theorem ev_itS (x : Str) : itemsOf (.str x) = .ok (chrs x) := (rfl)
theorem ev_sl (lo hi : Rho → R (Option Int)) : eSl f lo hi ρ = (f ρ).bind fun d => (lo ρ).bind fun l => (hi ρ).bind fun h => mSl d l h := (rfl)
theorem ev_oNone : oNone ρ = .ok none := (rfl)
theorem ev_oSome : oSome f ρ = (f ρ).bind asI := (rfl)
theorem ev_asI (i : Int) : asI (.int i) = .ok (some i) := (rfl)
theorem ev_slT (xs : List D) (lo hi : Option Int) : mSl (.tuple xs) lo hi = .ok (.tuple (cutD xs lo hi)) := (rfl)
theorem ev_slL (xs : List D) (lo hi : Option Int) : mSl (.list xs) lo hi = .ok (.list (cutD xs lo hi)) := (rfl)
theorem ev_slS (z : Str) (lo hi : Option Int) : mSl (.str z) lo hi = .ok (.str ⟨(cutD z.cps.toList lo hi).toArray⟩) := (rfl)
theorem ev_go_ok (r : Rho) : (R.ok r).go g = g r := (rfl)
theorem ev_gNm (i : Nat) (d : D) : gNm i d ρ = .ok (ρ.set i (.dat d)) := (rfl)
theorem ev_tTrue : tTrue ρ = .ok true := (rfl)
theorem ev_set0 (s u : Sl) (r : Rho) : (s :: r : Rho).set 0 u = u :: r := (rfl)
theorem ev_setS (i : Nat) (s u : Sl) (r : Rho) : (s :: r : Rho).set (i + 1) u = s :: r.set i u := (rfl)
theorem ev_fin_rt (d : D) : fin (.rt d) = .ok d := (rfl)
theorem ev_fin_nx (r : Rho) : fin (.nx r) = .ok .none := (rfl)
theorem ev_fin_exc (c : Str) (r : Rho) : fin (.exc c r) = .exc c := (rfl)
theorem ev_addI (a b : Int) : mAdd (.int a) (.int b) = okI (a + b) := (rfl)
theorem ev_subI (a b : Int) : mSub (.int a) (.int b) = okI (a - b) := (rfl)
theorem ev_gtI (a b : Int) : mGt (.int a) (.int b) = okB (decide (b < a)) := (rfl)
theorem ev_ltI (a b : Int) : mLt (.int a) (.int b) = okB (decide (a < b)) := (rfl)
theorem ev_geI (a b : Int) : mGe (.int a) (.int b) = okB (decide (b ≤ a)) := (rfl)
theorem ev_leI (a b : Int) : mLe (.int a) (.int b) = okB (decide (a ≤ b)) := (rfl)
theorem ev_lenL (ds : List D) : mLen [.list ds] = okI ds.length := (rfl)
theorem ev_lenT (ds : List D) : mLen [.tuple ds] = okI ds.length := (rfl)
theorem ev_lenS (z : Str) : mLen [.str z] = okI z.length := (rfl)
theorem ev_tupL (ds : List D) : mTup [.list ds] = .ok (.tuple ds) := (rfl)
theorem ev_tupT (ds : List D) : mTup [.tuple ds] = .ok (.tuple ds) := (rfl)
theorem ev_lstL (ds : List D) : mLst [.list ds] = .ok (.list ds) := (rfl)
theorem ev_lstT (ds : List D) : mLst [.tuple ds] = .ok (.list ds) := (rfl)
theorem ev_revT (ds : List D) : mRev (.tuple ds) = .ok (.tuple ds.reverse) := (rfl)
theorem ev_revL (ds : List D) : mRev (.list ds) = .ok (.list ds.reverse) := (rfl)
theorem ev_negI (a : Int) : mNeg (.int a) = okI (-a) := (rfl)
theorem ev_isi (n : String) (d : D) : isiD n d = isiD n d := (rfl)
theorem ev_beh_nx {is : List Nat} {ρ' : Rho} (e : g ρ = .nx ρ') : sBeh is g ρ = .nx (fgt is ρ') := by unfold sBeh; rw [e]
end
def mkL (ds : List D) : R D := if ds.length ≤ sizeLine then .ok (.list ds) else .no
def mkTu (ds : List D) : R D := if ds.length ≤ sizeLine then .ok (.tuple ds) else .no
theorem mkL_of {ds : List D} (h : ds.length ≤ sizeLine) : mkL ds = .ok (.list ds) := if_pos h
theorem mkT_of {ds : List D} (h : ds.length ≤ sizeLine) : mkTu ds = .ok (.tuple ds) := if_pos h
theorem ev_lst {fs : Rho → R (List D)} {ρ : Rho} : eLst fs ρ = (fs ρ).bind mkL := (rfl)
theorem ev_tup {fs : Rho → R (List D)} {ρ : Rho} : eTup fs ρ = (fs ρ).bind mkTu := (rfl)
theorem ev_modI (a b : Int) : mMod (.int a) (.int b) = if 0 < b then okI (a % b) else .no := (rfl)
theorem ev_fdivI (a b : Int) : mFdiv (.int a) (.int b) = if (decide (0 < b) && decide (b < 1000000000000000000000000000000000000000000000000)) = true then okI (a / b) else .no := (rfl)
theorem atI_0 (a : D) (r : List D) : atI (a :: r) 0 = some a := by
  unfold atI ixN
  rw [if_pos (by decide), if_pos (by simp only [List.length_cons]; omega)]
  rfl
theorem ev_ix0L (a : D) (r : List D) : mIdx (.list (a :: r)) (.int 0) = .ok a := by
  show (match atI (a :: r) 0 with
    | some d => R.ok d
    | none => .no) = _
  rw [atI_0]
theorem ev_ix0T (a : D) (r : List D) : mIdx (.tuple (a :: r)) (.int 0) = .ok a := by
  show (match atI (a :: r) 0 with
    | some d => R.ok d
    | none => .no) = _
  rw [atI_0]
theorem ev_ix1T (a b : D) (r : List D) : mIdx (.tuple (a :: b :: r)) (.int 1) = .ok b := by
  show (match atI (a :: b :: r) 1 with
    | some d => R.ok d
    | none => .no) = _
  have : atI (a :: b :: r) 1 = some b := by
    unfold atI ixN
    rw [if_pos (by decide), if_pos (by simp only [List.length_cons]; omega)]
    rfl
  rw [this]
theorem ev_ix2T (a b c d : D) : mIdx (.tuple [a, b, c, d]) (.int 2) = .ok c := (rfl)
theorem ev_ix3T (a b c d : D) : mIdx (.tuple [a, b, c, d]) (.int 3) = .ok d := (rfl)
theorem ev_mkL0  : mkL [] = .ok (.list []) := mkL_of (by rw [sizeLine_eq]; simp)
theorem ev_mkT0  : mkTu [] = .ok (.tuple []) := mkT_of (by rw [sizeLine_eq]; simp)
theorem ev_mkL1 (x0 : D) : mkL [x0] = .ok (.list [x0]) := mkL_of (by rw [sizeLine_eq]; simp)
theorem ev_mkT1 (x0 : D) : mkTu [x0] = .ok (.tuple [x0]) := mkT_of (by rw [sizeLine_eq]; simp)
theorem ev_mkL2 (x0 x1 : D) : mkL [x0, x1] = .ok (.list [x0, x1]) := mkL_of (by rw [sizeLine_eq]; simp)
theorem ev_mkT2 (x0 x1 : D) : mkTu [x0, x1] = .ok (.tuple [x0, x1]) := mkT_of (by rw [sizeLine_eq]; simp)
theorem ev_mkL3 (x0 x1 x2 : D) : mkL [x0, x1, x2] = .ok (.list [x0, x1, x2]) := mkL_of (by rw [sizeLine_eq]; simp)
theorem ev_mkT3 (x0 x1 x2 : D) : mkTu [x0, x1, x2] = .ok (.tuple [x0, x1, x2]) := mkT_of (by rw [sizeLine_eq]; simp)
theorem ev_mkL4 (x0 x1 x2 x3 : D) : mkL [x0, x1, x2, x3] = .ok (.list [x0, x1, x2, x3]) := mkL_of (by rw [sizeLine_eq]; simp)
theorem ev_mkT4 (x0 x1 x2 x3 : D) : mkTu [x0, x1, x2, x3] = .ok (.tuple [x0, x1, x2, x3]) := mkT_of (by rw [sizeLine_eq]; simp)
theorem ev_mkL5 (x0 x1 x2 x3 x4 : D) : mkL [x0, x1, x2, x3, x4] = .ok (.list [x0, x1, x2, x3, x4]) := mkL_of (by rw [sizeLine_eq]; simp)
theorem ev_mkT5 (x0 x1 x2 x3 x4 : D) : mkTu [x0, x1, x2, x3, x4] = .ok (.tuple [x0, x1, x2, x3, x4]) := mkT_of (by rw [sizeLine_eq]; simp)
theorem ev_mkL6 (x0 x1 x2 x3 x4 x5 : D) : mkL [x0, x1, x2, x3, x4, x5] = .ok (.list [x0, x1, x2, x3, x4, x5]) := mkL_of (by rw [sizeLine_eq]; simp)
theorem ev_mkT6 (x0 x1 x2 x3 x4 x5 : D) : mkTu [x0, x1, x2, x3, x4, x5] = .ok (.tuple [x0, x1, x2, x3, x4, x5]) := mkT_of (by rw [sizeLine_eq]; simp)
theorem ev_mkL7 (x0 x1 x2 x3 x4 x5 x6 : D) : mkL [x0, x1, x2, x3, x4, x5, x6] = .ok (.list [x0, x1, x2, x3, x4, x5, x6]) := mkL_of (by rw [sizeLine_eq]; simp)
theorem ev_mkT7 (x0 x1 x2 x3 x4 x5 x6 : D) : mkTu [x0, x1, x2, x3, x4, x5, x6] = .ok (.tuple [x0, x1, x2, x3, x4, x5, x6]) := mkT_of (by rw [sizeLine_eq]; simp)
theorem ev_mkL8 (x0 x1 x2 x3 x4 x5 x6 x7 : D) : mkL [x0, x1, x2, x3, x4, x5, x6, x7] = .ok (.list [x0, x1, x2, x3, x4, x5, x6, x7]) := mkL_of (by rw [sizeLine_eq]; simp)
theorem ev_mkT8 (x0 x1 x2 x3 x4 x5 x6 x7 : D) : mkTu [x0, x1, x2, x3, x4, x5, x6, x7] = .ok (.tuple [x0, x1, x2, x3, x4, x5, x6, x7]) := mkT_of (by rw [sizeLine_eq]; simp)
theorem ev_mkL9 (x0 x1 x2 x3 x4 x5 x6 x7 x8 : D) : mkL [x0, x1, x2, x3, x4, x5, x6, x7, x8] = .ok (.list [x0, x1, x2, x3, x4, x5, x6, x7, x8]) := mkL_of (by rw [sizeLine_eq]; simp)
theorem ev_mkT9 (x0 x1 x2 x3 x4 x5 x6 x7 x8 : D) : mkTu [x0, x1, x2, x3, x4, x5, x6, x7, x8] = .ok (.tuple [x0, x1, x2, x3, x4, x5, x6, x7, x8]) := mkT_of (by rw [sizeLine_eq]; simp)
theorem ev_mkL10 (x0 x1 x2 x3 x4 x5 x6 x7 x8 x9 : D) : mkL [x0, x1, x2, x3, x4, x5, x6, x7, x8, x9] = .ok (.list [x0, x1, x2, x3, x4, x5, x6, x7, x8, x9]) := mkL_of (by rw [sizeLine_eq]; simp)
theorem ev_mkT10 (x0 x1 x2 x3 x4 x5 x6 x7 x8 x9 : D) : mkTu [x0, x1, x2, x3, x4, x5, x6, x7, x8, x9] = .ok (.tuple [x0, x1, x2, x3, x4, x5, x6, x7, x8, x9]) := mkT_of (by rw [sizeLine_eq]; simp)
theorem ev_mkL11 (x0 x1 x2 x3 x4 x5 x6 x7 x8 x9 x10 : D) : mkL [x0, x1, x2, x3, x4, x5, x6, x7, x8, x9, x10] = .ok (.list [x0, x1, x2, x3, x4, x5, x6, x7, x8, x9, x10]) := mkL_of (by rw [sizeLine_eq]; simp)
theorem ev_mkT11 (x0 x1 x2 x3 x4 x5 x6 x7 x8 x9 x10 : D) : mkTu [x0, x1, x2, x3, x4, x5, x6, x7, x8, x9, x10] = .ok (.tuple [x0, x1, x2, x3, x4, x5, x6, x7, x8, x9, x10]) := mkT_of (by rw [sizeLine_eq]; simp)
theorem ev_mkL12 (x0 x1 x2 x3 x4 x5 x6 x7 x8 x9 x10 x11 : D) : mkL [x0, x1, x2, x3, x4, x5, x6, x7, x8, x9, x10, x11] = .ok (.list [x0, x1, x2, x3, x4, x5, x6, x7, x8, x9, x10, x11]) := mkL_of (by rw [sizeLine_eq]; simp)
theorem ev_mkL13 (x0 x1 x2 x3 x4 x5 x6 x7 x8 x9 x10 x11 x12 : D) : mkL [x0, x1, x2, x3, x4, x5, x6, x7, x8, x9, x10, x11, x12] = .ok (.list [x0, x1, x2, x3, x4, x5, x6, x7, x8, x9, x10, x11, x12]) := mkL_of (by rw [sizeLine_eq]; simp)
theorem ev_mkL14 (x0 x1 x2 x3 x4 x5 x6 x7 x8 x9 x10 x11 x12 x13 : D) : mkL [x0, x1, x2, x3, x4, x5, x6, x7, x8, x9, x10, x11, x12, x13] = .ok (.list [x0, x1, x2, x3, x4, x5, x6, x7, x8, x9, x10, x11, x12, x13]) := mkL_of (by rw [sizeLine_eq]; simp)
theorem ev_mkL15 (x0 x1 x2 x3 x4 x5 x6 x7 x8 x9 x10 x11 x12 x13 x14 : D) : mkL [x0, x1, x2, x3, x4, x5, x6, x7, x8, x9, x10, x11, x12, x13, x14] = .ok (.list [x0, x1, x2, x3, x4, x5, x6, x7, x8, x9, x10, x11, x12, x13, x14]) := mkL_of (by rw [sizeLine_eq]; simp)
theorem ev_mkL16 (x0 x1 x2 x3 x4 x5 x6 x7 x8 x9 x10 x11 x12 x13 x14 x15 : D) : mkL [x0, x1, x2, x3, x4, x5, x6, x7, x8, x9, x10, x11, x12, x13, x14, x15] = .ok (.list [x0, x1, x2, x3, x4, x5, x6, x7, x8, x9, x10, x11, x12, x13, x14, x15]) := mkL_of (by rw [sizeLine_eq]; simp)
theorem ev_mkL17 (x0 x1 x2 x3 x4 x5 x6 x7 x8 x9 x10 x11 x12 x13 x14 x15 x16 : D) : mkL [x0, x1, x2, x3, x4, x5, x6, x7, x8, x9, x10, x11, x12, x13, x14, x15, x16] = .ok (.list [x0, x1, x2, x3, x4, x5, x6, x7, x8, x9, x10, x11, x12, x13, x14, x15, x16]) := mkL_of (by rw [sizeLine_eq]; simp)
theorem ev_mkL18 (x0 x1 x2 x3 x4 x5 x6 x7 x8 x9 x10 x11 x12 x13 x14 x15 x16 x17 : D) : mkL [x0, x1, x2, x3, x4, x5, x6, x7, x8, x9, x10, x11, x12, x13, x14, x15, x16, x17] = .ok (.list [x0, x1, x2, x3, x4, x5, x6, x7, x8, x9, x10, x11, x12, x13, x14, x15, x16, x17]) := mkL_of (by rw [sizeLine_eq]; simp)
theorem ev_mkL19 (x0 x1 x2 x3 x4 x5 x6 x7 x8 x9 x10 x11 x12 x13 x14 x15 x16 x17 x18 : D) : mkL [x0, x1, x2, x3, x4, x5, x6, x7, x8, x9, x10, x11, x12, x13, x14, x15, x16, x17, x18] = .ok (.list [x0, x1, x2, x3, x4, x5, x6, x7, x8, x9, x10, x11, x12, x13, x14, x15, x16, x17, x18]) := mkL_of (by rw [sizeLine_eq]; simp)
theorem ev_mkL20 (x0 x1 x2 x3 x4 x5 x6 x7 x8 x9 x10 x11 x12 x13 x14 x15 x16 x17 x18 x19 : D) : mkL [x0, x1, x2, x3, x4, x5, x6, x7, x8, x9, x10, x11, x12, x13, x14, x15, x16, x17, x18, x19] = .ok (.list [x0, x1, x2, x3, x4, x5, x6, x7, x8, x9, x10, x11, x12, x13, x14, x15, x16, x17, x18, x19]) := mkL_of (by rw [sizeLine_eq]; simp)
theorem ev_mkL21 (x0 x1 x2 x3 x4 x5 x6 x7 x8 x9 x10 x11 x12 x13 x14 x15 x16 x17 x18 x19 x20 : D) : mkL [x0, x1, x2, x3, x4, x5, x6, x7, x8, x9, x10, x11, x12, x13, x14, x15, x16, x17, x18, x19, x20] = .ok (.list [x0, x1, x2, x3, x4, x5, x6, x7, x8, x9, x10, x11, x12, x13, x14, x15, x16, x17, x18, x19, x20]) := mkL_of (by rw [sizeLine_eq]; simp)
theorem ev_mkL22 (x0 x1 x2 x3 x4 x5 x6 x7 x8 x9 x10 x11 x12 x13 x14 x15 x16 x17 x18 x19 x20 x21 : D) : mkL [x0, x1, x2, x3, x4, x5, x6, x7, x8, x9, x10, x11, x12, x13, x14, x15, x16, x17, x18, x19, x20, x21] = .ok (.list [x0, x1, x2, x3, x4, x5, x6, x7, x8, x9, x10, x11, x12, x13, x14, x15, x16, x17, x18, x19, x20, x21]) := mkL_of (by rw [sizeLine_eq]; simp)
theorem ev_mkL23 (x0 x1 x2 x3 x4 x5 x6 x7 x8 x9 x10 x11 x12 x13 x14 x15 x16 x17 x18 x19 x20 x21 x22 : D) : mkL [x0, x1, x2, x3, x4, x5, x6, x7, x8, x9, x10, x11, x12, x13, x14, x15, x16, x17, x18, x19, x20, x21, x22] = .ok (.list [x0, x1, x2, x3, x4, x5, x6, x7, x8, x9, x10, x11, x12, x13, x14, x15, x16, x17, x18, x19, x20, x21, x22]) := mkL_of (by rw [sizeLine_eq]; simp)
theorem ev_mkL24 (x0 x1 x2 x3 x4 x5 x6 x7 x8 x9 x10 x11 x12 x13 x14 x15 x16 x17 x18 x19 x20 x21 x22 x23 : D) : mkL [x0, x1, x2, x3, x4, x5, x6, x7, x8, x9, x10, x11, x12, x13, x14, x15, x16, x17, x18, x19, x20, x21, x22, x23] = .ok (.list [x0, x1, x2, x3, x4, x5, x6, x7, x8, x9, x10, x11, x12, x13, x14, x15, x16, x17, x18, x19, x20, x21, x22, x23]) := mkL_of (by rw [sizeLine_eq]; simp)
theorem ev_mkL25 (x0 x1 x2 x3 x4 x5 x6 x7 x8 x9 x10 x11 x12 x13 x14 x15 x16 x17 x18 x19 x20 x21 x22 x23 x24 : D) : mkL [x0, x1, x2, x3, x4, x5, x6, x7, x8, x9, x10, x11, x12, x13, x14, x15, x16, x17, x18, x19, x20, x21, x22, x23, x24] = .ok (.list [x0, x1, x2, x3, x4, x5, x6, x7, x8, x9, x10, x11, x12, x13, x14, x15, x16, x17, x18, x19, x20, x21, x22, x23, x24]) := mkL_of (by rw [sizeLine_eq]; simp)
theorem ev_mkL26 (x0 x1 x2 x3 x4 x5 x6 x7 x8 x9 x10 x11 x12 x13 x14 x15 x16 x17 x18 x19 x20 x21 x22 x23 x24 x25 : D) : mkL [x0, x1, x2, x3, x4, x5, x6, x7, x8, x9, x10, x11, x12, x13, x14, x15, x16, x17, x18, x19, x20, x21, x22, x23, x24, x25] = .ok (.list [x0, x1, x2, x3, x4, x5, x6, x7, x8, x9, x10, x11, x12, x13, x14, x15, x16, x17, x18, x19, x20, x21, x22, x23, x24, x25]) := mkL_of (by rw [sizeLine_eq]; simp)
theorem ev_mkL27 (x0 x1 x2 x3 x4 x5 x6 x7 x8 x9 x10 x11 x12 x13 x14 x15 x16 x17 x18 x19 x20 x21 x22 x23 x24 x25 x26 : D) : mkL [x0, x1, x2, x3, x4, x5, x6, x7, x8, x9, x10, x11, x12, x13, x14, x15, x16, x17, x18, x19, x20, x21, x22, x23, x24, x25, x26] = .ok (.list [x0, x1, x2, x3, x4, x5, x6, x7, x8, x9, x10, x11, x12, x13, x14, x15, x16, x17, x18, x19, x20, x21, x22, x23, x24, x25, x26]) := mkL_of (by rw [sizeLine_eq]; simp)
theorem ev_mkL28 (x0 x1 x2 x3 x4 x5 x6 x7 x8 x9 x10 x11 x12 x13 x14 x15 x16 x17 x18 x19 x20 x21 x22 x23 x24 x25 x26 x27 : D) : mkL [x0, x1, x2, x3, x4, x5, x6, x7, x8, x9, x10, x11, x12, x13, x14, x15, x16, x17, x18, x19, x20, x21, x22, x23, x24, x25, x26, x27] = .ok (.list [x0, x1, x2, x3, x4, x5, x6, x7, x8, x9, x10, x11, x12, x13, x14, x15, x16, x17, x18, x19, x20, x21, x22, x23, x24, x25, x26, x27]) := mkL_of (by rw [sizeLine_eq]; simp)
theorem ev_mkL29 (x0 x1 x2 x3 x4 x5 x6 x7 x8 x9 x10 x11 x12 x13 x14 x15 x16 x17 x18 x19 x20 x21 x22 x23 x24 x25 x26 x27 x28 : D) : mkL [x0, x1, x2, x3, x4, x5, x6, x7, x8, x9, x10, x11, x12, x13, x14, x15, x16, x17, x18, x19, x20, x21, x22, x23, x24, x25, x26, x27, x28] = .ok (.list [x0, x1, x2, x3, x4, x5, x6, x7, x8, x9, x10, x11, x12, x13, x14, x15, x16, x17, x18, x19, x20, x21, x22, x23, x24, x25, x26, x27, x28]) := mkL_of (by rw [sizeLine_eq]; simp)
theorem ev_mkL30 (x0 x1 x2 x3 x4 x5 x6 x7 x8 x9 x10 x11 x12 x13 x14 x15 x16 x17 x18 x19 x20 x21 x22 x23 x24 x25 x26 x27 x28 x29 : D) : mkL [x0, x1, x2, x3, x4, x5, x6, x7, x8, x9, x10, x11, x12, x13, x14, x15, x16, x17, x18, x19, x20, x21, x22, x23, x24, x25, x26, x27, x28, x29] = .ok (.list [x0, x1, x2, x3, x4, x5, x6, x7, x8, x9, x10, x11, x12, x13, x14, x15, x16, x17, x18, x19, x20, x21, x22, x23, x24, x25, x26, x27, x28, x29]) := mkL_of (by rw [sizeLine_eq]; simp)
theorem ev_eLst {fs : Rho → R (List D)} {ρ : Rho} {ds : List D} (e : fs ρ = .ok ds) (h : ds.length ≤ sizeLine) : eLst fs ρ = .ok (.list ds) := by unfold eLst; rw [e, R.bind_ok, if_pos h]
theorem ev_eTup {fs : Rho → R (List D)} {ρ : Rho} {ds : List D} (e : fs ρ = .ok ds) (h : ds.length ≤ sizeLine) : eTup fs ρ = .ok (.tuple ds) := by unfold eTup; rw [e, R.bind_ok, if_pos h]
def behF (is : List Nat) : Fl → Fl
  | .nx ρ' => .nx (fgt is ρ')
  | .ct ρ' => .ct (fgt is ρ')
  | .bk ρ' => .bk (fgt is ρ')
  | .rt d => .rt d
  | .exc c ρ' => .exc c ρ'
  | .no => .no
theorem ev_beh (is : List Nat) (g : Rho → Fl) (ρ : Rho) : sBeh is g ρ = behF is (g ρ) := by unfold sBeh; cases g ρ <;> rfl
theorem ev_behnx (is : List Nat) (ρ : Rho) : behF is (.nx ρ) = .nx (fgt is ρ) := (rfl)
theorem ev_behct (is : List Nat) (ρ : Rho) : behF is (.ct ρ) = .ct (fgt is ρ) := (rfl)
theorem ev_behbk (is : List Nat) (ρ : Rho) : behF is (.bk ρ) = .bk (fgt is ρ) := (rfl)
theorem ev_behrt (is : List Nat) (d : D) : behF is (.rt d) = .rt d := (rfl)
theorem ev_behex (is : List Nat) (c : Str) (ρ : Rho) : behF is (.exc c ρ) = .exc c ρ := (rfl)
theorem ev_fgt0 (ρ : Rho) : fgt [] ρ = ρ := (rfl)
theorem ev_fgtS (i : Nat) (r : List Nat) (ρ : Rho) : fgt (i :: r) ρ = fgt r (ρ.set i .no) := (rfl)
def appM (o : Option Sl) (i : Nat) (r : R D) (ρ : Rho) : Fl := match o with
  | some (.ml ds) => r.thn ρ fun d => if ds.length < sizeLine then .nx (ρ.set i (.ml (ds ++ [d]))) else .no
  | _ => .no
theorem ev_app (i : Nat) (f : Rho → R D) (ρ : Rho) : sApp i f ρ = appM ρ[i]? i (f ρ) ρ := (rfl)
theorem ev_appM (ds : List D) (i : Nat) (d : D) (ρ : Rho) : appM (some (.ml ds)) i (.ok d) ρ = if ds.length < sizeLine then .nx (ρ.set i (.ml (ds ++ [d]))) else .no := (rfl)
theorem ev_appX (ds : List D) (i : Nat) (c : Str) (ρ : Rho) : appM (some (.ml ds)) i (.exc c) ρ = .exc c ρ := (rfl)
def extM (o : Option Sl) (i : Nat) (r : R D) (ρ : Rho) : Fl := match o with
  | some (.ml ds) => r.thn ρ fun d => match d with
    | .list es => if ds.length + es.length ≤ sizeLine then .nx (ρ.set i (.ml (ds ++ es))) else .no
    | _ => .no
  | _ => .no
theorem ev_ext (i : Nat) (f : Rho → R D) (ρ : Rho) : sExt i f ρ = extM ρ[i]? i (f ρ) ρ := (rfl)
theorem ev_extM (ds es : List D) (i : Nat) (ρ : Rho) : extM (some (.ml ds)) i (.ok (.list es)) ρ = if ds.length + es.length ≤ sizeLine then .nx (ρ.set i (.ml (ds ++ es))) else .no := (rfl)
theorem ev_extX (ds : List D) (i : Nat) (c : Str) (ρ : Rho) : extM (some (.ml ds)) i (.exc c) ρ = .exc c ρ := (rfl)
theorem ev_at0 (s : Sl) (r : Rho) : (s :: r : Rho)[0]? = some s := (rfl)
theorem ev_atS (s : Sl) (r : Rho) (i : Nat) : (s :: r : Rho)[i + 1]? = r[i]? := (rfl)
def loopF (f : Fl) (k : Rho → Fl) : Fl := match f with
    | .nx ρ' => k ρ'
    | .ct ρ' => k ρ'
    | .bk ρ' => .nx ρ'
    | .rt v => .rt v
    | .exc c ρ' => .exc c ρ'
    | .no => .no
theorem ev_loop0 (b : D → Rho → Fl) (ρ : Rho) : loopD b [] ρ = .nx ρ := (rfl)
theorem ev_loopS (b : D → Rho → Fl) (d : D) (r : List D) (ρ : Rho) : loopD b (d :: r) ρ = loopF (b d ρ) (loopD b r) := by
  rw [loopD]; cases b d ρ <;> rfl
theorem ev_lfnx (ρ : Rho) (k : Rho → Fl) : loopF (.nx ρ) k = k ρ := (rfl)
theorem ev_lfct (ρ : Rho) (k : Rho → Fl) : loopF (.ct ρ) k = k ρ := (rfl)
theorem ev_lfbk (ρ : Rho) (k : Rho → Fl) : loopF (.bk ρ) k = .nx ρ := (rfl)
theorem ev_lfrt (d : D) (k : Rho → Fl) : loopF (.rt d) k = .rt d := (rfl)
theorem ev_lfex (c : Str) (ρ : Rho) (k : Rho → Fl) : loopF (.exc c ρ) k = .exc c ρ := (rfl)
def frzM (o : Option Sl) (i : Nat) (ρ : Rho) : Rho := match o with
  | some (.ml ds) => ρ.set i (.dat (.list ds))
  | _ => ρ
theorem ev_frz (i : Nat) (ρ : Rho) : frz1 i ρ = frzM ρ[i]? i ρ := (rfl)
theorem ev_frzM (ds : List D) (i : Nat) (ρ : Rho) : frzM (some (.ml ds)) i ρ = ρ.set i (.dat (.list ds)) := (rfl)
theorem ev_frzD (d : D) (i : Nat) (ρ : Rho) : frzM (some (.dat d)) i ρ = ρ := (rfl)
theorem ev_frzN (i : Nat) (ρ : Rho) : frzM (some .no) i ρ = ρ := (rfl)
def toldM (ws : List Str) : R D → R D
  | .ok d => .ok d
  | .exc c => if c ∈ ws then .ok (.str c) else .no
  | .no => .no
theorem ev_told (ws : List Str) (f : Rho → R D) (ρ : Rho) : eTold ws f ρ = toldM ws (f ρ) := by unfold eTold; cases f ρ <;> rfl
theorem ev_toldO (ws : List Str) (d : D) : toldM ws (.ok d) = .ok d := (rfl)
theorem told_exc {c : Str} (h : c ∈ words) : toldM words (.exc c) = .ok (.str c) := if_pos h
theorem ev_toldBadBook : toldM words (.exc "BadBook") = .ok (.str "BadBook") := told_exc (by decide +kernel)
theorem ev_toldBadIndex : toldM words (.exc "BadIndex") = .ok (.str "BadIndex") := told_exc (by decide +kernel)
theorem ev_toldBadKind : toldM words (.exc "BadKind") = .ok (.str "BadKind") := told_exc (by decide +kernel)
theorem ev_toldBadMoves : toldM words (.exc "BadMoves") = .ok (.str "BadMoves") := told_exc (by decide +kernel)
theorem ev_toldBadText : toldM words (.exc "BadText") = .ok (.str "BadText") := told_exc (by decide +kernel)
theorem ev_toldBadWay : toldM words (.exc "BadWay") = .ok (.str "BadWay") := told_exc (by decide +kernel)
theorem ev_toldDoubtful : toldM words (.exc "Doubtful") = .ok (.str "Doubtful") := told_exc (by decide +kernel)
theorem ev_toldNoLand : toldM words (.exc "NoLand") = .ok (.str "NoLand") := told_exc (by decide +kernel)
theorem ev_toldNoNumber : toldM words (.exc "NoNumber") = .ok (.str "NoNumber") := told_exc (by decide +kernel)
theorem ev_toldNothing : toldM words (.exc "Nothing") = .ok (.str "Nothing") := told_exc (by decide +kernel)
def mkxM (n : Nat) (F : List D → R D) (ds : List D) : R D := if ds.length = n then (match F ds with
  | .exc c => .exc c
  | _ => .no) else .no
theorem ev_mkX (n : Nat) (F : List D → R D) (fs : Rho → R (List D)) (ρ : Rho) : eMkX n F fs ρ = (fs ρ).bind (mkxM n F) := (rfl)
theorem mkX_of {n : Nat} {F : List D → R D} {ds : List D} {c : Str} (h : ds.length = n) (e : F ds = .exc c) : mkxM n F ds = .exc c := by unfold mkxM; rw [if_pos h, e]
theorem ev_gTp2 (k1 k2 : Tgt) (a b : D) (ρ : Rho) : gTp 2 (gsCons k1 (gsCons k2 gsNil)) (.tuple [a, b]) ρ = (k1 a ρ).bind fun r => k2 b r := by
  show (k1 a ρ).bind (fun r => (k2 b r).bind fun r => .ok r) = _
  cases k1 a ρ with
  | ok r => show (k2 b r).bind (fun r => .ok r) = k2 b r; cases k2 b r <;> rfl
  | _ => rfl
theorem ev_gTp3 (k1 k2 k3 : Tgt) (a b c : D) (ρ : Rho) : gTp 3 (gsCons k1 (gsCons k2 (gsCons k3 gsNil))) (.tuple [a, b, c]) ρ = (k1 a ρ).bind fun r => (k2 b r).bind fun r => k3 c r := by
  show (k1 a ρ).bind (fun r => (k2 b r).bind fun r => (k3 c r).bind fun r => .ok r) = _
  cases k1 a ρ with
  | ok r =>
    show (k2 b r).bind (fun r => (k3 c r).bind fun r => .ok r) = (k2 b r).bind fun r => k3 c r
    cases k2 b r with
    | ok r => show (k3 c r).bind (fun r => .ok r) = k3 c r; cases k3 c r <;> rfl
    | _ => rfl
  | _ => rfl
theorem ev_enu (ds : List D) : enu [.list ds] = .ok (enumL ds) := (rfl)
theorem ev_whl (m : Rho → Nat) (t : Rho → R Bool) (g : Rho → Fl) (ρ : Rho) : sWhile m t g ρ = whileD t g (m ρ) ρ := (rfl)
def asgM (r : R D) (k : Tgt) (ρ : Rho) : Fl := r.thn ρ fun d => (k d ρ).go .nx
theorem ev_asg (k : Tgt) (f : Rho → R D) (ρ : Rho) : sAsg k f ρ = (f ρ).thn ρ fun d => (k d ρ).go .nx := (rfl)
theorem ev_sizeLine : sizeLine = 16777216 := sizeLine_eq
theorem ev_max2 (a b : Int) : mMax2 [.int a, .int b] = okI (if b > a then b else a) := (rfl)
theorem ev_min2 (a b : Int) : mMin2 [.int a, .int b] = okI (if b < a then b else a) := (rfl)
theorem ev_lenScript (ns : List Int) : mLen [scriptD ns] = okI ns.length := by
  show okI ((ns.map PyData.int).length : Int) = _
  rw [List.length_map]
theorem ev_isI (d : D) : isiD "int" d = okB d.isInt := (rfl)
theorem ev_isB (d : D) : isiD "bool" d = okB d.isBool := (rfl)
theorem ev_isS (d : D) : isiD "str" d = okB d.isStr := (rfl)
theorem ev_isT (d : D) : isiD "tuple" d = okB d.isTuple := (rfl)
theorem ev_isL (d : D) : isiD "list" d = okB d.isList := (rfl)
/-! ### running on -/
def Go (f : Fl) (J : Rho → Prop) : Prop := ∃ ρ', f = .nx ρ' ∧ J ρ'
theorem go_nx {ρ : Rho} {J : Rho → Prop} (h : J ρ) : Go (.nx ρ) J := ⟨ρ, rfl, h⟩
theorem go_seq {g h : Rho → Fl} {ρ : Rho} {I J : Rho → Prop} (a : Go (g ρ) I) (b : ∀ ρ', I ρ' → Go (h ρ') J) : Go (sSeq g h ρ) J := by
  obtain ⟨ρ', e, hi⟩ := a
  rw [sSeq_nx e]
  exact b ρ' hi
theorem go_set {i : Nat} {f : Rho → R D} {h : Rho → Fl} {ρ : Rho} {d : D} {J : Rho → Prop} (e : f ρ = .ok d) (b : Go (h (ρ.set i (.dat d))) J) : Go (sSeq (sSet i f) h ρ) J := by
  rw [sSeq_nx (sSet_ok e)]
  exact b
theorem go_skip {t : Rho → R Bool} {g h : Rho → Fl} {ρ : Rho} {J : Rho → Prop} (e : t ρ = .ok false) (b : Go (h ρ) J) : Go (sSeq (sIf t g sNil) h ρ) J := by
  rw [sSeq_nx (ρ' := ρ) (by rw [sIf_f e]; rfl)]
  exact b
theorem go_skip1 {t : Rho → R Bool} {g : Rho → Fl} {ρ : Rho} {J : Rho → Prop} (e : t ρ = .ok false) (b : J ρ) : Go (sIf t g sNil ρ) J := by
  rw [sIf_f e]
  exact ⟨ρ, rfl, b⟩
theorem go_loop {b : D → Rho → Fl} {J : Rho → Prop} : ∀ {ds : List D} {ρ : Rho}, J ρ → (∀ d ∈ ds, ∀ ρ, J ρ → Go (b d ρ) J) → Go (loopD b ds ρ) J
  | [], ρ, h, _ => ⟨ρ, rfl, h⟩
  | d :: r, ρ, h, hb => by
    obtain ⟨ρ', e, hi⟩ := hb d List.mem_cons_self ρ h
    rw [ev_loopS, e, ev_lfnx]
    exact go_loop hi fun x hx => hb x (List.mem_cons_of_mem _ hx)
theorem go_beh {is : List Nat} {g : Rho → Fl} {ρ : Rho} {J : Rho → Prop} (h : Go (g ρ) fun ρ' => J (fgt is ρ')) : Go (sBeh is g ρ) J := by
  obtain ⟨ρ', e, hi⟩ := h
  exact ⟨_, ev_beh_nx e, hi⟩
theorem go_for {is : List Nat} {fi : Rho → R (List D)} {K : Tgt} {g : Rho → Fl} {ρ : Rho} {ds : List D} {J I : Rho → Prop} (e : fi (fgt is ρ) = .ok ds) (h0 : I (fgt is ρ)) (hb : ∀ d ∈ ds, ∀ ρ, I ρ → Go ((K d ρ).go g) I) (hj : ∀ ρ', I ρ' → J (fgt is ρ')) : Go (sBeh is (sFgt is (sFor fi K g)) ρ) J := by
  refine go_beh ?_
  rw [ev_sFgt, ev_for, e]
  obtain ⟨ρ', e', hi⟩ := go_loop (b := bodyF K g) h0 hb
  exact ⟨ρ', e', hj ρ' hi⟩
theorem go_fin {f : Fl} {h : Rho → Fl} {J : Rho → Prop} {r : R D} (a : Go f J) (b : ∀ ρ, J ρ → fin (h ρ) = r) : fin (f.thn h) = r := by
  obtain ⟨ρ', rfl, hi⟩ := a
  exact b ρ' hi
theorem loop_fold {α β : Type} {body : D → Rho → Fl} {g : α → D} {st : β → Rho} {f : β → α → β} : ∀ {as : List α} {b : β} {ρ : Rho}, ρ = st b → (∀ b, ∀ a ∈ as, body (g a) (st b) = .nx (st (f b a))) → loopD body (as.map g) ρ = .nx (st (as.foldl f b))
  | [], b, ρ, e, _ => by rw [e]; rfl
  | a :: as, b, ρ, e, h => by
    rw [List.map_cons, ev_loopS, e, h b a List.mem_cons_self, ev_lfnx]
    exact loop_fold rfl fun b x hx => h b x (List.mem_cons_of_mem _ hx)
/-- a loop over data that changes a state by steps that may need what holds so far -/
theorem loop_inv {α β : Type} {body : D → Rho → Fl} {g : α → D} {st : β → Rho} {f : β → α → β} (I : β → Prop) : ∀ {as : List α} {b : β} {ρ : Rho}, ρ = st b → I b → (∀ b, ∀ a ∈ as, I b → body (g a) (st b) = .nx (st (f b a)) ∧ I (f b a)) → loopD body (as.map g) ρ = .nx (st (as.foldl f b)) ∧ I (as.foldl f b)
  | [], b, ρ, e, hi, _ => by rw [e]; exact ⟨rfl, hi⟩
  | a :: as, b, ρ, e, hi, h => by
    obtain ⟨h1, h2⟩ := h b a List.mem_cons_self hi
    rw [List.map_cons, ev_loopS, e, h1, ev_lfnx]
    exact loop_inv I rfl h2 fun b x hx => h b x (List.mem_cons_of_mem _ hx)
theorem loop_foldJ {α β : Type} {body : D → Rho → Fl} {g : α → D} {st : β → Rho} {f : β → α → β} (J : β → Nat → Prop) : ∀ {as : List α} {b : β} {ρ : Rho}, ρ = st b → J b as.length → (∀ b n, ∀ a ∈ as, J b (n + 1) → body (g a) (st b) = .nx (st (f b a)) ∧ J (f b a) n) → loopD body (as.map g) ρ = .nx (st (as.foldl f b)) ∧ J (as.foldl f b) 0
  | [], b, ρ, e, hi, _ => by rw [e]; exact ⟨rfl, hi⟩
  | a :: as, b, ρ, e, hi, h => by
    obtain ⟨h1, h2⟩ := h b _ a List.mem_cons_self hi
    rw [List.map_cons, ev_loopS, e, h1, ev_lfnx]
    exact loop_foldJ J rfl h2 fun b n x hx => h b n x (List.mem_cons_of_mem _ hx)
theorem foldl_filter {α : Type} (p : α → Bool) : ∀ (as bs : List α), as.foldl (fun b a => if p a then b ++ [a] else b) bs = bs ++ as.filter p
  | [], bs => by rw [List.filter_nil, List.append_nil]; rfl
  | a :: as, bs => by
    rw [List.foldl_cons, foldl_filter p as]
    cases h : p a with
    | true => rw [if_pos rfl, List.filter_cons_of_pos h, List.append_assoc]; rfl
    | false => rw [if_neg Bool.false_ne_true, List.filter_cons_of_neg (by rw [h]; exact Bool.false_ne_true)]
theorem loop_ex {α β : Type} {body : D → Rho → Fl} {g : α → D} {st : β → Rho} (J : β → Nat → Prop) : ∀ {as : List α} {b : β} {ρ : Rho}, ρ = st b → J b as.length → (∀ a ∈ as, ∀ b n, J b (n + 1) → ∃ b', body (g a) (st b) = .nx (st b') ∧ J b' n) → ∃ b', loopD body (as.map g) ρ = .nx (st b') ∧ J b' 0
  | [], b, ρ, e, hi, _ => by rw [e]; exact ⟨b, rfl, hi⟩
  | a :: as, b, ρ, e, hi, h => by
    obtain ⟨b1, h1, h2⟩ := h a List.mem_cons_self b _ hi
    rw [List.map_cons, ev_loopS, e, h1, ev_lfnx]
    exact loop_ex J rfl h2 fun x hx => h x (List.mem_cons_of_mem _ hx)
/-- a loop of which something is to be found out, with what comes behind it -/
theorem seq_loop {α β : Type} {is : List Nat} {fi : Rho → R (List D)} {K : Tgt} {g rest : Rho → Fl} {ρ : Rho} (P : Fl → Prop) (as : List α) (gg : α → D) (st : β → Rho) (J : β → Nat → Prop) (b : β) (e : fi (fgt is ρ) = .ok (as.map gg)) (h0 : fgt is ρ = st b) (hJ : J b as.length)
    (step : ∀ a ∈ as, ∀ b n, J b (n + 1) → ∃ b', (K (gg a) (st b)).go g = .nx (st b') ∧ J b' n) (cont : ∀ b', J b' 0 → P (rest (fgt is (st b')))) : P (sSeq (sBeh is (sFgt is (sFor fi K g))) rest ρ) := by
  obtain ⟨b', e1, hj⟩ := loop_ex (body := bodyF K g) (g := gg) (st := st) J h0 hJ step
  have : sBeh is (sFgt is (sFor fi K g)) ρ = .nx (fgt is (st b')) := ev_beh_nx (by rw [ev_sFgt, ev_for, e]; exact e1)
  rw [sSeq_nx this]
  exact cont b' hj
/-- the comprehensions, to be rewritten with -/
theorem lc_map {α : Type} {vs : List Nat} {fi : Rho → R (List D)} {k : Tgt} {fe : Rho → R D} {ρ : Rho} (as : List α) (g F : α → D) (h1 : fi ρ = .ok (as.map g)) (h2 : ∀ a ∈ as, ∃ ρ', k (g a) (fgt vs ρ) = .ok ρ' ∧ fe ρ' = .ok (F a)) : eLc vs fi k tTrue fe ρ = .ok (.list (as.map F)) := by
  unfold eLc
  rw [h1, R.bind_ok]
  have : lcGo k tTrue fe (fgt vs ρ) (as.map g) = .ok (as.map F) := by
    clear h1
    induction as with
    | nil => rfl
    | cons a r ih =>
      obtain ⟨ρ', e1, e2⟩ := h2 a List.mem_cons_self
      have ih := ih fun x hx => h2 x (List.mem_cons_of_mem _ hx)
      rw [List.map_cons, lcGo, e1]
      show (match tTrue ρ' with
        | .ok true => (match fe ρ' with
          | .ok y => (lcGo k tTrue fe (fgt vs ρ) (r.map g)).bind fun ys => .ok (y :: ys)
          | _ => .no)
        | .ok false => lcGo k tTrue fe (fgt vs ρ) (r.map g)
        | _ => .no) = _
      show (match fe ρ' with
          | .ok y => (lcGo k tTrue fe (fgt vs ρ) (r.map g)).bind fun ys => .ok (y :: ys)
          | _ => .no) = _
      rw [e2]
      show (lcGo k tTrue fe (fgt vs ρ) (r.map g)).bind (fun ys => .ok (F a :: ys)) = _
      rw [ih]
      rfl
  rw [this]
  rfl
theorem lc_filter {α : Type} {vs : List Nat} {fi : Rho → R (List D)} {k : Tgt} {t : Rho → R Bool} {fe : Rho → R D} {ρ : Rho} (as : List α) (g F : α → D) (P : α → Bool) (h1 : fi ρ = .ok (as.map g)) (h2 : ∀ a ∈ as, ∃ ρ', k (g a) (fgt vs ρ) = .ok ρ' ∧ t ρ' = .ok (P a) ∧ (P a = true → fe ρ' = .ok (F a))) : eLc vs fi k t fe ρ = .ok (.list ((as.filter P).map F)) := by
  unfold eLc
  rw [h1, R.bind_ok]
  have : lcGo k t fe (fgt vs ρ) (as.map g) = .ok ((as.filter P).map F) := by
    clear h1
    induction as with
    | nil => rfl
    | cons a r ih =>
      obtain ⟨ρ', e1, e2, e3⟩ := h2 a List.mem_cons_self
      have ih := ih fun x hx => h2 x (List.mem_cons_of_mem _ hx)
      rw [List.map_cons, lcGo, e1]
      show (match t ρ' with
        | .ok true => (match fe ρ' with
          | .ok y => (lcGo k t fe (fgt vs ρ) (r.map g)).bind fun ys => .ok (y :: ys)
          | _ => .no)
        | .ok false => lcGo k t fe (fgt vs ρ) (r.map g)
        | _ => .no) = _
      rw [e2]
      cases hp : P a with
      | true =>
        show (match fe ρ' with
          | .ok y => (lcGo k t fe (fgt vs ρ) (r.map g)).bind fun ys => .ok (y :: ys)
          | _ => .no) = _
        rw [e3 hp]
        show (lcGo k t fe (fgt vs ρ) (r.map g)).bind (fun ys => .ok (F a :: ys)) = _
        rw [ih, List.filter_cons_of_pos hp]
        rfl
      | false =>
        show lcGo k t fe (fgt vs ρ) (r.map g) = _
        rw [ih, List.filter_cons_of_neg (by rw [hp]; exact Bool.false_ne_true)]
  rw [this]
  rfl
theorem bools_map {α : Type} (P : α → Bool) : ∀ as : List α, asBs (as.map fun a => .bool (P a)) = some (as.map P)
  | [] => rfl
  | a :: r => by
    show (asBs (r.map fun a => .bool (P a))).map (P a :: ·) = _
    rw [bools_map P r]; rfl
theorem all_bools {α : Type} (P : α → Bool) (as : List α) : mAll [.list (as.map fun a => .bool (P a))] = okB (as.all P) := by
  show (match asBs (as.map fun a => .bool (P a)) with
    | some bs => okB (bs.all id)
    | none => .no) = _
  rw [bools_map]
  show okB ((as.map P).all id) = _
  rw [List.all_map]
  rfl
theorem any_bools {α : Type} (P : α → Bool) (as : List α) : mAny [.list (as.map fun a => .bool (P a))] = okB (as.any P) := by
  show (match asBs (as.map fun a => .bool (P a)) with
    | some bs => okB (bs.any id)
    | none => .no) = _
  rw [bools_map]
  show okB ((as.map P).any id) = _
  rw [List.any_map]
  rfl
end DL
open DL
local macro_rules
  | `(tactic| simp_arith [$ts,*]) => `(tactic| simp only [ev_bind_ok, ev_bind_exc, ev_thn_ok, ev_thn_exc, ev_fl_nx, ev_fl_rt, ev_fl_ct, ev_fl_bk, ev_fl_exc, ev_eBin, ev_eUn, ev_eC, ev_var0, ev_varS, ev_tVal, ev_asB, ev_tNt, ev_tAn, ev_tOrr, ev_eAnd, ev_eOr, ev_eNot, ev_eIf, ev_aNil, ev_aCons, ev_callB, ev_call, ev_ar1, ev_ar2, ev_ar3, ev_ar4, ev_mt, ev_seq, ev_nil, ev_exp, ev_ret, ev_retN, ev_brk, ev_cnt, ev_set, ev_if, ev_raise, ev_sFgt, ev_sFrz, ev_newM, ev_for, ev_loopB, ev_body, ev_iRg, ev_iOf, ev_itT, ev_itL, ev_itS, ev_sl, ev_oNone, ev_oSome, ev_asI, ev_slT, ev_slL, ev_slS, ev_go_ok, ev_gNm, ev_tTrue, ev_set0, ev_setS, ev_fin_rt, ev_fin_nx, ev_fin_exc, ev_addI, ev_subI, ev_gtI, ev_ltI, ev_geI, ev_leI, ev_lenL, ev_lenT, ev_lenS, ev_tupL, ev_tupT, ev_lstL, ev_lstT, ev_revT, ev_revL, ev_negI, Bool.false_eq_true, if_true, if_false, reduceIte, ev_max2, ev_min2, ev_lenScript, ev_isI, ev_isB, ev_isS, ev_isT, ev_isL, ev_beh, ev_behnx, ev_behct, ev_behbk, ev_behrt, ev_behex, ev_fgt0, ev_fgtS, ev_app, ev_appM, ev_appX, ev_ext, ev_extM, ev_extX, ev_at0, ev_atS, ev_loop0, ev_loopS, ev_lfnx, ev_lfct, ev_lfbk, ev_lfrt, ev_lfex, ev_frz, ev_frzM, ev_frzD, ev_frzN, ev_told, ev_toldO, ev_toldBadBook, ev_toldBadIndex, ev_toldBadKind, ev_toldBadMoves, ev_toldBadText, ev_toldBadWay, ev_toldDoubtful, ev_toldNoLand, ev_toldNoNumber, ev_toldNothing, ev_mkX, ev_gTp2, ev_gTp3, ev_enu, ev_whl, ev_asg, ev_mkL0, ev_mkT0, ev_mkL1, ev_mkT1, ev_mkL2, ev_mkT2, ev_mkL3, ev_mkT3, ev_mkL4, ev_mkT4, ev_mkL5, ev_mkT5, ev_mkL6, ev_mkT6, ev_mkL7, ev_mkT7, ev_mkL8, ev_mkT8, ev_mkL9, ev_mkT9, ev_mkL10, ev_mkT10, ev_mkL11, ev_mkT11, ev_mkL12, ev_mkL13, ev_mkL14, ev_mkL15, ev_mkL16, ev_mkL17, ev_mkL18, ev_mkL19, ev_mkL20, ev_mkL21, ev_mkL22, ev_mkL23, ev_mkL24, ev_mkL25, ev_mkL26, ev_mkL27, ev_mkL28, ev_mkL29, ev_mkL30, ev_lst, ev_tup, ev_modI, ev_fdivI, ev_ix0L, ev_ix0T, ev_ix1T, ev_ix2T, ev_ix3T, Int.reduceLT, Int.reduceLE, Int.reduceNeg, decide_true, decide_false, Bool.and_self, Bool.and_true, Bool.true_and, Bool.and_false, Bool.false_and, Bool.not_true, Bool.not_false, $ts,*])
local macro_rules
  | `(tactic| simp_all_arith [$ts,*]) => `(tactic| simp_arith [List.length_cons, List.length_nil, Nat.zero_add, Nat.reduceAdd, ev_sizeLine, Nat.reduceLeDiff, Nat.reduceLT, List.cons_append, List.nil_append, $ts,*])
set_option Elab.async false
set_option linter.all false
set_option maxRecDepth 100000
set_option maxHeartbeats 2000000
namespace MC
open PySem L2 DL
def codesAll : List Str := ["1", "20", "21", "3", "44", "455", "77"]
theorem codesAll_good : codesAll.Pairwise goodP := chain_pair (by decide +kernel)
theorem codesAll_fig : ∀ c ∈ codesAll, isFig (.str c) 1 3 = true ∧ zeroAt (.str c) = false := by decide +kernel
def sndD (d : D) : D := match d with
  | .tuple [_, c] => c
  | _ => .none
theorem enum_snd (ds : List D) : (enumL ds).map sndD = ds := by
  unfold enumL
  rw [List.map_map]
  apply List.ext_getElem?
  intro i
  rw [List.getElem?_map]
  by_cases h : i < ds.length
  · rw [List.getElem?_range h, List.getElem?_eq_getElem h]
    show some (ds.getD i .none) = _
    rw [List.getD_eq_getElem?_getD, List.getElem?_eq_getElem h]
    rfl
  · rw [List.getElem?_eq_none (by rw [List.length_range]; omega), List.getElem?_eq_none (by omega)]
    rfl
theorem enum_at {ds : List D} {d : D} (h : d ∈ enumL ds) : ∃ (j : Nat) (e : D), d = .tuple [.int (j : Nat), e] ∧ ds[j]? = some e := by
  unfold enumL at h
  obtain ⟨j, hj, rfl⟩ := List.mem_map.mp h
  have hj := List.mem_range.mp hj
  refine ⟨j, ds.getD j .none, rfl, ?_⟩
  rw [List.getD_eq_getElem?_getD, List.getElem?_eq_getElem hj]
  rfl
def outD (r : R D) : D := match r with
  | .ok d => d
  | _ => .none
theorem ofSub {ds : List D} {ss : List Str} (h : ds.Sublist (ss.map .str)) : ∃ us : List Str, us.Sublist ss ∧ ds = us.map .str := by
  obtain ⟨us, h1, h2⟩ := List.sublist_map_iff.mp h
  exact ⟨us, h1, h2⟩
def bP (m : Int) (d : D) : Bool := match d with
  | .tuple [.int j, _] => decide (drawn m j % 3 = 0)
  | _ => false
def bF (m : Int) (d : D) : D := match d with
  | .tuple [.int j, c] => outD (m__law_land [.int (drawn m (20 + j)), c])
  | _ => .none
theorem p_book_some (m : Int) : ∃ ss : List Str, ss.Sublist codesAll ∧ ss ≠ [] ∧ ss.length ≤ 4 ∧ m__law_book [.int m] = .ok (.tuple ((enumL (ss.map .str)).map (bF m))) := by
  have hl : ∀ (us : List Str) (hne : us ≠ []), us.Sublist codesAll → us.length ≤ 4 → ∀ ρ4 ρ5 : Sl, fin (sRet (eCallB mTup (aCons (eLc [3, 4] (iRg enu (aCons (eVar 2) (aNil))) (gTp 2 (gsCons (gNm 3) (gsCons (gNm 4) (gsNil)))) (tTrue) (eCall (ar 2 m__law_land) (aCons (eCall (ar 2 m__law_drawn) (aCons (eVar 0) (aCons (eBin mAdd (eC (.int 20)) (eVar 3)) (aNil)))) (aCons (eVar 4) (aNil))))) (aNil))) [.dat (.int m), .dat (.list (codesAll.map .str)), .dat (.list (us.map .str)), ρ4, ρ5]) = .ok (.tuple ((enumL (us.map .str)).map (bF m))) := by
    intro us hne hs h4 ρ4 ρ5
    have e : eLc [3, 4] (iRg enu (aCons (eVar 2) (aNil))) (gTp 2 (gsCons (gNm 3) (gsCons (gNm 4) (gsNil)))) (tTrue) (eCall (ar 2 m__law_land) (aCons (eCall (ar 2 m__law_drawn) (aCons (eVar 0) (aCons (eBin mAdd (eC (.int 20)) (eVar 3)) (aNil)))) (aCons (eVar 4) (aNil)))) [.dat (.int m), .dat (.list (codesAll.map .str)), .dat (.list (us.map .str)), ρ4, ρ5] = .ok (.list ((enumL (us.map .str)).map (bF m))) := by
      refine map_lc (ds := enumL (us.map .str)) rfl fun d hd => ?_
      obtain ⟨j, e, rfl, he⟩ := enum_at hd
      rw [List.getElem?_map] at he
      obtain ⟨c, hc, rfl⟩ := Option.map_eq_some_iff.mp he
      refine ⟨_, rfl, ?_⟩
      have hcm : c ∈ codesAll := hs.subset (List.mem_of_getElem? hc)
      obtain ⟨b, t, rs, el, _⟩ := p_land (drawn m (20 + (j : Int))) c (codesAll_fig c hcm).1 (codesAll_fig c hcm).2
      show eCall (ar 2 m__law_land) (aCons (eCall (ar 2 m__law_drawn) (aCons (eVar 0) (aCons (eBin mAdd (eC (.int 20)) (eVar 3)) (aNil)))) (aCons (eVar 4) (aNil))) [.dat (.int m), .dat (.list (codesAll.map .str)), .dat (.list (us.map .str)), .dat (.int (j : Nat)), .dat (.str c)] = .ok (outD (m__law_land [.int (drawn m (20 + (j : Int))), .str c]))
      simp_arith [p_drawn]
      rw [el]
      rfl
    simp_arith [e]
  have e1 : eLc [3, 4] (iRg enu (aCons (eVar 1) (aNil))) (gTp 2 (gsCons (gNm 3) (gsCons (gNm 4) (gsNil)))) (tVal (eBin mEq (eBin mMod (eCall (ar 2 m__law_drawn) (aCons (eVar 0) (aCons (eVar 3) (aNil)))) (eC (.int 3))) (eC (.int 0)))) (eVar 4) [.dat (.int m), .dat (.list (codesAll.map .str)), .no, .no, .no] = .ok (.list (((enumL (codesAll.map .str)).filter (bP m)).map sndD)) := by
    refine filter_lc (ds := enumL (codesAll.map .str)) rfl fun d hd => ?_
    obtain ⟨j, e, rfl, he⟩ := enum_at hd
    refine ⟨_, rfl, ?_, fun _ => rfl⟩
    show tVal _ [.dat (.int m), .dat (.list (codesAll.map .str)), .no, .dat (.int (j : Nat)), .dat e] = .ok (decide (drawn m (j : Int) % 3 = 0))
    simp_arith [p_drawn, eq_int]
  have hsub : ((((enumL (codesAll.map .str)).filter (bP m)).map sndD).take 4).Sublist (codesAll.map .str) := by
    refine (List.take_sublist _ _).trans ?_
    have := List.Sublist.map sndD (List.filter_sublist (p := bP m) (l := enumL (codesAll.map .str)))
    rwa [enum_snd] at this
  obtain ⟨us, hu1, hu2⟩ := ofSub hsub
  have hul : us.length ≤ 4 := by
    have := congrArg List.length hu2
    rw [List.length_map, List.length_take] at this
    omega
  have e2 : fin (den__law_book (rho0 5 [.int m])) = fin ((sSeq (sSet 2 (eIf (tVal (eBin mNe (eVar 2) (eLst (aNil)))) (eVar 2) (eLst (aCons (eBin mIdx (eVar 1) (eBin mMod (eVar 0) (eC (.int 7)))) (aNil))))) (sRet (eCallB mTup (aCons (eLc [3, 4] (iRg enu (aCons (eVar 2) (aNil))) (gTp 2 (gsCons (gNm 3) (gsCons (gNm 4) (gsNil)))) (tTrue) (eCall (ar 2 m__law_land) (aCons (eCall (ar 2 m__law_drawn) (aCons (eVar 0) (aCons (eBin mAdd (eC (.int 20)) (eVar 3)) (aNil)))) (aCons (eVar 4) (aNil))))) (aNil))))) [.dat (.int m), .dat (.list (codesAll.map .str)), .dat (.list (us.map .str)), .no, .no]) := by
    unfold den__law_book
    refine (congrArg fin (sSeq_nx (ρ' := [.dat (.int m), .dat (.list (codesAll.map .str)), .no, .no, .no]) rfl)).trans ?_
    refine (congrArg fin (sSeq_nx (ρ' := [.dat (.int m), .dat (.list (codesAll.map .str)), .dat (.list (us.map .str)), .no, .no]) ?_)).trans rfl
    simp_arith [e1]
    have := cut_take (((enumL (codesAll.map .str)).filter (bP m)).map sndD) 4
    rw [show cutD (((enumL (codesAll.map .str)).filter (bP m)).map sndD) none (some (4 : Int)) = _ from this, hu2]
  have t : tVal (eBin mNe (eVar 2) (eLst (aNil))) [.dat (.int m), .dat (.list (codesAll.map .str)), .dat (.list (us.map .str)), .no, .no] = .ok (!us.isEmpty) := tVal_b (by
    rw [eBin_ok (x := .list (us.map .str)) (y := .list []) rfl rfl, ne_nilL, List.isEmpty_map])
  by_cases hne : us = []
  · subst hne
    have h7 := modN m (show (0 : Int) < 7 by decide)
    have : ∃ c : Str, c ∈ codesAll ∧ mIdx (.list (codesAll.map .str)) (.int (m % 7)) = okS c := by
      have : m % 7 = 0 ∨ m % 7 = 1 ∨ m % 7 = 2 ∨ m % 7 = 3 ∨ m % 7 = 4 ∨ m % 7 = 5 ∨ m % 7 = 6 := by omega
      rcases this with e | e | e | e | e | e | e <;> rw [e] <;> exact ⟨_, by decide +kernel, rfl⟩
    obtain ⟨c, hc, ec⟩ := this
    have hcs : [c].Sublist codesAll := List.singleton_sublist.mpr hc
    refine ⟨[c], hcs, by simp, by simp, ?_⟩
    have e3 : eLst (aCons (eBin mIdx (eVar 1) (eBin mMod (eVar 0) (eC (.int 7)))) (aNil)) [.dat (.int m), .dat (.list (codesAll.map .str)), .dat (.list []), .no, .no] = .ok (.list [.str c]) := by
      refine ev_eLst ?_ (by rw [sizeLine_eq]; simp)
      simp_arith [ec]
    show fin (den__law_book (rho0 5 [.int m])) = _
    rw [e2]
    refine Eq.trans ?_ (hl [c] (by simp) hcs (by simp) .no .no)
    refine congrArg fin ((sSeq_nx (ρ' := [.dat (.int m), .dat (.list (codesAll.map .str)), .dat (.list [.str c]), .no, .no]) ?_).trans rfl)
    refine sSet_ok ?_
    rw [ev_eIf, t]
    exact e3
  · refine ⟨us, hu1, hne, hul, ?_⟩
    show fin (den__law_book (rho0 5 [.int m])) = _
    rw [e2]
    refine Eq.trans ?_ (hl us hne hu1 hul .no .no)
    refine congrArg fin ((sSeq_nx (ρ' := [.dat (.int m), .dat (.list (codesAll.map .str)), .dat (.list (us.map .str)), .no, .no]) ?_).trans rfl)
    refine sSet_ok ?_
    have : us.isEmpty = false := by cases us with
      | nil => exact absurd rfl hne
      | cons _ _ => rfl
    rw [ev_eIf, t, this]
    rfl
theorem p_book (m : Int) : ∃ ls : List D, m__law_book [.int m] = .ok (.tuple ls) ∧ isBook (.tuple ls) = true ∧ sh (.tuple ls) = true ∧ ls.length ≤ 4 ∧ (ls.map codeS).Sublist codesAll := by
  obtain ⟨ss, h1, h2, h3, h4⟩ := p_book_some m
  refine ⟨_, h4, ?_, ?_, ?_, ?_⟩
  all_goals
    have each : ∀ d ∈ enumL (ss.map .str), isLand (bF m d) = true ∧ sh (bF m d) = true ∧ PyData.str (codeS (bF m d)) = sndD d := fun d hd => by
      obtain ⟨j, e, rfl, he⟩ := enum_at hd
      rw [List.getElem?_map] at he
      obtain ⟨c, hc, rfl⟩ := Option.map_eq_some_iff.mp he
      have hcm : c ∈ codesAll := h1.subset (List.mem_of_getElem? hc)
      obtain ⟨b, t, rs, el, l1, l2⟩ := p_land (drawn m (20 + (j : Int))) c (codesAll_fig c hcm).1 (codesAll_fig c hcm).2
      show isLand (outD (m__law_land [.int (drawn m (20 + (j : Int))), .str c])) = true ∧ sh (outD (m__law_land [.int (drawn m (20 + (j : Int))), .str c])) = true ∧ PyData.str (codeS (outD (m__law_land [.int (drawn m (20 + (j : Int))), .str c]))) = .str c
      rw [el]
      exact ⟨l1, l2, rfl⟩
    have hlen : ((enumL (ss.map .str)).map (bF m)).length = ss.length := by
      unfold enumL
      simp
    have hcod : ((enumL (ss.map .str)).map (bF m)).map codeS = ss := by
      have : (((enumL (ss.map .str)).map (bF m)).map codeS).map PyData.str = ss.map PyData.str := by
        rw [List.map_map, List.map_map]
        refine Eq.trans (List.map_congr_left fun d hd => (each d hd).2.2) (enum_snd _)
      exact (List.map_inj_right (fun a b h => by injection h)).mp this
  · show bookB _ = true
    have hall : ((enumL (ss.map .str)).map (bF m)).all isLand = true := by
      rw [List.all_map, List.all_eq_true]
      exact fun d hd => (each d hd).1
    unfold bookB
    rw [hall, hcod, hlen, pair_chain (codesAll_good.sublist h1), decide_eq_true (show 1 ≤ (ss.length : Int) by
      have := List.length_pos_iff.mpr h2
      omega), decide_eq_true (show (ss.length : Int) ≤ 6 by omega)]
    rfl
  · have hall : ∀ d ∈ (enumL (ss.map .str)).map (bF m), sh d = true := fun d hd => by
      obtain ⟨x, hx, rfl⟩ := List.mem_map.mp hd
      exact (each x hx).2.1
    simp only [sh, shs_all hall, hlen, Bool.and_true, decide_eq_true_eq]
    omega
  · rw [hlen]; exact h3
  · rw [hcod]; exact h1
end MC
set_option Elab.async false
set_option linter.all false
set_option maxRecDepth 100000
set_option maxHeartbeats 2000000
namespace MC
open PySem L2 DL
theorem fits_of {n : Nat} (h : n ≤ 100000) : fits n = true := decide_eq_true (by rw [sizeLine_eq]; omega)
theorem addT_ok {xs ys : List D} (h : xs.length + ys.length ≤ 100000) : mAdd (.tuple xs) (.tuple ys) = .ok (.tuple (xs ++ ys)) := if_pos (fits_of h)
theorem addL_ok {xs ys : List D} (h : xs.length + ys.length ≤ 100000) : mAdd (.list xs) (.list ys) = .ok (.list (xs ++ ys)) := if_pos (fits_of h)
theorem idx_list {xs : List D} (h : xs ≠ []) (k : Int) : ∃ d ∈ xs, mIdx (.list xs) (.int (k % (xs.length : Int))) = .ok d := by
  have hp := List.length_pos_iff.mpr h
  have hm := modN k (show (0 : Int) < xs.length by omega)
  obtain ⟨n, hn⟩ : ∃ n : Nat, (n : Int) = k % (xs.length : Int) := ⟨(k % (xs.length : Int)).toNat, by omega⟩
  have hlt : n < xs.length := by omega
  refine ⟨xs[n], List.getElem_mem hlt, ?_⟩
  rw [← hn]
  show (match atI xs (n : Int) with
    | some d => R.ok d
    | none => .no) = _
  have : atI xs (n : Int) = some xs[n] := by
    unfold atI ixN
    rw [if_pos (by omega), if_pos (by omega)]
    show xs[(n : Int).toNat]? = _
    rw [Int.toNat_natCast, List.getElem?_eq_getElem hlt]
  rw [this]
theorem idx_tuple {xs : List D} (h : xs ≠ []) (k : Int) : ∃ d ∈ xs, mIdx (.tuple xs) (.int (k % (xs.length : Int))) = .ok d := idx_list h k
theorem cut_mem {α : Type} {xs : List α} {lo hi : Option Int} {x : α} (h : x ∈ cutD xs lo hi) : x ∈ xs := List.mem_of_mem_drop (List.mem_of_mem_take h)
theorem cutT (ts : List D) (n : Nat) (h : n < ts.length) : cutD ts none (some (n : Int)) = ts.take n ∧ cutD ts (some ((n : Int) + 1)) none = ts.drop (n + 1) := by
  refine ⟨cut_take ts n, ?_⟩
  unfold cutD
  have e1 : HT.sIx ts.length 0 (some ((n : Int) + 1)) = min (n + 1) ts.length := HT.sIx_nat ts.length 0 (n + 1)
  have e2 : HT.sIx ts.length ts.length none = ts.length := rfl
  rw [e1, e2, Nat.min_eq_left (by omega), List.take_of_length_le (by rw [List.length_drop]; omega)]
theorem sum_len : ∀ {ns : List Int}, (∀ n ∈ ns, 1 ≤ n) → (ns.length : Int) ≤ ns.sum
  | [], _ => by simp
  | n :: ns, h => by
    have := sum_len (ns := ns) fun x hx => h x (List.mem_cons_of_mem _ hx)
    have := h n List.mem_cons_self
    simp only [List.length_cons, List.sum_cons]
    omega
/-! ### firsts -/
def firsts (pre : List Str) : List Str → List Str
  | [] => []
  | s :: r => if s ∈ pre then firsts pre r else s :: firsts (s :: pre) r
theorem firsts_cons (p : List Str) (s : Str) (r : List Str) : firsts p (s :: r) = if s ∈ p then firsts p r else s :: firsts (s :: p) r := rfl
theorem firsts_congr : ∀ (ss : List Str) {p q : List Str}, (∀ x, x ∈ p ↔ x ∈ q) → firsts p ss = firsts q ss
  | [], _, _, _ => rfl
  | s :: r, p, q, h => by
    unfold firsts
    by_cases hs : s ∈ p
    · rw [if_pos hs, if_pos ((h s).mp hs), firsts_congr r h]
    · rw [if_neg hs, if_neg fun z => hs ((h s).mpr z), firsts_congr r (p := s :: p) (q := s :: q) fun x => by simp only [List.mem_cons, h x]]
theorem firsts_app : ∀ (a b p : List Str), firsts p (a ++ b) = firsts p a ++ firsts (a ++ p) b
  | [], b, p => rfl
  | s :: r, b, p => by
    rw [List.cons_append, firsts_cons, firsts_cons]
    by_cases hs : s ∈ p
    · rw [if_pos hs, if_pos hs, firsts_app r b p, firsts_congr b (p := r ++ p) (q := s :: r ++ p) fun x => by
        simp only [List.mem_append, List.mem_cons]
        constructor
        · rintro (z | z)
          · exact .inl (.inr z)
          · exact .inr z
        · rintro ((rfl | z) | z)
          · exact .inr hs
          · exact .inl z
          · exact .inr z]
    · rw [if_neg hs, if_neg hs, firsts_app r b (s :: p), List.cons_append, firsts_congr b (p := r ++ s :: p) (q := s :: r ++ p) fun x => by
        simp only [List.mem_append, List.mem_cons]
        constructor
        · rintro (z | z | z)
          · exact .inl (.inr z)
          · exact .inl (.inl z)
          · exact .inr z
        · rintro ((z | z) | z)
          · exact .inr (.inl z)
          · exact .inl z
          · exact .inr (.inr z)]
theorem firsts_filter : ∀ (b p q : List Str), (∀ x ∈ q, x ∈ p) → firsts p (b.filter fun x => !decide (x ∈ q)) = firsts p b
  | [], _, _, _ => rfl
  | s :: r, p, q, h => by
    by_cases hq : s ∈ q
    · rw [List.filter_cons_of_neg (by simp [hq]), firsts_filter r p q h]
      show _ = if s ∈ p then firsts p r else _
      rw [if_pos (h s hq)]
    · rw [List.filter_cons_of_pos (by simp [hq])]
      unfold firsts
      by_cases hs : s ∈ p
      · rw [if_pos hs, if_pos hs, firsts_filter r p q h]
      · rw [if_neg hs, if_neg hs, firsts_filter r (s :: p) q fun x hx => List.mem_cons_of_mem _ (h x hx)]
/-- the comprehension that keeps firsts, over places -/
theorem firsts_places (ss : List Str) : ((List.range ss.length).filter fun j => !decide (ss.getD j "" ∈ ss.take j)).map (fun j => ss.getD j "") = firsts [] ss := by
  have gen : ∀ (ss pre : List Str), ((List.range ss.length).filter fun j => !decide (ss.getD j "" ∈ pre ++ ss.take j)).map (fun j => ss.getD j "") = firsts pre ss := by
    intro ss
    induction ss with
    | nil => intro pre; rfl
    | cons s r ih =>
      intro pre
      have e : ∀ j, (s :: r).getD (j + 1) "" = r.getD j "" := fun j => rfl
      rw [List.length_cons, List.range_succ_eq_map, List.filter_cons]
      have hm : (List.filter (fun j => !decide ((s :: r).getD j "" ∈ pre ++ (s :: r).take j)) (List.map Nat.succ (List.range r.length))).map (fun j => (s :: r).getD j "") = firsts (s :: pre) r := by
        rw [List.filter_map, List.map_map, ← ih (s :: pre)]
        have hf : ∀ j, ((fun j => !decide ((s :: r).getD j "" ∈ pre ++ (s :: r).take j)) ∘ Nat.succ) j = !decide (r.getD j "" ∈ s :: pre ++ r.take j) := fun j => by
          show (!decide (r.getD j "" ∈ pre ++ s :: r.take j)) = _
          congr 1
          apply decide_eq_decide.mpr
          simp only [List.mem_append, List.mem_cons]
          constructor
          · rintro (z | z | z)
            · exact .inl (.inr z)
            · exact .inl (.inl z)
            · exact .inr z
          · rintro ((z | z) | z)
            · exact .inr (.inl z)
            · exact .inl z
            · exact .inr (.inr z)
        rw [show ((fun j => !decide ((s :: r).getD j "" ∈ pre ++ (s :: r).take j)) ∘ Nat.succ) = _ from funext hf]
        rfl
      unfold firsts
      by_cases hs : s ∈ pre
      · rw [if_pos hs, if_neg (by
          show ¬ (!decide (s ∈ pre ++ [])) = true
          simp [hs]), hm, firsts_congr r (p := s :: pre) (q := pre) fun x => by
            simp only [List.mem_cons]
            exact ⟨fun z => z.elim (fun e => e ▸ hs) id, .inr⟩]
      · rw [if_neg hs, if_pos (by
          show (!decide (s ∈ pre ++ [])) = true
          simp [hs]), List.map_cons, hm]
        rfl
  have := gen ss []
  simpa using this
theorem any_str (ss : List Str) (x : Str) : (ss.map PyData.str).any (fun y => PyData.eqv y (.str x)) = decide (x ∈ ss) := by
  rw [Bool.eq_iff_iff, List.any_map, List.any_eq_true, decide_eq_true_eq]
  constructor
  · rintro ⟨y, hy, e⟩
    have e : PyData.eqv (.str y) (.str x) = true := e
    rw [eqv_str] at e
    rw [← of_decide_eq_true e]; exact hy
  · exact fun h => ⟨x, h, by show PyData.eqv (.str x) (.str x) = true; rw [eqv_str]; exact decide_eq_true rfl⟩
theorem notIn_strs (ss : List Str) (x : Str) : mNotIn (.str x) (.list (ss.map .str)) = okB (!decide (x ∈ ss)) := by
  show ((if dOk (.str x) then R.ok ((ss.map PyData.str).any fun y => PyData.eqv y (.str x)) else .no).bind fun b => okB (!b)) = _
  rw [if_pos (by rfl), any_str]
  rfl
def fstP (ss : List Str) (d : D) : Bool := match d with
  | .tuple [.int n, .str x] => !decide (x ∈ ss.take n.toNat)
  | _ => false
/-- the firsts of a list of texts, as both write them -/
theorem firsts_lc {ρ : Rho} {i j f : Nat} {fi : Rho → R (List D)} {ss : List Str} (hf : fi ρ = .ok (enumL (ss.map .str)))
    (h : ∀ (n : Nat) (x : Str), ∃ ρ', gTp 2 (gsCons (gNm i) (gsCons (gNm j) (gsNil))) (.tuple [.int (n : Nat), .str x]) (fgt [i, j] ρ) = .ok ρ' ∧ eVar j ρ' = okS x ∧ eVar f ρ' = .ok (.list (ss.map .str)) ∧ eVar i ρ' = okI n) :
    eLc [i, j] fi (gTp 2 (gsCons (gNm i) (gsCons (gNm j) (gsNil)))) (tVal (eBin mNotIn (eVar j) (eSl (eVar f) (oNone) (oSome (eVar i))))) (eVar j) ρ = .ok (.list ((firsts [] ss).map .str)) := by
  have key := filter_lc (vs := [i, j]) (k := gTp 2 (gsCons (gNm i) (gsCons (gNm j) (gsNil)))) (t := tVal (eBin mNotIn (eVar j) (eSl (eVar f) (oNone) (oSome (eVar i))))) (fe := eVar j) (F := sndD) (P := fstP ss) hf fun d hd => by
      obtain ⟨n, e, rfl, he⟩ := enum_at hd
      rw [List.getElem?_map] at he
      obtain ⟨x, hx, rfl⟩ := Option.map_eq_some_iff.mp he
      obtain ⟨ρ', h1, h2, h3, h4⟩ := h n x
      refine ⟨ρ', h1, ?_, fun _ => h2⟩
      simp_arith [h2, h3, h4]
      rw [cut_take, ← List.map_take, notIn_strs]
      simp_arith []
      show _ = R.ok (!decide (x ∈ ss.take ((n : Nat) : Int).toNat))
      rw [Int.toNat_natCast]
  rw [key]
  refine congrArg (fun z => R.ok (PyData.list z)) ?_
  rw [← firsts_places]
  unfold enumL
  rw [List.filter_map, List.map_map, List.map_map, List.length_map]
  have hg : ∀ j, j < ss.length → (ss.map PyData.str).getD j .none = .str (ss.getD j "") := fun j hj => by
    rw [List.getD_eq_getElem?_getD, List.getElem?_map, List.getD_eq_getElem?_getD, List.getElem?_eq_getElem hj]
    rfl
  have hfe : (List.range ss.length).filter (fstP ss ∘ fun i => PyData.tuple [.int (i : Nat), (ss.map PyData.str).getD i .none]) = (List.range ss.length).filter fun j => !decide (ss.getD j "" ∈ ss.take j) := by
    refine List.filter_congr fun j hj => ?_
    show fstP ss (PyData.tuple [.int (j : Nat), (ss.map PyData.str).getD j .none]) = _
    rw [hg j (List.mem_range.mp hj)]
    show (!decide (ss.getD j "" ∈ ss.take ((j : Nat) : Int).toNat)) = _
    rw [Int.toNat_natCast]
  rw [hfe]
  refine List.map_congr_left fun j hj => ?_
  have hj := List.mem_range.mp (List.mem_filter.mp hj).1
  show sndD (.tuple [.int (j : Nat), (ss.map PyData.str).getD j .none]) = .str (ss.getD j "")
  rw [hg j hj]
  rfl
/-! ### kinds of a land -/
def kindS (r : D) : Str := match r with
  | .tuple (.str k :: _) => k
  | _ => ""
def rowsOf (l : D) : List D := match l with
  | .tuple [_, _, _, .tuple rs] => rs
  | _ => []
def kindsOf (l : D) : List Str := (rowsOf l).map kindS
structure LandAt (l : D) : Prop where
  rows : mIdx l (.int 3) = .ok (.tuple (rowsOf l))
  kind : ∀ r ∈ rowsOf l, mIdx r (.int 0) = okS (kindS r)
  code : mIdx l (.int 0) = okS (codeS l)
  few : (rowsOf l).length ≤ 8
theorem landAt {l : D} (h : isLand l = true) : LandAt l := by
  obtain ⟨a, b, c, rs, rfl, _, _, _, _, hr⟩ := land_at h
  unfold rowsB at hr
  simp only [Bool.and_eq_true, decide_eq_true_eq] at hr
  refine ⟨rfl, fun r hr' => ?_, rfl, ?_⟩
  · obtain ⟨k, b, s, gs, rfl, _⟩ := row_at (List.all_eq_true.mp hr.2.1 r hr')
    rfl
  · show rs.length ≤ 8
    omega
theorem book_at {ls : List D} (h : isBook (.tuple ls) = true) : (∀ l ∈ ls, isLand l = true) ∧ 1 ≤ ls.length ∧ ls.length ≤ 6 ∧ chainS (ls.map codeS) = true := by
  have h : bookB ls = true := h
  unfold bookB at h
  simp only [Bool.and_eq_true, decide_eq_true_eq] at h
  exact ⟨List.all_eq_true.mp h.2.1, by omega, by omega, h.2.2⟩
theorem p_codes {ls : List D} (h : isBook (.tuple ls) = true) : m_codes [.tuple ls] = .ok (.list ((ls.map codeS).map .str)) := by
  have hb := p_need_book (.tuple ls)
  rw [if_pos h] at hb
  unfold m_codes den_codes
  show fin (sSeq _ _ [.dat (.tuple ls), .no]) = _
  have e : eLc [1] (iOf (eVar 0)) (gNm 1) (tTrue) (eBin mIdx (eVar 1) (eC (.int 0))) [.dat (.tuple ls), .no] = .ok (.list (ls.map fun l => .str (codeS l))) :=
    map_lc (ds := ls) rfl fun d hd => ⟨_, rfl, by
      show eBin mIdx (eVar 1) (eC (.int 0)) [.dat (.tuple ls), .dat d] = _
      simp_arith [(landAt ((book_at h).1 d hd)).code]⟩
  rw [List.map_map]
  simp_arith [hb, e]
  rfl
theorem kinds_loop {ls0 : List D} : ∀ (ls : List D) (ks : List Str), (∀ l ∈ ls, isLand l = true) → ks.length + 8 * ls.length ≤ 1000 →
    loopD (bodyF (gNm 2) (sBeh [2] (sExt 1 (eLc [3] (iOf (eBin mIdx (eVar 2) (eC (.int 3)))) (gNm 3) (tTrue) (eBin mIdx (eVar 3) (eC (.int 0))))))) ls [.dat (.tuple ls0), .ml (ks.map .str), .no, .no, .no, .no] = .nx [.dat (.tuple ls0), .ml ((ks ++ ls.flatMap kindsOf).map .str), .no, .no, .no, .no]
  | [], ks, _, _ => by rw [List.flatMap_nil, List.append_nil]; rfl
  | l :: ls, ks, h, hl => by
    have L := landAt (h l List.mem_cons_self)
    have e : eLc [3] (iOf (eBin mIdx (eVar 2) (eC (.int 3)))) (gNm 3) (tTrue) (eBin mIdx (eVar 3) (eC (.int 0))) [.dat (.tuple ls0), .ml (ks.map .str), .dat l, .no, .no, .no] = .ok (.list ((kindsOf l).map .str)) := by
      refine (map_lc (k := gNm 3) (ds := rowsOf l) (F := fun r => .str (kindS r)) ?_ fun d hd => ⟨_, rfl, ?_⟩).trans ?_
      · simp_arith [L.rows]
      · show eBin mIdx (eVar 3) (eC (.int 0)) [.dat (.tuple ls0), .ml (ks.map .str), .dat l, .dat d, .no, .no] = _
        simp_arith [L.kind d hd]
      · unfold kindsOf
        rw [List.map_map]
        rfl
    rw [List.length_cons] at hl
    have few : (kindsOf l).length ≤ 8 := by unfold kindsOf; rw [List.length_map]; exact L.few
    have ih := kinds_loop (ls0 := ls0) ls (ks ++ kindsOf l) (fun x hx => h x (List.mem_cons_of_mem _ hx)) (by rw [List.length_append]; omega)
    have sz : (ks.map PyData.str).length + ((kindsOf l).map PyData.str).length ≤ sizeLine := by rw [List.length_map, List.length_map, sizeLine_eq]; omega
    simp_arith [e, sz]
    rw [← List.map_append, ih, List.flatMap_cons, List.append_assoc]
theorem p_kinds {ls : List D} (h : isBook (.tuple ls) = true) : m_kinds [.tuple ls] = .ok (.list ((firsts [] (ls.flatMap kindsOf)).map .str)) := by
  have hb := p_need_book (.tuple ls)
  rw [if_pos h] at hb
  obtain ⟨h1, h2, h3, _⟩ := book_at h
  have hl := kinds_loop (ls0 := ls) ls [] h1 (by simp only [List.length_nil]; omega)
  rw [List.map_nil, List.nil_append] at hl
  unfold m_kinds den_kinds
  show fin (sSeq _ _ [.dat (.tuple ls), .no, .no, .no, .no, .no]) = _
  simp_all_arith [hb, hl]
  rw [firsts_lc (ss := ls.flatMap kindsOf) (by simp_arith []) fun n x => ⟨_, ev_gTp2 _ _ _ _ _, rfl, rfl, rfl⟩]
  simp_arith []
theorem bad_codes {d : D} (h : isBook d = false) : m_codes [d] = .exc "BadBook" := by
  have hb := p_need_book d
  rw [if_neg (by rw [h]; exact Bool.false_ne_true)] at hb
  unfold m_codes den_codes
  show fin (sSeq _ _ [.dat d, .no]) = _
  simp_arith [hb]
theorem bad_kinds {d : D} (h : isBook d = false) : m_kinds [d] = .exc "BadBook" := by
  have hb := p_need_book d
  rw [if_neg (by rw [h]; exact Bool.false_ne_true)] at hb
  unfold m_kinds den_kinds
  show fin (sSeq _ _ [.dat d, .no, .no, .no, .no, .no]) = _
  simp_arith [hb]
theorem ne_strs (ss : List Str) : mNe (.list (ss.map .str)) (.list (ss.map .str)) = okB false := by
  unfold mNe
  rw [if_pos (by rw [dOk_strs]; rfl)]
  have : PyData.eqv (.list (ss.map .str)) (.list (ss.map .str)) = PyData.eqvAll (ss.map .str) (ss.map .str) := by simp only [PyData.eqv]
  rw [this, eqv_strs, decide_eq_true rfl]
  rfl
theorem ev_isNot (d : D) : mIsNot d .none = okB (!isNon d) := (rfl)
theorem rng_len (ns : List Int) (n : Int) (h0 : 0 ≤ n) (h : n ≤ 1000) : ∃ ks : List Int, rng1 [.int n] = .ok (ks.map .int) ∧ ∀ k ∈ ks, 0 ≤ k ∧ k < n := by
  refine ⟨(List.range n.toNat).map fun j => ((j : Nat) : Int), ?_, fun k hk => ?_⟩
  · show (if _ then R.ok (rangeL 0 n) else .no) = _
    rw [if_pos (by
      unfold small62
      simp only [Bool.and_eq_true, decide_eq_true_eq, sizeLine_eq]
      omega)]
    unfold rangeL
    rw [List.map_map]
    simp
  · obtain ⟨j, hj, rfl⟩ := List.mem_map.mp hk
    have := List.mem_range.mp hj
    omega
end MC
set_option Elab.async false
set_option linter.all false
set_option maxRecDepth 100000
set_option maxHeartbeats 2000000
/-! typed books -/
namespace DL
open PySem L2
abbrev S (l : List Nat) : Str := ⟨l.toArray⟩
theorem S_len (l : List Nat) : (S l).length = l.length := by simp [Str.length]
theorem S_cps (l : List Nat) : (S l).cps.toList = l := rfl
theorem S_eta (x : Str) : S x.cps.toList = x := by obtain ⟨⟨l⟩⟩ := x; rfl
theorem S_inj {a b : List Nat} : S a = S b ↔ a = b := ⟨fun h => by
  have := congrArg (fun z : Str => z.cps.toList) h
  exact this, fun h => by rw [h]⟩
theorem S_app (a b : List Nat) : S a ++ S b = S (a ++ b) := by
  show (⟨a.toArray ++ b.toArray⟩ : Str) = _
  rw [List.append_toArray]
theorem S_nil : S [] = ("" : Str) := rfl
theorem eq_S (a b : List Nat) : mEq (.str (S a)) (.str (S b)) = okB (decide (a = b)) := by
  rw [MC.eq_str]
  congr 2
  exact propext S_inj
theorem ne_S (a b : List Nat) : mNe (.str (S a)) (.str (S b)) = okB (!decide (a = b)) := by
  unfold mNe
  rw [if_pos (by rfl), MC.eqv_str]
  congr 3
  exact propext S_inj
theorem starts_S (a b : List Nat) : mStarts (.str (S a)) [.str (S b)] = okB (decide (b <+: a)) := by
  show okB (Txt.startswith (S a) (S b)) = _
  congr 2
  rw [Bool.eq_iff_iff, MC.starts_iff, decide_eq_true_eq]
theorem add_S {a b : List Nat} (h : a.length + b.length ≤ 100000) : mAdd (.str (S a)) (.str (S b)) = .ok (.str (S (a ++ b))) := by
  show (if fits ((S a).length + (S b).length) then okS (S a ++ S b) else .no) = _
  rw [if_pos (MC.fits_of (by rw [S_len, S_len]; exact h)), S_app]
theorem len_S (a : List Nat) : mLen [.str (S a)] = okI a.length := by
  show okI ((S a).length : Int) = _
  rw [S_len]
theorem sl_S (a : List Nat) (lo hi : Option Int) : mSl (.str (S a)) lo hi = .ok (.str (S (cutD a lo hi))) := (rfl)
theorem lt_S (a b : List Nat) : mLt (.str (S a)) (.str (S b)) = okB (decide (a < b)) := (rfl)
theorem ty_S (a : Str) : tyD "str" (.str a) = true := (rfl)
theorem cut_drop {α : Type} (l : List α) (n : Nat) : cutD l (some (n : Int)) none = l.drop n := by
  unfold cutD
  have e1 : HT.sIx l.length 0 (some (n : Int)) = min n l.length := HT.sIx_nat l.length 0 n
  have e2 : HT.sIx l.length l.length none = l.length := rfl
  rw [e1, e2]
  rcases Nat.le_total n l.length with h | h
  · rw [Nat.min_eq_left h, List.take_of_length_le (by rw [List.length_drop]; exact Nat.le_refl _)]
  · rw [Nat.min_eq_right h, List.drop_length, List.take_nil, List.drop_of_length_le h]
theorem cut_both {α : Type} (l : List α) (n m : Nat) : cutD l (some (n : Int)) (some (m : Int)) = (l.take m).drop n := by
  unfold cutD
  have e1 : HT.sIx l.length 0 (some (n : Int)) = min n l.length := HT.sIx_nat l.length 0 n
  have e2 : HT.sIx l.length l.length (some (m : Int)) = min m l.length := HT.sIx_nat l.length l.length m
  rw [e1, e2, List.drop_take]
  rcases Nat.le_total n l.length with h | h
  · rw [Nat.min_eq_left h]
    rcases Nat.le_total m l.length with h2 | h2
    · rw [Nat.min_eq_left h2]
    · rw [Nat.min_eq_right h2, List.take_of_length_le (by rw [List.length_drop]; exact Nat.le_refl _), List.take_of_length_le (by rw [List.length_drop]; omega)]
  · rw [Nat.min_eq_right h, List.drop_length, List.take_nil, List.drop_of_length_le h, List.take_nil]
end DL
namespace MC
open PySem L2 DL
def Digs (l : List Nat) : Prop := ∀ c ∈ l, 48 ≤ c ∧ c ≤ 57
structure Row where
  kind : Str
  beg : List Nat
  size : Nat
  groups : List Nat
def Row.d (r : Row) : D := .tuple [.str r.kind, .str (S r.beg), .int r.size, .tuple (r.groups.map fun n => .int (n : Nat))]
structure Land where
  code : List Nat
  out : List Nat
  trunk : List Nat
  rows : List Row
def Land.d (l : Land) : D := .tuple [.str (S l.code), .str (S l.out), .str (S l.trunk), .tuple (l.rows.map Row.d)]
def bookD (b : List Land) : D := .tuple (b.map Land.d)
structure Row.Ok (r : Row) : Prop where
  kind : isKnd (.str r.kind) = true
  beg : Digs r.beg
  few : r.beg.length ≤ 4
  less : r.beg.length < r.size
  lo : 3 ≤ r.size
  hi : r.size ≤ 12
  gs0 : r.groups ≠ []
  gs1 : ∀ g ∈ r.groups, 1 ≤ g
  sum : r.groups.sum = r.size
structure Land.Ok (l : Land) : Prop where
  code : Digs l.code
  code1 : 1 ≤ l.code.length
  code3 : l.code.length ≤ 3
  zero : l.code.head? ≠ some 48
  out : Digs l.out
  out1 : 1 ≤ l.out.length
  out4 : l.out.length ≤ 4
  trunk : Digs l.trunk
  trunk2 : l.trunk.length ≤ 2
  rows1 : 1 ≤ l.rows.length
  rows8 : l.rows.length ≤ 8
  row : ∀ r ∈ l.rows, r.Ok
  nd : (l.rows.map fun r => (r.beg, r.size)).Nodup
structure BookOk (b : List Land) : Prop where
  one : 1 ≤ b.length
  six : b.length ≤ 6
  land : ∀ l ∈ b, l.Ok
  pw : (b.map Land.code).Pairwise fun x y => x < y ∧ ¬ x <+: y
theorem inAll_figs {x : Str} (h : inAll figs x = true) : Digs x.cps.toList := fun c hc => by
  unfold inAll at h
  have := of_decide_eq_true (List.all_eq_true.mp h c hc)
  unfold figs at this
  have e : ("0123456789" : Str).cps.toList = [48, 49, 50, 51, 52, 53, 54, 55, 56, 57] := rfl
  rw [e] at this
  simp only [List.mem_cons, List.mem_nil_iff, or_false] at this
  omega
theorem figs_of {l : List Nat} (h : Digs l) : inAll figs (S l) = true := by
  unfold inAll
  rw [List.all_eq_true]
  intro c hc
  have := h c hc
  refine decide_eq_true ?_
  unfold figs
  have e : ("0123456789" : Str).cps.toList = [48, 49, 50, 51, 52, 53, 54, 55, 56, 57] := rfl
  rw [e]
  simp only [List.mem_cons, List.mem_nil_iff, or_false]
  omega
theorem fig_at {x : Str} {lo hi : Int} (h : isFig (.str x) lo hi = true) : Digs x.cps.toList ∧ lo ≤ (x.cps.toList.length : Int) ∧ (x.cps.toList.length : Int) ≤ hi := by
  unfold isFig at h
  simp only [Bool.and_eq_true, decide_eq_true_eq] at h
  have e : x.length = x.cps.toList.length := by simp [Str.length]
  rw [e] at h
  exact ⟨inAll_figs h.2, h.1.1, h.1.2⟩
theorem row_typed {d : D} (h : isRow d = true) : ∃ r : Row, d = r.d ∧ r.Ok := by
  obtain ⟨k, b, s, gs, rfl, hk, hb, hs, hg⟩ := row_at h
  obtain ⟨b1, b2, b3⟩ := fig_at hb
  obtain ⟨s', e, s1, s2⟩ := cnt_int hs
  injection e with e
  subst e
  unfold grp at hg
  simp only [Bool.and_eq_true, Bool.not_eq_true'] at hg
  obtain ⟨g0, g1, g2⟩ := hg
  obtain ⟨ns, e1, rfl⟩ := cnts_ints g1
  unfold sumIs at g2
  rw [e1] at g2
  have g2 := of_decide_eq_true g2
  have each : ∀ n ∈ ns, 1 ≤ n := fun n hn => by
    have := List.all_eq_true.mp g1 (.int n) (List.mem_map.mpr ⟨n, hn, rfl⟩)
    unfold isCnt at this
    simp only [Bool.and_eq_true, decide_eq_true_eq] at this
    exact this.1
  have hmx : (b.cps.toList.length : Int) + 1 ≤ mx (.str b) ∧ 3 ≤ mx (.str b) := by
    have e : b.length = b.cps.toList.length := by simp [Str.length]
    show (b.cps.toList.length : Int) + 1 ≤ (if (b.length : Int) + 1 > 3 then (b.length : Int) + 1 else 3) ∧ 3 ≤ (if (b.length : Int) + 1 > 3 then (b.length : Int) + 1 else 3)
    rw [e]
    split <;> omega
  have back : ∀ ns : List Int, (∀ n ∈ ns, 1 ≤ n) → (ns.map PyData.int) = (ns.map Int.toNat).map (fun n => PyData.int (n : Nat)) ∧ (((ns.map Int.toNat).sum : Nat) : Int) = ns.sum := fun ns h => by
    induction ns with
    | nil => exact ⟨rfl, rfl⟩
    | cons n r ih =>
      obtain ⟨i1, i2⟩ := ih fun x hx => h x (List.mem_cons_of_mem _ hx)
      have := h n List.mem_cons_self
      refine ⟨?_, ?_⟩
      · rw [List.map_cons, List.map_cons, List.map_cons, ← i1, Int.toNat_of_nonneg (by omega)]
      · rw [List.map_cons, List.sum_cons, List.sum_cons, ← i2]
        omega
  obtain ⟨bk1, bk2⟩ := back ns each
  refine ⟨⟨k, b.cps.toList, s.toNat, ns.map Int.toNat⟩, ?_, ⟨hk, b1, by show b.cps.toList.length ≤ 4; omega, by show b.cps.toList.length < s.toNat; omega, by show 3 ≤ s.toNat; omega, by show s.toNat ≤ 12; omega, ?_, ?_, ?_⟩⟩
  · unfold Row.d
    rw [S_eta, bk1, Int.toNat_of_nonneg (by omega)]
  · intro z
    have z : ns.map Int.toNat = [] := z
    rw [List.map_eq_nil_iff] at z
    subst z
    cases g0
  · intro g hg
    obtain ⟨n, hn, rfl⟩ := List.mem_map.mp hg
    have := each n hn
    omega
  · show (ns.map Int.toNat).sum = s.toNat
    omega
theorem rows_typed : ∀ {ds : List D}, ds.all isRow = true → ∃ rs : List Row, ds = rs.map Row.d ∧ ∀ r ∈ rs, r.Ok
  | [], _ => ⟨[], rfl, fun r hr => by cases hr⟩
  | d :: ds, h => by
    rw [List.all_cons, Bool.and_eq_true] at h
    obtain ⟨r, rfl, hr⟩ := row_typed h.1
    obtain ⟨rs, rfl, hrs⟩ := rows_typed h.2
    exact ⟨r :: rs, rfl, fun x hx => (List.mem_cons.mp hx).elim (fun e => e ▸ hr) (hrs x)⟩
theorem land_typed {d : D} (h : isLand d = true) : ∃ l : Land, d = l.d ∧ l.Ok := by
  obtain ⟨a, b, c, rs, rfl, ha, hz, hb, hc, hr⟩ := land_at h
  obtain ⟨a1, a2, a3⟩ := fig_at ha
  obtain ⟨b1, b2, b3⟩ := fig_at hb
  obtain ⟨c1, c2, c3⟩ := fig_at hc
  unfold rowsB at hr
  simp only [Bool.and_eq_true, decide_eq_true_eq] at hr
  obtain ⟨rows, rfl, hrows⟩ := rows_typed hr.2.1
  rw [List.length_map] at hr
  refine ⟨⟨a.cps.toList, b.cps.toList, c.cps.toList, rows⟩, ?_, ⟨a1, by show 1 ≤ a.cps.toList.length; omega, by show a.cps.toList.length ≤ 3; omega, ?_, b1, by show 1 ≤ b.cps.toList.length; omega, by show b.cps.toList.length ≤ 4; omega, c1, by show c.cps.toList.length ≤ 2; omega, by show 1 ≤ rows.length; omega, by show rows.length ≤ 8; omega, hrows, ?_⟩⟩
  · unfold Land.d
    rw [S_eta, S_eta, S_eta]
  · unfold zeroAt at hz
    exact of_decide_eq_false hz
  · have hd := of_decide_eq_true hr.2.2
    show (rows.map fun r => (r.beg, r.size)).Nodup
    have e : (rows.map Row.d).map keyR = (rows.map fun r => (r.beg, r.size)).map fun p => NestedKey.tup [.text (S p.1), .num (p.2 : Nat)] := by
      rw [List.map_map, List.map_map]
      rfl
    rw [e] at hd
    exact (List.pairwise_map.mp hd).imp fun {a b} h e => h (by rw [e])
theorem lands_typed : ∀ {ds : List D}, ds.all isLand = true → ∃ ls : List Land, ds = ls.map Land.d ∧ ∀ l ∈ ls, l.Ok
  | [], _ => ⟨[], rfl, fun r hr => by cases hr⟩
  | d :: ds, h => by
    rw [List.all_cons, Bool.and_eq_true] at h
    obtain ⟨r, rfl, hr⟩ := land_typed h.1
    obtain ⟨rs, rfl, hrs⟩ := lands_typed h.2
    exact ⟨r :: rs, rfl, fun x hx => (List.mem_cons.mp hx).elim (fun e => e ▸ hr) (hrs x)⟩
theorem book_typed {d : D} (h : isBook d = true) : ∃ b : List Land, d = bookD b ∧ BookOk b := by
  cases d with
  | tuple ls =>
    obtain ⟨h1, h2, h3, h4⟩ := book_at h
    obtain ⟨b, rfl, hb⟩ := lands_typed (List.all_eq_true.mpr h1)
    rw [List.length_map] at h2 h3
    refine ⟨b, rfl, h2, h3, hb, ?_⟩
    have p := chain_pair h4
    rw [List.map_map] at p
    have e : b.map (codeS ∘ Land.d) = (b.map Land.code).map S := by rw [List.map_map]; rfl
    rw [e, List.pairwise_map] at p
    exact p
  | _ => cases h
/-! ### the program's own looks -/
def optD (o : Option D) : D := match o with
  | some d => d
  | none => .none
def landOf (b : List Land) (c : List Nat) : Option Land := b.find? fun l => decide (l.code = c)
theorem idx_landCode (l : Land) : mIdx l.d (.int 0) = okS (S l.code) := (rfl)
theorem idx_landOut (l : Land) : mIdx l.d (.int 1) = okS (S l.out) := (rfl)
theorem idx_landTrunk (l : Land) : mIdx l.d (.int 2) = okS (S l.trunk) := (rfl)
theorem idx_landRows (l : Land) : mIdx l.d (.int 3) = .ok (.tuple (l.rows.map Row.d)) := (rfl)
theorem idx_rowKind (r : Row) : mIdx r.d (.int 0) = okS r.kind := (rfl)
theorem idx_rowBeg (r : Row) : mIdx r.d (.int 1) = okS (S r.beg) := (rfl)
theorem idx_rowSize (r : Row) : mIdx r.d (.int 2) = okI r.size := (rfl)
theorem idx_rowGroups (r : Row) : mIdx r.d (.int 3) = .ok (.tuple (r.groups.map fun n => .int (n : Nat))) := (rfl)
theorem len_strS (a : List Nat) : mLen [.str ⟨a.toArray⟩] = okI a.length := len_S a
theorem p_land_of (b : List Land) (c : List Nat) : m_land_of [bookD b, .str (S c)] = .ok (optD ((landOf b c).map Land.d)) := by
  unfold m_land_of den_land_of
  show fin (sSeq _ _ [.dat (bookD b), .dat (.str (S c)), .no, .no]) = _
  have e : eLc [3] (iOf (eVar 0)) (gNm 3) (tVal (eBin mEq (eBin mIdx (eVar 3) (eC (.int 0))) (eVar 1))) (eVar 3) [.dat (bookD b), .dat (.str (S c)), .no, .no] = .ok (.list ((b.filter fun l => decide (l.code = c)).map Land.d)) := by
    have := filter_lc (vs := [3]) (fi := iOf (eVar 0)) (k := gNm 3) (t := tVal (eBin mEq (eBin mIdx (eVar 3) (eC (.int 0))) (eVar 1))) (fe := eVar 3) (ρ := [.dat (bookD b), .dat (.str (S c)), .no, .no]) (F := id) (P := fun d => match d with
      | .tuple (.str x :: _) => decide (x = S c)
      | _ => false) (ds := b.map Land.d) rfl fun d hd => by
        obtain ⟨l, _, rfl⟩ := List.mem_map.mp hd
        refine ⟨_, rfl, ?_, fun _ => rfl⟩
        show tVal _ [.dat (bookD b), .dat (.str (S c)), .no, .dat l.d] = .ok (decide (S l.code = S c))
        simp_arith [idx_landCode, eq_str]
    rw [this, List.map_id, List.filter_map]
    congr 4
    funext l
    exact decide_eq_decide.mpr S_inj
  have nn := ne_nilL ((b.filter fun l => decide (l.code = c)).map Land.d)
  unfold landOf
  rw [← List.head?_filter]
  simp_arith [e, nn]
  cases b.filter fun l => decide (l.code = c) with
  | nil => rfl
  | cons l r => simp_arith [List.map_cons, List.isEmpty_cons]; rfl
theorem isNon_land (l : Land) : DL.isNon l.d = false := (rfl)
theorem isNon_row (l : Row) : DL.isNon l.d = false := (rfl)
theorem isNon_none : DL.isNon .none = true := (rfl)
theorem ev_is (d : D) : mIs d .none = okB (DL.isNon d) := (rfl)
/-- a row's step: the longest begin, the first of these -/
def fitsRow (x : List Nat) (r : Row) : Bool := decide (x.length = r.size) && decide (r.beg <+: x)
def stepRow (x : List Nat) (found : Option Row) (r : Row) : Option Row :=
  if fitsRow x r then (match found with
    | none => some r
    | some q => if q.beg.length < r.beg.length then some r else some q) else found
def rowOf (rs : List Row) (x : List Nat) : Option Row := rs.foldl (stepRow x) none
theorem p_row_of (l : Land) (x : List Nat) : m_row_of [l.d, .str (S x)] = .ok (optD ((rowOf l.rows x).map Row.d)) := by
  unfold m_row_of den_row_of
  show fin (sSeq _ _ [.dat l.d, .dat (.str (S x)), .no, .no]) = _
  have hs : ∀ a b : Nat, decide ((a : Int) = (b : Int)) = decide (a = b) := fun a b => decide_eq_decide.mpr (by omega)
  have hl : ∀ a b : Nat, decide ((a : Int) < (b : Int)) = decide (a < b) := fun a b => decide_eq_decide.mpr (by omega)
  simp_arith [idx_landRows]
  rw [loop_fold (g := Row.d) (st := fun f : Option Row => [.dat l.d, .dat (.str (S x)), .dat (optD (f.map Row.d)), .no]) (f := stepRow x) (b := none) (by rfl) fun f r hr => by
    unfold stepRow fitsRow
    by_cases h1 : x.length = r.size
    · by_cases h2 : r.beg <+: x
      · cases f with
        | none => simp_arith [S_len, idx_rowSize, eq_int, hs, h1, starts_S, idx_rowBeg, h2, ty_S, ev_is, optD, Option.map_none, Option.map_some, isNon_none]
        | some q =>
          by_cases h3 : q.beg.length < r.beg.length
          · simp_arith [S_len, idx_rowSize, eq_int, hs, h1, starts_S, idx_rowBeg, h2, ty_S, ev_is, optD, Option.map_none, Option.map_some, isNon_row, hl, h3]
          · simp_arith [S_len, idx_rowSize, eq_int, hs, h1, starts_S, idx_rowBeg, h2, ty_S, ev_is, optD, Option.map_none, Option.map_some, isNon_row, hl, h3]
      · simp_arith [S_len, idx_rowSize, eq_int, hs, h1, starts_S, idx_rowBeg, h2, ty_S]
    · simp_arith [S_len, idx_rowSize, eq_int, hs, h1]]
  simp_arith []
  rfl
end MC
set_option Elab.async false
set_option linter.all false
set_option maxRecDepth 100000
set_option maxHeartbeats 2000000
/-! numbers -/
namespace MC
open PySem L2 DL
def hasX (l : Land) (x : D) : Bool := isFig x 3 12 && (match x with
  | .str y => (rowOf l.rows y.cps.toList).isSome
  | _ => false)
def hasN (b : List Land) (d : D) : Bool := match d with
  | .tuple [.str c, x] => (match landOf b c.cps.toList with
    | some l => hasX l x
    | none => false)
  | _ => false
theorem isStr_at {d : D} (h : d.isStr = true) : ∃ c : Str, d = .str c := by
  cases d with
  | str c => exact ⟨c, rfl⟩
  | _ => cases h
theorem isNon_opt {α : Type} (f : α → D) (hf : ∀ a, DL.isNon (f a) = false) (o : Option α) : DL.isNon (optD (o.map f)) = !o.isSome := by
  cases o with
  | none => rfl
  | some a => exact hf a
theorem p_has_number (b : List Land) (d : D) : m_has_number [bookD b, d] = okB (hasN b d) := by
  unfold m_has_number den_has_number
  show fin (sSeq _ _ [.dat (bookD b), .dat d, .no]) = _
  cases ht : d.isTuple with
  | false =>
    have hn : hasN b d = false := by
      cases d with
      | tuple ts => cases ht
      | _ => rfl
    simp_arith [ht, hn]
  | true =>
    cases d with
    | tuple ts =>
      by_cases h2 : ts.length = 2
      · match ts, h2 with
        | [a, x], _ =>
          have nn : mNe (.int (([a, x] : List D).length : Nat)) (.int 2) = okB false := by rw [ne_int]; rfl
          cases hs : a.isStr with
          | false =>
            have hn : hasN b (.tuple [a, x]) = false := by
              cases a with
              | str c => cases hs
              | _ => rfl
            simp_arith [ht, nn, hs, hn]
          | true =>
            obtain ⟨c, rfl⟩ := isStr_at hs
            have hl := p_land_of b c.cps.toList
            rw [S_eta] at hl
            simp_arith [ht, nn, hs, hl, ev_isNot, p_is_figures]
            show _ = okB (match landOf b c.cps.toList with
              | some l => hasX l x
              | none => false)
            cases e : landOf b c.cps.toList with
            | none => rfl
            | some l =>
              show fin ((if (!DL.isNon l.d) = true then if isFig x 3 12 = true then (m_row_of [l.d, x]).bind fun x => okB (!DL.isNon x) else okB false else okB false).thn [.dat (bookD b), .dat (.tuple [.str c, x]), .dat l.d] Fl.rt) = okB (hasX l x)
              unfold hasX
              cases hf : isFig x 3 12 with
              | false => rfl
              | true =>
                obtain ⟨y, rfl⟩ := fig_str hf
                have hr := p_row_of l y.cps.toList
                rw [S_eta] at hr
                simp_arith [hr, isNon_land, isNon_opt Row.d isNon_row, Bool.not_not]
      · have hn : hasN b (.tuple ts) = false := by
          unfold hasN
          split
          · rename_i e
            injection e with e
            subst e
            exact absurd rfl h2
          · rfl
        have hd : mNe (.int (ts.length : Nat)) (.int 2) = okB true := by
          rw [ne_int]
          have : decide ((ts.length : Int) = 2) = false := decide_eq_false (by omega)
          rw [this]
          rfl
        simp_arith [ht, hd, hn]
    | _ => cases ht
theorem need_ok {b : List Land} (hb : isBook (bookD b) = true) : m_need_book [bookD b] = .ok .none := by
  have := p_need_book (bookD b)
  rwa [if_pos hb] at this
theorem p_need_number {b : List Land} (hb : isBook (bookD b) = true) (d : D) : m_need_number [bookD b, d] = if hasN b d then .ok .none else .exc "NoNumber" := by
  unfold m_need_number den_need_number
  show fin (sSeq _ _ [.dat (bookD b), .dat d]) = _
  simp_arith [need_ok hb, p_has_number]
  cases hasN b d <;> rfl
theorem p_is_number {b : List Land} (hb : isBook (bookD b) = true) (d : D) : m_is_number [bookD b, d] = okB (hasN b d) := by
  unfold m_is_number den_is_number
  show fin (sSeq _ _ [.dat (bookD b), .dat d]) = _
  simp_arith [need_ok hb, p_has_number]
/-! ### typed numbers -/
def numD (p : List Nat × List Nat) : D := .tuple [.str (S p.1), .str (S p.2)]
structure IsNum (b : List Land) (c x : List Nat) (l : Land) (r : Row) : Prop where
  land : landOf b c = some l
  row : rowOf l.rows x = some r
  digs : Digs x
  lo : 3 ≤ x.length
  hi : x.length ≤ 12
theorem hasN_num {b : List Land} {c x : List Nat} : hasN b (numD (c, x)) = true ↔ ∃ l r, IsNum b c x l r := by
  show (match landOf b c with
    | some l => hasX l (.str (S x))
    | none => false) = true ↔ _
  constructor
  · intro h
    cases e : landOf b c with
    | none => rw [e] at h; cases h
    | some l =>
      rw [e] at h
      have h : hasX l (.str (S x)) = true := h
      unfold hasX at h
      rw [Bool.and_eq_true] at h
      obtain ⟨h1, h2⟩ := h
      obtain ⟨f1, f2, f3⟩ := fig_at h1
      have f1 : Digs x := f1
      have f2 : (3 : Int) ≤ (x.length : Int) := f2
      have f3 : (x.length : Int) ≤ 12 := f3
      obtain ⟨r, hr⟩ := Option.isSome_iff_exists.mp h2
      exact ⟨l, r, e, hr, f1, by omega, by omega⟩
  · rintro ⟨l, r, h⟩
    rw [h.land]
    show hasX l (.str (S x)) = true
    unfold hasX isFig
    have : (rowOf l.rows (S x).cps.toList).isSome = true := by rw [S_cps, h.row]; rfl
    simp only [this, figs_of h.digs, Bool.and_true, S_len, Bool.and_eq_true, decide_eq_true_eq]
    have := h.lo
    have := h.hi
    omega
theorem fold_some {x : List Nat} : ∀ (rs : List Row) (f : Option Row), (∃ r ∈ rs, fitsRow x r = true) ∨ f.isSome = true → (rs.foldl (stepRow x) f).isSome = true
  | [], f, h => h.elim (fun ⟨r, hr, _⟩ => by cases hr) id
  | q :: rs, f, h => by
    rw [List.foldl_cons]
    refine fold_some rs _ ?_
    by_cases hq : fitsRow x q = true
    · right
      unfold stepRow
      rw [if_pos hq]
      cases f with
      | none => rfl
      | some p => show (if _ then _ else _ : Option Row).isSome = true; split <;> rfl
    · unfold stepRow
      rw [if_neg hq]
      rcases h with ⟨r, hr, e⟩ | h
      · rcases List.mem_cons.mp hr with rfl | hr
        · exact absurd e hq
        · exact .inl ⟨r, hr, e⟩
      · exact .inr h
theorem rowOf_some {rs : List Row} {x : List Nat} {r : Row} (hr : r ∈ rs) (h : fitsRow x r = true) : ∃ q, rowOf rs x = some q := Option.isSome_iff_exists.mp (fold_some rs none (.inl ⟨r, hr, h⟩))
theorem fold_mem {x : List Nat} : ∀ (rs : List Row) (f : Option Row) (q : Row), rs.foldl (stepRow x) f = some q → (q ∈ rs ∧ fitsRow x q = true) ∨ f = some q
  | [], f, q, h => .inr h
  | p :: rs, f, q, h => by
    rw [List.foldl_cons] at h
    rcases fold_mem rs _ q h with ⟨h1, h2⟩ | h1
    · exact .inl ⟨List.mem_cons_of_mem _ h1, h2⟩
    · unfold stepRow at h1
      by_cases hp : fitsRow x p = true
      · rw [if_pos hp] at h1
        cases f with
        | none => injection h1 with h1; subst h1; exact .inl ⟨List.mem_cons_self, hp⟩
        | some g =>
          have h1 : (if g.beg.length < p.beg.length then some p else some g) = some q := h1
          split at h1
          · injection h1 with h1; subst h1; exact .inl ⟨List.mem_cons_self, hp⟩
          · exact .inr h1
      · rw [if_neg hp] at h1; exact .inr h1
theorem rowOf_mem {rs : List Row} {x : List Nat} {q : Row} (h : rowOf rs x = some q) : q ∈ rs ∧ fitsRow x q = true := (fold_mem rs none q h).elim id fun z => by cases z
theorem landOf_mem {b : List Land} {c : List Nat} {l : Land} (h : landOf b c = some l) : l ∈ b ∧ l.code = c := by
  unfold landOf at h
  exact ⟨List.mem_of_find?_eq_some h, by have := List.find?_some h; exact of_decide_eq_true this⟩
theorem codes_nodup {b : List Land} (hb : BookOk b) : (b.map Land.code).Nodup := hb.pw.imp fun {x y} h e => by
  rw [e] at h
  exact List.lt_irrefl _ h.1
theorem landOf_of {b : List Land} (hb : BookOk b) {l : Land} (h : l ∈ b) : landOf b l.code = some l := by
  unfold landOf
  have hn := codes_nodup hb
  clear hb
  induction b with
  | nil => cases h
  | cons a r ih =>
    rw [List.map_cons, List.nodup_cons] at hn
    rcases List.mem_cons.mp h with rfl | h
    · rw [List.find?_cons_of_pos (by simp)]
    · rw [List.find?_cons_of_neg (by
        simp only [decide_eq_true_eq]
        exact fun e => hn.1 (by rw [e]; exact List.mem_map.mpr ⟨l, h, rfl⟩))]
      exact ih h hn.2
/-! ### the law's numbers -/
theorem idx_map {α : Type} {f : α → D} {as : List α} (h : as ≠ []) (k : Int) : ∃ a ∈ as, mIdx (.tuple (as.map f)) (.int (k % (as.length : Int))) = .ok (f a) := by
  obtain ⟨d, hd, e⟩ := idx_tuple (xs := as.map f) (by simpa using h) k
  obtain ⟨a, ha, rfl⟩ := List.mem_map.mp hd
  rw [List.length_map] at e
  exact ⟨a, ha, e⟩
theorem str_digit (n : Nat) (h : n < 10) : mStr [.int (n : Int)] = okS (S [48 + n]) := by
  match n, h with
  | 0, _ => rfl
  | 1, _ => rfl
  | 2, _ => rfl
  | 3, _ => rfl
  | 4, _ => rfl
  | 5, _ => rfl
  | 6, _ => rfl
  | 7, _ => rfl
  | 8, _ => rfl
  | 9, _ => rfl
def digN (m : Int) (j : Nat) : Nat := (drawn m j / 8 % (if m % 2 = 0 then 10 else 3)).toNat
theorem digN_lt (m : Int) (j : Nat) : digN m j < 10 := by
  unfold digN
  split
  · have := modN (drawn m j / 8) (show (0 : Int) < 10 by decide); omega
  · have := modN (drawn m j / 8) (show (0 : Int) < 3 by decide); omega
theorem digN_eq (m : Int) (j : Nat) : (digN m j : Int) = drawn m j / 8 % (if m % 2 = 0 then 10 else 3) := by
  unfold digN
  split
  · have := modN (drawn m j / 8) (show (0 : Int) < 10 by decide); omega
  · have := modN (drawn m j / 8) (show (0 : Int) < 3 by decide); omega
theorem asSs_map {α : Type} (f : α → Str) : ∀ as : List α, asSs (as.map fun a => .str (f a)) = some (as.map f)
  | [] => rfl
  | a :: r => by
    show (asSs (r.map fun a => .str (f a))).map (f a :: ·) = _
    rw [asSs_map f r]; rfl
theorem join_empty (ls : List (List Nat)) : Txt.join ("" : Str) (ls.map S) = S ls.flatten := by
    show PySem.Builtin.Str.glued ("" : Str) (ls.map S) = _
    rw [StrLaws.glued_eq_join]
    induction ls with
    | nil => rfl
    | cons a r ih =>
      cases r with
      | nil => show S a = S (a ++ []); rw [List.append_nil]
      | cons c t =>
        show S a ++ ("" : Str) ++ Str.join "" ((c :: t).map S) = _
        have e : S a ++ ("" : Str) = S a := by rw [← S_nil, S_app, List.append_nil]
        rw [ih, e, S_app]
        rfl
def digs (m : Int) (n : Nat) : List Nat := (List.range n).map fun j => 48 + digN m j
theorem digs_len (m : Int) (n : Nat) : (digs m n).length = n := by unfold digs; rw [List.length_map, List.length_range]
theorem digs_digs (m : Int) (n : Nat) : Digs (digs m n) := fun c hc => by
  unfold digs at hc
  obtain ⟨j, _, rfl⟩ := List.mem_map.mp hc
  have := digN_lt m j
  omega
theorem ty_str : tyD "str" (.str x) = true := (rfl)
theorem rng_int (n : Int) (h0 : 0 ≤ n) (h : n ≤ 1000) : rng1 [.int n] = .ok (rangeL 0 n) := by
  show (if _ then R.ok (rangeL 0 n) else .no) = _
  rw [if_pos (by
    unfold small62
    simp only [Bool.and_eq_true, decide_eq_true_eq, sizeLine_eq]
    omega)]
theorem rng_nat (n : Nat) (h : n ≤ 1000) : rng1 [.int (n : Int)] = .ok ((List.range n).map fun j => .int (j : Nat)) := by
  rw [rng_int (n : Int) (by omega) (by omega)]
  unfold rangeL
  simp
theorem two_idx (m : Int) : mIdx (.list [.int 10, .int 3]) (.int (m % 2)) = okI (if m % 2 = 0 then 10 else 3) := by
  have h := modN m (show (0 : Int) < 2 by decide)
  have : m % 2 = 0 ∨ m % 2 = 1 := by omega
  rcases this with e | e <;> rw [e] <;> rfl
theorem flat_single (f : Nat → Nat) : ∀ js : List Nat, (js.map fun j => [f j]).flatten = js.map f
  | [] => rfl
  | j :: js => by rw [List.map_cons, List.flatten_cons, flat_single f js]; rfl
theorem mJoin_ok {a : Str} {ds : List D} {ys : List Str} (e : asSs ds = some ys) (h : (ys.map fun y : Str => y.length).sum + ys.length * a.length ≤ 16777216) : mJoin (.str a) [.list ds] = okS (Txt.join a ys) := by
  unfold mJoin
  simp only [e]
  exact if_pos h
theorem sum_ones (f : Nat → Nat) : ∀ js : List Nat, ((js.map fun j => S [f j]).map fun y : Str => y.length).sum = js.length
  | [] => rfl
  | j :: js => by
    rw [List.map_cons, List.map_cons, List.sum_cons, sum_ones f js, List.length_cons, S_len]
    exact Nat.add_comm _ _
theorem join_digits (f : Nat → Nat) (js : List Nat) (h : js.length ≤ 1000) : mJoin (.str "") [.list (js.map fun j => .str (S [f j]))] = okS (S (js.map f)) := by
  rw [mJoin_ok (asSs_map (fun j => S [f j]) js) ?_]
  · have e : (js.map fun j => S [f j]) = (js.map fun j => [f j]).map S := by rw [List.map_map]; rfl
    rw [e, join_empty, flat_single]
  · rw [sum_ones f js]
    have e0 : ("" : Str).length = 0 := rfl
    rw [e0, Nat.mul_zero, Nat.add_zero]
    exact Nat.le_trans h (by decide)
theorem digit_den (m : Int) (d : D) (j : Nat) : eCallB mStr (aCons (eBin mMod (eBin mFdiv (eCall (ar 2 m__law_drawn) (aCons (eVar 0) (aCons (eVar 2) (aNil)))) (eC (.int 8))) (eBin mIdx (eLst (aCons (eC (.int 10)) (aCons (eC (.int 3)) (aNil)))) (eBin mMod (eVar 0) (eC (.int 2))))) (aNil)) [.dat (.int m), .dat d, .dat (.int (j : Nat))] = .ok (.str (S [48 + digN m j])) := by
  have hpos : (0 : Int) < (if m % 2 = 0 then 10 else 3) := by split <;> decide
  simp_arith [p_drawn, two_idx, hpos, ← digN_eq]
  exact str_digit _ (digN_lt m j)
theorem p_digits (m : Int) (r : Row) (hr : r.Ok) : m__law_digits [.int m, r.d] = okS (S (r.beg ++ digs m (r.size - r.beg.length))) := by
  unfold m__law_digits den__law_digits
  show fin (sRet _ [.dat (.int m), .dat r.d, .no]) = _
  have hsub : (r.size : Int) - (r.beg.length : Int) = ((r.size - r.beg.length : Nat) : Int) := by have := hr.less; omega
  have hfew : r.size - r.beg.length ≤ 1000 := by have := hr.hi; omega
  simp_arith [idx_rowBeg]
  rw [lc_map (List.range (r.size - r.beg.length)) (fun j => .int (j : Nat)) (fun j => .str (S [48 + digN m j])) (by simp_arith [idx_rowBeg, idx_rowSize, S_len, hsub, rng_nat _ hfew]) (fun j hj => by
    exact ⟨_, rfl, digit_den m r.d j⟩)]
  have hj := join_digits (fun j => 48 + digN m j) (List.range (r.size - r.beg.length)) (by rw [List.length_range]; exact hfew)
  have hadd := add_S (a := r.beg) (b := digs m (r.size - r.beg.length)) (by rw [digs_len]; have := hr.few; omega)
  unfold digs at hadd ⊢
  simp_arith [ty_S, hj, hadd]
/-- a number that the law drew -/
structure Drawn (b : List Land) (c x : List Nat) (l : Land) (r : Row) : Prop where
  land : l ∈ b
  row : r ∈ l.rows
  code : l.code = c
  digs : Digs x
  size : x.length = r.size
  beg : r.beg <+: x
theorem digs_app {a b : List Nat} (h1 : Digs a) (h2 : Digs b) : Digs (a ++ b) := fun c hc => (List.mem_append.mp hc).elim (h1 c) (h2 c)
theorem p_number {b : List Land} (hb : BookOk b) (m : Int) : ∃ c x l r, m__law_number [bookD b, .int m] = .ok (numD (c, x)) ∧ Drawn b c x l r := by
  have hne : b ≠ [] := fun z => by have := hb.one; rw [z] at this; cases this
  obtain ⟨l, hl, e1⟩ := idx_map (f := Land.d) hne m
  have L := hb.land l hl
  have hrne : l.rows ≠ [] := fun z => by have := L.rows1; rw [z] at this; cases this
  obtain ⟨r, hr, e2⟩ := idx_map (f := Row.d) hrne (m / 8)
  have Rk := L.row r hr
  have hd := p_digits (drawn m 1) r Rk
  refine ⟨l.code, r.beg ++ MC.digs (drawn m 1) (r.size - r.beg.length), l, r, ?_, hl, hr, rfl, digs_app Rk.beg (digs_digs _ _), ?_, List.prefix_append _ _⟩
  · unfold m__law_number den__law_number
    show fin (sSeq _ _ [.dat (bookD b), .dat (.int m), .no]) = _
    have p1 : (0 : Int) < (b.length : Int) := by have := hb.one; omega
    have p2 : (0 : Int) < (l.rows.length : Int) := by have := L.rows1; omega
    unfold bookD at *
    simp_arith [List.length_map, p1, e1, idx_landCode, idx_landRows, p2, e2, p_drawn, hd]
    rfl
  · rw [List.length_append, digs_len]
    have := Rk.less
    omega
theorem Drawn.isNum {b : List Land} (hb : BookOk b) {c x : List Nat} {l : Land} {r : Row} (h : Drawn b c x l r) : ∃ q, IsNum b c x l q := by
  obtain ⟨q, hq⟩ := rowOf_some (x := x) h.row (by unfold fitsRow; rw [decide_eq_true h.size, decide_eq_true h.beg]; rfl)
  have Rk := (hb.land l h.land).row r h.row
  exact ⟨q, by rw [← h.code]; exact landOf_of hb h.land, hq, h.digs, by rw [h.size]; exact Rk.lo, by rw [h.size]; exact Rk.hi⟩
end MC
set_option Elab.async false
set_option linter.all false
set_option maxRecDepth 100000
set_option maxHeartbeats 2000000
/-! general: same data, sorted numbers, the longest -/
namespace DL
open PySem L2
structure Sm (k : Nat) (d : D) : Prop where
  plain : d.plain = true
  depth : d.depth ≤ k
theorem Sm.up {k m : Nat} {d : D} (h : Sm k d) (hm : k ≤ m) : Sm m d := ⟨h.plain, Nat.le_trans h.depth hm⟩
theorem sm_str (k : Nat) (x : Str) : Sm k (.str x) := ⟨rfl, Nat.zero_le _⟩
theorem sm_int (k : Nat) (x : Int) : Sm k (.int x) := ⟨rfl, Nat.zero_le _⟩
theorem sm_none (k : Nat) : Sm k .none := ⟨rfl, Nat.zero_le _⟩
theorem sm_bool (k : Nat) (b : Bool) : Sm k (.bool b) := ⟨rfl, Nat.zero_le _⟩
theorem sms {k : Nat} : ∀ {ds : List D}, (∀ d ∈ ds, Sm k d) → PyData.plainAll ds = true ∧ PyData.depthAll ds ≤ k
  | [], _ => ⟨rfl, Nat.zero_le _⟩
  | d :: r, h => by
    obtain ⟨h1, h2⟩ := sms (ds := r) fun x hx => h x (List.mem_cons_of_mem _ hx)
    have h3 := h d List.mem_cons_self
    simp only [PyData.plainAll, PyData.depthAll, h1, h3.plain, Bool.and_self, true_and]
    exact Nat.max_le.mpr ⟨h3.depth, h2⟩
theorem sm_list {k : Nat} {ds : List D} (h : ∀ d ∈ ds, Sm k d) : Sm (k + 1) (.list ds) := by
  obtain ⟨h1, h2⟩ := sms h
  exact ⟨by simp only [PyData.plain, h1], by simp only [PyData.depth]; omega⟩
theorem sm_tup {k : Nat} {ds : List D} (h : ∀ d ∈ ds, Sm k d) : Sm (k + 1) (.tuple ds) := by
  obtain ⟨h1, h2⟩ := sms h
  exact ⟨by simp only [PyData.plain, h1], by simp only [PyData.depth]; omega⟩
theorem Sm.ok {k : Nat} {d : D} (h : Sm k d) (hk : k ≤ 60 := by decide) : dOk d = true := decide_eq_true (Nat.le_trans h.depth hk)
theorem ne_self {k : Nat} {d : D} (h : Sm k d) (hk : k ≤ 60 := by decide) : mNe d d = okB false := by
  unfold mNe
  rw [if_pos (by rw [h.ok hk]; rfl), PySem.SeqAt.eqv_refl_plain d h.plain]
  rfl
theorem eq_self_ {k : Nat} {d : D} (h : Sm k d) (hk : k ≤ 60 := by decide) : mEq d d = okB true := by
  unfold mEq
  rw [if_pos (by rw [h.ok hk]; rfl), PySem.SeqAt.eqv_refl_plain d h.plain]
/-! ### sorted numbers -/
theorem sorted_ints (ns : List Int) : mSorted [.list (ns.map .int)] = .ok (.list ((ns.mergeSort fun a b => decide (a ≤ b)).map .int)) := by
  have hok : sortOk (ns.map .int) = true := by
    unfold sortOk alikeB
    simp only [Bool.and_eq_true, Bool.or_eq_true, List.all_eq_true, List.mem_map]
    refine ⟨⟨?_, .inr ?_⟩, ?_⟩
    · rintro d ⟨a, _, rfl⟩ e ⟨b, _, rfl⟩; rfl
    · rintro d ⟨a, _, rfl⟩; rfl
    · rintro d ⟨a, _, rfl⟩; rfl
  show (if sortOk (ns.map .int) = true then R.ok (PyData.list ((ns.map PyData.int).mergeSort (PySem.W.dataLe false (fun d : D => d)))) else .no) = _
  rw [if_pos hok, List.map_mergeSort (r := fun a b => decide (a ≤ b)) (s := PySem.W.dataLe false (fun d : D => d)) (f := PyData.int)]
  intro a _ b _
  have e := congrFun (congrFun (PySem.W.dataLe_int (fun s : Int => s)) a) b
  exact e.symm
theorem sort_eq {ns ms : List Int} (hp : ns.Perm ms) (hs : ms.Pairwise (· ≤ ·)) : (ns.mergeSort fun a b => decide (a ≤ b)) = ms := by
  have h1 := List.pairwise_mergeSort (le := fun a b : Int => decide (a ≤ b)) (fun a b c h1 h2 => by simp only [decide_eq_true_eq] at *; omega) (fun a b => by simp only [Bool.or_eq_true, decide_eq_true_eq]; omega) ns
  have h1 : (ns.mergeSort fun a b => decide (a ≤ b)).Pairwise (· ≤ ·) := h1.imp fun h => of_decide_eq_true h
  exact List.Perm.eq_of_pairwise (le := (· ≤ ·)) (fun a b _ _ h1 h2 => Int.le_antisymm h1 h2) h1 hs ((List.mergeSort_perm ns _).trans hp)
/-! ### the first of the longest -/
def bestStep {α : Type} (len : α → Nat) (p : α → Bool) (f : Option α) (a : α) : Option α :=
  if p a then (match f with
    | none => some a
    | some q => if len q < len a then some a else some q) else f
theorem best_spec {α : Type} {len : α → Nat} {p : α → Bool} : ∀ (as : List α) (f : Option α), match as.foldl (bestStep len p) f with
    | none => f = none ∧ ∀ a ∈ as, p a = false
    | some m => ((m ∈ as ∧ p m = true) ∨ f = some m) ∧ (∀ a ∈ as, p a = true → len a ≤ len m) ∧ (∀ q, f = some q → len q ≤ len m)
  | [], f => by
    cases f with
    | none => exact ⟨rfl, fun a ha => by cases ha⟩
    | some m => exact ⟨.inr rfl, (fun a ha => by cases ha), (fun q e => by injection e with e; rw [e]; exact Nat.le_refl _)⟩
  | a :: as, f => by
    have ih := best_spec (len := len) (p := p) as (bestStep len p f a)
    rw [List.foldl_cons]
    have hstep : (p a = false ∧ bestStep len p f a = f) ∨ (p a = true ∧ ∃ m, bestStep len p f a = some m ∧ len a ≤ len m ∧ (m = a ∨ f = some m) ∧ ∀ q, f = some q → len q ≤ len m) := by
      unfold bestStep
      cases hp : p a with
      | false => exact .inl ⟨rfl, rfl⟩
      | true =>
        refine .inr ⟨rfl, ?_⟩
        cases f with
        | none => exact ⟨a, rfl, Nat.le_refl _, .inl rfl, fun q e => by cases e⟩
        | some q =>
          by_cases h : len q < len a
          · refine ⟨a, ?_, Nat.le_refl _, .inl rfl, fun q' e => ?_⟩
            · show (if len q < len a then some a else some q) = _
              rw [if_pos h]
            · injection e with e; subst e; omega
          · refine ⟨q, ?_, by omega, .inr rfl, fun q' e => ?_⟩
            · show (if len q < len a then some a else some q) = _
              rw [if_neg h]
            · injection e with e; subst e; exact Nat.le_refl _
    cases hr : as.foldl (bestStep len p) (bestStep len p f a) with
    | none =>
      rw [hr] at ih
      obtain ⟨i1, i2⟩ := ih
      rcases hstep with ⟨s1, s2⟩ | ⟨s1, m, s2, _⟩
      · exact ⟨s2 ▸ i1, fun x hx => (List.mem_cons.mp hx).elim (fun e => e ▸ s1) (i2 x)⟩
      · rw [s2] at i1; cases i1
    | some m =>
      rw [hr] at ih
      obtain ⟨i1, i2, i3⟩ := ih
      rcases hstep with ⟨s1, s2⟩ | ⟨s1, q, s2, s3, s4, s5⟩
      · rw [s2] at i1 i3
        refine ⟨i1.elim (fun z => .inl ⟨List.mem_cons_of_mem _ z.1, z.2⟩) .inr, fun x hx hpx => ?_, i3⟩
        rcases List.mem_cons.mp hx with rfl | hx
        · rw [s1] at hpx; cases hpx
        · exact i2 x hx hpx
      · have hq := i3 q s2
        refine ⟨?_, fun x hx hpx => ?_, fun y ey => Nat.le_trans (s5 y ey) hq⟩
        · rcases i1 with z | z
          · exact .inl ⟨List.mem_cons_of_mem _ z.1, z.2⟩
          · rw [s2] at z
            injection z with z
            subst z
            rcases s4 with rfl | s4
            · exact .inl ⟨List.mem_cons_self, s1⟩
            · exact .inr s4
        · rcases List.mem_cons.mp hx with rfl | hx
          · omega
          · exact i2 x hx hpx
def best {α : Type} (len : α → Nat) (p : α → Bool) (as : List α) : Option α := as.foldl (bestStep len p) none
theorem best_some {α : Type} {len : α → Nat} {p : α → Bool} {as : List α} {m : α} (h : best len p as = some m) : m ∈ as ∧ p m = true ∧ ∀ a ∈ as, p a = true → len a ≤ len m := by
  have := best_spec (len := len) (p := p) as none
  unfold best at h
  rw [h] at this
  obtain ⟨h1, h2, _⟩ := this
  rcases h1 with h1 | h1
  · exact ⟨h1.1, h1.2, h2⟩
  · cases h1
theorem best_none {α : Type} {len : α → Nat} {p : α → Bool} {as : List α} (h : best len p as = none) : ∀ a ∈ as, p a = false := by
  have := best_spec (len := len) (p := p) as none
  unfold best at h
  rw [h] at this
  exact this.2
theorem best_of {α : Type} {len : α → Nat} {p : α → Bool} {as : List α} (inj : ∀ a ∈ as, ∀ b ∈ as, p a = true → p b = true → len a = len b → a = b) {m : α} (hm : m ∈ as) (hp : p m = true) (hl : ∀ a ∈ as, p a = true → len a ≤ len m) : best len p as = some m := by
  cases h : best len p as with
  | none => rw [best_none h m hm] at hp; cases hp
  | some q =>
    obtain ⟨h1, h2, h3⟩ := best_some h
    have := h3 m hm hp
    have := hl q h1 h2
    rw [inj q h1 m hm h2 hp (by omega)]
theorem best_perm {α : Type} {len : α → Nat} {p : α → Bool} {as bs : List α} (inj : ∀ a ∈ as, ∀ b ∈ as, p a = true → p b = true → len a = len b → a = b) (h : ∀ a, a ∈ as ↔ a ∈ bs) : best len p bs = best len p as := by
  cases e : best len p as with
  | none =>
    cases e2 : best len p bs with
    | none => rfl
    | some m =>
      obtain ⟨h1, h2, _⟩ := best_some e2
      rw [best_none e m ((h m).mpr h1)] at h2
      cases h2
  | some m =>
    obtain ⟨h1, h2, h3⟩ := best_some e
    exact best_of (fun a ha b hb => inj a ((h a).mpr ha) b ((h b).mpr hb)) ((h m).mp h1) h2 fun a ha => h3 a ((h a).mpr ha)
theorem pre_same {a b x : List Nat} (h1 : a <+: x) (h2 : b <+: x) (hl : a.length = b.length) : a = b := by
  rw [List.prefix_iff_eq_take.mp h1, List.prefix_iff_eq_take.mp h2, hl]
end DL
namespace MC
open PySem L2 DL
theorem stepRow_eq (x : List Nat) : stepRow x = bestStep (fun r : Row => r.beg.length) (fitsRow x) := by
  funext f r
  unfold stepRow bestStep
  cases f <;> rfl
theorem rowOf_eq (rs : List Row) (x : List Nat) : rowOf rs x = best (fun r : Row => r.beg.length) (fitsRow x) rs := by
  unfold rowOf best
  rw [stepRow_eq]
theorem nodup_map_inj {α β : Type} {f : α → β} : ∀ {as : List α}, (as.map f).Nodup → ∀ a ∈ as, ∀ b ∈ as, f a = f b → a = b
  | [], _, a, ha, _, _, _ => by cases ha
  | x :: as, h, a, ha, b, hb, e => by
    rw [List.map_cons, List.nodup_cons] at h
    rcases List.mem_cons.mp ha with ea | ha
    · rcases List.mem_cons.mp hb with eb | hb
      · rw [ea, eb]
      · exact absurd (List.mem_map.mpr ⟨b, hb, by rw [← e, ea]⟩) h.1
    · rcases List.mem_cons.mp hb with eb | hb
      · exact absurd (List.mem_map.mpr ⟨a, ha, by rw [e, eb]⟩) h.1
      · exact nodup_map_inj h.2 a ha b hb e
theorem rows_inj {l : Land} (hl : l.Ok) (x : List Nat) : ∀ a ∈ l.rows, ∀ b ∈ l.rows, fitsRow x a = true → fitsRow x b = true → a.beg.length = b.beg.length → a = b := by
  intro a ha b hb h1 h2 he
  unfold fitsRow at h1 h2
  simp only [Bool.and_eq_true, decide_eq_true_eq] at h1 h2
  have e1 := pre_same h1.2 h2.2 he
  have e2 : a.size = b.size := by omega
  exact nodup_map_inj hl.nd a ha b hb (by show (a.beg, a.size) = (b.beg, b.size); rw [e1, e2])
end MC
set_option Elab.async false
set_option linter.all false
set_option maxRecDepth 100000
set_option maxHeartbeats 2000000
/-! moves -/
namespace MC
open PySem L2 DL
structure Move where
  code : List Nat
  beg : List Nat
  new : List Nat
def Move.d (m : Move) : D := .tuple [.str (S m.code), .str (S m.beg), .str (S m.new)]
structure GoodMove (b : List Land) (m : Move) : Prop where
  code : m.code ∈ b.map Land.code
  beg : Digs m.beg
  beg12 : m.beg.length ≤ 12
  new : Digs m.new
  new12 : m.new.length ≤ 12
theorem fig_S {l : List Nat} {lo hi : Int} (h : Digs l) (h1 : lo ≤ (l.length : Int)) (h2 : (l.length : Int) ≤ hi) : isFig (.str (S l)) lo hi = true := by
  unfold isFig
  simp only [figs_of h, S_len, decide_eq_true h1, decide_eq_true h2, Bool.and_self]
theorem p_is_move {b : List Land} {m : Move} (h : GoodMove b m) : m_is_move [bookD b, m.d] = okB true := by
  unfold m_is_move den_is_move Move.d
  show fin (sSeq _ _ [.dat (bookD b), .dat (.tuple [.str (S m.code), .str (S m.beg), .str (S m.new)]), .no]) = _
  have nn : mNe (.int (([.str (S m.code), .str (S m.beg), .str (S m.new)] : List D).length : Nat)) (.int 3) = okB false := by rw [ne_int]; rfl
  have hin : S m.code ∈ b.map fun l => S l.code := by
    obtain ⟨l, hl, e⟩ := List.mem_map.mp h.code
    exact List.mem_map.mpr ⟨l, hl, by rw [e]⟩
  have it : ∀ ds : List D, (PyData.tuple ds).isTuple = true := fun _ => rfl
  simp_arith [it, nn]
  rw [lc_map b Land.d (fun l => .str (S l.code)) (by rfl) (fun l hl => by exact ⟨_, rfl, rfl⟩)]
  have e : (b.map fun l => PyData.str (S l.code)) = (b.map fun l => S l.code).map .str := by rw [List.map_map]; rfl
  have hix : mIdx (.tuple [.str (S m.code), .str (S m.beg), .str (S m.new)]) (.int 2) = okS (S m.new) := (rfl)
  have g1 := h.beg12
  have g2 := h.new12
  have hf1 := fig_S (lo := 0) (hi := 12) h.beg (by omega) (by omega)
  have hf2 := fig_S (lo := 0) (hi := 12) h.new (by omega) (by omega)
  rw [e]
  simp_arith [notIn_strs, hin, hix, p_is_figures, hf1, hf2]
def keyM (m : Move) : NestedKey := .tup [.text (S m.code), .text (S m.beg)]
theorem keys_moves : ∀ ms : List Move, keysOf (ms.map fun m => PyData.tuple [.str (S m.code), .str (S m.beg)]) = some (ms.map keyM)
  | [] => rfl
  | m :: ms => by
    rw [List.map_cons, List.map_cons]
    unfold keysOf
    rw [keys_moves ms]
    rfl
theorem setLen_moves {ms : List Move} (h8 : ms.length ≤ 8) (hn : (ms.map fun m => (m.code, m.beg)).Nodup) : mSetLen (.list (ms.map fun m => .tuple [.str (S m.code), .str (S m.beg)])) = okI ms.length := by
  unfold mSetLen setKeys
  have h1 : ((ms.map fun m => PyData.tuple [.str (S m.code), .str (S m.beg)]).all isTupD) = true := by
    rw [List.all_map, List.all_eq_true]; intro _ _; rfl
  have h2 : ((ms.map keyM).all fun k => decide (k.depth ≤ 8)) = true := by
    rw [List.all_map, List.all_eq_true]; intro _ _; rfl
  have h3 : (decide ((ms.map fun m => PyData.tuple [.str (S m.code), .str (S m.beg)]).length < 64)) = true := decide_eq_true (by rw [List.length_map]; omega)
  simp only [keys_moves, Option.bind_some, h1, h2, h3, Bool.and_self, if_true]
  have hnd : (ms.map keyM).Nodup := by
    have e : ms.map keyM = (ms.map fun m => (m.code, m.beg)).map fun p => NestedKey.tup [.text (S p.1), .text (S p.2)] := by rw [List.map_map]; rfl
    rw [e]
    refine List.pairwise_map.mpr (hn.imp fun {p q} h e => h ?_)
    injection e with e
    injection e with e1 e2
    injection e2 with e2 _
    injection e1 with e1
    injection e2 with e2
    exact Prod.ext (S_inj.mp e1) (S_inj.mp e2)
  have := ddl_full.mpr hnd
  rw [this, List.length_map]
structure GoodMoves (b : List Land) (ms : List Move) : Prop where
  few : ms.length ≤ 8
  each : ∀ m ∈ ms, GoodMove b m
  nd : (ms.map fun m => (m.code, m.beg)).Nodup
theorem GoodMoves.rev {b : List Land} {ms : List Move} (h : GoodMoves b ms) : GoodMoves b ms.reverse :=
  ⟨by rw [List.length_reverse]; exact h.few, fun m hm => h.each m (List.mem_reverse.mp hm), by rw [List.map_reverse]; exact List.pairwise_reverse.mpr (h.nd.imp fun h e => h e.symm)⟩
theorem GoodMoves.nil (b : List Land) : GoodMoves b [] := ⟨Nat.zero_le _, (fun m hm => by cases hm), List.nodup_nil⟩
theorem all_true {α : Type} {p : α → Bool} {as : List α} (h : ∀ a ∈ as, p a = true) : as.all p = true := List.all_eq_true.mpr h
theorem p_need_moves {b : List Land} (hb : isBook (bookD b) = true) {ms : List Move} (h : GoodMoves b ms) : m_need_moves [bookD b, .list (ms.map Move.d)] = .ok .none := by
  unfold m_need_moves den_need_moves
  show fin (sSeq _ _ [.dat (bookD b), .dat (.list (ms.map Move.d)), .no, .no]) = _
  have il : ∀ ds : List D, (PyData.list ds).isList = true := fun _ => rfl
  have h8 : ((ms.map Move.d).length : Int) ≤ 8 := by rw [List.length_map]; have := h.few; omega
  simp_arith [need_ok hb, il, h8]
  rw [lc_map ms Move.d (fun _ => .bool true) (by rfl) (fun m hm => by exact ⟨_, rfl, by
    show eCall _ _ [.dat (bookD b), .dat (.list (ms.map Move.d)), .no, .dat m.d] = _
    simp_arith [p_is_move (h.each m hm)]⟩)]
  have ha := all_bools (fun _ : Move => true) ms
  rw [all_true (fun _ _ => rfl)] at ha
  simp_arith [ha]
  rw [lc_map ms Move.d (fun m => .tuple [.str (S m.code), .str (S m.beg)]) (by rfl) (fun m hm => by exact ⟨_, rfl, rfl⟩)]
  have hl : ∀ n : Nat, mNe (.int (n : Int)) (.int (n : Int)) = okB false := fun n => by rw [ne_int, decide_eq_true rfl]; rfl
  simp_arith [setLen_moves h.few h.nd, List.length_map, hl]
/-! ### a number moved -/
def fitsMove (p : List Nat × List Nat) (m : Move) : Bool := decide (p.1 = m.code) && decide (m.beg <+: p.2)
def bestMove (ms : List Move) (p : List Nat × List Nat) : Option Move := best (fun m : Move => m.beg.length) (fitsMove p) ms
def movedOf (ms : List Move) (p : List Nat × List Nat) : List Nat × List Nat := match bestMove ms p with
  | none => p
  | some m => (p.1, m.new ++ p.2.drop m.beg.length)
def bestD (m : Move) : D := .tuple [.str (S m.beg), .str (S m.new)]
theorem isNon_tup (ds : List D) : DL.isNon (.tuple ds) = false := (rfl)
theorem isNon_best (m : Move) : DL.isNon (bestD m) = false := rfl
theorem idx_best0 (m : Move) : mIdx (bestD m) (.int 0) = okS (S m.beg) := (rfl)
theorem idx_best1 (m : Move) : mIdx (bestD m) (.int 1) = okS (S m.new) := (rfl)
theorem idx_num0 (p : List Nat × List Nat) : mIdx (numD p) (.int 0) = okS (S p.1) := (rfl)
theorem idx_num1 (p : List Nat × List Nat) : mIdx (numD p) (.int 1) = okS (S p.2) := (rfl)
theorem p_moved_of (ms : List Move) (p : List Nat × List Nat) (hp : p.2.length ≤ 1000) (hm : ∀ m ∈ ms, m.new.length ≤ 1000) : m_moved_of [.list (ms.map Move.d), numD p] = .ok (numD (movedOf ms p)) := by
  unfold m_moved_of den_moved_of
  show fin (sSeq _ _ [.dat (.list (ms.map Move.d)), .dat (numD p), .no, .no, .no, .no]) = _
  have hl : ∀ a b : Nat, decide ((a : Int) < (b : Int)) = decide (a < b) := fun a b => decide_eq_decide.mpr (by omega)
  simp_arith []
  rw [loop_fold (g := Move.d) (st := fun f : Option Move => [.dat (.list (ms.map Move.d)), .dat (numD p), .dat (optD (f.map bestD)), .no, .no, .no]) (f := bestStep (fun m : Move => m.beg.length) (fitsMove p)) (b := none) (by rfl) fun f m hm => by
    unfold bestStep fitsMove Move.d
    by_cases h1 : p.1 = m.code
    · by_cases h2 : m.beg <+: p.2
      · cases f with
        | none => simp_arith [idx_num0, idx_num1, eq_S, h1, starts_S, h2, ty_S, ev_is, optD, Option.map_none, Option.map_some, isNon_none, bestD]
        | some q =>
          by_cases h3 : q.beg.length < m.beg.length
          · simp_arith [idx_num0, idx_num1, eq_S, h1, starts_S, h2, ty_S, ev_is, optD, Option.map_none, Option.map_some, isNon_tup, idx_best0, S_len, hl, h3, bestD]
          · simp_arith [idx_num0, idx_num1, eq_S, h1, starts_S, h2, ty_S, ev_is, optD, Option.map_none, Option.map_some, isNon_best, idx_best0, S_len, hl, h3]
      · simp_arith [idx_num0, idx_num1, eq_S, h1, starts_S, h2, ty_S]
    · simp_arith [idx_num0, idx_num1, eq_S, h1]]
  have hf : ms.foldl (bestStep (fun m : Move => m.beg.length) (fitsMove p)) none = bestMove ms p := rfl
  rw [hf]
  unfold movedOf
  cases e : bestMove ms p with
  | none => simp_arith [Option.map_none, optD, ev_is, isNon_none]
  | some m =>
    have hn := hm m (best_some e).1
    have ha := add_S (a := m.new) (b := p.2.drop m.beg.length) (by rw [List.length_drop]; omega)
    simp_arith [Option.map_some, optD, ev_is, isNon_best, idx_num0, idx_num1, idx_best0, idx_best1, S_len, cut_drop, ha]
    rfl
theorem p_moved {b : List Land} (hb : isBook (bookD b) = true) {ms : List Move} (h : GoodMoves b ms) (p : List Nat × List Nat) (hp : hasN b (numD p) = true) : m_moved [bookD b, .list (ms.map Move.d), numD p] = .ok (numD (movedOf ms p)) := by
  unfold m_moved den_moved
  show fin (sSeq _ _ [.dat (bookD b), .dat (.list (ms.map Move.d)), .dat (numD p)]) = _
  have h1 := p_need_number hb (numD p)
  rw [if_pos hp] at h1
  obtain ⟨l, r, hn⟩ := hasN_num.mp hp
  have h2 := p_moved_of ms p (by have := hn.hi; omega) (fun m hm => by have := (h.each m hm).new12; omega)
  simp_arith [p_need_moves hb h, h1, h2]
/-! ### many numbers -/
abbrev Num := List Nat × List Nat
def at_ (ns : List Num) (i : Nat) : Num := ns.getD i ([], [])
theorem enum_num (ns : List Num) : enumL (ns.map numD) = (List.range ns.length).map fun i => .tuple [.int (i : Nat), numD (at_ ns i)] := by
  unfold enumL
  rw [List.length_map]
  refine List.map_congr_left fun i hi => ?_
  have hi := List.mem_range.mp hi
  have e : (ns.map numD).getD i .none = numD (at_ ns i) := by
    unfold at_
    rw [List.getD_eq_getElem?_getD, List.getElem?_map, List.getD_eq_getElem?_getD, List.getElem?_eq_getElem hi]
    rfl
  rw [e]
theorem idx_nums {ns : List Num} {i : Nat} (h : i < ns.length) : mIdx (.list (ns.map numD)) (.int (i : Nat)) = .ok (numD (at_ ns i)) := by
  show (match atI (ns.map numD) (i : Int) with
    | some d => R.ok d
    | none => .no) = _
  have : atI (ns.map numD) (i : Int) = some (numD (at_ ns i)) := by
    unfold atI ixN at_
    rw [if_pos (by omega), if_pos (by rw [List.length_map]; omega)]
    show (ns.map numD)[(i : Int).toNat]? = _
    rw [Int.toNat_natCast, List.getElem?_map, List.getD_eq_getElem?_getD, List.getElem?_eq_getElem h]
    rfl
  rw [this]
theorem eqv_num (p q : Num) : PyData.eqv (numD p) (numD q) = decide (p = q) := by
  unfold numD
  simp only [PyData.eqv, PyData.eqvAll, eqv_str, Bool.and_true]
  rw [Bool.eq_iff_iff, Bool.and_eq_true, beq_iff_eq, beq_iff_eq, decide_eq_true_eq, S_inj, S_inj]
  exact ⟨fun h => Prod.ext h.1 h.2, fun h => by rw [h]; exact ⟨rfl, rfl⟩⟩
theorem eq_num (p q : Num) : mEq (numD p) (numD q) = okB (decide (p = q)) := by
  unfold mEq
  rw [if_pos (by rfl), eqv_num]
theorem ne_num (p q : Num) : mNe (numD p) (numD q) = okB (!decide (p = q)) := by
  unfold mNe
  rw [if_pos (by rfl), eqv_num]
def sharedB (ns fs : List Num) (i : Nat) : Bool := (List.range fs.length).any fun o => decide (at_ fs o = at_ fs i) && !decide (at_ ns o = at_ ns i)
theorem p_is_shared {ns fs : List Num} {i : Nat} (hl : ns.length = fs.length) (hi : i < fs.length) (hs : fs.length ≤ 1000) : m_is_shared [.list (ns.map numD), .list (fs.map numD), .int (i : Nat)] = okB (sharedB ns fs i) := by
  unfold m_is_shared den_is_shared
  show fin (sRet _ [.dat (.list (ns.map numD)), .dat (.list (fs.map numD)), .dat (.int (i : Nat)), .no]) = _
  simp_arith []
  rw [lc_map (List.range fs.length) (fun o => .int (o : Nat)) (fun o => .bool (decide (at_ fs o = at_ fs i) && !decide (at_ ns o = at_ ns i))) (by simp_arith [List.length_map, rng_nat _ hs]) (fun o ho => by
    have ho := List.mem_range.mp ho
    refine ⟨_, rfl, ?_⟩
    show eAnd _ _ [.dat (.list (ns.map numD)), .dat (.list (fs.map numD)), .dat (.int (i : Nat)), .dat (.int (o : Nat))] = _
    simp_arith [idx_nums hi, idx_nums ho, idx_nums (ns := ns) (i := i) (by omega), idx_nums (ns := ns) (i := o) (by omega), eq_num, ne_num]
    cases decide (at_ fs o = at_ fs i) <;> rfl)]
  simp_arith [any_bools]
  rfl
def lostOf (b : List Land) (fs : List Num) : List Nat := (List.range fs.length).filter fun i => !hasN b (numD (at_ fs i))
def metOf (ns fs : List Num) : List Nat := (List.range fs.length).filter (sharedB ns fs)
def intsD (js : List Nat) : D := .list (js.map fun j => .int (j : Nat))
def allD (b : List Land) (ns fs : List Num) : D := .tuple [.list (fs.map numD), intsD (lostOf b fs), intsD (metOf ns fs)]
theorem p_all_moved {b : List Land} (hb : isBook (bookD b) = true) {ms : List Move} (h : GoodMoves b ms) (ns : List Num) (hn : ∀ p ∈ ns, hasN b (numD p) = true) (hs : ns.length ≤ 1000) : m_all_moved [bookD b, .list (ms.map Move.d), .list (ns.map numD)] = .ok (allD b ns (ns.map (movedOf ms))) := by
  unfold m_all_moved den_all_moved
  show fin (sSeq _ _ [.dat (bookD b), .dat (.list (ms.map Move.d)), .dat (.list (ns.map numD)), .no, .no, .no, .no, .no]) = _
  simp_arith [p_need_moves hb h]
  rw [loop_fold (g := numD) (st := fun x : Sl => [.dat (bookD b), .dat (.list (ms.map Move.d)), .dat (.list (ns.map numD)), x, .no, .no, .no, .no]) (f := fun _ p => .dat (numD p)) (b := .no) (by rfl) fun x p hp => by
    have h1 := p_need_number hb (numD p)
    rw [if_pos (hn p hp)] at h1
    simp_arith [h1]]
  generalize ns.foldl (fun _ p => Sl.dat (numD p)) Sl.no = x3
  simp_arith []
  rw [lc_map ns numD (fun p => numD (movedOf ms p)) (by rfl) (fun p hp => by
    refine ⟨_, rfl, ?_⟩
    show eCall _ _ [.dat (bookD b), .dat (.list (ms.map Move.d)), .dat (.list (ns.map numD)), .dat (numD p), .no, .no, .no, .no] = _
    obtain ⟨l, r, hN⟩ := hasN_num.mp (hn p hp)
    simp_arith [p_moved_of ms p (by have := hN.hi; omega) (fun m hm => by have := (h.each m hm).new12; omega)])]
  have hf : (ns.map fun p => numD (movedOf ms p)) = (ns.map (movedOf ms)).map numD := by rw [List.map_map]; rfl
  have hlen : (ns.map (movedOf ms)).length = ns.length := List.length_map _
  rw [hf]
  generalize hfs : ns.map (movedOf ms) = fs at hlen
  simp_arith []
  rw [lc_filter (List.range fs.length) (fun i => .tuple [.int (i : Nat), numD (at_ fs i)]) (fun i => .int (i : Nat)) (fun i => !hasN b (numD (at_ fs i))) (by simp_arith [enum_num]) (fun i hi => by
    refine ⟨_, ev_gTp2 _ _ _ _ _, ?_, fun _ => rfl⟩
    show tNt _ [.dat (bookD b), .dat (.list (ms.map Move.d)), .dat (.list (ns.map numD)), x3, .dat (.list (fs.map numD)), .no, .dat (.int (i : Nat)), .dat (numD (at_ fs i))] = _
    simp_arith [p_has_number])]
  simp_arith []
  rw [lc_filter (List.range fs.length) (fun i => .tuple [.int (i : Nat), numD (at_ fs i)]) (fun i => .int (i : Nat)) (sharedB ns fs) (by simp_arith [enum_num]) (fun i hi => by
    have hi := List.mem_range.mp hi
    refine ⟨_, ev_gTp2 _ _ _ _ _, ?_, fun _ => rfl⟩
    show tVal _ [.dat (bookD b), .dat (.list (ms.map Move.d)), .dat (.list (ns.map numD)), x3, .dat (.list (fs.map numD)), _, .dat (.int (i : Nat)), .dat (numD (at_ fs i))] = _
    simp_arith [p_is_shared hlen.symm hi (by omega)])]
  simp_arith []
  rfl
/-! ### the law's moves -/
theorem digs_take {l : List Nat} (h : Digs l) (n : Nat) : Digs (l.take n) := fun c hc => h c (List.mem_of_mem_take hc)
theorem six_idx (x : List Nat) (hx : Digs x) (m : Int) : ∃ n : List Nat, mIdx (.list [.str "", .str "5", .str "70", .str (S (x.take 1)), .str "1", .str "12"]) (.int (m % 6)) = .ok (.str (S n)) ∧ Digs n ∧ n.length ≤ 2 := by
  have h := modN m (show (0 : Int) < 6 by decide)
  have : m % 6 = 0 ∨ m % 6 = 1 ∨ m % 6 = 2 ∨ m % 6 = 3 ∨ m % 6 = 4 ∨ m % 6 = 5 := by omega
  rcases this with e | e | e | e | e | e <;> rw [e]
  · exact ⟨[], rfl, (by intro c hc; cases hc), by decide⟩
  · exact ⟨[53], rfl, (by intro c hc; simp at hc; omega), by decide⟩
  · exact ⟨[55, 48], rfl, (by intro c hc; simp at hc; omega), by decide⟩
  · exact ⟨x.take 1, rfl, digs_take hx 1, by rw [List.length_take]; omega⟩
  · exact ⟨[49], rfl, (by intro c hc; simp at hc; omega), by decide⟩
  · exact ⟨[49, 50], rfl, (by intro c hc; simp at hc; omega), by decide⟩
def pairM (m : Move) : D := .tuple [.str (S m.code), .str (S m.beg)]
theorem eqv_pairM (a b : Move) : PyData.eqv (pairM a) (pairM b) = decide ((a.code, a.beg) = (b.code, b.beg)) := eqv_num (a.code, a.beg) (b.code, b.beg)
theorem notIn_pairs (ms : List Move) (m : Move) : mNotIn (pairM m) (.list (ms.map pairM)) = okB (!decide ((m.code, m.beg) ∈ ms.map fun m => (m.code, m.beg))) := by
  show ((if dOk (pairM m) then R.ok ((ms.map pairM).any fun y => PyData.eqv y (pairM m)) else .no).bind fun b => okB (!b)) = _
  rw [if_pos (by rfl)]
  show okB _ = okB _
  congr 3
  rw [Bool.eq_iff_iff, List.any_map, List.any_eq_true, decide_eq_true_eq, List.mem_map]
  constructor
  · rintro ⟨y, hy, e⟩
    have e : PyData.eqv (pairM y) (pairM m) = true := e
    rw [eqv_pairM] at e
    exact ⟨y, hy, of_decide_eq_true e⟩
  · rintro ⟨y, hy, e⟩
    exact ⟨y, hy, by show PyData.eqv (pairM y) (pairM m) = true; rw [eqv_pairM]; exact decide_eq_true e⟩
theorem p_moves {b : List Land} (hb : BookOk b) (m : Int) : ∃ ms : List Move, m__law_moves [bookD b, .int m] = .ok (.list (ms.map Move.d)) ∧ GoodMoves b ms := by
  unfold m__law_moves den__law_moves
  show ∃ ms : List Move, fin (sSeq _ _ [.dat (bookD b), .dat (.int m), .no, .no, .no, .no, .no, .no]) = .ok (.list (ms.map Move.d)) ∧ GoodMoves b ms
  have h6 := modN m (show (0 : Int) < 6 by decide)
  obtain ⟨n, hn⟩ : ∃ n : Nat, (n : Int) = m % 6 := ⟨(m % 6).toNat, by omega⟩
  have e0 : sNewM 2 aNil [.dat (bookD b), .dat (.int m), .no, .no, .no, .no, .no, .no] = .nx [.dat (bookD b), .dat (.int m), .ml [], .no, .no, .no, .no, .no] := rfl
  rw [sSeq_nx e0]
  refine seq_loop (fun f => ∃ ms : List Move, fin f = .ok (.list (ms.map Move.d)) ∧ GoodMoves b ms) (List.range n) (fun j => .int (j : Nat)) (fun ms : List Move => [.dat (bookD b), .dat (.int m), .ml (ms.map Move.d), .no, .no, .no, .no, .no]) (fun ms n => GoodMoves b ms ∧ ms.length + n ≤ 8) [] ?_ rfl ⟨GoodMoves.nil b, by rw [List.length_range, List.length_nil]; omega⟩ ?_ ?_
  · have hr := rng_nat n (by omega)
    simp_arith [← hn, hr]
  · intro j hj ms k hJ
    obtain ⟨G, hk⟩ := hJ
    obtain ⟨c, x, l, r, en, dn⟩ := p_number hb (drawn m (10 + (j : Int)))
    obtain ⟨nw, e6, d6, l6⟩ := six_idx x dn.digs (drawn m (10 + (j : Int)) / 64)
    have h4 := modN (drawn m (10 + (j : Int)) / 8) (show (0 : Int) < 4 by decide)
    obtain ⟨t, ht⟩ : ∃ t : Nat, (t : Int) = drawn m (10 + (j : Int)) / 8 % 4 := ⟨(drawn m (10 + (j : Int)) / 8 % 4).toNat, by omega⟩
    obtain ⟨mv, hmv⟩ : ∃ mv : Move, mv = ⟨c, x.take t, nw⟩ := ⟨_, rfl⟩
    have c1 := cut_take x 1
    have c1 : cutD x none (some 1) = x.take 1 := c1
    have gm : GoodMove b mv := by
      rw [hmv]
      exact ⟨List.mem_map.mpr ⟨l, dn.land, dn.code⟩, digs_take dn.digs t, by show (x.take t).length ≤ 12; rw [List.length_take]; omega, d6, by show nw.length ≤ 12; omega⟩
    have hpr : mSl mv.d none (some 2) = .ok (pairM mv) := (rfl)
    have small : (ms.map Move.d).length < sizeLine := by rw [List.length_map, sizeLine_eq]; omega
    have small2 : (ms.map Move.d).length ≤ sizeLine := Nat.le_of_lt small
    have hmd : PyData.tuple [.str (S c), .str (S (x.take t)), .str (S nw)] = mv.d := by rw [hmv]; rfl
    have hlc : ∀ x3 x4 x5 x6 : Sl, eLc [7] (iMl 2) (gNm 7) tTrue (eSl (eVar 7) oNone (oSome (eC (.int 2)))) [.dat (bookD b), .dat (.int m), .ml (ms.map Move.d), x3, x4, x5, x6, .no] = .ok (.list (ms.map pairM)) := fun x3 x4 x5 x6 =>
      lc_map ms Move.d pairM (by show (if (ms.map Move.d).length ≤ sizeLine then R.ok (ms.map Move.d) else .no) = _; rw [if_pos small2]) (fun q hq => ⟨_, rfl, rfl⟩)
    by_cases hin : (mv.code, mv.beg) ∈ ms.map fun m => (m.code, m.beg)
    · refine ⟨ms, ?_, G, by omega⟩
      simp_arith [p_drawn, en, idx_num0, idx_num1, ← ht, cut_take, c1, e6, hmd, hlc, hpr, notIn_pairs, hin]
    · refine ⟨ms ++ [mv], ?_, ⟨?_, ?_, ?_⟩, ?_⟩
      · simp_arith [p_drawn, en, idx_num0, idx_num1, ← ht, cut_take, c1, e6, hmd, hlc, hpr, notIn_pairs, hin, small, List.map_append, List.map_cons, List.map_nil]
      · rw [List.length_append, List.length_singleton]; omega
      · intro q hq
        rcases List.mem_append.mp hq with hq | hq
        · exact G.each q hq
        · rw [List.mem_singleton.mp hq]; exact gm
      · rw [List.map_append]
        refine List.nodup_append.mpr ⟨G.nd, List.nodup_cons.mpr ⟨by simp, List.nodup_nil⟩, fun a ha b' hb' => ?_⟩
        have : b' = (mv.code, mv.beg) := by simpa using hb'
        subst this
        exact fun z => hin (z ▸ ha)
      · rw [List.length_append, List.length_singleton]; omega
  · rintro ms ⟨G, _⟩
    refine ⟨ms, ?_, G⟩
    simp_arith []
end MC
set_option Elab.async false
set_option linter.all false
set_option maxRecDepth 100000
set_option maxHeartbeats 4000000
namespace MC
open PySem L2 DL
theorem moves_inj {b : List Land} {ms : List Move} (h : GoodMoves b ms) (p : Num) : ∀ a ∈ ms, ∀ c ∈ ms, fitsMove p a = true → fitsMove p c = true → a.beg.length = c.beg.length → a = c := by
  intro a ha c hc h1 h2 e
  unfold fitsMove at h1 h2
  simp only [Bool.and_eq_true, decide_eq_true_eq] at h1 h2
  refine nodup_map_inj h.nd a ha c hc ?_
  show (a.code, a.beg) = (c.code, c.beg)
  rw [← h1.1, ← h2.1, pre_same h1.2 h2.2 e]
theorem moved_rev {b : List Land} {ms : List Move} (h : GoodMoves b ms) (p : Num) : movedOf ms.reverse p = movedOf ms p := by
  unfold movedOf bestMove
  rw [best_perm (as := ms) (bs := ms.reverse) (moves_inj h p) fun a => List.mem_reverse.symm]
theorem moved_nil (p : Num) : movedOf [] p = p := rfl
theorem at_rev (ns : List Num) (i : Nat) (h : i < ns.length) : at_ ns.reverse i = at_ ns (ns.length - 1 - i) := by
  unfold at_
  rw [List.getD_eq_getElem?_getD, List.getD_eq_getElem?_getD, List.getElem?_reverse h]
theorem range_rev : ∀ n : Nat, (List.range n).reverse = (List.range n).map fun i => n - 1 - i := fun n => by
  apply List.ext_getElem
  · simp
  · intro i h1 h2
    simp
theorem filter_rev (n : Nat) (P : Nat → Bool) : (List.range n).filter (fun i => P (n - 1 - i)) = (((List.range n).filter P).map fun i => n - 1 - i).reverse := by
  rw [← List.map_reverse, ← List.filter_reverse, range_rev, List.filter_map, List.map_map]
  have e : ((P ∘ fun i => n - 1 - i) : Nat → Bool) = fun i => P (n - 1 - i) := rfl
  rw [e]
  have : ∀ i ∈ (List.range n).filter (fun i => P (n - 1 - i)), ((fun i => n - 1 - i) ∘ fun i => n - 1 - i) i = i := fun i hi => by
    have := List.mem_range.mp (List.mem_filter.mp hi).1
    show n - 1 - (n - 1 - i) = i
    omega
  rw [List.map_congr_left this, List.map_id']
theorem range_sorted (n : Nat) (P : Nat → Bool) : (((List.range n).filter P).map fun i => ((i : Nat) : Int)).Pairwise (· ≤ ·) := by
  refine List.pairwise_map.mpr ?_
  refine List.Pairwise.filter _ ?_
  refine List.pairwise_lt_range.imp fun h => ?_
  omega
/-- the places in the other turn -/
theorem turned (n : Nat) (P : Nat → Bool) : mSorted [.list (((List.range n).filter P).map fun i => .int ((n : Int) - 1 - (i : Nat)))] = .ok (intsD ((List.range n).filter fun i => P (n - 1 - i))) := by
  have e : (((List.range n).filter P).map fun i => PyData.int ((n : Int) - 1 - (i : Nat))) = ((((List.range n).filter P).map fun i => n - 1 - i).map fun i => ((i : Nat) : Int)).map .int := by
    rw [List.map_map, List.map_map]
    refine List.map_congr_left fun i hi => ?_
    have := List.mem_range.mp (List.mem_filter.mp hi).1
    show PyData.int _ = PyData.int ((n - 1 - i : Nat) : Int)
    congr 1
    omega
  rw [e, sorted_ints, sort_eq (ms := ((List.range n).filter fun i => P (n - 1 - i)).map fun i => ((i : Nat) : Int)) ?_ (range_sorted n _)]
  · unfold intsD
    rw [List.map_map]
    rfl
  · rw [filter_rev]
    exact (List.reverse_perm _).symm.map _
theorem lost_rev (b : List Land) (fs : List Num) : lostOf b fs.reverse = (List.range fs.length).filter fun i => !hasN b (numD (at_ fs (fs.length - 1 - i))) := by
  unfold lostOf
  rw [List.length_reverse]
  refine List.filter_congr fun i hi => ?_
  rw [at_rev fs i (List.mem_range.mp hi)]
theorem shared_rev {ns fs : List Num} (hl : ns.length = fs.length) {i : Nat} (hi : i < fs.length) : sharedB ns.reverse fs.reverse i = sharedB ns fs (fs.length - 1 - i) := by
  unfold sharedB
  rw [List.length_reverse, at_rev fs i hi, at_rev ns i (by omega), hl]
  rw [Bool.eq_iff_iff, List.any_eq_true, List.any_eq_true]
  constructor
  · rintro ⟨o, ho, h⟩
    have ho := List.mem_range.mp ho
    rw [at_rev fs o ho, at_rev ns o (by omega), hl] at h
    exact ⟨fs.length - 1 - o, List.mem_range.mpr (by omega), h⟩
  · rintro ⟨o, ho, h⟩
    have ho := List.mem_range.mp ho
    refine ⟨fs.length - 1 - o, List.mem_range.mpr (by omega), ?_⟩
    rw [at_rev fs _ (by omega), at_rev ns _ (by omega), hl]
    have : fs.length - 1 - (fs.length - 1 - o) = o := by omega
    rw [this]
    exact h
theorem met_rev {ns fs : List Num} (hl : ns.length = fs.length) : metOf ns.reverse fs.reverse = (List.range fs.length).filter fun i => sharedB ns fs (fs.length - 1 - i) := by
  unfold metOf
  rw [List.length_reverse]
  exact List.filter_congr fun i hi => shared_rev hl (List.mem_range.mp hi)
theorem lost_self {b : List Land} {ns : List Num} (h : ∀ p ∈ ns, hasN b (numD p) = true) : lostOf b ns = [] := by
  unfold lostOf
  refine List.filter_eq_nil_iff.mpr fun i hi => ?_
  have hi := List.mem_range.mp hi
  have : at_ ns i ∈ ns := by
    unfold at_
    rw [List.getD_eq_getElem?_getD, List.getElem?_eq_getElem hi]
    exact List.getElem_mem hi
  rw [h _ this]
  exact Bool.false_ne_true
theorem met_self (ns : List Num) : metOf ns ns = [] := by
  unfold metOf
  refine List.filter_eq_nil_iff.mpr fun i hi => ?_
  unfold sharedB
  rw [Bool.not_eq_true, List.any_eq_false]
  intro o ho
  cases decide (at_ ns o = at_ ns i) <;> simp
theorem at_app1 {as bs : List Num} {i : Nat} (h : i < as.length) : at_ (as ++ bs) i = at_ as i := by
  unfold at_
  rw [List.getD_eq_getElem?_getD, List.getD_eq_getElem?_getD, List.getElem?_append_left h]
theorem at_app2 {as bs : List Num} {i : Nat} : at_ (as ++ bs) (as.length + i) = at_ bs i := by
  unfold at_
  rw [List.getD_eq_getElem?_getD, List.getD_eq_getElem?_getD, List.getElem?_append_right (by omega)]
  congr 2
  omega
theorem twice_places (n : Nat) (P Q : Nat → Bool) (h1 : ∀ i, i < n → Q i = P i) (h2 : ∀ i, i < n → Q (n + i) = P i) : (List.range (n + n)).filter Q = (List.range n).filter P ++ ((List.range n).filter P).map fun i => n + i := by
  rw [List.range_add, List.filter_append, List.filter_map]
  congr 1
  · exact List.filter_congr fun i hi => h1 i (List.mem_range.mp hi)
  · congr 1
    exact List.filter_congr fun i hi => h2 i (List.mem_range.mp hi)
theorem lost_twice (b : List Land) (fs : List Num) : lostOf b (fs ++ fs) = lostOf b fs ++ (lostOf b fs).map fun i => fs.length + i := by
  unfold lostOf
  rw [List.length_append]
  exact twice_places _ _ _ (fun i hi => by rw [at_app1 hi]) (fun i hi => by rw [at_app2])
theorem shared_twice {ns fs : List Num} (hl : ns.length = fs.length) (i : Nat) (hi : i < fs.length) : (sharedB (ns ++ ns) (fs ++ fs) i = sharedB ns fs i) ∧ sharedB (ns ++ ns) (fs ++ fs) (fs.length + i) = sharedB ns fs i := by
  have a1 : at_ (fs ++ fs) i = at_ fs i := at_app1 hi
  have a2 : at_ (ns ++ ns) i = at_ ns i := at_app1 (by omega)
  have a3 : at_ (fs ++ fs) (fs.length + i) = at_ fs i := at_app2
  have a4 : at_ (ns ++ ns) (fs.length + i) = at_ ns i := by rw [← hl]; exact at_app2
  have key : ((List.range (fs ++ fs).length).any fun o => decide (at_ (fs ++ fs) o = at_ fs i) && !decide (at_ (ns ++ ns) o = at_ ns i)) = sharedB ns fs i := by
    unfold sharedB
    rw [List.length_append, List.range_add, List.any_append, List.any_map]
    have e1 : ((List.range fs.length).any fun o => decide (at_ (fs ++ fs) o = at_ fs i) && !decide (at_ (ns ++ ns) o = at_ ns i)) = (List.range fs.length).any fun o => decide (at_ fs o = at_ fs i) && !decide (at_ ns o = at_ ns i) := by
      rw [Bool.eq_iff_iff, List.any_eq_true, List.any_eq_true]
      constructor
      · rintro ⟨o, ho, h⟩
        have ho' := List.mem_range.mp ho
        rw [at_app1 ho', at_app1 (by omega)] at h
        exact ⟨o, ho, h⟩
      · rintro ⟨o, ho, h⟩
        have ho' := List.mem_range.mp ho
        refine ⟨o, ho, ?_⟩
        rw [at_app1 ho', at_app1 (by omega)]
        exact h
    have e2 : ((List.range fs.length).any ((fun o => decide (at_ (fs ++ fs) o = at_ fs i) && !decide (at_ (ns ++ ns) o = at_ ns i)) ∘ fun x => fs.length + x)) = (List.range fs.length).any fun o => decide (at_ fs o = at_ fs i) && !decide (at_ ns o = at_ ns i) := by
      congr 1
      funext o
      show (decide (at_ (fs ++ fs) (fs.length + o) = at_ fs i) && !decide (at_ (ns ++ ns) (fs.length + o) = at_ ns i)) = _
      have : at_ (ns ++ ns) (fs.length + o) = at_ ns o := by rw [← hl]; exact at_app2
      rw [at_app2, this]
    rw [e1, e2, Bool.or_self]
  unfold sharedB at key ⊢
  rw [a1, a2, a3, a4]
  exact ⟨key, key⟩
theorem met_twice {ns fs : List Num} (hl : ns.length = fs.length) : metOf (ns ++ ns) (fs ++ fs) = metOf ns fs ++ (metOf ns fs).map fun i => fs.length + i := by
  unfold metOf
  rw [List.length_append]
  exact twice_places _ _ _ (fun i hi => (shared_twice hl i hi).1) (fun i hi => (shared_twice hl i hi).2)
theorem sm_num (p : Num) : Sm 1 (numD p) := sm_tup fun d hd => by
  simp only [List.mem_cons, List.mem_nil_iff, or_false] at hd
  rcases hd with rfl | rfl <;> exact sm_str _ _
theorem sm_nums (ns : List Num) : Sm 2 (.list (ns.map numD)) := sm_list fun d hd => by
  obtain ⟨p, _, rfl⟩ := List.mem_map.mp hd
  exact sm_num p
theorem sm_ints (js : List Nat) : Sm 2 (intsD js) := sm_list fun d hd => by
  obtain ⟨p, _, rfl⟩ := List.mem_map.mp hd
  exact sm_int _ _
theorem sm_all (b : List Land) (ns fs : List Num) : Sm 3 (allD b ns fs) := sm_tup fun d hd => by
  simp only [List.mem_cons, List.mem_nil_iff, or_false] at hd
  rcases hd with rfl | rfl | rfl
  · exact sm_nums _
  · exact sm_ints _
  · exact sm_ints _
theorem book_of (m : Int) : ∃ b : List Land, m__law_book [.int m] = .ok (bookD b) ∧ isBook (bookD b) = true ∧ BookOk b ∧ ∀ l ∈ b, S l.code ∈ codesAll := by
  obtain ⟨ls, b1, b2, _, _, b5⟩ := p_book m
  obtain ⟨b, e, hb⟩ := book_typed b2
  rw [e] at b1 b2
  refine ⟨b, b1, b2, hb, fun l hl => ?_⟩
  injection e with e
  subst e
  have : S l.code ∈ (b.map Land.d).map codeS := List.mem_map.mpr ⟨l.d, List.mem_map.mpr ⟨l, hl, rfl⟩, rfl⟩
  exact b5.subset this
theorem numbers_of {b : List Land} (hb : BookOk b) : ∃ f : Int → Num, ∀ m, m__law_number [bookD b, .int m] = .ok (numD (f m)) ∧ hasN b (numD (f m)) = true ∧ Digs (f m).2 := by
  have h : ∀ m : Int, ∃ p : Num, m__law_number [bookD b, .int m] = .ok (numD p) ∧ hasN b (numD p) = true ∧ Digs p.2 := fun m => by
    obtain ⟨c, x, l, r, e, dn⟩ := p_number hb m
    obtain ⟨q, hq⟩ := dn.isNum hb
    exact ⟨(c, x), e, hasN_num.mpr ⟨l, q, hq⟩, dn.digs⟩
  exact ⟨fun m => Classical.choose (h m), fun m => Classical.choose_spec (h m)⟩
end MC
set_option Elab.async false
set_option linter.all false
set_option maxRecDepth 100000
set_option maxHeartbeats 2000000
/-! the law's own looks -/
namespace DL
open PySem L2
/-- the last of a list sorted by a length -/
theorem sort_last {α : Type} (len : α → Nat) (as : List α) (m : α) (hm : m ∈ as) (hl : ∀ a ∈ as, len a ≤ len m) (inj : ∀ a ∈ as, len a = len m → a = m) : (as.mergeSort fun a b => decide (len a ≤ len b)).getLast? = some m := by
  have hp := List.mergeSort_perm as (fun a b => decide (len a ≤ len b))
  have hs := List.pairwise_mergeSort (le := fun a b => decide (len a ≤ len b)) (fun a b c h1 h2 => by simp only [decide_eq_true_eq] at *; omega) (fun a b => by simp only [Bool.or_eq_true, decide_eq_true_eq]; omega) as
  generalize as.mergeSort (fun a b => decide (len a ≤ len b)) = bs at hp hs
  have hmb : m ∈ bs := hp.mem_iff.mpr hm
  cases e : bs.getLast? with
  | none => rw [List.getLast?_eq_none_iff] at e; subst e; cases hmb
  | some z =>
    obtain ⟨ys, rfl⟩ := List.getLast?_eq_some_iff.mp e
    have hz : z ∈ as := hp.mem_iff.mp (by simp)
    congr 1
    refine inj z hz ?_
    have h1 := hl z hz
    rcases List.mem_append.mp hmb with h | h
    · have := (List.pairwise_append.mp hs).2.2 m h z (by simp)
      have := of_decide_eq_true this
      omega
    · rw [List.mem_singleton.mp h]
theorem idx_last {ds : List D} {d : D} (h : ds.getLast? = some d) : mIdx (.list ds) (.int (-1)) = .ok d := by
  obtain ⟨ys, rfl⟩ := List.getLast?_eq_some_iff.mp h
  show (match atI (ys ++ [d]) (-1) with
    | some d => R.ok d
    | none => .no) = _
  have : atI (ys ++ [d]) (-1) = some d := by
    unfold atI ixN
    rw [if_neg (by decide), if_pos (by rw [List.length_append, List.length_singleton]; omega)]
    show (ys ++ [d])[((-1 : Int) + ((ys ++ [d]).length : Nat)).toNat]? = _
    have : ((-1 : Int) + ((ys ++ [d]).length : Nat)).toNat = ys.length := by rw [List.length_append, List.length_singleton]; omega
    rw [this, List.getElem?_append_right (Nat.le_refl _)]
    simp
  rw [this]
end DL
namespace MC
open PySem L2 DL
theorem optD_some (d : D) : optD (some d) = d := (rfl)
theorem optD_none : optD none = .none := (rfl)
theorem p_law_at_code (b : List Land) (c : List Nat) (hb : b.length ≤ 1000) : m__law_at_code [bookD b, .str (S c)] = .ok (optD ((landOf b c).map Land.d)) := by
  unfold m__law_at_code den__law_at_code
  show fin (sRet _ [.dat (bookD b), .dat (.str (S c)), .no]) = _
  simp_arith []
  rw [lc_filter b Land.d Land.d (fun l => decide (l.code = c)) (by rfl) (fun l hl => by
    refine ⟨_, rfl, ?_, fun _ => rfl⟩
    show tVal _ [.dat (bookD b), .dat (.str (S c)), .dat l.d] = _
    simp_arith [idx_landCode, eq_S])]
  unfold landOf
  rw [← List.head?_filter]
  have hl : (b.filter fun l => decide (l.code = c)).length ≤ 1000 := Nat.le_trans (List.length_filter_le _ _) hb
  have ha := addL_ok (xs := (b.filter fun l => decide (l.code = c)).map Land.d) (ys := [.none]) (by rw [List.length_map, List.length_singleton]; omega)
  simp_arith [ha]
  cases b.filter fun l => decide (l.code = c) with
  | nil => simp_arith [List.map_nil, List.nil_append, List.head?_nil]; rfl
  | cons l r => simp_arith [List.map_cons, List.cons_append, List.head?_cons]; rfl
theorem fits_take (x : List Nat) (r : Row) : (decide (x.take r.beg.length = r.beg)) = decide (r.beg <+: x) := by
  rw [Bool.eq_iff_iff, decide_eq_true_eq, decide_eq_true_eq, List.prefix_iff_eq_take]
  exact eq_comm
theorem sortLen_rows (rs : List Row) : mSortLen (.list (rs.map Row.d)) = .ok (.list ((rs.mergeSort fun a b => decide (a.beg.length ≤ b.beg.length)).map Row.d)) := by
  have hk : ∀ r : Row, len1 r.d = some r.beg.length := fun r => by
    show some (S r.beg).length = _
    rw [S_len]
  show (if ((rs.map Row.d).all fun d => (len1 d).isSome) = true then R.ok (PyData.list ((rs.map Row.d).mergeSort fun a b => decide (lenK a ≤ lenK b))) else .no) = _
  rw [if_pos (by rw [List.all_map, List.all_eq_true]; intro r _; show (len1 r.d).isSome = true; rw [hk]; rfl), List.map_mergeSort (r := fun a b : Row => decide (a.beg.length ≤ b.beg.length)) (f := Row.d)]
  intro a _ b _
  show decide (a.beg.length ≤ b.beg.length) = decide (lenK a.d ≤ lenK b.d)
  unfold lenK
  rw [hk, hk]
  rfl
theorem p_law_row_of {l : Land} (hl : l.Ok) (x : List Nat) : m__law_row_of [l.d, .str (S x)] = .ok (optD ((rowOf l.rows x).map Row.d)) := by
  unfold m__law_row_of den__law_row_of
  show fin (sSeq _ _ [.dat l.d, .dat (.str (S x)), .no, .no]) = _
  have hs : ∀ a b : Nat, decide ((a : Int) = (b : Int)) = decide (a = b) := fun a b => decide_eq_decide.mpr (by omega)
  simp_arith []
  rw [lc_filter l.rows Row.d Row.d (fun r => decide (r.size = x.length) && decide (r.beg <+: x)) (by simp_arith [idx_landRows]) (fun r hr => by
    refine ⟨_, rfl, ?_, fun _ => rfl⟩
    show tAn _ _ [.dat l.d, .dat (.str (S x)), .no, .dat r.d] = _
    simp_arith [idx_rowSize, idx_rowBeg, S_len, eq_int, hs, cut_take, eq_S, fits_take]
    cases decide (r.size = x.length) <;> rfl)]
  have hfit : (fun r : Row => decide (r.size = x.length) && decide (r.beg <+: x)) = fitsRow x := by
    funext r
    unfold fitsRow
    congr 1
    exact decide_eq_decide.mpr eq_comm
  rw [hfit]
  rw [rowOf_eq]
  cases e : best (fun r : Row => r.beg.length) (fitsRow x) l.rows with
  | none =>
    have hn : l.rows.filter (fitsRow x) = [] := List.filter_eq_nil_iff.mpr fun r hr => by rw [best_none e r hr]; exact Bool.false_ne_true
    rw [hn]
    have := ne_nilL []
    simp_arith [List.map_nil, this, List.isEmpty_nil]
    rfl
  | some m =>
    obtain ⟨h1, h2, h3⟩ := best_some e
    have hm : m ∈ l.rows.filter (fitsRow x) := List.mem_filter.mpr ⟨h1, h2⟩
    have hlast := sort_last (fun r : Row => r.beg.length) (l.rows.filter (fitsRow x)) m hm (fun a ha => h3 a (List.mem_filter.mp ha).1 (List.mem_filter.mp ha).2) (fun a ha he => rows_inj hl x a (List.mem_filter.mp ha).1 m h1 (List.mem_filter.mp ha).2 h2 he)
    have hne : ((l.rows.filter (fitsRow x)).map Row.d).isEmpty = false := by
      rw [List.isEmpty_map]
      cases hq : l.rows.filter (fitsRow x) with
      | nil => rw [hq] at hm; cases hm
      | cons _ _ => rfl
    have hi : mIdx (.list (((l.rows.filter (fitsRow x)).mergeSort fun a b => decide (a.beg.length ≤ b.beg.length)).map Row.d)) (.int (-1)) = .ok m.d := idx_last (by rw [List.getLast?_map, hlast]; rfl)
    simp_arith [ne_nilL, hne, sortLen_rows, hi]
    rfl
def lawOk (b : List Land) (p : Num) : Bool := match landOf b p.1 with
  | some l => (rowOf l.rows p.2).isSome
  | none => false
theorem p_law_ok {b : List Land} (hb : BookOk b) (p : Num) : m__law_ok [bookD b, numD p] = okB (lawOk b p) := by
  unfold m__law_ok den__law_ok
  show fin (sSeq _ _ [.dat (bookD b), .dat (numD p), .no]) = _
  have h1 := p_law_at_code b p.1 (by have := hb.six; omega)
  simp_arith [idx_num0, h1, ev_isNot]
  unfold lawOk
  cases e : landOf b p.1 with
  | none => rfl
  | some l =>
    have h2 := p_law_row_of (hb.land l (landOf_mem e).1) p.2
    simp_arith [Option.map_some, optD_some, isNon_land, idx_num1, h2, isNon_opt Row.d isNon_row, Bool.not_not]
theorem hasN_law {b : List Land} (hb : BookOk b) {p : Num} (hd : Digs p.2) : hasN b (numD p) = lawOk b p := by
  rw [Bool.eq_iff_iff, show p = (p.1, p.2) from rfl, hasN_num]
  unfold lawOk
  constructor
  · rintro ⟨l, r, h⟩
    rw [h.land]
    show (rowOf l.rows p.2).isSome = true
    rw [h.row]
    rfl
  · intro h
    cases e : landOf b p.1 with
    | none => rw [e] at h; cases h
    | some l =>
      rw [e] at h
      obtain ⟨r, hr⟩ := Option.isSome_iff_exists.mp h
      obtain ⟨h1, h2⟩ := rowOf_mem hr
      have Rk := (hb.land l (landOf_mem e).1).row r h1
      unfold fitsRow at h2
      simp only [Bool.and_eq_true, decide_eq_true_eq] at h2
      exact ⟨l, r, e, hr, hd, by rw [h2.1]; exact Rk.lo, by rw [h2.1]; exact Rk.hi⟩
/-! ### the law's own moving -/
def ownD (m : Move) : D := .tuple [.int m.beg.length, .str (S m.beg), .str (S m.new)]
theorem own_sorted (ms : List Move) (inj : ∀ a ∈ ms, ∀ b ∈ ms, a.beg.length = b.beg.length → a = b) : mSorted [.list (ms.map ownD)] = .ok (.list ((ms.mergeSort fun a b => decide (a.beg.length ≤ b.beg.length)).map ownD)) := by
  have hok : sortOk (ms.map ownD) = true := by
    unfold sortOk alikeB
    simp only [Bool.and_eq_true, Bool.or_eq_true, List.all_eq_true, List.mem_map]
    refine ⟨⟨?_, .inl ?_⟩, ?_⟩
    · rintro d ⟨a, _, rfl⟩ e ⟨b, _, rfl⟩; rfl
    · rintro d ⟨a, _, rfl⟩; rfl
    · rintro d ⟨a, _, rfl⟩; rfl
  show (if sortOk (ms.map ownD) = true then R.ok (PyData.list ((ms.map ownD).mergeSort (PySem.W.dataLe false (fun d : D => d)))) else .no) = _
  rw [if_pos hok, List.map_mergeSort (r := fun a b : Move => decide (a.beg.length ≤ b.beg.length)) (s := PySem.W.dataLe false (fun d : D => d)) (f := ownD)]
  intro a ha b hb
  show decide (a.beg.length ≤ b.beg.length) = !PySem.W.dataLt (ownD b) (ownD a)
  by_cases h : a.beg.length = b.beg.length
  · rw [inj a ha b hb h, PySem.W.dataLt_self]
    exact decide_eq_true (Nat.le_refl _)
  · unfold ownD
    rw [PySem.W.dataLt_tuple, PySem.W.dataLt_all_no (by rfl) (by rw [eqv_int]; exact decide_eq_false (by omega)), PySem.W.dataLt_int]
    rw [Bool.eq_iff_iff, decide_eq_true_eq, Bool.not_eq_true', decide_eq_false_iff_not]
    omega
theorem p_law_moved {b : List Land} {ms : List Move} (G : GoodMoves b ms) (p : Num) (hp : p.2.length ≤ 1000) : m__law_moved [.list (ms.map Move.d), numD p] = .ok (numD (movedOf ms p)) := by
  unfold m__law_moved den__law_moved
  show fin (sSeq _ _ [.dat (.list (ms.map Move.d)), .dat (numD p), .no, .no, .no, .no, .no]) = _
  have few := G.few
  have ft : ∀ m : Move, decide (p.2.take m.beg.length = m.beg) = decide (m.beg <+: p.2) := fun m => by
    rw [Bool.eq_iff_iff, decide_eq_true_eq, decide_eq_true_eq, List.prefix_iff_eq_take]
    exact eq_comm
  have fc : ∀ m : Move, decide (m.code = p.1) = decide (p.1 = m.code) := fun m => decide_eq_decide.mpr eq_comm
  simp_all_arith []
  rw [(loop_foldJ (g := Move.d) (st := fun own : List Move => [.dat (.list (ms.map Move.d)), .dat (numD p), .ml (own.map ownD), .no, .no, .no, .no]) (f := fun b m => if fitsMove p m then b ++ [m] else b) (fun own n => own.length + n ≤ 8) (as := ms) (b := []) (by rfl) (by rw [List.length_nil]; omega) fun own n m hm hJ => by
    have sz : (own.map ownD).length < 16777216 := by rw [List.length_map]; omega
    unfold fitsMove Move.d
    by_cases h1 : p.1 = m.code
    · by_cases h2 : m.beg <+: p.2
      · refine ⟨?_, by rw [if_pos (by rw [decide_eq_true h1, decide_eq_true h2]; rfl), List.length_append, List.length_singleton]; omega⟩
        simp_arith [idx_num0, idx_num1, eq_S, fc, h1, S_len, cut_take, ft, h2, ev_sizeLine, sz, List.map_append, List.map_cons, List.map_nil, ownD]
      · refine ⟨?_, by rw [if_neg (by rw [decide_eq_false h2, Bool.and_false]; exact Bool.false_ne_true)]; omega⟩
        simp_arith [idx_num0, idx_num1, eq_S, fc, h1, S_len, cut_take, ft, h2]
    · refine ⟨?_, by rw [if_neg (by rw [decide_eq_false h1, Bool.false_and]; exact Bool.false_ne_true)]; omega⟩
      simp_arith [idx_num0, idx_num1, eq_S, fc, h1]).1]
  rw [foldl_filter, List.nil_append]
  unfold movedOf bestMove
  cases e : best (fun m : Move => m.beg.length) (fitsMove p) ms with
  | none =>
    have hn : ms.filter (fitsMove p) = [] := List.filter_eq_nil_iff.mpr fun r hr => by rw [best_none e r hr]; exact Bool.false_ne_true
    rw [hn]
    have := eq_nilL []
    simp_arith [List.map_nil, this, List.isEmpty_nil]
  | some m =>
    obtain ⟨h1, h2, h3⟩ := best_some e
    have inj := moves_inj G p
    have hm : m ∈ ms.filter (fitsMove p) := List.mem_filter.mpr ⟨h1, h2⟩
    have hlast := sort_last (fun r : Move => r.beg.length) (ms.filter (fitsMove p)) m hm (fun a ha => h3 a (List.mem_filter.mp ha).1 (List.mem_filter.mp ha).2) (fun a ha he => inj a (List.mem_filter.mp ha).1 m h1 (List.mem_filter.mp ha).2 h2 he)
    have hne : ((ms.filter (fitsMove p)).map ownD).isEmpty = false := by
      rw [List.isEmpty_map]
      cases hq : ms.filter (fitsMove p) with
      | nil => rw [hq] at hm; cases hm
      | cons _ _ => rfl
    have hso := own_sorted (ms.filter (fitsMove p)) fun a ha c hc he => inj a (List.mem_filter.mp ha).1 c (List.mem_filter.mp hc).1 (List.mem_filter.mp ha).2 (List.mem_filter.mp hc).2 he
    have hi : mIdx (.list (((ms.filter (fitsMove p)).mergeSort fun a b => decide (a.beg.length ≤ b.beg.length)).map ownD)) (.int (-1)) = .ok (ownD m) := idx_last (by rw [List.getLast?_map, hlast]; rfl)
    have hn := (G.each m h1).new12
    have ha := add_S (a := m.new) (b := p.2.drop m.beg.length) (by rw [List.length_drop]; omega)
    simp_arith [eq_nilL, hne, hso, hi, ownD, idx_num0, idx_num1, cut_drop, ha]
    rfl
end MC
set_option Elab.async false
set_option linter.all false
set_option maxRecDepth 100000
set_option maxHeartbeats 4000000
namespace MC
open PySem L2 DL
theorem moved_digs {b : List Land} {ms : List Move} (G : GoodMoves b ms) {p : Num} (hp : Digs p.2) : Digs (movedOf ms p).2 := by
  unfold movedOf
  cases e : bestMove ms p with
  | none => exact hp
  | some m => exact digs_app (G.each m (best_some e).1).new fun c hc => hp c (List.mem_of_mem_drop hc)
theorem lost_law {b : List Land} (hb : BookOk b) {fs : List Num} (hd : ∀ p ∈ fs, Digs p.2) : (List.range fs.length).filter (fun i => !lawOk b (at_ fs i)) = lostOf b fs := by
  unfold lostOf
  refine List.filter_congr fun i hi => ?_
  have hi := List.mem_range.mp hi
  have : at_ fs i ∈ fs := by
    unfold at_
    rw [List.getD_eq_getElem?_getD, List.getElem?_eq_getElem hi]
    exact List.getElem_mem hi
  rw [hasN_law hb (hd _ this)]
theorem zip_at {ns fs : List Num} (hl : ns.length = fs.length) : zipL (fs.map numD) (ns.map numD) = (List.range fs.length).map fun o => .tuple [numD (at_ fs o), numD (at_ ns o)] := by
  unfold zipL
  apply List.ext_getElem
  · simp only [List.length_map, List.length_zip, List.length_range, hl]
    omega
  · intro i h1 h2
    simp only [List.length_map, List.length_range] at h2
    simp only [List.getElem_map, List.getElem_zip, List.getElem_range]
    have e1 : at_ fs i = fs[i] := by unfold at_; rw [List.getD_eq_getElem?_getD, List.getElem?_eq_getElem h2]; rfl
    have e2 : at_ ns i = ns[i] := by unfold at_; rw [List.getD_eq_getElem?_getD, List.getElem?_eq_getElem (by omega)]; rfl
    rw [e1, e2]
theorem fold_fst {α : Type} (p : Nat → Bool) (g h : Nat → α) : ∀ (js own : List Nat) (x y : α), (js.foldl (fun (b : List Nat × α × α) i => (if p i then b.1 ++ [i] else b.1, g i, h i)) (own, x, y)).1 = own ++ js.filter p
  | [], own, x, y => by rw [List.filter_nil, List.append_nil]; rfl
  | j :: js, own, x, y => by
    rw [List.foldl_cons, fold_fst p g h js]
    cases e : p j with
    | true => rw [if_pos rfl, List.filter_cons_of_pos e, List.append_assoc]; rfl
    | false => rw [if_neg Bool.false_ne_true, List.filter_cons_of_neg (by rw [e]; exact Bool.false_ne_true)]
/-! ### what is no move -/
theorem move_not {b : List Land} {d : D} (h : d.isTuple = false) : m_is_move [bookD b, d] = okB false := by
  unfold m_is_move den_is_move
  show fin (sSeq _ _ [.dat (bookD b), .dat d, .no]) = _
  simp_arith [h]
theorem move_len {b : List Land} {ts : List D} (h : ts.length ≠ 3) : m_is_move [bookD b, .tuple ts] = okB false := by
  unfold m_is_move den_is_move
  show fin (sSeq _ _ [.dat (bookD b), .dat (.tuple ts), .no]) = _
  have it : (PyData.tuple ts).isTuple = true := rfl
  have nn : mNe (.int (ts.length : Nat)) (.int 3) = okB true := by
    rw [ne_int]
    have : decide ((ts.length : Int) = 3) = false := decide_eq_false (by omega)
    rw [this]
    rfl
  simp_arith [it, nn]
theorem move_3 {b : List Land} (a : Str) (x y : D) : m_is_move [bookD b, .tuple [.str a, x, y]] = okB (decide (a ∈ b.map fun l => S l.code) && (isFig x 0 12 && isFig y 0 12)) := by
  unfold m_is_move den_is_move
  show fin (sSeq _ _ [.dat (bookD b), .dat (.tuple [.str a, x, y]), .no]) = _
  have nn : mNe (.int (([.str a, x, y] : List D).length : Nat)) (.int 3) = okB false := by rw [ne_int]; rfl
  have it : ∀ ds : List D, (PyData.tuple ds).isTuple = true := fun _ => rfl
  have hix : mIdx (.tuple [.str a, x, y]) (.int 2) = .ok y := (rfl)
  simp_arith [it, nn]
  rw [lc_map b Land.d (fun l => .str (S l.code)) (by rfl) (fun l hl => by exact ⟨_, rfl, rfl⟩)]
  have e : (b.map fun l => PyData.str (S l.code)) = (b.map fun l => S l.code).map .str := by rw [List.map_map]; rfl
  rw [e]
  simp_arith [notIn_strs, hix, p_is_figures]
  cases decide (a ∈ b.map fun l => S l.code) with
  | false => rfl
  | true =>
    simp_arith [hix, p_is_figures]
    cases isFig x 0 12 <;> cases isFig y 0 12 <;> rfl
section
variable {b : List Land} (hb : isBook (bookD b) = true)
include hb
theorem moves_not {d : D} (h : d.isList = false) : m_need_moves [bookD b, d] = .exc "BadMoves" := by
  unfold m_need_moves den_need_moves
  show fin (sSeq _ _ [.dat (bookD b), .dat d, .no, .no]) = _
  simp_arith [need_ok hb, h]
theorem moves_many {ds : List D} (h : 8 < ds.length) : m_need_moves [bookD b, .list ds] = .exc "BadMoves" := by
  unfold m_need_moves den_need_moves
  show fin (sSeq _ _ [.dat (bookD b), .dat (.list ds), .no, .no]) = _
  have il : (PyData.list ds).isList = true := rfl
  have h8 : ¬ (ds.length : Int) ≤ 8 := by omega
  simp_arith [need_ok hb, il, h8]
theorem moves_one {d : D} (h : m_is_move [bookD b, d] = okB false) : m_need_moves [bookD b, .list [d]] = .exc "BadMoves" := by
  unfold m_need_moves den_need_moves
  show fin (sSeq _ _ [.dat (bookD b), .dat (.list [d]), .no, .no]) = _
  have il : (PyData.list [d]).isList = true := rfl
  have h8 : (([d] : List D).length : Int) ≤ 8 := by simp
  simp_arith [need_ok hb, il, h8]
  rw [lc_map [d] (fun d => d) (fun _ => .bool false) (by rfl) (fun q hq => by
    refine ⟨_, rfl, ?_⟩
    show eCall _ _ [.dat (bookD b), .dat (.list [d]), .no, .dat q] = _
    rw [List.mem_singleton.mp hq]
    simp_arith [h])]
  have ha : mAll [.list (([d] : List D).map fun _ => .bool false)] = okB false := (rfl)
  simp_arith [ha]
theorem moves_dup {c : List Nat} (hc : c ∈ b.map Land.code) {x y : Str} (hx : isFig (.str x) 0 12 = true) (hy : isFig (.str y) 0 12 = true) : m_need_moves [bookD b, .list [.tuple [.str (S c), .str "1", .str x], .tuple [.str (S c), .str "1", .str y]]] = .exc "BadMoves" := by
  unfold m_need_moves den_need_moves
  show fin (sSeq _ _ [.dat (bookD b), .dat (.list [.tuple [.str (S c), .str "1", .str x], .tuple [.str (S c), .str "1", .str y]]), .no, .no]) = _
  have il : ∀ ds : List D, (PyData.list ds).isList = true := fun _ => rfl
  have h8 : (([.tuple [.str (S c), .str "1", .str x], .tuple [.str (S c), .str "1", .str y]] : List D).length : Int) ≤ 8 := by simp
  have hin : S c ∈ b.map fun l => S l.code := by
    obtain ⟨l, hl, e⟩ := List.mem_map.mp hc
    exact List.mem_map.mpr ⟨l, hl, by rw [e]⟩
  have h1 : isFig (.str "1") 0 12 = true := by decide +kernel
  have m3 : ∀ z : Str, isFig (.str z) 0 12 = true → m_is_move [bookD b, .tuple [.str (S c), .str "1", .str z]] = okB true := fun z hz => by
    rw [move_3, decide_eq_true hin, h1, hz]
    rfl
  simp_arith [need_ok hb, il, h8]
  rw [lc_map [PyData.tuple [.str (S c), .str "1", .str x], PyData.tuple [.str (S c), .str "1", .str y]] (fun d => d) (fun _ => .bool true) (by rfl) (fun q hq => by
    refine ⟨_, rfl, ?_⟩
    show eCall _ _ [.dat (bookD b), .dat _, .no, .dat q] = _
    simp only [List.mem_cons, List.mem_nil_iff, or_false] at hq
    rcases hq with rfl | rfl
    · simp_arith [m3 x hx]
    · simp_arith [m3 y hy])]
  have ha : mAll [.list (([PyData.tuple [.str (S c), .str "1", .str x], PyData.tuple [.str (S c), .str "1", .str y]] : List D).map fun _ => .bool true)] = okB true := (rfl)
  simp_arith [ha]
  rw [lc_map [PyData.tuple [.str (S c), .str "1", .str x], PyData.tuple [.str (S c), .str "1", .str y]] (fun d => d) (fun _ => .tuple [.str (S c), .str "1"]) (by rfl) (fun q hq => by
    simp only [List.mem_cons, List.mem_nil_iff, or_false] at hq
    rcases hq with rfl | rfl <;> exact ⟨_, rfl, rfl⟩)]
  have hset : mSetLen (.list [.tuple [.str (S c), .str "1"], .tuple [.str (S c), .str "1"]]) = okI 1 := by
    have hk : setKeys (.list [.tuple [.str (S c), .str "1"], .tuple [.str (S c), .str "1"]]) = some [.tup [.text (S c), .text "1"], .tup [.text (S c), .text "1"]] := (rfl)
    unfold mSetLen
    rw [hk]
    have hd : ddl [NestedKey.tup [.text (S c), .text "1"], NestedKey.tup [.text (S c), .text "1"]] = [NestedKey.tup [.text (S c), .text "1"]] := by
      unfold ddl
      rw [if_pos (by simp)]
      rfl
    show okI ((ddl [NestedKey.tup [.text (S c), .text "1"], NestedKey.tup [.text (S c), .text "1"]]).length : Nat) = _
    rw [hd]
    rfl
  have hn : mNe (.int 1) (.int 2) = okB true := (rfl)
  simp_all_arith [List.map_cons, List.map_nil, hset]
  rfl
theorem bad_moved {d x : D} {c : Str} (h : m_need_moves [bookD b, d] = .exc c) : m_moved [bookD b, d, x] = .exc c := by
  unfold m_moved den_moved
  show fin (sSeq _ _ [.dat (bookD b), .dat d, .dat x]) = _
  simp_arith [h]
theorem bad_all {d x : D} {c : Str} (h : m_need_moves [bookD b, d] = .exc c) : m_all_moved [bookD b, d, x] = .exc c := by
  unfold m_all_moved den_all_moved
  show fin (sSeq _ _ [.dat (bookD b), .dat d, .dat x, .no, .no, .no, .no, .no]) = _
  simp_arith [h]
end
end MC
namespace M60
open PySem L2 DL MC
def nones (c : Str) : List D := [.none, .tuple [], .list [.none], .list [.tuple [.str c]], .list [.tuple [.str c, .str "1"]], .list [.tuple [.str c, .int 1, .str ""]], .list [.tuple [.str c, .str "x", .str ""]], .list [.tuple [.str "99", .str "1", .str ""]]]
def nones2 (c : Str) : List D := [.list [.list [.str c, .str "1", .str "2"]], .list [.tuple [.str c, .str "1", .str "2"], .tuple [.str c, .str "1", .str "3"]]]
def nones3 (c : Str) : List D := [.list [.tuple [.str c, .str "1111111111111", .str ""]], .list [.tuple [.str c, .str "", .none]]]
def nine (c : Str) : D := .list ((List.range 9).map fun n => .tuple [.str c, .str (S [48 + n]), .str ""])
theorem nones_bad {b : List Land} (hb : isBook (bookD b) = true) (h99 : (S [57, 57]) ∉ b.map fun l => S l.code) {c : List Nat} (hc : c ∈ b.map Land.code) : ∀ d ∈ nones (S c) ++ nones2 (S c) ++ nones3 (S c) ++ [nine (S c)], m_need_moves [bookD b, d] = .exc "BadMoves" := by
  have f0 : isFig (.str "") 0 12 = true := by decide +kernel
  have f1 : isFig (.str "1") 0 12 = true := by decide +kernel
  have f2 : isFig (.str "2") 0 12 = true := by decide +kernel
  have f3 : isFig (.str "3") 0 12 = true := by decide +kernel
  have fx : isFig (.str "x") 0 12 = false := by decide +kernel
  have f13 : isFig (.str "1111111111111") 0 12 = false := by decide +kernel
  have e99 : ("99" : Str) = S [57, 57] := rfl
  intro d hd
  simp only [nones, nones2, nones3, List.mem_append, List.mem_cons, List.mem_nil_iff, or_false] at hd
  rcases hd with ((((rfl | rfl | rfl | rfl | rfl | rfl | rfl | rfl) | (rfl | rfl)) | (rfl | rfl)) | rfl)
  · exact moves_not hb rfl
  · exact moves_not hb rfl
  · exact moves_one hb (move_not rfl)
  · exact moves_one hb (move_len (by simp))
  · exact moves_one hb (move_len (by simp))
  · exact moves_one hb (by rw [move_3]; show okB (_ && (false && _)) = _; rw [Bool.false_and, Bool.and_false])
  · exact moves_one hb (by rw [move_3, fx, Bool.false_and, Bool.and_false])
  · exact moves_one hb (by rw [move_3, e99, decide_eq_false h99, Bool.false_and])
  · exact moves_one hb (move_not rfl)
  · exact moves_dup hb hc f2 f3
  · exact moves_one hb (by rw [move_3, f13, Bool.false_and, Bool.and_false])
  · exact moves_one hb (by rw [move_3]; show okB (_ && (_ && false)) = _; rw [Bool.and_false, Bool.and_false])
  · exact moves_many hb (by rw [List.length_map, List.length_range]; decide)
def nonums (c : Str) : List D := [.none, .tuple [.str c, .str ""], .tuple [.str c, .str "1111111111111"], .tuple [.str "99", .str "123"]]
theorem nonums_bad {b : List Land} (h99 : landOf b [57, 57] = none) (c : List Nat) : ∀ d ∈ nonums (S c), hasN b d = false := by
  have g0 : isFig (.str "") 3 12 = false := by decide +kernel
  have g13 : isFig (.str "1111111111111") 3 12 = false := by decide +kernel
  intro d hd
  simp only [nonums, List.mem_cons, List.mem_nil_iff, or_false] at hd
  rcases hd with rfl | rfl | rfl | rfl
  · rfl
  · show (match landOf b c with
      | some l => hasX l (.str "")
      | none => false) = false
    cases landOf b c with
    | none => rfl
    | some l => show hasX l (.str "") = false; unfold hasX; rw [g0]; rfl
  · show (match landOf b c with
      | some l => hasX l (.str "1111111111111")
      | none => false) = false
    cases landOf b c with
    | none => rfl
    | some l => show hasX l (.str "1111111111111") = false; unfold hasX; rw [g13]; rfl
  · show (match landOf b [57, 57] with
      | some l => hasX l (.str "123")
      | none => false) = false
    rw [h99]
def Inv (ns : List Int) (ρ : Rho) : Prop := ∃ x11 x12 x14 : Sl, ρ = [.dat (scriptD ns), .no, .no, .no, .no, .no, .no, .no, .no, .no, .no, x11, x12, .no, x14, .no, .no, .no, .no, .no]
theorem law_plain (ns : List Int) (hl : ns.length ≤ 63) (hbits : ∀ z ∈ ns, Builtin.Int.intBits z ≤ 1048576) : fin (den_law (rho0 20 [scriptD ns])) = .ok (.bool true) := by
  show fin (den_law [.dat (scriptD ns), .no, .no, .no, .no, .no, .no, .no, .no, .no, .no, .no, .no, .no, .no, .no, .no, .no, .no, .no]) = _
  unfold den_law
  rw [ev_seq]
  obtain ⟨N, hN⟩ : ∃ N : Int, (if (if (ns.length : Int) < 3 then (ns.length : Int) else 3) > 1 then (if (ns.length : Int) < 3 then (ns.length : Int) else 3) else 1) = N := ⟨_, rfl⟩
  have N1 : 0 ≤ N ∧ N ≤ 1000 := by
    rw [← hN]
    repeat' split
    all_goals omega
  obtain ⟨ks, hk, hks⟩ := rng_len ns N N1.1 N1.2
  refine go_fin (J := Inv ns) (go_for (ds := ks.map .int) (I := Inv ns) ?_ ?_ ?_ ?_) ?_
  · simp_arith [hN, hk]
  · exact ⟨.no, .no, .no, rfl⟩
  · intro d hd ρ hρ
    obtain ⟨k, hk, rfl⟩ := List.mem_map.mp hd
    obtain ⟨x11, x12, x14, rfl⟩ := hρ
    obtain ⟨k0, k1⟩ := hks k hk
    obtain ⟨c, hc⟩ := p_cell ns hl k k0
    obtain ⟨m, hm⟩ : ∃ m, m = drawn c k := ⟨_, rfl⟩
    obtain ⟨b, b1, b2, hb, hcd⟩ := book_of (m / 64)
    obtain ⟨f, hf⟩ := numbers_of hb
    rw [ev_gNm, ev_go_ok]
    refine go_beh ?_
    refine go_set (d := .int m) (by simp_arith [hc, p_drawn, hm]) ?_
    refine go_set (d := bookD b) (by simp_arith [b1]) ?_
    simp only [ev_set0, ev_setS, ev_fgt0, ev_fgtS]
    obtain ⟨L, hL⟩ : ∃ L : Sl → Sl → Rho, L = fun x11 x12 => [.dat (scriptD ns), .dat (.int k), .dat (.int m), .dat (bookD b), .no, .no, .no, .no, .no, .no, .no, x11, x12, .no, x14, .no, .no, .no, .no, .no] := ⟨_, rfl⟩
    refine go_seq (I := fun ρ => ∃ x11 x12, ρ = [.dat (scriptD ns), .dat (.int k), .dat (.int m), .dat (bookD b), .no, .no, .no, .no, .no, .no, .no, x11, x12, .no, x14, .no, .no, .no, .no, .no]) ?_ ?_
    · obtain ⟨js, hj, hjs⟩ := rng_len ns 3 (by decide) (by decide)
      refine go_for (ds := js.map .int) (I := fun ρ => ∃ x11 x12, ρ = [.dat (scriptD ns), .dat (.int k), .dat (.int m), .dat (bookD b), .no, .no, .no, .no, .no, .no, .no, x11, x12, .no, x14, .no, .no, .no, .no, .no]) (by simp_arith [hj]) ⟨x11, x12, rfl⟩ ?_ ?_
      · rintro d hd ρ ⟨x11, x12, rfl⟩
        obtain ⟨j, hj, rfl⟩ := List.mem_map.mp hd
        obtain ⟨h, hh⟩ : ∃ h, h = drawn m (30 + j) := ⟨_, rfl⟩
        obtain ⟨ms, e1, G⟩ := p_moves hb h
        have h7 := modN (h / 8) (show (0 : Int) < 7 by decide)
        obtain ⟨n, hn⟩ : ∃ n : Nat, (n : Int) = h / 8 % 7 := ⟨(h / 8 % 7).toNat, by omega⟩
        obtain ⟨nu0, hnu0⟩ : ∃ nu0 : List Num, nu0 = (List.range n).map fun j => f (drawn h (40 + ((j : Nat) : Int))) := ⟨_, rfl⟩
        obtain ⟨nu, hnu⟩ : ∃ nu : List Num, nu = nu0 ++ nu0.take 1 := ⟨_, rfl⟩
        have hall0 : ∀ p ∈ nu0, hasN b (numD p) = true ∧ Digs p.2 := fun p hp => by
          rw [hnu0] at hp
          obtain ⟨j, _, rfl⟩ := List.mem_map.mp hp
          exact (hf _).2
        have hall : ∀ p ∈ nu, hasN b (numD p) = true ∧ Digs p.2 := fun p hp => by
          rw [hnu] at hp
          rcases List.mem_append.mp hp with hp | hp
          · exact hall0 p hp
          · exact hall0 p (List.mem_of_mem_take hp)
        have hlen0 : nu0.length = n := by rw [hnu0, List.length_map, List.length_range]
        have hlen : nu.length ≤ 7 := by rw [hnu, List.length_append, List.length_take, hlen0]; omega
        obtain ⟨fs, hfs⟩ : ∃ fs : List Num, fs = nu.map (movedOf ms) := ⟨_, rfl⟩
        have hfl : nu.length = fs.length := by rw [hfs, List.length_map]
        have A0 := p_all_moved b2 G nu (fun p hp => (hall p hp).1) (by omega)
        rw [← hfs] at A0
        have hfd : ∀ p ∈ fs, Digs p.2 := fun p hp => by
          rw [hfs] at hp
          obtain ⟨q, hq, rfl⟩ := List.mem_map.mp hp
          exact moved_digs G (hall q hq).2
        rw [ev_gNm, ev_go_ok]
        refine go_beh ?_
        refine go_set (d := .int h) (by simp_arith [p_drawn, hh]) ?_
        refine go_set (d := .list (ms.map Move.d)) (by simp_arith [e1]) ?_
        refine go_set (d := .list (nu0.map numD)) ?_ ?_
        · simp only [ev_set0, ev_setS, ev_fgt0, ev_fgtS]
          have e : nu0.map numD = (List.range n).map fun j => numD (f (drawn h (40 + ((j : Nat) : Int)))) := by rw [hnu0, List.map_map]; rfl
          rw [e]
          have hr := rng_nat n (by omega)
          exact lc_map (List.range n) (fun j => .int (j : Nat)) _ (by simp_arith [← hn, hr]) (fun j hj => ⟨_, rfl, by
            show eCall _ _ [.dat (scriptD ns), .dat (.int k), .dat (.int m), .dat (bookD b), _, .dat (.int h), .dat (.list (ms.map Move.d)), .no, .no, .no, .no, x11, x12, .no, x14, .no, .no, .no, .dat (.int (j : Nat)), .no] = _
            simp_arith [p_drawn, (hf _).1]⟩)
        simp only [ev_set0, ev_setS, ev_fgt0, ev_fgtS]
        refine go_set (d := .list (nu.map numD)) ?_ ?_
        · have c1 : cutD (nu0.map numD) none (some 1) = (nu0.take 1).map numD := by
            have := cut_take (nu0.map numD) 1
            rw [List.map_take]
            exact this
          have a : mAdd (.list (nu0.map numD)) (.list ((nu0.take 1).map numD)) = .ok (.list (nu.map numD)) := by rw [addL_ok (by rw [List.length_map, List.length_map, List.length_take]; omega), hnu, List.map_append]
          simp_arith [c1, a]
        simp only [ev_set0, ev_setS, ev_fgt0, ev_fgtS]
        refine go_set (d := .list (fs.map numD)) ?_ ?_
        · have e : fs.map numD = nu.map fun p => numD (movedOf ms p) := by rw [hfs, List.map_map]; rfl
          rw [e]
          exact lc_map nu numD _ (by simp_arith []) (fun p hp => ⟨_, rfl, by
            show eCall _ _ [.dat (scriptD ns), .dat (.int k), .dat (.int m), .dat (bookD b), _, .dat (.int h), .dat (.list (ms.map Move.d)), .dat (.list (nu.map numD)), .no, .no, .no, x11, x12, .no, .dat (numD p), .no, .no, .no, .no, .no] = _
            obtain ⟨l, r, hN⟩ := hasN_num.mp (hall p hp).1
            simp_arith [p_law_moved G p (by have := hN.hi; omega)]⟩)
        simp only [ev_set0, ev_setS, ev_fgt0, ev_fgtS]
        refine go_skip ?_ ?_
        · rw [ev_tVal, ev_eBin, lc_map nu numD (fun p => numD (movedOf ms p)) (by simp_arith []) (fun p hp => by
            refine ⟨_, rfl, ?_⟩
            show eCall _ _ [.dat (scriptD ns), .dat (.int k), .dat (.int m), .dat (bookD b), _, .dat (.int h), .dat (.list (ms.map Move.d)), .dat (.list (nu.map numD)), .dat (.list (fs.map numD)), .no, .no, x11, x12, .no, .dat (numD p), .no, .no, .no, .no, .no] = _
            simp_arith [p_moved b2 G p (hall p hp).1])]
          have e : (nu.map fun p => numD (movedOf ms p)) = fs.map numD := by rw [hfs, List.map_map]; rfl
          rw [e]
          simp_arith [ne_self (sm_nums fs)]
        refine go_set (d := intsD (lostOf b fs)) ?_ ?_
        · rw [← lost_law hb hfd]
          exact lc_filter (List.range fs.length) (fun i => .tuple [.int (i : Nat), numD (at_ fs i)]) _ _ (by simp_arith [enum_num]) fun i hi => ⟨_, ev_gTp2 _ _ _ _ _, by
            show tNt _ [.dat (scriptD ns), .dat (.int k), .dat (.int m), .dat (bookD b), _, .dat (.int h), .dat (.list (ms.map Move.d)), .dat (.list (nu.map numD)), .dat (.list (fs.map numD)), .no, .no, .dat (.int (i : Nat)), .dat (numD (at_ fs i)), .no, x14, .no, .no, .no, .no, .no] = _
            simp_arith [p_law_ok hb], fun _ => rfl⟩
        simp only [ev_set0, ev_setS, ev_fgt0, ev_fgtS]
        refine go_seq (I := fun ρ => ρ = [.dat (scriptD ns), .dat (.int k), .dat (.int m), .dat (bookD b), .dat (.int j), .dat (.int h), .dat (.list (ms.map Move.d)), .dat (.list (nu.map numD)), .dat (.list (fs.map numD)), .dat (intsD (lostOf b fs)), .ml [], x11, x12, .no, x14, .no, .no, .no, .no, .no]) ⟨_, rfl, rfl⟩ ?_
        rintro ρ rfl
        refine go_seq (I := fun ρ => ∃ y11 y12, ρ = [.dat (scriptD ns), .dat (.int k), .dat (.int m), .dat (bookD b), .dat (.int j), .dat (.int h), .dat (.list (ms.map Move.d)), .dat (.list (nu.map numD)), .dat (.list (fs.map numD)), .dat (intsD (lostOf b fs)), .ml ((metOf nu fs).map fun i => .int (i : Nat)), y11, y12, .no, x14, .no, .no, .no, .no, .no]) ?_ ?_
        · have hfold := fold_fst (sharedB nu fs) (fun i => Sl.dat (.int (i : Nat))) (fun i => Sl.dat (numD (at_ fs i))) (List.range fs.length) [] x11 x12
          rw [List.nil_append] at hfold
          generalize hR : (List.range fs.length).foldl (fun (b : List Nat × Sl × Sl) i => (if sharedB nu fs i then b.1 ++ [i] else b.1, Sl.dat (.int (i : Nat)), Sl.dat (numD (at_ fs i)))) ([], x11, x12) = R at hfold
          refine ⟨_, ?_, R.2.1, R.2.2, rfl⟩
          simp_arith [enum_num]
          rw [(loop_foldJ (g := fun i : Nat => PyData.tuple [.int (i : Nat), numD (at_ fs i)]) (st := fun q : List Nat × Sl × Sl => [.dat (scriptD ns), .dat (.int k), .dat (.int m), .dat (bookD b), .dat (.int j), .dat (.int h), .dat (.list (ms.map Move.d)), .dat (.list (nu.map numD)), .dat (.list (fs.map numD)), .dat (intsD (lostOf b fs)), .ml (q.1.map fun i => .int (i : Nat)), q.2.1, q.2.2, .no, x14, .no, .no, .no, .no, .no]) (f := fun (b : List Nat × Sl × Sl) i => (if sharedB nu fs i then b.1 ++ [i] else b.1, Sl.dat (.int (i : Nat)), Sl.dat (numD (at_ fs i)))) (fun q n => q.1.length + n ≤ 100) (as := List.range fs.length) (b := ([], x11, x12)) (by rfl) (by rw [List.length_range, List.length_nil]; omega) fun q n i hi hJ => by
            have hi := List.mem_range.mp hi
            have sz : (q.1.map fun i => PyData.int ((i : Nat) : Int)).length < 16777216 := by rw [List.length_map]; omega
            have hz : eLc [19, 14] (iRg zp (aCons (eVar 8) (aCons (eVar 7) (aNil)))) (gTp 2 (gsCons (gNm 19) (gsCons (gNm 14) (gsNil)))) (tAn (tVal (eBin mEq (eVar 19) (eVar 12))) (tVal (eBin mNe (eVar 14) (eBin mIdx (eVar 7) (eVar 11))))) (eC (.int 1)) [.dat (scriptD ns), .dat (.int k), .dat (.int m), .dat (bookD b), .dat (.int j), .dat (.int h), .dat (.list (ms.map Move.d)), .dat (.list (nu.map numD)), .dat (.list (fs.map numD)), .dat (intsD (lostOf b fs)), .ml (q.1.map fun i => .int (i : Nat)), .dat (.int (i : Nat)), .dat (numD (at_ fs i)), .no, x14, .no, .no, .no, .no, .no] = .ok (.list (((List.range fs.length).filter fun o => decide (at_ fs o = at_ fs i) && !decide (at_ nu o = at_ nu i)).map fun _ => .int 1)) := by
              refine lc_filter (List.range fs.length) (fun o => .tuple [numD (at_ fs o), numD (at_ nu o)]) _ _ ?_ fun o ho => ⟨_, ev_gTp2 _ _ _ _ _, ?_, fun _ => rfl⟩
              · rw [← zip_at hfl]
                rfl
              · show tAn _ _ [.dat (scriptD ns), .dat (.int k), .dat (.int m), .dat (bookD b), .dat (.int j), .dat (.int h), .dat (.list (ms.map Move.d)), .dat (.list (nu.map numD)), .dat (.list (fs.map numD)), .dat (intsD (lostOf b fs)), .ml (q.1.map fun i => .int (i : Nat)), .dat (.int (i : Nat)), .dat (numD (at_ fs i)), .no, .dat (numD (at_ nu o)), .no, .no, .no, .no, .dat (numD (at_ fs o))] = _
                simp_arith [eq_num, idx_nums (ns := nu) (i := i) (by omega), ne_num]
                cases decide (at_ fs o = at_ fs i) <;> rfl
            have hne : (((List.range fs.length).filter fun o => decide (at_ fs o = at_ fs i) && !decide (at_ nu o = at_ nu i)).map fun _ => PyData.int 1).isEmpty = !sharedB nu fs i := by
              rw [List.isEmpty_map, Bool.eq_iff_iff, List.isEmpty_iff, List.filter_eq_nil_iff, Bool.not_eq_true']
              unfold sharedB
              rw [List.any_eq_false]
            cases hsh : sharedB nu fs i with
            | true =>
              refine ⟨?_, by rw [if_pos rfl, List.length_append, List.length_singleton]; omega⟩
              simp_arith [hz, ne_nilL, hne, hsh, ev_sizeLine, sz, List.map_append, List.map_cons, List.map_nil]
            | false =>
              refine ⟨?_, by rw [if_neg Bool.false_ne_true]; show q.1.length + n ≤ 100; omega⟩
              simp_arith [hz, ne_nilL, hne, hsh]).1]
          rw [hR, hfold]
          simp_arith []
          rfl
        rintro ρ ⟨y11, y12, rfl⟩
        have e : PyData.tuple [.list (fs.map numD), intsD (lostOf b fs), .list ((metOf nu fs).map fun i => .int (i : Nat))] = allD b nu fs := rfl
        simp_arith [A0, e, ne_self (sm_all b nu fs)]
        exact ⟨_, rfl, y11, y12, rfl⟩
      · rintro ρ ⟨x11, x12, rfl⟩; exact ⟨x11, x12, rfl⟩
    rintro ρ ⟨x11, x12, rfl⟩
    have hone := hb.one
    cases b with
    | nil => cases hone
    | cons l0 b' =>
    have i0 : mIdx (bookD (l0 :: b')) (.int 0) = .ok l0.d := ev_ix0T _ _
    have hc0 : l0.code ∈ (l0 :: b').map Land.code := List.mem_map.mpr ⟨l0, List.mem_cons_self, rfl⟩
    have h99 : (S [57, 57]) ∉ (l0 :: b').map fun l => S l.code := fun z => by
      obtain ⟨l, hl, e⟩ := List.mem_map.mp z
      have := hcd l hl
      rw [e] at this
      exact absurd this (by decide +kernel)
    have h99' : landOf (l0 :: b') [57, 57] = none := by
      unfold landOf
      refine List.find?_eq_none.mpr fun l hl => ?_
      simp only [decide_eq_true_eq]
      exact fun e => h99 (List.mem_map.mpr ⟨l, hl, by rw [e]⟩)
    generalize l0 :: b' = b at *
    have ic := idx_landCode l0
    obtain ⟨c0, hc0e⟩ : ∃ c0, c0 = l0.code := ⟨_, rfl⟩
    rw [← hc0e] at hc0 ic
    have hnb := nones_bad b2 h99 hc0
    have hnn := nonums_bad h99' c0
    refine go_seq (I := fun ρ => ρ = [.dat (scriptD ns), .dat (.int k), .dat (.int m), .dat (bookD b), .no, .no, .no, .no, .no, .no, .no, x11, x12, .dat (.str (S c0)), .dat (numD (f m)), .no, .no, .no, .no, .no]) ⟨_, ?_, rfl⟩ ?_
    · simp_arith [i0, ic, (hf m).1]
    rintro ρ rfl
    have m13 : mMul (.str "1") (.int 13) = okS "1111111111111" := (rfl)
    refine go_set (d := .list (nones (S c0))) (by simp_arith []; rfl) ?_
    simp only [ev_set0, ev_setS, ev_fgt0, ev_fgtS]
    refine go_set (d := .list (nones (S c0) ++ nones2 (S c0))) ?_ ?_
    · have a := addL_ok (xs := nones (S c0)) (ys := nones2 (S c0)) (by simp [nones, nones2])
      unfold nones2 at a ⊢
      simp_arith [a]
    simp only [ev_set0, ev_setS, ev_fgt0, ev_fgtS]
    refine go_set (d := .list (nones (S c0) ++ nones2 (S c0) ++ nones3 (S c0))) ?_ ?_
    · have a := addL_ok (xs := nones (S c0) ++ nones2 (S c0)) (ys := nones3 (S c0)) (by simp [nones, nones2, nones3])
      unfold nones3 at a ⊢
      simp_arith [m13, a]
    simp only [ev_set0, ev_setS, ev_fgt0, ev_fgtS]
    refine go_seq (I := fun ρ => ρ = [.dat (scriptD ns), .dat (.int k), .dat (.int m), .dat (bookD b), .no, .no, .no, .no, .no, .no, .no, x11, x12, .dat (.str (S c0)), .dat (numD (f m)), .dat (.list (nones (S c0) ++ nones2 (S c0) ++ nones3 (S c0))), .no, .no, .no, .no]) ?_ ?_
    · refine go_for (ds := nones (S c0) ++ nones2 (S c0) ++ nones3 (S c0) ++ [nine (S c0)]) (I := fun ρ => ρ = [.dat (scriptD ns), .dat (.int k), .dat (.int m), .dat (bookD b), .no, .no, .no, .no, .no, .no, .no, x11, x12, .dat (.str (S c0)), .dat (numD (f m)), .dat (.list (nones (S c0) ++ nones2 (S c0) ++ nones3 (S c0))), .no, .no, .no, .no]) ?_ rfl ?_ ?_
      · have e9 : eLc [18] (iRg rng1 (aCons (eC (.int 9)) (aNil))) (gNm 18) (tTrue) (eTup (aCons (eVar 13) (aCons (eCallB mStr (aCons (eVar 18) (aNil))) (aCons (eC (.str "")) (aNil))))) [.dat (scriptD ns), .dat (.int k), .dat (.int m), .dat (bookD b), .no, .no, .no, .no, .no, .no, .no, x11, x12, .dat (.str (S c0)), .dat (numD (f m)), .dat (.list (nones (S c0) ++ nones2 (S c0) ++ nones3 (S c0))), .no, .no, .no, .no] = .ok (nine (S c0)) := by
          have hr := rng_nat 9 (by decide)
          refine lc_map (List.range 9) (fun j => .int (j : Nat)) (fun n => .tuple [.str (S c0), .str (S [48 + n]), .str ""]) ?_ fun n hn => ⟨_, rfl, ?_⟩
          · rw [← hr]
            rfl
          · have hn := List.mem_range.mp hn
            show eTup _ [.dat (scriptD ns), .dat (.int k), .dat (.int m), .dat (bookD b), .no, .no, .no, .no, .no, .no, .no, x11, x12, .dat (.str (S c0)), .dat (numD (f m)), .dat (.list (nones (S c0) ++ nones2 (S c0) ++ nones3 (S c0))), .no, .no, .dat (.int (n : Nat)), .no] = _
            simp_arith [str_digit n (by omega)]
        have a := addL_ok (xs := nones (S c0) ++ nones2 (S c0) ++ nones3 (S c0)) (ys := [nine (S c0)]) (by simp [nones, nones2, nones3])
        simp_arith [e9, a]
      · rintro d hd ρ rfl
        have hbad := hnb d hd
        rw [ev_gNm, ev_go_ok]
        refine go_beh ?_
        simp_all_arith [bad_moved b2 hbad, bad_all b2 hbad]
        exact ⟨_, rfl, rfl⟩
      · rintro ρ rfl; rfl
    rintro ρ rfl
    refine go_for (ds := nonums (S c0)) (I := fun ρ => ρ = [.dat (scriptD ns), .dat (.int k), .dat (.int m), .dat (bookD b), .no, .no, .no, .no, .no, .no, .no, x11, x12, .dat (.str (S c0)), .dat (numD (f m)), .dat (.list (nones (S c0) ++ nones2 (S c0) ++ nones3 (S c0))), .no, .no, .no, .no]) ?_ rfl ?_ ?_
    · simp_arith [m13]
      rfl
    · rintro d hd ρ rfl
      have hbad := hnn d hd
      have hnd := p_need_number b2 d
      rw [hbad, if_neg Bool.false_ne_true] at hnd
      have hnm := p_need_number b2 (numD (f m))
      rw [(hf m).2.1, if_pos rfl] at hnm
      have hmv : m_need_moves [bookD b, .list []] = .ok .none := p_need_moves b2 (GoodMoves.nil b)
      have q1 : m_moved [bookD b, .list [], d] = .exc "NoNumber" := by
        unfold m_moved den_moved
        show fin (sSeq _ _ [.dat (bookD b), .dat (.list []), .dat d]) = _
        simp_arith [hmv, hnd]
      have q2 : m_all_moved [bookD b, .list [], .list [numD (f m), d]] = .exc "NoNumber" := by
        unfold m_all_moved den_all_moved
        show fin (sSeq _ _ [.dat (bookD b), .dat (.list []), .dat (.list [numD (f m), d]), .no, .no, .no, .no, .no]) = _
        simp_arith [hmv, hnm, hnd]
      have q3 : m_moved [.none, .none, d] = .exc "BadBook" := by
        have q4 : m_need_moves [.none, .none] = .exc "BadBook" := by
          have q5 : m_need_book [.none] = .exc "BadBook" := p_need_book .none
          unfold m_need_moves den_need_moves
          show fin (sSeq _ _ [.dat .none, .dat .none, .no, .no]) = _
          simp_arith [q5]
        unfold m_moved den_moved
        show fin (sSeq _ _ [.dat .none, .dat .none, .dat d]) = _
        simp_arith [q4]
      rw [ev_gNm, ev_go_ok]
      refine go_beh ?_
      simp_all_arith [q1, q2, q3]
      exact ⟨_, rfl, rfl⟩
    · rintro ρ rfl; exact ⟨x11, x12, _, rfl⟩
  · rintro ρ ⟨x11, x12, x14, rfl⟩; exact ⟨x11, x12, x14, rfl⟩
  · rintro ρ ⟨x11, x12, x14, rfl⟩; rfl
end M60
set_option Elab.async false
set_option linter.all false
set_option maxRecDepth 100000
set_option maxHeartbeats 4000000
open PySem PySem.W PySem.Calls PyProof.Rows
theorem PySem.Challenge.cw_dialtables_k60_whole_moved_holds : PySem.Challenge.rw_dialtables_k60_whole_moved.Holds := by
  w_on; o_law
  refine HandSHeadRun.head_any (r := OpenLaw.row PySem.Challenge.rw_dialtables_k60_whole_moved) (q := view (OpenLaw.row PySem.Challenge.rw_dialtables_k60_whole_moved).prog [56]) (H := Hd.hk) (ob := Hd.ob) (M := 40000) (loose := Hd.loose) (d := HandSHeadRun.topDef (OpenLaw.row PySem.Challenge.rw_dialtables_k60_whole_moved).prog 56) (kwd := []) Hd.ob_eq
    (by kernel_rfl) (fun s => by kernel_rfl) Hd.run (by kernel_rfl) (by kernel_rfl) (by kernel_rfl) (by rfl) (by first | assumption | decide +kernel) (by decide +kernel) ⟨rfl, rfl, rfl, rfl, rfl, by decide +kernel⟩ ?hw ?hc
  case hw => w_witness2
  case hc =>
    refine LamX.walk_ofTsE (l := PySem.Challenge.rw_dialtables_k60_whole_moved) (n := 63) (k := 10) (x := "script") (CX := fun w => L2N.CX PySem.Challenge.rw_dialtables_k60_whole_moved.prog w) rfl (by decide) (by kernel_rfl) ⟨rfl, by decide, by decide⟩ ?F (fun _ _ _ _ _ z => by obtain ⟨_, _, _, _, _, _, _, _, _, _, _, _, z⟩ := z; exact z)
    intro w mg fa h Y G hmg0
    obtain ⟨K, KX, c⟩ := Y
    have hmg : mg ("law" : PySem.Str) = some (.ref fa) := by
      have e : (HandSHeadRun.topDef (OpenLaw.row PySem.Challenge.rw_dialtables_k60_whole_moved).prog 56).name = ("law" : PySem.Str) := by kernel_rfl
      rw [← e]
      exact hmg0
    exact ⟨K, KX, M60.law_end KX G hmg c M60.law_plain⟩
