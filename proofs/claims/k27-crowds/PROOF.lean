import PyProof.Rows.All
import Wide.All
import OpenK.AllK
import Wide.FinOn
import HandS.ForMost
import HandS.Flow
import HandS.Style
import HandS.Star
import HandS.Zip
import HandS.IsInst
import HandS.TupAny
import HandS.TupMul
import HandS.Walk
import HandS.Deep
import HandS.TupSets
import KE.DataFind
import KE.GoesEnum
import KE.KDictZip
import PySem.Challenge.RW_manrods_k27_whole_things_that_are_crowds
set_option Elab.async false
set_option linter.all false
set_option maxRecDepth 100000
set_option maxHeartbeats 4000000
namespace Cr
open PySem PySem.Spec PyProof.Rows L2

/-! ### data in an abstract heap, apart from the protected addresses Z; a tuple is told with its object (it bears no dict) -/
def TpN (K : PySem.W.Frag) (H : Hp) (a : Addr) (xs : List V) : Prop := SqT K H a xs ∧ ((∃ o u, H a = some (.frz o u) ∧ o.dict = Option.none) ∨ ∃ o, K.lookup a = some o ∧ o.dict = Option.none)
mutual
def Dq (K : PySem.W.Frag) (Z : Addr → Prop) (H : Hp) : PyData → V → Prop
  | .none, v => v = .non
  | .bool b, v => v = .bl b
  | .int i, v => v = .int i
  | .str x, v => v = .str x
  | .list ds, v => ∃ a xs, v = .ref a ∧ H a = some (.lst xs) ∧ ¬ Z a ∧ DqL K Z H ds xs
  | .tuple ds, v => ∃ a xs, v = .ref a ∧ TpN K H a xs ∧ DqL K Z H ds xs
  | .dict _, _ => False
def DqL (K : PySem.W.Frag) (Z : Addr → Prop) (H : Hp) : List PyData → List V → Prop
  | [], xs => xs = []
  | d :: ds, xs => ∃ x r, xs = x :: r ∧ Dq K Z H d x ∧ DqL K Z H ds r
end

section
variable {K : PySem.W.Frag} {Z Z' : Addr → Prop} {H H' : Hp}
theorem sqt_same {a : Addr} {xs : List V} (e : Same H H') (h : SqT K H a xs) : SqT K H' a xs := by
  rcases h with (h | ⟨o, h⟩) | h
  · exact .inl (.inl (e _ _ h))
  · exact .inl (.inr ⟨o, e _ _ h⟩)
  · exact .inr h
theorem tpn_same {a : Addr} {xs : List V} (e : Same H H') (h : TpN K H a xs) : TpN K H' a xs :=
  ⟨sqt_same e h.1, h.2.elim (fun ⟨o, u, q, d⟩ => .inl ⟨o, u, e _ _ q, d⟩) .inr⟩
theorem tpn_new {p : Addr} {o : Obj} {xs : List V} (hd : o.dict = Option.none) : TpN K (upd H p (.frz o (.tup xs))) p xs := ⟨.inl (.inr ⟨o, upd_same⟩), .inl ⟨o, _, upd_same, hd⟩⟩
/-- what carries data from one heap to another -/
structure Car (K : PySem.W.Frag) (Z Z' : Addr → Prop) (H H' : Hp) : Prop where
  tup : ∀ a xs, TpN K H a xs → TpN K H' a xs
  lst : ∀ a xs, H a = some (.lst xs) → ¬ Z a → H' a = some (.lst xs) ∧ ¬ Z' a
mutual
theorem Dq.car (c : Car K Z Z' H H') : ∀ (d : PyData) (v : V), Dq K Z H d v → Dq K Z' H' d v
  | .none, _, h => h
  | .bool _, _, h => h
  | .int _, _, h => h
  | .str _, _, h => h
  | .list ds, _, ⟨a, xs, e, h1, h2, h3⟩ => ⟨a, xs, e, (c.lst a xs h1 h2).1, (c.lst a xs h1 h2).2, DqL.car c ds xs h3⟩
  | .tuple ds, _, ⟨a, xs, e, h1, h3⟩ => ⟨a, xs, e, c.tup a xs h1, DqL.car c ds xs h3⟩
  | .dict _, _, h => h
theorem DqL.car (c : Car K Z Z' H H') : ∀ (ds : List PyData) (xs : List V), DqL K Z H ds xs → DqL K Z' H' ds xs
  | [], _, h => h
  | d :: ds, _, ⟨x, r, e, h1, h2⟩ => ⟨x, r, e, Dq.car c d x h1, DqL.car c ds r h2⟩
end
theorem Car.same (e : Same H H') : Car K Z Z H H' := ⟨fun _ _ h => tpn_same e h, fun a xs h n => ⟨e a _ h, n⟩⟩
theorem Dq.same {d : PyData} {v : V} (h : Dq K Z H d v) (e : Same H H') : Dq K Z H' d v := Dq.car (Car.same e) d v h
theorem DqL.same {ds : List PyData} {xs : List V} (h : DqL K Z H ds xs) (e : Same H H') : DqL K Z H' ds xs := DqL.car (Car.same e) ds xs h
mutual
theorem Dq.dp : ∀ (d : PyData) (v : V), Dq K Z H d v → Dp K H v d
  | .none, _, h => by cases (show _ = _ from h); exact .non
  | .bool b, _, h => by cases (show _ = _ from h); exact .bl b
  | .int i, _, h => by cases (show _ = _ from h); exact .int i
  | .str x, _, h => by cases (show _ = _ from h); exact .str x
  | .list ds, _, ⟨a, xs, e, h1, h2, h3⟩ => by cases e; exact .lst (SqL.of h1) (DqL.dp ds xs h3)
  | .tuple ds, _, ⟨a, xs, e, h1, h3⟩ => by cases e; exact .tup h1.1 (DqL.dp ds xs h3)
  | .dict _, _, h => h.elim
theorem DqL.dp : ∀ (ds : List PyData) (xs : List V), DqL K Z H ds xs → DpAll K H xs ds
  | [], _, h => by cases (show _ = _ from h); exact .nil
  | d :: ds, _, ⟨x, r, e, h1, h2⟩ => by cases e; exact .cons (Dq.dp d x h1) (DqL.dp ds r h2)
end
mutual
theorem Dq.plain : ∀ (d : PyData) (v : V), Dq K Z H d v → d.plain = true
  | .none, _, _ => rfl
  | .bool _, _, _ => rfl
  | .int _, _, _ => rfl
  | .str _, _, _ => rfl
  | .list ds, _, ⟨_, xs, _, _, _, h3⟩ => by simp only [PyData.plain]; exact DqL.plain ds xs h3
  | .tuple ds, _, ⟨_, xs, _, _, h3⟩ => by simp only [PyData.plain]; exact DqL.plain ds xs h3
  | .dict _, _, h => h.elim
theorem DqL.plain : ∀ (ds : List PyData) (xs : List V), DqL K Z H ds xs → PyData.plainAll ds = true
  | [], _, _ => rfl
  | d :: ds, _, ⟨x, r, _, h1, h2⟩ => by simp only [PyData.plainAll, Dq.plain d x h1, DqL.plain ds r h2, Bool.and_self]
end
theorem DqL.length : ∀ {ds : List PyData} {xs : List V}, DqL K Z H ds xs → xs.length = ds.length
  | [], _, h => by cases (show _ = _ from h); rfl
  | _ :: ds, _, ⟨_, r, e, _, h2⟩ => by cases e; simp [DqL.length (ds := ds) (xs := r) h2]
theorem DqL.get : ∀ {ds : List PyData} {xs : List V} {i : Nat} {d : PyData}, DqL K Z H ds xs → ds[i]? = some d → ∃ x, xs[i]? = some x ∧ Dq K Z H d x
  | [], _, _, _, _, e => by simp at e
  | d :: ds, _, 0, _, ⟨x, r, e, h1, h2⟩, e2 => by cases e; simp at e2; cases e2; exact ⟨x, rfl, h1⟩
  | d :: ds, _, i + 1, d2, ⟨x, r, e, h1, h2⟩, e2 => by
    cases e
    obtain ⟨y, hy, q⟩ := DqL.get (i := i) h2 (by simpa using e2)
    exact ⟨y, by simpa using hy, q⟩
theorem DqL.get2 {ds : List PyData} {xs : List V} {i : Nat} {x : V} (h : DqL K Z H ds xs) (e : xs[i]? = some x) : ∃ d, ds[i]? = some d ∧ Dq K Z H d x := by
  have hl := h.length
  obtain ⟨hi, _⟩ := List.getElem?_eq_some_iff.mp e
  have hi2 : i < ds.length := by omega
  obtain ⟨y, hy, q⟩ := h.get (List.getElem?_eq_getElem hi2)
  rw [e] at hy
  cases hy
  exact ⟨_, List.getElem?_eq_getElem hi2, q⟩
theorem DqL.app : ∀ {ds es : List PyData} {xs ys : List V}, DqL K Z H ds xs → DqL K Z H es ys → DqL K Z H (ds ++ es) (xs ++ ys)
  | [], _, _, _, h, h2 => by cases (show _ = _ from h); exact h2
  | _ :: _, _, _, _, ⟨x, r, e, h1, h3⟩, h2 => by cases e; exact ⟨x, _, rfl, h1, DqL.app h3 h2⟩
theorem DqL.take : ∀ {ds : List PyData} {xs : List V} (n : Nat), DqL K Z H ds xs → DqL K Z H (ds.take n) (xs.take n)
  | _, _, 0, _ => by simp [DqL]
  | [], _, n + 1, h => by cases (show _ = _ from h); simp [DqL]
  | _ :: _, _, n + 1, ⟨x, r, e, h1, h2⟩ => by cases e; exact ⟨x, _, rfl, h1, DqL.take n h2⟩
theorem DqL.drop : ∀ {ds : List PyData} {xs : List V} (n : Nat), DqL K Z H ds xs → DqL K Z H (ds.drop n) (xs.drop n)
  | _, _, 0, h => h
  | [], _, n + 1, h => by cases (show _ = _ from h); simp [DqL]
  | _ :: _, _, n + 1, ⟨x, r, e, h1, h2⟩ => by cases e; exact DqL.drop n h2
theorem DqL.one {d : PyData} {x : V} (h : Dq K Z H d x) : DqL K Z H [d] [x] := ⟨x, [], rfl, h, rfl⟩
theorem DqL.nil : DqL K Z H [] [] := rfl
theorem DqL.cons {d : PyData} {x : V} {ds : List PyData} {xs : List V} (h : Dq K Z H d x) (t : DqL K Z H ds xs) : DqL K Z H (d :: ds) (x :: xs) := ⟨x, xs, rfl, h, t⟩
theorem DqL.bools : ∀ {bs : List Bool} {xs : List V}, DqL K Z H (bs.map .bool) xs → xs = bs.map V.bl
  | [], _, h => h
  | b :: bs, _, ⟨x, r, e, h1, h2⟩ => by cases e; cases (show _ = _ from h1); rw [DqL.bools (bs := bs) h2]; rfl

/-- all that is protected is there -/
def Zt (Z : Addr → Prop) (H : Hp) : Prop := ∀ a, Z a → ∃ o, H a = some o
theorem Zt.same (z : Zt Z H) (e : Same H H') : Zt Z H' := fun a h => let ⟨o, q⟩ := z a h; ⟨o, e a o q⟩
theorem Zt.free (z : Zt Z H) {p : Addr} (h : H p = none) : ¬ Z p := fun q => by obtain ⟨o, e⟩ := z p q; rw [h] at e; cases e
theorem same_upd {p : Addr} {o : HO} (h : H p = none) : Same H (upd H p o) := fun b x e => by rw [upd_ne (ne_of_none e h)]; exact e

/-- slots against data -/
abbrev Ds := List (Option PyData)
abbrev F := Ds → Option PyData
structure Agr (K : PySem.W.Frag) (Z : Addr → Prop) (H : Hp) (σ : L2.St) (ρ : Ds) : Prop where
  len : ρ.length = σ.length
  get : ∀ (i : Nat) (d : PyData), ρ[i]? = some (some d) → ∃ v, σ[i]? = some (some v) ∧ Dq K Z H d v
theorem Agr.car {σ : L2.St} {ρ : Ds} (g : Agr K Z H σ ρ) (c : Car K Z Z' H H') : Agr K Z' H' σ ρ :=
  ⟨g.len, fun i d h => let ⟨v, e, q⟩ := g.get i d h; ⟨v, e, Dq.car c d v q⟩⟩
theorem Agr.same {σ : L2.St} {ρ : Ds} (g : Agr K Z H σ ρ) (e : Same H H') : Agr K Z H' σ ρ := g.car (.same e)
theorem Agr.put {σ : L2.St} {ρ : Ds} {d : PyData} {v : V} (g : Agr K Z H σ ρ) (i : Nat) (h : Dq K Z H d v) : Agr K Z H (σ.set i (some v)) (ρ.set i (some d)) := by
  refine ⟨by simp [g.len], fun j e he => ?_⟩
  by_cases hj : i = j
  · subst hj
    by_cases hi : i < ρ.length
    · rw [List.getElem?_set_self hi] at he
      cases he
      exact ⟨v, List.getElem?_set_self (by rw [← g.len]; exact hi), h⟩
    · rw [List.getElem?_eq_none (by simpa using hi)] at he
      cases he
  · rw [List.getElem?_set_ne hj] at he
    rw [List.getElem?_set_ne hj]
    exact g.get j e he
theorem Agr.wipe {σ : L2.St} {ρ : Ds} (g : Agr K Z H σ ρ) (i : Nat) : Agr K Z H (σ.set i none) (ρ.set i none) := by
  refine ⟨by simp [g.len], fun j e he => ?_⟩
  by_cases hj : i = j
  · subst hj
    by_cases hi : i < ρ.length
    · rw [List.getElem?_set_self hi] at he
      cases he
    · rw [List.getElem?_eq_none (by simpa using hi)] at he
      cases he
  · rw [List.getElem?_set_ne hj] at he
    rw [List.getElem?_set_ne hj]
    exact g.get j e he
theorem Agr.start {N : List Str} {vs : List V} {ds : List PyData} (h : DqL K Z H ds vs) (hl : ds.length ≤ N.length) : Agr K Z H (start N vs) (ds.map some ++ List.replicate (N.length - ds.length) none) := by
  have hv := h.length
  refine ⟨by simp [L2.start, hv], fun i d e => ?_⟩
  by_cases hi : i < ds.length
  · rw [List.getElem?_append_left (by simpa using hi), List.getElem?_map] at e
    cases q : ds[i]? with
    | none => rw [q] at e; cases e
    | some x =>
      rw [q] at e
      cases e
      obtain ⟨v, hv2, r⟩ := h.get q
      refine ⟨v, ?_, r⟩
      unfold L2.start
      rw [List.getElem?_append_left (by simp; omega), List.getElem?_map, hv2] <;> rfl
  · rw [List.getElem?_append_right (by simpa using hi), List.getElem?_replicate] at e
    split at e <;> cases e
end

/-! ### readings by functions on data -/
def tD (K : PySem.W.Frag) (f : F) : TE := fun σ H Q => ∃ Z ρ d, Zt Z H ∧ Agr K Z H σ ρ ∧ f ρ = some d ∧ ∀ v H', Same H H' → Dq K Z H' d v → Q v H'
def tDA (K : PySem.W.Frag) (n : Nat) (g : Ds → Option (List PyData)) : TA := fun σ H Q => ∃ Z ρ ds, Zt Z H ∧ Agr K Z H σ ρ ∧ g ρ = some ds ∧ ∀ vs H', Same H H' → DqL K Z H' ds vs → ds.length = n → Q vs H'
def tDT (K : PySem.W.Frag) (f : Ds → Option Bool) : TT := fun σ H Q => ∃ Z ρ b, Zt Z H ∧ Agr K Z H σ ρ ∧ f ρ = some b ∧ ∀ H', Same H H' → Q b H'

section
variable {X : Cx} {e : Expr}
theorem pe_weak {t t' : TE} (h : PE X e t) (w : ∀ σ H Q, t' σ H Q → t σ H Q) : PE X e t' := ⟨fun pins s σ H Q I q => h.run pins s σ H Q I (w σ H Q q)⟩
theorem pt_weak {t t' : TT} (h : PT X e t) (w : ∀ σ H Q, t' σ H Q → t σ H Q) : PT X e t' := ⟨fun pins s σ H Q I q => h.run pins s σ H Q I (w σ H Q q)⟩
theorem pw_weak {t t' : TT} (h : PW X e t) (w : ∀ σ H Q, t' σ H Q → t σ H Q) : PW X e t' := ⟨fun wh pins s σ H Q I q => h.run wh pins s σ H Q I (w σ H Q q)⟩
theorem pa_weak {es : List Expr} {t t' : TA} (h : PA X es t) (w : ∀ σ H Q, t' σ H Q → t σ H Q) : PA X es t' := ⟨fun pos pins s σ H Q I q => h.run pos pins s σ H Q I (w σ H Q q)⟩
theorem ps_weak {st : Stmt} {t t' : TS} (h : PS X st t) (w : ∀ D σ H, t' D σ H → t D σ H) : PS X st t' := ⟨fun pins s σ H D I q => h.run pins s σ H D I (w D σ H q)⟩
theorem pss_weak {st : List Stmt} {t t' : TS} (h : PSs X st t) (w : ∀ D σ H, t' D σ H → t D σ H) : PSs X st t' := ⟨fun pins s σ H D I q => h.run pins s σ H D I (w D σ H q)⟩
/-- the length of what is a tuple or a list -/
def LenOk (K : PySem.W.Frag) (H : Hp) (v : V) : Prop := ∀ a xs, v = .ref a → (SqT K H a xs ∨ SqL K H a xs) → xs.length ≤ sizeLine
theorem pe_lens {t : TE} (h : PE X e t) : PE X e (fun σ H Q => t σ H fun v H' => LenOk X.K H' v → Q v H') := by
  refine ⟨fun pins s σ H Q I q => ?_⟩
  refine thn (h.run pins s σ H _ I q) fun u s' ⟨v, H', I', r, q'⟩ => ⟨v, H', I', r, q' fun a xs _ hs => ?_⟩
  rcases hs with hs | hs
  · exact (I'.tuple hs).choose_spec.2.2
  · exact (I'.list hs).choose_spec.2.2
end

/-- the functions -/
def fVar (i : Nat) : F := fun ρ => (ρ[i]?).getD none
def fC (d : PyData) : F := fun _ => some d
def fNil : Ds → Option (List PyData) := fun _ => some []
def fCons (f : F) (g : Ds → Option (List PyData)) : Ds → Option (List PyData) := fun ρ => (f ρ).bind fun d => (g ρ).bind fun ds => some (d :: ds)
def fTup (g : Ds → Option (List PyData)) : F := fun ρ => (g ρ).bind fun ds => some (.tuple ds)
def fLst (g : Ds → Option (List PyData)) : F := fun ρ => (g ρ).bind fun ds => some (.list ds)
def f1 (h : PyData → Option PyData) (f : F) : F := fun ρ => (f ρ).bind h
def f2 (h : PyData → PyData → Option PyData) (f g : F) : F := fun ρ => (f ρ).bind fun a => (g ρ).bind fun b => h a b
def asB : PyData → Option Bool
  | .bool b => some b
  | _ => none
def fB (f : F) : Ds → Option Bool := fun ρ => (f ρ).bind asB
def fAnd (f g : F) : F := fun ρ => (f ρ).bind fun a => (asB a).bind fun b => if b then g ρ else some (.bool false)
def fOr (f g : F) : F := fun ρ => (f ρ).bind fun a => (asB a).bind fun b => if b then some (.bool true) else g ρ
def fNot (f : F) : F := fun ρ => (f ρ).bind fun a => (asB a).bind fun b => some (.bool (!b))
def fIf (c : Ds → Option Bool) (f g : F) : F := fun ρ => (c ρ).bind fun b => if b then f ρ else g ρ
def bAnd (f g : Ds → Option Bool) : Ds → Option Bool := fun ρ => (f ρ).bind fun b => if b then g ρ else some false
def bOr (f g : Ds → Option Bool) : Ds → Option Bool := fun ρ => (f ρ).bind fun b => if b then some true else g ρ
def bNot (f : Ds → Option Bool) : Ds → Option Bool := fun ρ => (f ρ).bind fun b => some (!b)
def fChain (h h' : PyData → PyData → Option PyData) (f g k : F) : F := fun ρ => (f ρ).bind fun a => (g ρ).bind fun b => (h a b).bind fun r => (asB r).bind fun c => if c then (k ρ).bind fun z => h' b z else some (.bool false)

section
variable {X : Cx} {a b c e : Expr} {es rest : List Expr} {pos : Pos} {f g k : F} {ga : Ds → Option (List PyData)} {n : Nat} {fb gb : Ds → Option Bool}
theorem de_var {i : Nat} {x : Str} (h : PE X (.Name x pos) (tVar i)) : PE X (.Name x pos) (tD X.K (fVar i)) := by
  refine pe_weak h fun σ H Q ⟨Z, ρ, d, hz, hg, hf, q⟩ => ?_
  have hf' : ρ[i]? = some (some d) := by
    unfold fVar at hf
    cases e : ρ[i]? with
    | none => rw [e] at hf; cases hf
    | some o => rw [e] at hf; rw [show o = some d from hf]
  obtain ⟨v, ev, hd⟩ := hg.get i d hf'
  exact ⟨v, ev, q v H (Same.refl H) hd⟩
theorem de_int {i j} : PE X (.Constant (.int i) j pos) (tD X.K (fC (.int i))) := pe_weak pe_int fun σ H Q ⟨Z, ρ, d, _, _, hf, q⟩ => by cases hf; exact q _ H (Same.refl H) rfl
theorem de_bl {i j} : PE X (.Constant (.bool i) j pos) (tD X.K (fC (.bool i))) := pe_weak pe_bl fun σ H Q ⟨Z, ρ, d, _, _, hf, q⟩ => by cases hf; exact q _ H (Same.refl H) rfl
theorem de_str {i j} : PE X (.Constant (.str i) j pos) (tD X.K (fC (.str i))) := pe_weak pe_str fun σ H Q ⟨Z, ρ, d, _, _, hf, q⟩ => by cases hf; exact q _ H (Same.refl H) rfl
theorem de_non {j} : PE X (.Constant .none j pos) (tD X.K (fC .none)) := pe_weak pe_non fun σ H Q ⟨Z, ρ, d, _, _, hf, q⟩ => by cases hf; exact q _ H (Same.refl H) rfl
/-- a constant of the module -/
theorem de_glob {v : V} {d : PyData} (h : PE X e (tC v)) (hd : ∀ Z H, Dq X.K Z H d v) : PE X e (tD X.K (fC d)) := pe_weak h fun σ H Q ⟨Z, ρ, d', _, _, hf, q⟩ => by cases hf; exact q _ H (Same.refl H) (hd Z H)
theorem da_nil : PA X [] (tDA X.K 0 fNil) := pa_weak pa_nil fun σ H Q ⟨Z, ρ, ds, _, _, hf, q⟩ => by cases hf; exact q [] H (Same.refl H) rfl rfl
theorem da_cons (h1 : PE X e (tD X.K f)) (h2 : PA X es (tDA X.K n ga)) (hs : starEach (e :: es) X.env = (false, eval e X.env) :: starEach es X.env := by rfl) : PA X (e :: es) (tDA X.K (n + 1) (fCons f ga)) := by
  refine pa_weak (pa_cons h1 h2 hs) fun σ H Q ⟨Z, ρ, ds, hz, hg, hf, q⟩ => ?_
  obtain ⟨d, e1, hf1⟩ := Option.bind_eq_some_iff.mp hf
  obtain ⟨ds', e2, hf1⟩ := Option.bind_eq_some_iff.mp hf1
  cases hf1
  refine ⟨Z, ρ, d, hz, hg, e1, fun v H1 s1 hd => ⟨Z, ρ, ds', hz.same s1, hg.same s1, e2, fun vs H2 s2 hds hl => ?_⟩⟩
  exact q (v :: vs) H2 (s1.trans s2) ⟨v, vs, rfl, hd.same s2, hds⟩ (by simp [hl])
/-- a display of a tuple, its object told -/
theorem pe_tupN {x1} {t : TA} (h : PA X es t) : PE X (.Tuple es x1 pos) (fun σ H Q => t σ H fun xs H1 => xs.length ≤ sizeLine ∧ ∀ p o, H1 p = Option.none → o.dict = Option.none → Q (.ref p) (upd H1 p (.frz o (.tup xs)))) := by
  refine ⟨fun pins s σ H Q I hw => ?_⟩
  refine wpAny_Tuple_spliced (thn (h.run pos pins s σ H _ I hw) fun us s1 ⟨xs, H1, I1, r, z, q⟩ => ⟨by have e := r.length; omega, ?_⟩)
  have free : H1 s1.heap.objs.size = Option.none := I1.hok.fresh (Nat.le_refl _)
  have stands : (s1.heap.push { cls := .type "tuple", data := .seq us.toArray }).get? s1.heap.objs.size = some { cls := .type "tuple", data := .seq us.toArray } := Heap.get?_push_size _ rfl
  refine ⟨.ref s1.heap.objs.size, upd H1 s1.heap.objs.size (.frz { cls := .type "tuple", data := .seq us.toArray } (.tup xs)), I1.laid (t' := s1.toks) (fun b u e => Heap.get?_push_of_some _ e) (Nat.le_refl _) ?_, rfl, q _ { cls := .type "tuple", data := .seq us.toArray } free rfl⟩
  exact ⟨stands, z, us, r, ⟨_, stands, rfl, _, rfl⟩⟩
theorem de_tup {x1} (h : PA X es (tDA X.K n ga)) (hn : n ≤ 1000 := by decide) : PE X (.Tuple es x1 pos) (tD X.K (fTup ga)) := by
  refine pe_weak (pe_tupN h) fun σ H Q ⟨Z, ρ, d, hz, hg, hf, q⟩ => ?_
  obtain ⟨ds, e1, hf1⟩ := Option.bind_eq_some_iff.mp hf
  cases hf1
  refine ⟨Z, ρ, ds, hz, hg, e1, fun vs H1 s1 hds hl => ⟨?_, fun p o hp hd => ?_⟩⟩
  · rw [hds.length, hl, sizeLine_eq]; omega
  · have s2 := same_upd (o := .frz o (.tup vs)) hp
    exact q _ _ (s1.trans s2) ⟨p, vs, rfl, tpn_new hd, hds.same s2⟩
theorem de_lst (h : PA X es (tDA X.K n ga)) (hn : n ≤ 1000 := by decide) : PE X (.List es pos) (tD X.K (fLst ga)) := by
  refine pe_weak (pe_lst h) fun σ H Q ⟨Z, ρ, d, hz, hg, hf, q⟩ => ?_
  obtain ⟨ds, e1, hf1⟩ := Option.bind_eq_some_iff.mp hf
  cases hf1
  refine ⟨Z, ρ, ds, hz, hg, e1, fun vs H1 s1 hds hl => ⟨?_, fun p hp => ?_⟩⟩
  · rw [hds.length, hl, sizeLine_eq]; omega
  · have s2 := same_upd (o := .lst vs) hp
    exact q _ _ (s1.trans s2) ⟨p, vs, rfl, upd_same, (hz.same s1).free hp, hds.same s2⟩
theorem asB_some {d : PyData} {b : Bool} (h : asB d = some b) : d = .bool b := by
  cases d <;> simp [asB] at h
  subst h; rfl
/-- operators by values -/
def OpD (X : Cx) (F : Value → Value → Sem Value) (h : PyData → PyData → Option PyData) : Prop :=
  OpR X F (fun x y H Q => ∃ Z d e r, Zt Z H ∧ Dq X.K Z H d x ∧ Dq X.K Z H e y ∧ h d e = some r ∧ ∀ v H', Same H H' → Dq X.K Z H' r v → Q v H')
theorem two_run {h : PyData → PyData → Option PyData} {σ : L2.St} {H : Hp} {R : V → V → Hp → Prop} {Z : Addr → Prop} {ρ : Ds} {x y : PyData} (hz : Zt Z H) (hg : Agr X.K Z H σ ρ) (e1 : f ρ = some x) (e2 : g ρ = some y)
    (q : ∀ v u H', Same H H' → Dq X.K Z H' x v → Dq X.K Z H' y u → Zt Z H' → R v u H') : tD X.K f σ H fun v H1 => tD X.K g σ H1 fun u H2 => R v u H2 :=
  ⟨Z, ρ, x, hz, hg, e1, fun v H1 s1 hv => ⟨Z, ρ, y, hz.same s1, hg.same s1, e2, fun u H2 s2 hu => q v u H2 (s1.trans s2) (hv.same s2) hu ((hz.same s1).same s2)⟩⟩
theorem de_op {op : Operator} {h : PyData → PyData → Option PyData} (ho : OpD X (binaryOp op) h) (ha : PE X a (tD X.K f)) (hb : PE X b (tD X.K g)) : PE X (.BinOp a op b pos) (tD X.K (f2 h f g)) := by
  refine pe_weak (pe_op ho ha hb) fun σ H Q ⟨Z, ρ, d, hz, hg, hf, q⟩ => ?_
  obtain ⟨x, e1, hf1⟩ := Option.bind_eq_some_iff.mp hf
  obtain ⟨y, e2, hf2⟩ := Option.bind_eq_some_iff.mp hf1
  exact two_run (h := h) hz hg e1 e2 fun v u H' s hv hu z => ⟨Z, x, y, d, z, hv, hu, hf2, fun w H2 s2 hw => q w H2 (s.trans s2) hw⟩
theorem de_cmp {op : CmpOp} {h : PyData → PyData → Option PyData} (ho : OpD X (compareOp op) h) (ha : PE X a (tD X.K f)) (hb : PE X b (tD X.K g)) (hm : behindInMarks op b = false) : PE X (.Compare a [op] [b] pos) (tD X.K (f2 h f g)) := by
  refine pe_weak (pe_cmpR ho ha hb hm) fun σ H Q ⟨Z, ρ, d, hz, hg, hf, q⟩ => ?_
  obtain ⟨x, e1, hf1⟩ := Option.bind_eq_some_iff.mp hf
  obtain ⟨y, e2, hf2⟩ := Option.bind_eq_some_iff.mp hf1
  exact two_run (h := h) hz hg e1 e2 fun v u H' s hv hu z => ⟨Z, x, y, d, z, hv, hu, hf2, fun w H2 s2 hw => q w H2 (s.trans s2) hw⟩
theorem dt_cmp {op : CmpOp} {h : PyData → PyData → Option PyData} (ho : OpD X (compareOp op) h) (ha : PE X a (tD X.K f)) (hb : PE X b (tD X.K g)) (hm : behindInMarks op b = false) : PT X (.Compare a [op] [b] pos) (tDT X.K (fB (f2 h f g))) := by
  refine pt_weak (pt_cmpR ho ha hb hm) fun σ H Q ⟨Z, ρ, d, hz, hg, hf, q⟩ => ?_
  obtain ⟨r, hf1, e3⟩ := Option.bind_eq_some_iff.mp hf
  obtain ⟨x, e1, hf2⟩ := Option.bind_eq_some_iff.mp hf1
  obtain ⟨y, e2, hf3⟩ := Option.bind_eq_some_iff.mp hf2
  have e4 := asB_some e3
  subst e4
  exact two_run (h := h) hz hg e1 e2 fun v u H' s hv hu z => ⟨Z, x, y, _, z, hv, hu, hf3, fun w H2 s2 hw => ⟨d, hw, q H2 (s.trans s2)⟩⟩
theorem de_chain {op op' : CmpOp} {h h' : PyData → PyData → Option PyData} (ho : OpD X (compareOp op) h) (ho' : OpD X (compareOp op') h') (ha : PE X a (tD X.K f)) (hb : PE X b (tD X.K g)) (hc : PE X c (tD X.K k))
    (ch : PE X (.Compare a [op, op'] [b, c] pos) (tChain (fun x y H Q => ∃ Z d e r, Zt Z H ∧ Dq X.K Z H d x ∧ Dq X.K Z H e y ∧ h d e = some r ∧ ∀ v H', Same H H' → Dq X.K Z H' r v → Q v H') (fun x y H Q => ∃ Z d e r, Zt Z H ∧ Dq X.K Z H d x ∧ Dq X.K Z H e y ∧ h' d e = some r ∧ ∀ v H', Same H H' → Dq X.K Z H' r v → Q v H') (tD X.K f) (tD X.K g) (tD X.K k))) :
    PE X (.Compare a [op, op'] [b, c] pos) (tD X.K (fChain h h' f g k)) := by
  refine pe_weak ch fun σ H Q ⟨Z, ρ, d, hz, hg, hf, q⟩ => ?_
  obtain ⟨x, e1, hf1⟩ := Option.bind_eq_some_iff.mp hf
  obtain ⟨y, e2, hf2⟩ := Option.bind_eq_some_iff.mp hf1
  obtain ⟨r, e3, hf3⟩ := Option.bind_eq_some_iff.mp hf2
  obtain ⟨b, e4, hf4⟩ := Option.bind_eq_some_iff.mp hf3
  have e5 := asB_some e4
  subst e5
  refine two_run (h := h) hz hg e1 e2 fun v u H' s hv hu z => ⟨Z, x, y, _, z, hv, hu, e3, fun w H2 s2 hw => ⟨b, hw, ?_⟩⟩
  cases b with
  | false =>
    rw [if_neg Bool.false_ne_true] at hf4 ⊢
    cases hf4
    exact q _ H2 (s.trans s2) rfl
  | true =>
    rw [if_pos rfl] at hf4 ⊢
    obtain ⟨y3, e6, hf5⟩ := Option.bind_eq_some_iff.mp hf4
    exact ⟨Z, ρ, y3, z.same s2, (hg.same s).same s2, e6, fun w3 H3 s3 hw3 => ⟨Z, y, y3, d, (z.same s2).same s3, (hu.same s2).same s3, hw3, hf5, fun w4 H4 s4 hw4 => q w4 H4 (((s.trans s2).trans s3).trans s4) hw4⟩⟩
theorem dt_val (h : PE X e (tD X.K f)) (he : ∀ whole, isTrue e X.env whole = (do let v ← whole; standAt e.pos; holding [v] (truthy v)) := by intro _; rfl) : PT X e (tDT X.K (fB f)) := by
  refine pt_weak (pt_val h he) fun σ H Q ⟨Z, ρ, d, hz, hg, hf, q⟩ => ?_
  obtain ⟨r, hf1, e3⟩ := Option.bind_eq_some_iff.mp hf
  have e4 := asB_some e3
  subst e4
  exact ⟨Z, ρ, _, hz, hg, hf1, fun v H' s hv => ⟨d, hv, q H' s⟩⟩
theorem de_one {op} (h : PE X a (tD X.K f)) : PE X (.BoolOp op [a] pos) (tD X.K f) := pe_one h
theorem de_and (ha : PE X a (tD X.K f)) (hb : PE X (.BoolOp .And (b :: rest) pos) (tD X.K g)) : PE X (.BoolOp .And (a :: b :: rest) pos) (tD X.K (fAnd f g)) := by
  refine pe_weak (pe_and ha hb) fun σ H Q ⟨Z, ρ, d, hz, hg, hf, q⟩ => ?_
  obtain ⟨x, e1, hf1⟩ := Option.bind_eq_some_iff.mp hf
  obtain ⟨k, e2, hf2⟩ := Option.bind_eq_some_iff.mp hf1
  have e4 := asB_some e2
  subst e4
  refine ⟨Z, ρ, _, hz, hg, e1, fun v H1 s hv => ⟨k, hv, ?_⟩⟩
  cases k with
  | false => rw [if_neg Bool.false_ne_true] at hf2 ⊢; cases hf2; exact q _ H1 s rfl
  | true => rw [if_pos rfl] at hf2 ⊢; exact ⟨Z, ρ, d, hz.same s, hg.same s, hf2, fun w H2 s2 hw => q w H2 (s.trans s2) hw⟩
theorem de_or (ha : PE X a (tD X.K f)) (hb : PE X (.BoolOp .Or (b :: rest) pos) (tD X.K g)) : PE X (.BoolOp .Or (a :: b :: rest) pos) (tD X.K (fOr f g)) := by
  refine pe_weak (pe_or ha hb) fun σ H Q ⟨Z, ρ, d, hz, hg, hf, q⟩ => ?_
  obtain ⟨x, e1, hf1⟩ := Option.bind_eq_some_iff.mp hf
  obtain ⟨k, e2, hf2⟩ := Option.bind_eq_some_iff.mp hf1
  have e4 := asB_some e2
  subst e4
  refine ⟨Z, ρ, _, hz, hg, e1, fun v H1 s hv => ⟨k, hv, ?_⟩⟩
  cases k with
  | true => rw [if_pos rfl] at hf2 ⊢; cases hf2; exact q _ H1 s rfl
  | false => rw [if_neg Bool.false_ne_true] at hf2 ⊢; exact ⟨Z, ρ, d, hz.same s, hg.same s, hf2, fun w H2 s2 hw => q w H2 (s.trans s2) hw⟩
theorem de_not (ha : PE X a (tD X.K f)) : PE X (.UnaryOp .Not a pos) (tD X.K (fNot f)) := by
  refine pe_weak (pe_not ha) fun σ H Q ⟨Z, ρ, d, hz, hg, hf, q⟩ => ?_
  obtain ⟨x, e1, hf1⟩ := Option.bind_eq_some_iff.mp hf
  obtain ⟨k, e2, hf2⟩ := Option.bind_eq_some_iff.mp hf1
  have e4 := asB_some e2
  subst e4
  cases hf2
  exact ⟨Z, ρ, _, hz, hg, e1, fun v H1 s hv => ⟨k, hv, q _ H1 s rfl⟩⟩
theorem de_if (hc : PT X c (tDT X.K fb)) (ha : PE X a (tD X.K f)) (hb : PE X b (tD X.K g)) : PE X (.IfExp c a b pos) (tD X.K (fIf fb f g)) := by
  refine pe_weak (pe_ifExp hc ha hb) fun σ H Q ⟨Z, ρ, d, hz, hg, hf, q⟩ => ?_
  obtain ⟨k, e1, hf1⟩ := Option.bind_eq_some_iff.mp hf
  refine ⟨Z, ρ, k, hz, hg, e1, fun H1 s => ?_⟩
  cases k with
  | true => rw [if_pos rfl] at hf1 ⊢; exact ⟨Z, ρ, d, hz.same s, hg.same s, hf1, fun w H2 s2 hw => q w H2 (s.trans s2) hw⟩
  | false => rw [if_neg Bool.false_ne_true] at hf1 ⊢; exact ⟨Z, ρ, d, hz.same s, hg.same s, hf1, fun w H2 s2 hw => q w H2 (s.trans s2) hw⟩
theorem dt_not (ha : PT X a (tDT X.K fb)) : PT X (.UnaryOp .Not a pos) (tDT X.K (bNot fb)) := by
  refine pt_weak (pt_not ha) fun σ H Q ⟨Z, ρ, d, hz, hg, hf, q⟩ => ?_
  obtain ⟨k, e1, hf1⟩ := Option.bind_eq_some_iff.mp hf
  cases hf1
  exact ⟨Z, ρ, k, hz, hg, e1, fun H1 s => q H1 s⟩
theorem dw_and1 (ha : PT X a (tDT X.K fb)) : PW X (.BoolOp .And [a] pos) (tDT X.K fb) := pw_and1 ha
theorem dw_or1 (ha : PT X a (tDT X.K fb)) : PW X (.BoolOp .Or [a] pos) (tDT X.K fb) := pw_or1 ha
theorem dw_and (ha : PT X a (tDT X.K fb)) (hb : PW X (.BoolOp .And (b :: rest) pos) (tDT X.K gb)) : PW X (.BoolOp .And (a :: b :: rest) pos) (tDT X.K (bAnd fb gb)) := by
  refine pw_weak (pw_and ha hb) fun σ H Q ⟨Z, ρ, d, hz, hg, hf, q⟩ => ?_
  obtain ⟨k, e1, hf1⟩ := Option.bind_eq_some_iff.mp hf
  refine ⟨Z, ρ, k, hz, hg, e1, fun H1 s => ?_⟩
  cases k with
  | true => rw [if_pos rfl] at hf1 ⊢; exact ⟨Z, ρ, d, hz.same s, hg.same s, hf1, fun H2 s2 => q H2 (s.trans s2)⟩
  | false => rw [if_neg Bool.false_ne_true] at hf1 ⊢; cases hf1; exact q H1 s
theorem dw_or (ha : PT X a (tDT X.K fb)) (hb : PW X (.BoolOp .Or (b :: rest) pos) (tDT X.K gb)) : PW X (.BoolOp .Or (a :: b :: rest) pos) (tDT X.K (bOr fb gb)) := by
  refine pw_weak (pw_or ha hb) fun σ H Q ⟨Z, ρ, d, hz, hg, hf, q⟩ => ?_
  obtain ⟨k, e1, hf1⟩ := Option.bind_eq_some_iff.mp hf
  refine ⟨Z, ρ, k, hz, hg, e1, fun H1 s => ?_⟩
  cases k with
  | false => rw [if_neg Bool.false_ne_true] at hf1 ⊢; exact ⟨Z, ρ, d, hz.same s, hg.same s, hf1, fun H2 s2 => q H2 (s.trans s2)⟩
  | true => rw [if_pos rfl] at hf1 ⊢; cases hf1; exact q H1 s
end
end Cr
namespace Cr
open PySem PySem.Spec PyProof.Rows L2

/-! ### operators on data -/
def hII (g : Int → Int → PyData) : PyData → PyData → Option PyData
  | .int i, .int j => some (g i j)
  | _, _ => none
def shal (d : PyData) : Bool := decide (d.depth ≤ 60)
def hEq (a b : PyData) : Option PyData := if (shal a || shal b) = true then some (.bool (PyData.eqv a b)) else none
def hNe (a b : PyData) : Option PyData := if (shal a || shal b) = true then some (.bool (!PyData.eqv a b)) else none
def hIn (neg : Bool) (a : PyData) : PyData → Option PyData
  | .tuple ds => if (shal a || shal (.tuple ds)) = true then some (.bool ((ds.any fun y => PyData.eqv y a) != neg)) else none
  | .list ds => if (shal a || shal (.list ds)) = true then some (.bool ((ds.any fun y => PyData.eqv y a) != neg)) else none
  | _ => none
def isNone : PyData → Bool
  | .none => true
  | _ => false
def hIs (neg : Bool) (a : PyData) : PyData → Option PyData
  | .none => some (.bool (isNone a != neg))
  | _ => none
def hIsB : PyData → PyData → Option PyData
  | .bool a, .bool b => some (.bool (decide (a = b)))
  | _, _ => none
def hMod : PyData → PyData → Option PyData
  | .int i, .int j => if 0 < j then some (.int (i % j)) else none
  | _, _ => none
def hPow : PyData → PyData → Option PyData
  | .int i, .int j => if 0 ≤ j ∧ j ≤ 1000 ∧ i.natAbs < 1000 then some (.int (i ^ j.toNat)) else none
  | _, _ => none
def hRepL : PyData → PyData → Option PyData
  | .list ds, .int k => if 0 ≤ k ∧ k ≤ 1000 ∧ ds.length ≤ 1000 then some (.list (List.replicate k.toNat ds).flatten) else none
  | _, _ => none
def hRepT : PyData → PyData → Option PyData
  | .tuple ds, .int k => if ds ≠ [] ∧ 2 ≤ k ∧ k ≤ 1000 ∧ ds.length ≤ 1000 then some (.tuple (List.replicate k.toNat ds).flatten) else none
  | _, _ => none
def hCatL : PyData → PyData → Option PyData
  | .list ds, .list es => if ds.length ≤ 1000 ∧ es.length ≤ 1000 then some (.list (ds ++ es)) else none
  | _, _ => none
def hCatT : PyData → PyData → Option PyData
  | .tuple ds, .tuple es => if ds.length ≤ 1000 ∧ es.length ≤ 1000 then some (.tuple (ds ++ es)) else none
  | _, _ => none

section
variable {X : Cx} {K : PySem.W.Frag} {Z : Addr → Prop} {H : Hp}
theorem opd_int {F : Value → Value → Sem Value} {gi : Int → Int → PyData} {gv : Int → Int → V} (ho : OpR X F (rI0 gv)) (hq : ∀ K Z H i j, Dq K Z H (gi i j) (gv i j)) : OpD X F (hII gi) := by
  intro pins s σ H x y v u Q I rx ry h
  obtain ⟨Z, d, e, r, hz, hd, he, hr, q⟩ := h
  cases d <;> cases e <;> simp only [hII, reduceCtorEq, Option.some.injEq] at hr
  subst hr
  exact ho pins s σ H x y v u Q I rx ry ⟨_, _, hd, he, q _ H (Same.refl H) (hq _ _ _ _ _)⟩
theorem opd_add : OpD X (binaryOp .Add) (hII fun i j => .int (i + j)) := opd_int op_add fun _ _ _ _ _ => rfl
theorem opd_sub : OpD X (binaryOp .Sub) (hII fun i j => .int (i - j)) := opd_int op_sub fun _ _ _ _ _ => rfl
theorem opd_lt : OpD X (compareOp .Lt) (hII fun i j => .bool (decide (i < j))) := opd_int op_lt fun _ _ _ _ _ => rfl
theorem opd_le : OpD X (compareOp .LtE) (hII fun i j => .bool (decide (i ≤ j))) := opd_int op_le fun _ _ _ _ _ => rfl
theorem opd_gt : OpD X (compareOp .Gt) (hII fun i j => .bool (decide (j < i))) := opd_int op_gt fun _ _ _ _ _ => rfl
theorem opd_ge : OpD X (compareOp .GtE) (hII fun i j => .bool (decide (j ≤ i))) := opd_int op_ge fun _ _ _ _ _ => rfl
theorem opd_mod : OpD X (binaryOp .Mod) hMod := by
  intro pins s σ H x y v u Q I rx ry h
  obtain ⟨Z, d, e, r, hz, hd, he, hr, q⟩ := h
  cases d <;> cases e <;> simp only [hMod, reduceCtorEq] at hr
  split at hr
  · rename_i hj
    cases hr
    exact op_mod pins s σ H x y v u Q I rx ry ⟨_, _, hd, he, hj, q _ H (Same.refl H) rfl⟩
  · cases hr
theorem opd_pow : OpD X (binaryOp .Pow) hPow := by
  intro pins s σ H x y v u Q I rx ry h
  obtain ⟨Z, d, e, r, hz, hd, he, hr, q⟩ := h
  cases d <;> cases e <;> simp only [hPow, reduceCtorEq] at hr
  split at hr
  · rename_i i j hj
    cases hr
    exact op_pow pins s σ H x y v u Q I rx ry ⟨_, _, hd, he, ⟨hj.1, by omega, Nat.lt_of_lt_of_le hj.2.2 (by decide)⟩, q _ H (Same.refl H) rfl⟩
  · cases hr
theorem min_of {a b : PyData} (h : (shal a || shal b) = true) : min a.depth b.depth ≤ 60 := by
  unfold shal at h
  rw [Bool.or_eq_true, decide_eq_true_eq, decide_eq_true_eq] at h
  omega
theorem opd_eq (hu : X.A.units + 64 < cLine) : OpD X (compareOp .Eq) hEq := by
  intro pins s σ H x y v u Q I rx ry h
  obtain ⟨Z, d, e, r, hz, hd, he, hr, q⟩ := h
  unfold hEq at hr
  split at hr
  · rename_i hs
    cases hr
    obtain ⟨as, r1⟩ := Dp.reads I d x v (Dq.dp _ _ hd) rx
    obtain ⟨bs, r2⟩ := Dp.reads I e y u (Dq.dp _ _ he) ry
    have := min_of hs
    exact SeqAt.eq_plain r1 r2 (Dq.plain _ _ hd) (Dq.plain _ _ he) (by omega) ⟨.bl _, H, I, rfl, q _ H (Same.refl H) rfl⟩
  · cases hr
theorem opd_ne (hu : X.A.units + 64 < cLine) : OpD X (compareOp .NotEq) hNe := by
  intro pins s σ H x y v u Q I rx ry h
  obtain ⟨Z, d, e, r, hz, hd, he, hr, q⟩ := h
  unfold hNe at hr
  split at hr
  · rename_i hs
    cases hr
    obtain ⟨as, r1⟩ := Dp.reads I d x v (Dq.dp _ _ hd) rx
    obtain ⟨bs, r2⟩ := Dp.reads I e y u (Dq.dp _ _ he) ry
    have := min_of hs
    exact SeqAt.ne_plain r1 r2 (Dq.plain _ _ hd) (Dq.plain _ _ he) (by omega) ⟨.bl _, H, I, rfl, q _ H (Same.refl H) rfl⟩
  · cases hr
theorem plain_items {ds : List PyData} {v : V} (h : Dq K Z H (.tuple ds) v) : PyData.plainAll ds = true := by
  obtain ⟨_, xs, _, _, h3⟩ := h
  exact DqL.plain ds xs h3
theorem plain_itemsL {ds : List PyData} {v : V} (h : Dq K Z H (.list ds) v) : PyData.plainAll ds = true := by
  obtain ⟨_, xs, _, _, _, h3⟩ := h
  exact DqL.plain ds xs h3
theorem depth_tup (ds : List PyData) : PyData.depthAll ds ≤ (PyData.tuple ds).depth := by
  simp only [PyData.depth]; omega
theorem depth_lst (ds : List PyData) : PyData.depthAll ds ≤ (PyData.list ds).depth := by
  simp only [PyData.depth]; omega
theorem opd_in (hu : X.A.units + 64 < cLine) : OpD X (compareOp .In) (hIn false) := by
  intro pins s σ H x y v u Q I rx ry h
  obtain ⟨Z, d, e, r, hz, hd, he, hr, q⟩ := h
  obtain ⟨as, r1⟩ := Dp.reads I d x v (Dq.dp _ _ hd) rx
  obtain ⟨bs, r2⟩ := Dp.reads I e y u (Dq.dp _ _ he) ry
  cases e with
  | tuple ds =>
    simp only [hIn] at hr
    split at hr
    · rename_i hs
      cases hr
      have := min_of hs
      have := depth_tup ds
      refine SeqAt.in_tuple_data r2 r1 (plain_items he) (Dq.plain _ _ hd) (by omega) ⟨.bl _, H, I, rfl, ?_⟩
      have := q (.bl ((ds.any fun y => PyData.eqv y d) != false)) H (Same.refl H) rfl
      simpa using this
    · cases hr
  | list ds =>
    simp only [hIn] at hr
    split at hr
    · rename_i hs
      cases hr
      have := min_of hs
      have := depth_lst ds
      refine SeqAt.in_list_data r2 r1 (plain_itemsL he) (Dq.plain _ _ hd) (by omega) ⟨.bl _, H, I, rfl, ?_⟩
      have := q (.bl ((ds.any fun y => PyData.eqv y d) != false)) H (Same.refl H) rfl
      simpa using this
    · cases hr
  | _ => cases hr
theorem opd_notin (hu : X.A.units + 64 < cLine) : OpD X (compareOp .NotIn) (hIn true) := by
  intro pins s σ H x y v u Q I rx ry h
  obtain ⟨Z, d, e, r, hz, hd, he, hr, q⟩ := h
  obtain ⟨as, r1⟩ := Dp.reads I d x v (Dq.dp _ _ hd) rx
  obtain ⟨bs, r2⟩ := Dp.reads I e y u (Dq.dp _ _ he) ry
  cases e with
  | tuple ds =>
    simp only [hIn] at hr
    split at hr
    · rename_i hs
      cases hr
      have := min_of hs
      have := depth_tup ds
      refine SeqAt.notIn_tuple_data r2 r1 (plain_items he) (Dq.plain _ _ hd) (by omega) ⟨.bl _, H, I, rfl, ?_⟩
      have := q (.bl ((ds.any fun y => PyData.eqv y d) != true)) H (Same.refl H) rfl
      simpa using this
    · cases hr
  | list ds =>
    simp only [hIn] at hr
    split at hr
    · rename_i hs
      cases hr
      have := min_of hs
      have := depth_lst ds
      refine SeqAt.notIn_list_data r2 r1 (plain_itemsL he) (Dq.plain _ _ hd) (by omega) ⟨.bl _, H, I, rfl, ?_⟩
      have := q (.bl ((ds.any fun y => PyData.eqv y d) != true)) H (Same.refl H) rfl
      simpa using this
    · cases hr
  | _ => cases hr
theorem non_iff {d : PyData} {v : V} (h : Dq K Z H d v) : decide (v = .non) = isNone d := by
  cases d with
  | none => cases (show _ = _ from h); rfl
  | bool _ => cases (show _ = _ from h); rfl
  | int _ => cases (show _ = _ from h); rfl
  | str _ => cases (show _ = _ from h); rfl
  | list ds => obtain ⟨_, _, e, _⟩ := h; cases e; rfl
  | tuple ds => obtain ⟨_, _, e, _⟩ := h; cases e; rfl
  | dict _ => exact h.elim
theorem opd_is : OpD X (compareOp .Is) (hIs false) := by
  intro pins s σ H x y v u Q I rx ry h
  obtain ⟨Z, d, e, r, hz, hd, he, hr, q⟩ := h
  cases e <;> simp only [hIs, reduceCtorEq, Option.some.injEq] at hr
  subst hr
  refine op_isN pins s σ H x y v u Q I rx ry ⟨he, ?_⟩
  rw [non_iff hd]
  have := q (.bl (isNone d != false)) H (Same.refl H) rfl
  simpa using this
theorem opd_isnot : OpD X (compareOp .IsNot) (hIs true) := by
  intro pins s σ H x y v u Q I rx ry h
  obtain ⟨Z, d, e, r, hz, hd, he, hr, q⟩ := h
  cases e <;> simp only [hIs, reduceCtorEq, Option.some.injEq] at hr
  subst hr
  refine op_notN pins s σ H x y v u Q I rx ry ⟨he, ?_⟩
  rw [non_iff hd]
  have := q (.bl (isNone d != true)) H (Same.refl H) rfl
  simpa using this
theorem opd_isb : OpD X (compareOp .Is) hIsB := by
  intro pins s σ H x y v u Q I rx ry h
  obtain ⟨Z, d, e, r, hz, hd, he, hr, q⟩ := h
  cases d <;> cases e <;> simp only [hIsB, reduceCtorEq, Option.some.injEq] at hr
  subst hr
  exact op_isBl pins s σ H x y v u Q I rx ry ⟨_, _, hd, he, q _ H (Same.refl H) rfl⟩
/-- a new tuple laid, its object told -/
theorem tup_laid {pins : List (Addr × Obj)} {σ : L2.St} {s : Shared} {its : List Value} {xs : List V} (I : Inv X pins σ H s) (r : Vals xs its) (hl : xs.length ≤ sizeLine) :
    ∃ p, H p = Option.none ∧ Inv X pins σ (upd H p (.frz { cls := .type "tuple", data := .seq its.toArray } (.tup xs))) { s with heap := s.heap.push { cls := .type "tuple", data := .seq its.toArray } } ∧ p = s.heap.objs.size := by
  have stands : (s.heap.push { cls := .type "tuple", data := .seq its.toArray }).get? s.heap.objs.size = some { cls := .type "tuple", data := .seq its.toArray } := Heap.get?_push_size _ rfl
  exact ⟨_, I.hok.fresh (Nat.le_refl _), I.laid (t' := s.toks) (fun b u e => Heap.get?_push_of_some _ e) (Nat.le_refl _) ⟨stands, hl, its, r, ⟨_, stands, rfl, _, rfl⟩⟩, rfl⟩
theorem DqL.rep {ds : List PyData} {xs : List V} (h : DqL K Z H ds xs) : ∀ k, DqL K Z H (List.replicate k ds).flatten (List.replicate k xs).flatten
  | 0 => DqL.nil
  | k + 1 => by
    rw [List.replicate_succ, List.replicate_succ, List.flatten_cons, List.flatten_cons]
    exact h.app (DqL.rep h k)
theorem opd_repl : OpD X (binaryOp .Mult) hRepL := by
  intro pins s σ H x y v u Q I rx ry h
  obtain ⟨Z, d, e, r, hz, hd, he, hr, q⟩ := h
  cases d <;> cases e <;> simp only [hRepL, reduceCtorEq] at hr
  split at hr
  · rename_i ds k hk
    cases hr
    obtain ⟨a, xs, rfl, h1, h2, h3⟩ := hd
    have hl := h3.length
    have hm : xs.length * k.toNat ≤ 1000 * 1000 := Nat.mul_le_mul (by omega) (by omega)
    refine op_rep pins s σ H _ y v u Q I rx ry ⟨a, k, xs, rfl, he, h1, by omega, by omega, by rw [sizeLine_eq]; omega, fun p hp => ?_⟩
    have s2 := same_upd (o := .lst (List.replicate k.toNat xs).flatten) hp
    exact q _ _ s2 ⟨p, _, rfl, upd_same, hz.free hp, (h3.rep _).same s2⟩
  · cases hr
theorem opd_rept : OpD X (binaryOp .Mult) hRepT := by
  intro pins s σ H x y v u Q I rx ry h
  obtain ⟨Z, d, e, r, hz, hd, he, hr, q⟩ := h
  cases d <;> cases e <;> simp only [hRepT, reduceCtorEq] at hr
  split at hr
  · rename_i ds k hk
    cases hr
    obtain ⟨a, xs, rfl, h1, h3⟩ := hd
    have hl := h3.length
    have hne : xs ≠ [] := fun e => hk.1 (List.eq_nil_of_length_eq_zero (by rw [← hl, e]; rfl))
    cases rx
    cases (show y = .int k from he)
    obtain ⟨t, rfl⟩ := ry
    obtain ⟨its, r1, ⟨⟨cls, dd, data, sls⟩, ho, hc, m, hdt⟩, _⟩ := I.tuple h1.1
    simp only at hc hdt
    subst hc hdt
    have n1 := r1.length
    have c1 : its ≠ [] := fun e => hne (List.eq_nil_of_length_eq_zero (by rw [n1, e]; rfl))
    have c2 : its.toArray.isEmpty = false := by cases its with
      | nil => exact absurd rfl c1
      | cons _ _ => rfl
    have c3 : ((its.toArray.size : Nat) : Int) * k ≤ 1000000 := by
      rw [List.size_toArray, ← n1]
      have := Int.mul_le_mul_of_nonneg_right (show ((xs.length : Nat) : Int) ≤ 1000 by omega) (show (0 : Int) ≤ k by omega)
      omega
    have c4 : (List.replicate k.toNat its).flatten.length ≤ sizeLine := by
      rw [PyProof.Rows.lm_len_rep_flat, sizeLine_eq]
      have := Nat.mul_le_mul (show k.toNat ≤ 1000 by omega) (show its.length ≤ 1000 by omega)
      omega
    have b0 : (decide (k < -(2 ^ 63)) || decide (k ≥ 2 ^ 63)) = false := by rw [decide_eq_false (by omega), decide_eq_false (by omega)]; rfl
    have b1 : (its.toArray.isEmpty || k == 1) = false := by rw [c2, Bool.false_or]; exact beq_eq_false_iff_ne.mpr (by omega)
    have b2 : (decide (k ≤ 0) || its.toArray.isEmpty) = false := by rw [c2, Bool.or_false]; exact decide_eq_false (by omega)
    have b4 : Builtin.Tuple.tupleTooMany (((its.toArray.size : Nat) : Int) * k) = false := by unfold Builtin.Tuple.tupleTooMany; rw [sizeLine_eq]; exact decide_eq_false (by omega)
    have road : wpAny (model X.prog X.w) X.A (call (.builtin "tuple.__mul__") [.ref a, .int k t]) (EP X pins σ Q) X.xe s := call_meets F.slot_tuple_mul (s := s) (show s.TypeIs (.ref a) "tuple" from ⟨_, ho, rfl⟩) F.entry_tuple_mul (F.args_tuple_mul_2 _ _) (tuple_mulW a its.toArray m dd sls k t b0 b1 b2 (by omega) b4 (by rw [size_rep, List.size_toArray]; exact c4)) ⟨ho, by
      rw [size_rep]
      obtain ⟨p, hp, J2, hd⟩ := tup_laid (its := (List.replicate k.toNat its).flatten) I (r1.rep k.toNat) (by rw [(r1.rep k.toNat).length]; exact c4)
      subst hd
      have s2 := same_upd (o := .frz { cls := .type "tuple", data := .seq (List.replicate k.toNat its).flatten.toArray } (.tup (List.replicate k.toNat xs).flatten)) hp
      exact ⟨.ref s.heap.objs.size, _, J2, rfl, q _ _ s2 ⟨_, _, rfl, tpn_new rfl, (h3.rep _).same s2⟩⟩⟩
    exact wpAny_binaryOp_repeat_ref (T := "tuple") (U := "int") (by decide) ⟨_, ho, rfl⟩ (fun s' => typeIs_int s' k t) noFill_tuple_mul F.fills_int_mul F.slot_int_rmul repeat_tuple F.slot_int_index.lookup
      (call_meets F.slot_int_rmul (typeIs_int s k t) F.entry_int_rmul (F.args_int_rmul_2 _ _) (int_rmul_tuple k t a its.toArray m dd sls) ⟨ho, rfl, ⟨_, ho, rfl⟩, road⟩)
  · cases hr
theorem opd_catl : OpD X (binaryOp .Add) hCatL := by
  intro pins s σ H x y v u Q I rx ry h
  obtain ⟨Z, d, e, r, hz, hd, he, hr, q⟩ := h
  cases d <;> cases e <;> simp only [hCatL, reduceCtorEq] at hr
  split at hr
  · rename_i ds es hk
    cases hr
    obtain ⟨a, xs, rfl, h1, h2, h3⟩ := hd
    obtain ⟨b, ys, rfl, k1, k2, k3⟩ := he
    have hl := h3.length
    have hl2 := k3.length
    refine op_cat pins s σ H _ _ v u Q I rx ry ⟨a, b, xs, ys, rfl, rfl, h1, k1, by rw [sizeLine_eq]; omega, fun p hp => ?_⟩
    have s2 := same_upd (o := .lst (xs ++ ys)) hp
    exact q _ _ s2 ⟨p, _, rfl, upd_same, hz.free hp, (h3.app k3).same s2⟩
  · cases hr
theorem opd_catt : OpD X (binaryOp .Add) hCatT := by
  intro pins s σ H x y v u Q I rx ry h
  obtain ⟨Z, d, e, r, hz, hd, he, hr, q⟩ := h
  cases d <;> cases e <;> simp only [hCatT, reduceCtorEq] at hr
  split at hr
  · rename_i ds es hk
    cases hr
    obtain ⟨a, xs, rfl, h1, h3⟩ := hd
    obtain ⟨b, ys, rfl, k1, k3⟩ := he
    have hl := h3.length
    have hl2 := k3.length
    cases rx
    cases ry
    obtain ⟨its, r1, p1, _⟩ := I.tuple h1.1
    obtain ⟨jts, r2, p2, _⟩ := I.tuple k1.1
    have z := h3.app k3
    have n1 := r1.length
    have n2 := r2.length
    by_cases c1 : its = []
    · subst c1
      refine cat_tup0 p1 p2 ⟨.ref b, H, I, rfl, ?_⟩
      have e : xs = [] := List.eq_nil_of_length_eq_zero (by simpa using n1)
      rw [e, List.nil_append] at z
      exact q _ _ (Same.refl H) ⟨b, ys, rfl, k1, z⟩
    · refine HT.cat_tup p1 p2 c1 (fun e => ⟨.ref a, H, I, rfl, ?_⟩) (fun e => ?_) (by rw [sizeLine_eq]; omega)
      · have e' : ys = [] := List.eq_nil_of_length_eq_zero (by rw [n2, e]; rfl)
        rw [e', List.append_nil] at z
        exact q _ _ (Same.refl H) ⟨a, xs, rfl, h1, z⟩
      · obtain ⟨p, hp, J2, hd⟩ := tup_laid (its := its ++ jts) I (r1.append r2) (by rw [List.length_append, sizeLine_eq]; omega)
        subst hd
        have s2 := same_upd (o := .frz { cls := .type "tuple", data := .seq (its ++ jts).toArray } (.tup (xs ++ ys))) hp
        exact ⟨.ref s.heap.objs.size, _, J2, rfl, q _ _ s2 ⟨_, _, rfl, tpn_new rfl, z.same s2⟩⟩
  · cases hr
end

/-! ### one argument -/
def hNeg : PyData → Option PyData
  | .int i => some (.int (-i))
  | _ => none
def allB : List PyData → Option Bool
  | [] => some true
  | d :: ds => (asB d).bind fun b => (allB ds).bind fun c => some (b && c)
def hAll : PyData → Option PyData
  | .list ds => (allB ds).map .bool
  | _ => none
def hLen : PyData → Option PyData
  | .tuple ds => some (.int ds.length)
  | .list ds => some (.int ds.length)
  | _ => none
def hTuple : PyData → Option PyData
  | .list ds => some (.tuple ds)
  | _ => none
def hList : PyData → Option PyData
  | .tuple ds => some (.list ds)
  | .list ds => some (.list ds)
  | _ => none
def hInt : PyData → Option PyData
  | .int i => some (.int i)
  | .bool b => some (.int (if b then 1 else 0))
  | _ => none
def hIx : PyData → PyData → Option PyData
  | .tuple ds, .int i => atI ds i
  | .list ds, .int i => atI ds i
  | _, _ => none
def cutD (ds : List PyData) (lo hi : Option Int) : List PyData := (ds.drop (HT.sIx ds.length 0 lo)).take (HT.sIx ds.length ds.length hi - HT.sIx ds.length 0 lo)
def tyName : PyData → String
  | .none => "NoneType"
  | .bool _ => "bool"
  | .int _ => "int"
  | .str _ => "str"
  | .list _ => "list"
  | .tuple _ => "tuple"
  | .dict _ => "dict"

section
variable {X : Cx} {K : PySem.W.Frag} {Z : Addr → Prop} {H : Hp}
theorem allB_some : ∀ {ds : List PyData} {b : Bool}, allB ds = some b → ∃ bs : List Bool, ds = bs.map .bool ∧ bs.all id = b
  | [], b, h => ⟨[], rfl, by simpa [allB] using h⟩
  | d :: ds, b, h => by
    obtain ⟨x, e1, h1⟩ := Option.bind_eq_some_iff.mp h
    obtain ⟨y, e2, h2⟩ := Option.bind_eq_some_iff.mp h1
    obtain ⟨bs, rfl, e3⟩ := allB_some e2
    have e4 := asB_some e1
    subst e4
    refine ⟨x :: bs, rfl, ?_⟩
    rw [List.all_cons, e3]
    exact Option.some.inj h2
theorem atI_q {ds : List PyData} {xs : List V} {i : Int} {d : PyData} (h : DqL K Z H ds xs) (e : atI ds i = some d) : ∃ v, atI xs i = some v ∧ Dq K Z H d v := by
  unfold atI at e
  obtain ⟨j, e1, e2⟩ := Option.bind_eq_some_iff.mp e
  obtain ⟨x, e3, q⟩ := h.get e2
  refine ⟨x, ?_, q⟩
  unfold atI
  rw [h.length, e1]
  exact e3
theorem tyx_of {d : PyData} {v : V} (h : Dq K Z H d v) : TyX K H v (.type (tyName d)) := by
  cases d with
  | none => cases (show _ = _ from h); exact .base .non
  | bool b => cases (show _ = _ from h); exact .base (.bl b)
  | int i => cases (show _ = _ from h); exact .base (.int i)
  | str x => cases (show _ = _ from h); exact .base (.str x)
  | list ds => obtain ⟨_, _, e, h1, _⟩ := h; cases e; exact .base (.lst h1)
  | tuple ds =>
    obtain ⟨_, _, e, h1, _⟩ := h
    cases e
    rcases h1.1 with (h1 | ⟨o, h1⟩) | ⟨o, its, n, h1, h2, _⟩
    · exact .base (.tup h1)
    · exact .fTuple h1
    · exact .kTuple h1 h2
  | dict _ => exact h.elim
variable {x : Str} {p q pos p2 : Pos} {e a b : Expr} {f g : F}
theorem de_neg (ha : PE X a (tD X.K f)) : PE X (.UnaryOp .USub a pos) (tD X.K (f1 hNeg f)) := by
  refine pe_weak (pe_un un_neg ha) fun σ H Q ⟨Z, ρ, d, hz, hg, hf, q⟩ => ?_
  obtain ⟨y, e1, hf1⟩ := Option.bind_eq_some_iff.mp hf
  cases y <;> simp only [hNeg, reduceCtorEq, Option.some.injEq] at hf1
  subst hf1
  exact ⟨Z, ρ, _, hz, hg, e1, fun v H1 s hv => ⟨_, hv, q _ H1 s rfl⟩⟩
/-- a call of a built-in with one argument -/
def CallD (X : Cx) (f : Value) (h : PyData → Option PyData) : Prop :=
  CallR X f (fun xs H Q => ∃ Z v d r, xs = [v] ∧ Zt Z H ∧ Dq X.K Z H d v ∧ h d = some r ∧ ∀ u H', Same H H' → Dq X.K Z H' r u → Q u H')
theorem de_b1 {id : String} {h : PyData → Option PyData} (hc : CallD X (.builtin id) h) (hg : Gl X x) (hm : X.mg x = none) (hv : bootBuiltins x = some (.builtin id)) (ha : PE X e (tD X.K f)) (hn : x ≠ "__name__" := by decide) (hdb : (x == ("__debug__" : Str)) = false := by decide)
    (na : starEach [e] X.env = (false, eval e X.env) :: starEach [] X.env := by rfl) (hpl : (backTo pos (starEach [] X.env)).any (·.1) = false := by rfl) : PE X (.Call (.Name x p) [e] [] pos) (tD X.K (f1 h f)) := by
  refine pe_weak (pe_callB hc hg hm hv (pa_cons ha pa_nil na) hn hdb na hpl) fun σ H Q ⟨Z, ρ, d, hz, hg, hf, q⟩ => ?_
  obtain ⟨y, e1, hf1⟩ := Option.bind_eq_some_iff.mp hf
  exact ⟨Z, ρ, y, hz, hg, e1, fun v H1 s hv => ⟨Z, v, y, d, rfl, hz.same s, hv, hf1, fun u H2 s2 hu => q u H2 (s.trans s2) hu⟩⟩
theorem de_t1 {id : String} {h : PyData → Option PyData} (hc : CallD X (.type id) h) (hg : Gl X x) (hm : X.mg x = none) (hv : bootBuiltins x = some (.type id)) (ha : PE X e (tD X.K f)) (hn : x ≠ "__name__" := by decide) (hdb : (x == ("__debug__" : Str)) = false := by decide)
    (na : starEach [e] X.env = (false, eval e X.env) :: starEach [] X.env := by rfl) (hpl : (backTo pos (starEach [] X.env)).any (·.1) = false := by rfl) : PE X (.Call (.Name x p) [e] [] pos) (tD X.K (f1 h f)) := by
  refine pe_weak (pe_callTy hc hg hm hv (pa_cons ha pa_nil na) hn hdb na hpl) fun σ H Q ⟨Z, ρ, d, hz, hg, hf, q⟩ => ?_
  obtain ⟨y, e1, hf1⟩ := Option.bind_eq_some_iff.mp hf
  exact ⟨Z, ρ, y, hz, hg, e1, fun v H1 s hv => ⟨Z, v, y, d, rfl, hz.same s, hv, hf1, fun u H2 s2 hu => q u H2 (s.trans s2) hu⟩⟩
theorem cd_all (hc : X.calm = true) : CallD X (.builtin "all") hAll := by
  intro pins s σ H xs us Q I r h
  obtain ⟨Z, v, d, res, rfl, hz, hd, hr, q⟩ := h
  cases d <;> simp only [hAll, reduceCtorEq] at hr
  obtain ⟨b, e1, e2⟩ := Option.map_eq_some_iff.mp hr
  subst e2
  obtain ⟨bs, rfl, e3⟩ := allB_some e1
  obtain ⟨a, xs, rfl, h1, h2, h3⟩ := hd
  have e4 := h3.bools
  subst e4
  refine cr_all hc pins s σ H _ us Q I r ⟨a, bs, rfl, SqL.of h1, ?_⟩
  rw [e3]
  exact q _ H (Same.refl H) rfl
theorem cd_len : CallD X (.builtin "len") hLen := by
  intro pins s σ H xs us Q I r h
  obtain ⟨Z, v, d, res, rfl, hz, hd, hr, q⟩ := h
  cases d <;> simp only [hLen, reduceCtorEq, Option.some.injEq] at hr
  · subst hr
    obtain ⟨a, xs, rfl, h1, h2, h3⟩ := hd
    refine call_len_seq pins s σ H _ us Q I r ⟨a, xs, rfl, .inl (SqL.of h1), q _ H (Same.refl H) ?_⟩
    rw [h3.length]; rfl
  · subst hr
    obtain ⟨a, xs, rfl, h1, h3⟩ := hd
    refine call_len_seq pins s σ H _ us Q I r ⟨a, xs, rfl, .inr h1.1, q _ H (Same.refl H) ?_⟩
    rw [h3.length]; rfl
theorem cd_tuple : CallD X (.type "tuple") hTuple := by
  intro pins s σ H xs us Q I r h
  obtain ⟨Z, v, d, res, rfl, hz, hd, hr, q⟩ := h
  cases d <;> simp only [hTuple, reduceCtorEq, Option.some.injEq] at hr
  subst hr
  obtain ⟨a, xs, rfl, h1, h2, h3⟩ := hd
  cases r with
  | cons ra rb =>
    cases rb
    cases ra
    obtain ⟨its, rv, pl, hl⟩ := I.list (SqL.of h1)
    have hlen := rv.length
    refine call_tuple_list pl.isList (fun h' kp => ?_) (by rw [List.size_toArray]; omega)
    have J : Inv X pins σ H { s with heap := h' } := I.kept (t' := s.toks) kp
    obtain ⟨p, hp, J2, hd⟩ := tup_laid (its := its) J rv hl
    have s2 := same_upd (o := .frz { cls := .type "tuple", data := .seq its.toArray } (.tup xs)) hp
    exact ⟨.ref h'.objs.size, _, hd ▸ J2, rfl, by subst hd; exact q _ _ s2 ⟨_, xs, rfl, tpn_new rfl, h3.same s2⟩⟩
theorem cd_list : CallD X (.type "list") hList := by
  intro pins s σ H xs us Q I r h
  obtain ⟨Z, v, d, res, rfl, hz, hd, hr, q⟩ := h
  cases d <;> simp only [hList, reduceCtorEq, Option.some.injEq] at hr
  · subst hr
    obtain ⟨a, xs, rfl, h1, h2, h3⟩ := hd
    refine call_list_of pins s σ H _ us Q I r ⟨a, xs, rfl, .inl (SqL.of h1), fun l hl => ?_⟩
    have s2 := same_upd (o := .lst xs) hl
    exact q _ _ s2 ⟨l, xs, rfl, upd_same, hz.free hl, h3.same s2⟩
  · subst hr
    obtain ⟨a, xs, rfl, h1, h3⟩ := hd
    refine call_list_of pins s σ H _ us Q I r ⟨a, xs, rfl, .inr h1.1, fun l hl => ?_⟩
    have s2 := same_upd (o := .lst xs) hl
    exact q _ _ s2 ⟨l, xs, rfl, upd_same, hz.free hl, h3.same s2⟩
theorem cd_int : CallD X (.type "int") hInt := by
  intro pins s σ H xs us Q I r h
  obtain ⟨Z, v, d, res, rfl, hz, hd, hr, q⟩ := h
  cases d <;> simp only [hInt, reduceCtorEq, Option.some.injEq] at hr
  · subst hr
    cases (show _ = _ from hd)
    exact call_int1 pins s σ H _ us Q I r (.inr ⟨_, rfl, q _ H (Same.refl H) rfl⟩)
  · subst hr
    cases (show _ = _ from hd)
    exact call_int1 pins s σ H _ us Q I r (.inl ⟨_, rfl, q _ H (Same.refl H) rfl⟩)
theorem ixd : IxR X (fun x y H Q => ∃ Z d e r, Zt Z H ∧ Dq X.K Z H d x ∧ Dq X.K Z H e y ∧ hIx d e = some r ∧ ∀ v H', Same H H' → Dq X.K Z H' r v → Q v H') := by
  intro v0 s0 pins s σ H x y v u Q I rx ry h hs
  obtain ⟨Z, d, e, r, hz, hd, he, hr, q⟩ := h
  cases d <;> cases e <;> simp only [hIx, reduceCtorEq] at hr
  · obtain ⟨a, xs, rfl, h1, h2, h3⟩ := hd
    obtain ⟨w, e1, hw⟩ := atI_q h3 hr
    exact ix_seq v0 s0 pins s σ H _ y v u Q I rx ry (.inl ⟨a, xs, _, w, rfl, he, SqL.of h1, e1, q _ H (Same.refl H) hw⟩) hs
  · obtain ⟨a, xs, rfl, h1, h3⟩ := hd
    obtain ⟨w, e1, hw⟩ := atI_q h3 hr
    exact ix_seq v0 s0 pins s σ H _ y v u Q I rx ry (.inr (.inl ⟨a, xs, _, w, rfl, he, h1.1, e1, q _ H (Same.refl H) hw⟩)) hs
theorem de_ix (ha : PE X a (tD X.K f)) (hb : PE X b (tD X.K g)) (hs : PlainIx b := by exact fun _ _ => rfl) : PE X (.Subscript a b pos) (tD X.K (f2 hIx f g)) := by
  refine pe_weak (pe_ix ixd ha hb hs) fun σ H Q ⟨Z, ρ, d, hz, hg, hf, q⟩ => ?_
  obtain ⟨x, e1, hf1⟩ := Option.bind_eq_some_iff.mp hf
  obtain ⟨y, e2, hf2⟩ := Option.bind_eq_some_iff.mp hf1
  exact two_run (h := hIx) hz hg e1 e2 fun v u H' s hv hu z => ⟨Z, x, y, d, z, hv, hu, hf2, fun w H2 s2 hw => q w H2 (s.trans s2) hw⟩
/-- an optional part of a slice -/
def fPart (f : F) : Ds → Option (Option Int) := fun ρ => (f ρ).bind fun d => match d with | .int i => some (some i) | _ => none
def fNoPart : Ds → Option (Option Int) := fun _ => some none
def tDO (K : PySem.W.Frag) (f : Ds → Option (Option Int)) : TO := fun σ H Q => ∃ Z ρ o, Zt Z H ∧ Agr K Z H σ ρ ∧ f ρ = some o ∧ ∀ H', Same H H' → Q o H'
theorem po_weak {e : Option Expr} {t t' : TO} (h : PO X e t) (w : ∀ σ H Q, t' σ H Q → t σ H Q) : PO X e t' := ⟨fun pins s σ H Q I q => h.run pins s σ H Q I (w σ H Q q)⟩
theorem do_none : PO X none (tDO X.K fNoPart) := po_weak po_none fun σ H Q ⟨Z, ρ, o, hz, hg, hf, q⟩ => by cases hf; exact q H (Same.refl H)
theorem do_some (h : PE X e (tD X.K f)) : PO X (some e) (tDO X.K (fPart f)) := by
  refine po_weak (po_some h) fun σ H Q ⟨Z, ρ, o, hz, hg, hf, q⟩ => ?_
  obtain ⟨d, e1, hf1⟩ := Option.bind_eq_some_iff.mp hf
  cases d <;> simp only [reduceCtorEq, Option.some.injEq] at hf1
  subst hf1
  exact ⟨Z, ρ, _, hz, hg, e1, fun v H1 s hv => ⟨_, hv, q H1 s⟩⟩
/-- a slice of a tuple: the whole is itself; else new, its object told -/
def rSlN (K : PySem.W.Frag) : V → Option Int → Option Int → Hp → VK → Prop := fun x lo hi H Q => ∃ a xs, x = .ref a ∧ SqT K H a xs ∧
  (HT.sIx xs.length 0 lo = 0 ∧ HT.sIx xs.length xs.length hi = xs.length → Q (.ref a) H) ∧
  (¬ (HT.sIx xs.length 0 lo = 0 ∧ HT.sIx xs.length xs.length hi = xs.length) → ∀ p o, H p = Option.none → o.dict = Option.none → Q (.ref p) (upd H p (.frz o (.tup (cutV xs lo hi)))))
theorem sl_tupN : SlR X (rSlN X.K) := by
  intro pins s σ H x v vl vu lo hi sl Q I rx hs pl pu ⟨a, xs, ex, hx, q1, q2⟩
  subst ex
  cases rx
  obtain ⟨its, r, ht, hz⟩ := I.tuple hx
  have hn : its.toArray.size = xs.length := by rw [List.size_toArray]; exact r.length.symm
  refine ⟨"tuple", _, PyProof.Rows.slot_tuple_getitem.lookup, ht.typeIs, ?_⟩
  by_cases hw : HT.sIx xs.length 0 lo = 0 ∧ HT.sIx xs.length xs.length hi = xs.length
  · exact getItem_tuple_whole ht hs pl pu (hn.symm ▸ hw) ⟨.ref a, H, I, rfl, q1 hw⟩
  · refine HT.getItem_tuple_cut ht hs pl pu (hn.symm ▸ hw) ?_ (hn.symm ▸ hz)
    rw [hn]
    obtain ⟨p, hp, J, e⟩ := tup_laid (its := (its.drop (HT.sIx xs.length 0 lo)).take (HT.sIx xs.length xs.length hi - HT.sIx xs.length 0 lo)) (xs := cutV xs lo hi) I ((r.drop _).take _) (Nat.le_trans (cutV_length xs lo hi) hz)
    subst e
    exact ⟨.ref s.heap.objs.size, _, J, rfl, q2 hw _ _ hp rfl⟩
def fCut (f : F) (lo hi : Ds → Option (Option Int)) : F := fun ρ => (f ρ).bind fun d => (lo ρ).bind fun l => (hi ρ).bind fun u => match d with | .tuple ds => some (.tuple (cutD ds l u)) | _ => none
theorem cut_q {ds : List PyData} {xs : List V} (h : DqL K Z H ds xs) (lo hi : Option Int) : DqL K Z H (cutD ds lo hi) (cutV xs lo hi) := by
  unfold cutD cutV
  rw [h.length]
  exact (h.drop _).take _
theorem cut_whole {ds : List PyData} {lo hi : Option Int} (h : HT.sIx ds.length 0 lo = 0 ∧ HT.sIx ds.length ds.length hi = ds.length) : cutD ds lo hi = ds := by
  unfold cutD
  rw [h.1, h.2, List.drop_zero, Nat.sub_zero, List.take_length]
theorem de_cut {lo hi : Option Expr} {fl fu : Ds → Option (Option Int)} (he : PE X e (tD X.K f)) (hl : PO X lo (tDO X.K fl)) (hu : PO X hi (tDO X.K fu)) : PE X (.Subscript e (.Slice lo hi none p2) pos) (tD X.K (fCut f fl fu)) := by
  refine pe_weak (pe_slice sl_tupN he hl hu) fun σ H Q ⟨Z, ρ, r, hz, hg, hf, q⟩ => ?_
  obtain ⟨d, e1, hf1⟩ := Option.bind_eq_some_iff.mp hf
  obtain ⟨l, e2, hf2⟩ := Option.bind_eq_some_iff.mp hf1
  obtain ⟨u, e3, hf3⟩ := Option.bind_eq_some_iff.mp hf2
  cases d <;> simp only [reduceCtorEq, Option.some.injEq] at hf3
  subst hf3
  refine ⟨Z, ρ, _, hz, hg, e1, fun v H1 s1 hv => ⟨Z, ρ, l, hz.same s1, hg.same s1, e2, fun H2 s2 => ⟨Z, ρ, u, (hz.same s1).same s2, (hg.same s1).same s2, e3, fun H3 s3 => ?_⟩⟩⟩
  have s123 := (s1.trans s2).trans s3
  obtain ⟨a, xs, rfl, h1, h3⟩ := Dq.same (Dq.same hv s2) s3
  refine ⟨a, xs, rfl, h1.1, fun w => ?_, fun w p o hp hd => ?_⟩
  · refine q _ _ s123 ⟨a, xs, rfl, h1, ?_⟩
    rw [h3.length] at w
    rw [cut_whole w]
    exact h3
  · have s4 := same_upd (o := .frz o (.tup (cutV xs l u))) hp
    exact q _ _ (s123.trans s4) ⟨p, _, rfl, tpn_new hd, (cut_q h3 l u).same s4⟩
/-- isinstance(x, T) -/
def hIsi (pr : PyData → Bool) (d : PyData) : Option PyData := some (.bool (pr d))
theorem de_isi {T : String} {y : Str} {py : Pos} {pr : PyData → Bool} (hk : ∀ d, kitB (tyName d) T = some (pr d)) (hg : Gl X "isinstance") (hm : X.mg "isinstance" = none) (hT : PE X (.Name y py) (tC (.ty T))) (ha : PE X e (tD X.K f))
    (na : starEach [e, .Name y py] X.env = (false, eval e X.env) :: starEach [.Name y py] X.env := by rfl) (nb : starEach [.Name y py] X.env = (false, eval (.Name y py) X.env) :: starEach [] X.env := by rfl) (hpl : (backTo pos (starEach [.Name y py] X.env)).any (·.1) = false := by rfl) :
    PE X (.Call (.Name "isinstance" p) [e, .Name y py] [] pos) (tD X.K (f1 (hIsi pr) f)) := by
  refine pe_weak (pe_callB call_isi hg hm PyProof.Rows.boot_isinstance (pa_cons ha (pa_cons hT pa_nil nb) na) (by decide) (by decide) na hpl) fun σ H Q ⟨Z, ρ, d, hz, hg, hf, q⟩ => ?_
  obtain ⟨x, e1, hf1⟩ := Option.bind_eq_some_iff.mp hf
  cases hf1
  exact ⟨Z, ρ, x, hz, hg, e1, fun v H1 s hv => ⟨v, .ty T, _, _, _, rfl, .ty T, tyx_of hv, kit_ty (hk x), q _ H1 s rfl⟩⟩
/-- isinstance(x, (S, T)) -/
theorem de_isi2 {S T : String} {y z : Str} {py pz pt : Pos} {k : Nat} {ps pr : PyData → Bool} (hk1 : ∀ d, kitB (tyName d) S = some (ps d)) (hk2 : ∀ d, kitB (tyName d) T = some (pr d)) (hg : Gl X "isinstance") (hm : X.mg "isinstance" = none) (hS : PE X (.Name y py) (tC (.ty S))) (hT : PE X (.Name z pz) (tC (.ty T))) (ha : PE X e (tD X.K f))
    (na : starEach [e, .Tuple [.Name y py, .Name z pz] k pt] X.env = (false, eval e X.env) :: starEach [.Tuple [.Name y py, .Name z pz] k pt] X.env := by rfl) (nb : starEach [.Tuple [.Name y py, .Name z pz] k pt] X.env = (false, eval (.Tuple [.Name y py, .Name z pz] k pt) X.env) :: starEach [] X.env := by rfl)
    (nc : starEach [.Name y py, .Name z pz] X.env = (false, eval (.Name y py) X.env) :: starEach [.Name z pz] X.env := by rfl) (nd : starEach [.Name z pz] X.env = (false, eval (.Name z pz) X.env) :: starEach [] X.env := by rfl)
    (hpl : (backTo pos (starEach [.Tuple [.Name y py, .Name z pz] k pt] X.env)).any (·.1) = false := by rfl) :
    PE X (.Call (.Name "isinstance" p) [e, .Tuple [.Name y py, .Name z pz] k pt] [] pos) (tD X.K (f1 (hIsi fun d => ps d || pr d) f)) := by
  refine pe_weak (pe_callB call_isiT hg hm PyProof.Rows.boot_isinstance (pa_cons ha (pa_cons (pe_tup (pa_cons hS (pa_cons hT pa_nil nd) nc)) pa_nil nb) na) (by decide) (by decide) na hpl) fun σ H Q ⟨Z, ρ, d, hz, hg, hf, q⟩ => ?_
  obtain ⟨x, e1, hf1⟩ := Option.bind_eq_some_iff.mp hf
  cases hf1
  refine ⟨Z, ρ, x, hz, hg, e1, fun v H1 s hv => ⟨by show 2 ≤ sizeLine; rw [sizeLine_eq]; omega, fun t ht => ?_⟩⟩
  have s2 := same_upd (o := .tup [V.ty S, V.ty T]) ht
  refine ⟨v, t, _, _, _, _, rfl, upd_same, .cons (.ty S) (.cons (.ty T) .nil), tyx_of (hv.same s2), ?_, q _ _ (s.trans s2) rfl⟩
  refine kitAny_cons (kit_ty (hk1 x)) (fun e => ?_) (fun e => by show (ps x || pr x) = true; rw [e]; rfl)
  refine kitAny_cons (kit_ty (hk2 x)) (fun e2 => ?_) (fun e2 => by show (ps x || pr x) = true; rw [e2, Bool.or_true])
  show some false = some (ps x || pr x)
  rw [e, e2]; rfl
def isTup : PyData → Bool | .tuple _ => true | _ => false
def isLst : PyData → Bool | .list _ => true | _ => false
def isStr : PyData → Bool | .str _ => true | _ => false
def isBoo : PyData → Bool | .bool _ => true | _ => false
def isIntB : PyData → Bool | .int _ => true | .bool _ => true | _ => false
theorem kb_tuple (d : PyData) : kitB (tyName d) "tuple" = some (isTup d) := by cases d <;> simp only [tyName, isTup] <;> decide +kernel
theorem kb_list (d : PyData) : kitB (tyName d) "list" = some (isLst d) := by cases d <;> simp only [tyName, isLst] <;> decide +kernel
theorem kb_str (d : PyData) : kitB (tyName d) "str" = some (isStr d) := by cases d <;> simp only [tyName, isStr] <;> decide +kernel
theorem kb_bool (d : PyData) : kitB (tyName d) "bool" = some (isBoo d) := by cases d <;> simp only [tyName, isBoo] <;> decide +kernel
theorem kb_int (d : PyData) : kitB (tyName d) "int" = some (isIntB d) := by cases d <;> simp only [tyName, isIntB] <;> decide +kernel
end

/-! ### t.count(x) -/
def hCount : PyData → PyData → Option PyData
  | .tuple ds, d => if (shal (.tuple ds) || shal d) = true then some (.int ((ds.countP fun y => PyData.eqv y d : Nat) : Int)) else none
  | _, _ => none
section
variable {X : Cx} {o e : Expr} {f g : F} {apos cpos : Pos}
theorem de_count (hu : X.A.units + 64 < cLine) (ho : PE X o (tD X.K f)) (he : PE X e (tD X.K g))
    (hbase : attributeBase o "count" X.env (eval o X.env) = eval o X.env := by rfl)
    (hfew : ((backTo cpos (starEach [e] X.env)).all (fun x => !x.1) && (backToKw cpos (keywordEach [] X.env)).all (fun x => x.1.isSome)
      && decide ([e].length + ([] : List Keyword).length + (if ([] : List Keyword).isEmpty then 0 else 1) < 30)) = true := by rfl)
    (hline : (apos.endLine == cpos.line) = true := by rfl) (na : starEach [e] X.env = (false, eval e X.env) :: starEach [] X.env := by rfl) :
    PE X (.Call (.Attribute o "count" apos) [e] [] cpos) (tD X.K (f2 hCount f g)) := by
  refine ⟨fun pins s σ H Q I hw => ?_⟩
  obtain ⟨Z, ρ, r, hz, hg, hf, q⟩ := hw
  obtain ⟨d, e1, hf1⟩ := Option.bind_eq_some_iff.mp hf
  obtain ⟨y, e2, hf2⟩ := Option.bind_eq_some_iff.mp hf1
  cases d <;> simp only [hCount, reduceCtorEq] at hf2
  split at hf2
  · rename_i ds hs
    cases hf2
    have mn := min_of hs
    have dp := depth_tup ds
    refine wpAny_Call_method_late hbase hfew hline rfl (thn (ho.run pins s σ H _ I ⟨Z, ρ, _, hz, hg, e1, fun v H' s1 hv => (⟨hv, s1⟩ : Dq X.K Z H' (.tuple ds) v ∧ Same H H')⟩) fun u s1 ⟨v, H1, I1, r1, hv, s01⟩ => ?_)
    obtain ⟨a, xs, rfl, h1, h3⟩ := id hv
    cases r1
    have hd : ∃ ob, s1.heap.get? a = some ob ∧ ob.cls = .type "tuple" ∧ ob.dict = Option.none := by
      obtain ⟨its, _, ⟨ob, ho, hc, _⟩, _⟩ := I1.tuple h1.1
      rcases h1.2 with ⟨o2, u2, hq, hn⟩ | ⟨o2, hq, hn⟩
      · have e3 := (I1.hok a _ hq).1
        rw [ho] at e3; cases e3
        exact ⟨_, ho, hc, hn⟩
      · have e3 := I1.kIn a o2 hq
        rw [ho] at e3; cases e3
        exact ⟨_, ho, hc, hn⟩
    obtain ⟨ob, hob, hcl, hdn⟩ := hd
    refine ⟨"tuple", "tuple.count", PySem.F.plainAttrs_tuple, PySem.F.slot_tuple_count, PySem.F.type_tuple_count, ⟨ob, hob, hcl⟩, fun a' e' => by cases e'; exact ⟨ob, hob, hdn⟩, ?_⟩
    rw [na]
    refine Calls.callWith_builtin rfl (Calls.evalArgs_plain (Calls.spliced_cons (thn (he.run pins s1 σ H1 _ I1 ⟨Z, ρ, y, hz.same s01, hg.same s01, e2, fun w H' s2 hw => (⟨hw, s2⟩ : Dq X.K Z H' y w ∧ Same H1 H')⟩) fun uw s2 ⟨w, H2, I2, r2, hw, s12⟩ => Calls.spliced_nil ?_)))
    obtain ⟨bs, rr⟩ := Dp.reads I2 y w uw (Dq.dp _ _ hw) r2
    obtain ⟨its, rv, pt, hl⟩ := I2.tuple (tpn_same s12 h1).1
    obtain ⟨as, ra⟩ := Dp.readsAll I2 ds xs its (DqL.dp _ _ (h3.same s12)) rv
    refine SeqAt.count_tuple_data (vs := its.toArray) pt (show ReadsAll s2.heap its.toArray.toList ds as from ra) rr (DqL.plain _ _ h3) (Dq.plain _ _ hw) (by omega) ?_
    exact ⟨.int _, H2, I2.tok _, ⟨_, rfl⟩, q _ _ (s01.trans s12) rfl⟩
  · cases hf2
end

/-! ### calls of defs -/
def spD (K : PySem.W.Frag) (n : Nat) (G : List PyData → Option PyData) : Sp := fun vs H Q _ => ∃ Z ds d, Zt Z H ∧ DqL K Z H ds vs ∧ ds.length = n ∧ G ds = some d ∧ ∀ v H', Same H H' → Dq K Z H' d v → Q v H'
/-- a def of the module keeps a promise -/
structure DefOk (P : Program) (w : World) (K : PySem.W.Frag) (mg : Str → Option Value) (base : Heap) (x : Str) (k : Nat) (sp : Sp) : Prop where
  ex : ∃ f fd ps, FnOk P w K mg base CX0 k f fd ps sp ∧ mg x = some (.ref f) ∧ PySem.W.keepIn K (.ref f) = true ∧ Binds K fd ps []
theorem DefOk.mono {P : Program} {w : World} {K : PySem.W.Frag} {mg : Str → Option Value} {base : Heap} {x : Str} {k j : Nat} {sp : Sp} (D : DefOk P w K mg base x k sp) (h : k ≤ j) : DefOk P w K mg base x j sp := by
  obtain ⟨f, fd, ps, F, r⟩ := D.ex
  exact ⟨f, fd, ps, F.mono h, r⟩
section
variable {X : Cx} {x : Str} {p q pos p2 sp_ : Pos} {e : Expr} {es : List Expr} {f : F} {ga : Ds → Option (List PyData)} {n k : Nat} {G : List PyData → Option PyData} {sp : Sp} {t : TA}
theorem pe_def (D : DefOk X.prog X.w X.K X.mg X.base x k sp) (hr : Room k X.A) (hg : Gl X x) (ha : PA X (e :: es) t) (hdb : (x == ("__debug__" : Str)) = false := by decide)
    (he : starEach (e :: es) X.env = (false, eval e X.env) :: starEach es X.env := by rfl) (hpl : (backTo pos (starEach es X.env)).any (·.1) = false := by rfl) :
    PE X (.Call (.Name x p) (e :: es) [] pos) (fun σ H Q => t σ H fun vs H1 => sp vs H1 Q E0) := by
  obtain ⟨f, fd, ps, F, hm, hk, hb⟩ := D.ex
  refine pe_weak (pe_call F hr hg hm hk hb .nil pass0 ha hdb he hpl) fun σ H Q h => ?_
  have h : t σ H fun vs H1 => sp (vs ++ []) H1 Q E0 := by simpa using h
  exact h
theorem pe_def0 (D : DefOk X.prog X.w X.K X.mg X.base x k sp) (hr : Room k X.A) (hg : Gl X x) (hdb : (x == ("__debug__" : Str)) = false := by decide) :
    PE X (.Call (.Name x p) [] [] pos) (fun σ H Q => sp [] H Q E0) := by
  obtain ⟨f, fd, ps, F, hm, hk, hb⟩ := D.ex
  exact pe_call0 F hr hg hm hk hb .nil pass0 hdb
theorem de_call (D : DefOk X.prog X.w X.K X.mg X.base x k (spD X.K n G)) (hr : Room k X.A) (hg : Gl X x) (ha : PA X (e :: es) (tDA X.K n ga)) (hdb : (x == ("__debug__" : Str)) = false := by decide)
    (he : starEach (e :: es) X.env = (false, eval e X.env) :: starEach es X.env := by rfl) (hpl : (backTo pos (starEach es X.env)).any (·.1) = false := by rfl) :
    PE X (.Call (.Name x p) (e :: es) [] pos) (tD X.K (fun ρ => (ga ρ).bind G)) := by
  refine pe_weak (pe_def D hr hg ha hdb he hpl) fun σ H Q ⟨Z, ρ, d, hz, hg, hf, q⟩ => ?_
  obtain ⟨ds, e1, hf1⟩ := Option.bind_eq_some_iff.mp hf
  exact ⟨Z, ρ, ds, hz, hg, e1, fun vs H1 s hds hl => ⟨Z, ds, d, hz.same s, hds, hl, hf1, fun v H2 s2 hv => q v H2 (s.trans s2) hv⟩⟩
theorem de_call0 (D : DefOk X.prog X.w X.K X.mg X.base x k (spD X.K 0 G)) (hr : Room k X.A) (hg : Gl X x) (hdb : (x == ("__debug__" : Str)) = false := by decide) : PE X (.Call (.Name x p) [] [] pos) (tD X.K (fun _ => G [])) := by
  refine pe_weak (pe_def0 D hr hg hdb) fun σ H Q ⟨Z, ρ, d, hz, hg, hf, q⟩ => ?_
  exact ⟨Z, [], d, hz, rfl, rfl, hf, q⟩
/-- x(*e), e a tuple -/
def starOf : PyData → Option (List PyData)
  | .tuple ds => some ds
  | _ => none
theorem de_star (D : DefOk X.prog X.w X.K X.mg X.base x k (spD X.K n G)) (hr : Room k X.A) (hg : Gl X x) (he : PE X e (tD X.K f)) (hdb : (x == ("__debug__" : Str)) = false := by decide) (hst : starEach [.Starred e sp_] X.env = [(true, eval e X.env)] := by rfl) :
    PE X (.Call (.Name x p) [.Starred e sp_] [] pos) (tD X.K (fun ρ => ((f ρ).bind starOf).bind fun ds => if ds.length = n then G ds else none)) := by
  obtain ⟨fa, fd, ps, F, hm, hk, hb⟩ := D.ex
  refine pe_weak (StX.pe_callS1 (F.raw hb .nil) hr hk hg hm pass0 he hdb hst) fun σ H Q ⟨Z, ρ, d, hz, hg, hf, q⟩ => ?_
  obtain ⟨ds, e1, hf1⟩ := Option.bind_eq_some_iff.mp hf
  obtain ⟨d0, e2, e3⟩ := Option.bind_eq_some_iff.mp e1
  cases d0 <;> simp only [starOf, reduceCtorEq, Option.some.injEq] at e3
  subst e3
  split at hf1
  · rename_i hl
    refine ⟨Z, ρ, _, hz, hg, e2, fun v H1 s hv => ?_⟩
    obtain ⟨a, xs, rfl, h1, h3⟩ := hv
    refine ⟨a, xs, rfl, .inl h1.1, ?_⟩
    rw [List.append_nil]
    exact ⟨Z, _, d, hz.same s, h3, hl, hf1, fun v H2 s2 hv => q v H2 (s.trans s2) hv⟩
  · cases hf1
end
end Cr
namespace Cr
open PySem PySem.Spec PyProof.Rows L2

/-! ### what is walked: items of a kind, told by R -/
structure Gen {α : Type} (K : PySem.W.Frag) (R : (Addr → Prop) → Hp → α → V → Prop) (ds : List α) (J : It) (G : (Addr → Prop) → Hp → Prop) : Prop where
  go : ∀ Z i H, i < ds.length → G Z H → J.go i H
  stop : ∀ Z H, G Z H → J.stop ds.length H
  yld : ∀ Z i H x H', i < ds.length → G Z H → J.yld i H x H' → Same H H' ∧ ∃ d, ds[i]? = some d ∧ R Z H' d x
  car : ∀ Z Z' H H', G Z H → Car K Z Z' H H' → G Z' H'
/-- two items in a new pair -/
def RP (K : PySem.W.Frag) : (Addr → Prop) → Hp → PyData × PyData → V → Prop := fun Z H p v => ∃ T x y, v = .ref T ∧ SqT K H T [x, y] ∧ Dq K Z H p.1 x ∧ Dq K Z H p.2 y
def iG {α : Type} (K : PySem.W.Frag) (R : (Addr → Prop) → Hp → α → V → Prop) (f : Ds → Option (List α)) : TI := fun σ H Rr => ∃ Z ρ ds, Zt Z H ∧ Agr K Z H σ ρ ∧ f ρ = some ds ∧ ∀ J H' G, Same H H' → Gen K R ds J G → G Z H' → ds.length ≤ sizeLine → Rr J H'
def seqD : PyData → Option (List PyData)
  | .tuple ds => some ds
  | .list ds => some ds
  | _ => none
section
variable {K : PySem.W.Frag} {Z : Addr → Prop} {H H' : Hp}
theorem gen_tup {a : Addr} {xs : List V} {ds : List PyData} (hl : xs.length = ds.length) : Gen K (Dq K) ds (Itt K a) (fun Z H => TpN K H a xs ∧ DqL K Z H ds xs) where
  go := fun Z i H hi ⟨h, _⟩ => ⟨xs, xs[i]'(by omega), h.1, by simp [show i < xs.length by omega]⟩
  stop := fun Z H ⟨h, _⟩ => ⟨xs, h.1, by omega⟩
  yld := fun Z i H x H' hi ⟨h, hd⟩ ⟨e, y⟩ => by
    subst e
    have hx := y xs h.1
    obtain ⟨d, e1, e2⟩ := hd.get2 hx
    exact ⟨Same.refl _, d, e1, e2⟩
  car := fun Z Z' H H' ⟨h, hd⟩ c => ⟨c.tup a xs h, DqL.car c ds xs hd⟩
theorem gen_lst {a : Addr} {xs : List V} {ds : List PyData} (hl : xs.length = ds.length) : Gen K (Dq K) ds (Itl K a) (fun Z H => H a = some (.lst xs) ∧ ¬ Z a ∧ DqL K Z H ds xs) where
  go := fun Z i H hi ⟨h, _⟩ => ⟨xs, xs[i]'(by omega), SqL.of h, by simp [show i < xs.length by omega]⟩
  stop := fun Z H ⟨h, _⟩ => ⟨xs, SqL.of h, by omega⟩
  yld := fun Z i H x H' hi ⟨h, _, hd⟩ ⟨e, y⟩ => by
    subst e
    have hx := y xs (SqL.of h)
    obtain ⟨d, e1, e2⟩ := hd.get2 hx
    exact ⟨Same.refl _, d, e1, e2⟩
  car := fun Z Z' H H' ⟨h, n, hd⟩ c => ⟨(c.lst a xs h n).1, (c.lst a xs h n).2, DqL.car c ds xs hd⟩
theorem car_add {D : Addr} (s : Same H H') (hD : H D = none) : Car K Z (fun a => Z a ∨ a = D) H H' :=
  ⟨fun a xs h => tpn_same s h, fun a xs h n => ⟨s a _ h, fun q => q.elim n fun e => by rw [e, hD] at h; cases h⟩⟩
theorem car_mut {D : Addr} {xs ys : List V} (hD : H D = some (.lst xs)) (hz : Z D) : Car K Z Z H (upd H D (.lst ys)) := by
  have ne : ∀ {a : Addr} {o : HO}, H a = some o → (∀ l, o ≠ .lst l) → a ≠ D := fun {a o} h n e => by rw [e, hD] at h; cases h; exact n xs rfl
  refine ⟨fun a zs h => ⟨?_, ?_⟩, fun a zs h n => ⟨?_, n⟩⟩
  · rcases h.1 with (h1 | ⟨o, h1⟩) | h1
    · exact .inl (.inl (by rw [upd_ne (ne h1 (fun l q => nomatch q))]; exact h1))
    · exact .inl (.inr ⟨o, by rw [upd_ne (ne h1 (fun l q => nomatch q))]; exact h1⟩)
    · exact .inr h1
  · rcases h.2 with ⟨o, u, h1, d⟩ | h1
    · exact .inl ⟨o, u, by rw [upd_ne (ne h1 (fun l q => nomatch q))]; exact h1, d⟩
    · exact .inr h1
  · rw [upd_ne (fun e => n (by rw [e]; exact hz))]; exact h
theorem car_sub {Z' : Addr → Prop} (h : ∀ a, Z' a → Z a) : Car K Z Z' H H := ⟨fun a xs q => q, fun a xs q n => ⟨q, fun z => n (h a z)⟩⟩
theorem same_mut {D : Addr} {o : HO} (s : Same H H') (hD : H D = none) : Same H (upd H' D o) := fun b x e => by rw [upd_ne (ne_of_none e hD)]; exact s b x e
def wipeD (ρ : Ds) : List Nat → Ds
  | [] => ρ
  | v :: vs => (wipeD ρ vs).set v none
theorem agr_wipe {σ : L2.St} {ρ : Ds} (g : Agr K Z H σ ρ) : ∀ vs : List Nat, Agr K Z H (wipe σ vs) (wipeD ρ vs)
  | [] => g
  | v :: vs => (agr_wipe g vs).wipe v
end

section
variable {X : Cx} {tg l iter e c elt : Expr} {f : F}
theorem pi_seq (h : PE X l (tD X.K f)) : PI X tg l (iG X.K (Dq X.K) fun ρ => (f ρ).bind seqD) := by
  refine ⟨fun pins s σ H R I hw => ?_⟩
  obtain ⟨Z, ρ, ds, hz, hg, hf, q⟩ := hw
  obtain ⟨d, e1, e2⟩ := Option.bind_eq_some_iff.mp hf
  cases d <;> simp only [seqD, reduceCtorEq, Option.some.injEq] at e2
  · subst e2
    refine (pi_list (tg := tg) (pe_lens h)).run pins s σ H R I ⟨Z, ρ, _, hz, hg, e1, fun v H' sm hv hl => ?_⟩
    obtain ⟨a, xs, rfl, h1, h2, h3⟩ := hv
    exact ⟨a, rfl, ⟨xs, SqL.of h1⟩, q _ _ _ sm (gen_lst h3.length) ⟨h1, h2, h3⟩ (by rw [← h3.length]; exact hl a xs rfl (.inr (SqL.of h1)))⟩
  · subst e2
    refine (pi_tup (tg := tg) (pe_lens h)).run pins s σ H R I ⟨Z, ρ, _, hz, hg, e1, fun v H' sm hv hl => ?_⟩
    obtain ⟨a, xs, rfl, h1, h3⟩ := hv
    exact ⟨a, rfl, ⟨xs, h1.1⟩, q _ _ _ sm (gen_tup h3.length) ⟨h1, h3⟩ (by rw [← h3.length]; exact hl a xs rfl (.inl h1.1))⟩

/-! ### targets -/
structure Tgt {α : Type} (K : PySem.W.Frag) (R : (Addr → Prop) → Hp → α → V → Prop) (u : α → Ds → Ds) (vs : List Nat) (g : TG) : Prop where
  at_ : ∀ Z H σ ρ d v Q, Agr K Z H σ ρ → R Z H d v → (∀ σ', Agr K Z H σ' (u d ρ) → wipe σ' vs = wipe σ vs → Q σ' H) → g v σ H Q
  idem : ∀ σ : L2.St, wipe (wipe σ vs) vs = wipe σ vs
theorem tgt_name {K : PySem.W.Frag} {i : Nat} : Tgt K (Dq K) (fun d ρ => ρ.set i (some d)) [i] (gName i) :=
  ⟨fun Z H σ ρ d v Q g h q => q _ (g.put i h) (by show (σ.set i (some v)).set i none = σ.set i none; rw [List.set_set]), fun σ => by show (σ.set i none).set i none = σ.set i none; rw [List.set_set]⟩
theorem tgt_pair {K : PySem.W.Frag} {i j : Nat} (hij : i ≠ j) : Tgt K (RP K) (fun d ρ => (ρ.set i (some d.1)).set j (some d.2)) [i, j] (gTup K 2 (gCons (gName i) (gCons (gName j) gNil))) := by
  refine ⟨fun Z H σ ρ d v Q g h q => ?_, fun σ => ?_⟩
  · obtain ⟨T, x, y, rfl, hT, h1, h2⟩ := h
    refine ⟨T, [x, y], rfl, hT, rfl, x, [y], rfl, y, [], rfl, rfl, q _ ((g.put i h1).put j h2) ?_⟩
    show (((σ.set i (some x)).set j (some y)).set j none).set i none = (σ.set j none).set i none
    rw [List.set_set, List.set_comm _ _ hij, List.set_set]
  · show (((σ.set j none).set i none).set j none).set i none = (σ.set j none).set i none
    rw [List.set_comm _ _ hij, List.set_set, List.set_set]

/-! ### comprehensions -/
def lcGo {α : Type} (u : α → Ds → Ds) (t : Ds → Option Bool) (k : F) (ρ : Ds) : List α → Option (List PyData)
  | [] => some []
  | d :: ds => (t (u d ρ)).bind fun b => if b then (k (u d ρ)).bind fun r => (lcGo u t k ρ ds).bind fun rs => some (r :: rs) else lcGo u t k ρ ds
def fLc {α : Type} (f : Ds → Option (List α)) (u : α → Ds → Ds) (t : Ds → Option Bool) (k : F) (vs : List Nat) : F := fun ρ => (f ρ).bind fun ds => (lcGo u t k (wipeD ρ vs) ds).bind fun rs => some (.list rs)
def bYes : Ds → Option Bool := fun _ => some true
theorem dts_nil : PTs X [] (tDT X.K bYes) := ⟨fun pins s σ H Q I ⟨Z, ρ, b, hz, hg, hf, q⟩ => by
  cases hf
  exact wpAny_tests_nil ⟨H, I, q H (Same.refl H)⟩⟩
theorem lc_read {α : Type} {K : PySem.W.Frag} {R : (Addr → Prop) → Hp → α → V → Prop} {f : Ds → Option (List α)} {u : α → Ds → Ds} {t : Ds → Option Bool} {k : F} {vs : List Nat} {g : TG} (hu : Tgt K R u vs g) {σ : L2.St} {H : Hp} {Q : VK}
    (h : tD K (fLc f u t k vs) σ H Q) : tLc (iG K R f) g (tDT K t) (tD K k) vs σ H Q := by
  obtain ⟨Z, ρ, r, hz, hag, hf, q⟩ := h
  obtain ⟨ds, e1, hf1⟩ := Option.bind_eq_some_iff.mp hf
  obtain ⟨rs, e2, hf2⟩ := Option.bind_eq_some_iff.mp hf1
  cases hf2
  refine ⟨Z, ρ, ds, hz, hag, e1, fun J H1 G s1 gen hG hl D hD => ?_⟩
  have hZD : ¬ Z D := (hz.same s1).free hD
  refine lc_it (n := ds.length) (G := fun H' => G (fun a => Z a ∨ a = D) H') (Y := fun i H0 x H' => Same H0 H' ∧ ∃ d, ds[i]? = some d ∧ R (fun a => Z a ∨ a = D) H' d x)
    ⟨fun i H' hi hq => gen.go _ i H' hi hq, fun H' hq => gen.stop _ H' hq, fun i H' x H2 hi hq y => gen.yld _ i H' x H2 hi hq y⟩
    (fun i H' => Same H1 H' ∧ G (fun a => Z a ∨ a = D) H' ∧ ∃ acc accD rest, H' D = some (.lst acc) ∧ DqL K (fun a => Z a ∨ a = D) H' accD acc ∧ acc.length ≤ i ∧ lcGo u t k (wipeD ρ vs) (ds.drop i) = some rest ∧ accD ++ rest = rs)
    ?_ (fun i H' _ p => p.2.1) ?_ ?_
  · exact ⟨same_upd hD, gen.car _ _ _ _ hG (car_add (same_upd hD) hD), [], [], rs, upd_same, DqL.nil, Nat.le_refl _, e2, rfl⟩
  · rintro i x H2 H3 hi ⟨s12, hG2, acc, accD, rest, hDa, hacc, hla, hgo, hrs⟩ ⟨s23, d, ed, hR⟩
    have s13 := s12.trans s23
    have hD3 := s23 D _ hDa
    have hdrop : ds.drop i = d :: ds.drop (i + 1) := by
      obtain ⟨hlt, hv⟩ := List.getElem?_eq_some_iff.mp ed
      rw [List.drop_eq_getElem_cons hlt, hv]
    rw [hdrop] at hgo
    obtain ⟨b, eb, hgo1⟩ := Option.bind_eq_some_iff.mp hgo
    have zt3 : Zt (fun a => Z a ∨ a = D) H3 := fun a ha => ha.elim (fun z => ((hz.same s1).same s13) a z) fun e => ⟨_, e ▸ hD3⟩
    have ag3 : Agr K (fun a => Z a ∨ a = D) H3 (wipe σ vs) (wipeD ρ vs) := agr_wipe ((hag.same s1).car (car_add s13 hD)) vs
    refine hu.at_ _ H3 _ _ d x _ ag3 hR fun σ2 ag4 ew => ⟨ew.trans (hu.idem σ), _, _, b, zt3, ag4, eb, fun H4 s34 => ?_⟩
    have hG4 := gen.car _ _ _ _ (gen.car _ _ _ _ hG2 (Car.same s23)) (Car.same s34)
    cases b with
    | false =>
      rw [if_neg Bool.false_ne_true] at hgo1
      refine iteF ?_
      exact ⟨s13.trans s34, hG4, acc, accD, rest, s34 D _ hD3, (hacc.same s23).same s34, Nat.le_succ_of_le hla, hgo1, hrs⟩
    | true =>
      rw [if_pos rfl] at hgo1
      refine iteT ?_
      obtain ⟨y, ey, hgo2⟩ := Option.bind_eq_some_iff.mp hgo1
      obtain ⟨rs2, er, hgo3⟩ := Option.bind_eq_some_iff.mp hgo2
      cases hgo3
      refine ⟨_, _, y, zt3.same s34, ag4.same s34, ey, fun v H5 s45 hv => ⟨acc, s45 D _ (s34 D _ hD3), by omega, ?_⟩⟩
      have hD5 := s45 D _ (s34 D _ hD3)
      have cm : Car K (fun a => Z a ∨ a = D) (fun a => Z a ∨ a = D) H5 (upd H5 D (.lst (acc ++ [v]))) := car_mut hD5 (.inr rfl)
      refine ⟨same_mut ((s13.trans s34).trans s45) hD, gen.car _ _ _ _ (gen.car _ _ _ _ hG4 (Car.same s45)) cm, acc ++ [v], accD ++ [y], rs2, upd_same, ?_, ?_, er, ?_⟩
      · exact DqL.car cm _ _ ((((hacc.same s23).same s34).same s45).app (DqL.one hv))
      · rw [List.length_append, List.length_singleton]; omega
      · rw [List.append_assoc]; exact hrs
  · rintro H2 ⟨s12, _, acc, accD, rest, hDa, hacc, _, hgo, hrs⟩
    rw [List.drop_length] at hgo
    cases hgo
    rw [List.append_nil] at hrs
    subst hrs
    exact q _ _ (s1.trans s12) ⟨D, acc, rfl, hDa, hZD, DqL.car (car_sub fun a z => .inl z) _ _ hacc⟩
theorem de_lc {α : Type} {R : (Addr → Prop) → Hp → α → V → Prop} {f : Ds → Option (List α)} {u : α → Ds → Ds} {t : Ds → Option Bool} {k : F} {g : TG} {ifs : List Expr} {scope : Scope} {own : List (Str × Nat)} {pos : Pos}
    (hu : Tgt X.K R u (own.map (·.2)) g) (hc : X.calm = true) (hN : X.N.Nodup) (hi : PI X tg iter (iG X.K R f)) (ok : BlkOk X.N X.env.scope scope own)
    (hg : ∀ (s : Shared) (H : Hp) (C : Addr) (cl : List (Str × Addr)) (fp : List Addr), PG (X.blk s H scope (compEnvC scope cl C X.env) fp) tg g)
    (ht : ∀ (s : Shared) (H : Hp) (C : Addr) (cl : List (Str × Addr)) (fp : List Addr), PTs (X.blk s H scope (compEnvC scope cl C X.env) fp) ifs (tDT X.K t))
    (he : ∀ (s : Shared) (H : Hp) (C : Addr) (cl : List (Str × Addr)) (fp : List Addr), PE (X.blk s H scope (compEnvC scope cl C X.env) fp) elt (tD X.K k)) (hs : ∀ x, foldedSetIterable iter X.env x = pure x := by intro _; rfl) :
    PE X (.ListComp elt [⟨tg, iter, ifs, 0⟩] scope pos) (tD X.K (fLc f u t k (own.map (·.2)))) :=
  pe_weak (pe_lc hc hN hi ok hg ht he hs) fun σ H Q h => lc_read hu h

/-! ### statements -/
inductive Out where
  | nx (ρ : Ds)
  | rt (d : PyData)
def tS (K : PySem.W.Frag) (g : Ds → Option Out) : TS := fun D σ H => ∃ Z ρ o, Zt Z H ∧ Agr K Z H σ ρ ∧ g ρ = some o ∧ (∀ ρ', o = .nx ρ' → ∀ σ' H', Same H H' → Agr K Z H' σ' ρ' → D.nx σ' H') ∧ (∀ d, o = .rt d → ∀ v H', Same H H' → Dq K Z H' d v → D.rt v H')
def sRet (f : F) : Ds → Option Out := fun ρ => (f ρ).bind fun d => some (.rt d)
def sSet (i : Nat) (f : F) : Ds → Option Out := fun ρ => (f ρ).bind fun d => some (.nx (ρ.set i (some d)))
def sSet2 (i j : Nat) (f : F) : Ds → Option Out := fun ρ => (f ρ).bind fun d => match d with | .tuple [a, b] => some (.nx ((ρ.set i (some a)).set j (some b))) | _ => none
def sIf (c : Ds → Option Bool) (a b : Ds → Option Out) : Ds → Option Out := fun ρ => (c ρ).bind fun x => if x then a ρ else b ρ
def sNil : Ds → Option Out := fun ρ => some (.nx ρ)
def sSeq (a b : Ds → Option Out) : Ds → Option Out := fun ρ => (a ρ).bind fun o => match o with | .nx ρ' => b ρ' | .rt d => some (.rt d)
variable {st : Stmt} {sts rest : List Stmt} {sa sb : Ds → Option Out} {pos spos py : Pos}
theorem ds_ret (h : PE X e (tD X.K f)) : PS X (.Return (some e) pos) (tS X.K (sRet f)) := by
  refine ps_weak (ps_ret h) fun D σ H ⟨Z, ρ, o, hz, hg, hf, q1, q2⟩ => ?_
  obtain ⟨d, e1, e2⟩ := Option.bind_eq_some_iff.mp hf
  cases e2
  exact ⟨Z, ρ, d, hz, hg, e1, fun v H' s hv => q2 d rfl v H' s hv⟩
theorem set_read {K : PySem.W.Frag} {i : Nat} {D : Ends} {σ : L2.St} {H : Hp} (h : tS K (sSet i f) D σ H) : tD K f σ H fun x H1 => gName i x σ H1 D.nx := by
  obtain ⟨Z, ρ, o, hz, hg, hf, q1, q2⟩ := h
  obtain ⟨d, e1, e2⟩ := Option.bind_eq_some_iff.mp hf
  cases e2
  exact ⟨Z, ρ, d, hz, hg, e1, fun v H' s hv => q1 _ rfl _ _ s ((hg.same s).put i hv)⟩
theorem ds_set {i : Nat} {x : Str} (hN : X.N.Nodup) (hi : X.N[i]? = some x) (hx : Loc X.env.scope x) (he : PE X e (tD X.K f)) (hs : swapsWith e (some (.Name x py)) pos.line X.env = pure false := by rfl) (hf : X.fn x = true ∨ X.env.scope.names.lookup x = some .local := by first | exact .inl rfl | exact .inr rfl | assumption) :
    PS X (.Assign [.Name x py] e pos) (tS X.K (sSet i f)) := ps_weak (ps_set hN hi hx he hs hf) fun D σ H h => set_read h
theorem ds_setLc {α : Type} {R : (Addr → Prop) → Hp → α → V → Prop} {fi : Ds → Option (List α)} {u : α → Ds → Ds} {t : Ds → Option Bool} {k : F} {g : TG} {ifs : List Expr} {scope : Scope} {own : List (Str × Nat)} {i : Nat} {y : Str}
    (hu : Tgt X.K R u (own.map (·.2)) g) (hc : X.calm = true) (hN : X.N.Nodup) (hy : X.N[i]? = some y) (hyl : X.env.scope.names.lookup y = some .local)
    (hsw : swapsWith (.ListComp elt [⟨tg, iter, ifs, 0⟩] scope pos) (some (.Name y py)) spos.line X.env = pure true) (hi : PI X tg iter (iG X.K R fi)) (ok : BlkOk X.N X.env.scope scope own)
    (hg : ∀ (s : Shared) (H : Hp) (C : Addr) (cl : List (Str × Addr)) (fp : List Addr), PG (X.blk s H scope (compEnvC scope cl C X.env) fp) tg g)
    (ht : ∀ (s : Shared) (H : Hp) (C : Addr) (cl : List (Str × Addr)) (fp : List Addr), PTs (X.blk s H scope (compEnvC scope cl C X.env) fp) ifs (tDT X.K t))
    (he : ∀ (s : Shared) (H : Hp) (C : Addr) (cl : List (Str × Addr)) (fp : List Addr), PE (X.blk s H scope (compEnvC scope cl C X.env) fp) elt (tD X.K k)) (hs : ∀ x, foldedSetIterable iter X.env x = pure x := by intro _; rfl) :
    PS X (.Assign [.Name y py] (.ListComp elt [⟨tg, iter, ifs, 0⟩] scope pos) spos) (tS X.K (sSet i (fLc fi u t k (own.map (·.2))))) :=
  ps_weak (ps_setLc hc hN hy hyl hsw hi ok hg ht he hs) fun D σ H h => lc_read hu (set_read h)
theorem ds_set2 {i j : Nat} {tg : Expr} (he : PE X e (tD X.K f)) (hg : PG X tg (gTup X.K 2 (gCons (gName i) (gCons (gName j) gNil)))) (hs : swapsWithSole [tg] e pos.line X.env = pure false := by rfl) (hw : swappedStores [tg] e X.env = pure none := by rfl)
    (h1 : (assignEach [tg] X.env).map (·.2) = [assign tg X.env] := by rfl) : PS X (.Assign [tg] e pos) (tS X.K (sSet2 i j f)) := by
  refine ps_weak (ps_asg he hg hs hw h1) fun D σ H ⟨Z, ρ, o, hz, hg, hf, q1, q2⟩ => ?_
  obtain ⟨d, e1, e2⟩ := Option.bind_eq_some_iff.mp hf
  refine ⟨Z, ρ, d, hz, hg, e1, fun v H' s hv => ?_⟩
  split at e2
  · rename_i a b
    cases e2
    obtain ⟨T, xs, rfl, hT, x, r, rfl, h1, y, r2, rfl, h2, rfl⟩ := hv
    exact ⟨T, [x, y], rfl, hT.1, rfl, x, [y], rfl, y, [], rfl, rfl, q1 _ rfl _ _ s (((hg.same s).put i h1).put j h2)⟩
  · cases e2
theorem ds_if {fb : Ds → Option Bool} {a b : List Stmt} (hc : PT X c (tDT X.K fb)) (ha : PSs X a (tS X.K sa)) (hb : PSs X b (tS X.K sb)) : PS X (.If c a b pos) (tS X.K (sIf fb sa sb)) := by
  refine ps_weak (ps_if hc ha hb) fun D σ H ⟨Z, ρ, o, hz, hg, hf, q1, q2⟩ => ?_
  obtain ⟨x, e1, e2⟩ := Option.bind_eq_some_iff.mp hf
  refine ⟨Z, ρ, x, hz, hg, e1, fun H' s => ?_⟩
  cases x with
  | true => rw [if_pos rfl] at e2 ⊢; exact ⟨Z, ρ, o, hz.same s, hg.same s, e2, fun ρ' e σ' H2 s2 h => q1 ρ' e σ' H2 (s.trans s2) h, fun d e v H2 s2 h => q2 d e v H2 (s.trans s2) h⟩
  | false => rw [if_neg Bool.false_ne_true] at e2 ⊢; exact ⟨Z, ρ, o, hz.same s, hg.same s, e2, fun ρ' e σ' H2 s2 h => q1 ρ' e σ' H2 (s.trans s2) h, fun d e v H2 s2 h => q2 d e v H2 (s.trans s2) h⟩
theorem dss_nil : PSs X [] (tS X.K sNil) := pss_weak pss_nil fun D σ H ⟨Z, ρ, o, hz, hg, hf, q1, q2⟩ => by
  cases hf
  exact q1 _ rfl σ H (Same.refl H) hg
theorem dss_one (h : PS X st (tS X.K sa)) : PSs X [st] (tS X.K sa) := pss_one h
theorem dss_cons (h : PS X st (tS X.K sa)) (h2 : PSs X rest (tS X.K sb)) : PSs X (st :: rest) (tS X.K (sSeq sa sb)) := by
  refine pss_weak (pss_cons h h2) fun D σ H ⟨Z, ρ, o, hz, hg, hf, q1, q2⟩ => ?_
  obtain ⟨o1, e1, e2⟩ := Option.bind_eq_some_iff.mp hf
  refine ⟨Z, ρ, o1, hz, hg, e1, fun ρ' e σ' H' s h => ?_, fun d e v H' s h => ?_⟩
  · subst e
    exact ⟨Z, ρ', o, hz.same s, h, e2, fun ρ2 e σ2 H2 s2 h => q1 ρ2 e σ2 H2 (s.trans s2) h, fun d e v H2 s2 h => q2 d e v H2 (s.trans s2) h⟩
  · subst e
    cases e2
    exact q2 d rfl v H' s h
def forGo {α : Type} (u : α → Ds → Ds) (sb : Ds → Option Out) : List α → Ds → Option Out
  | [], ρ => some (.nx ρ)
  | d :: ds, ρ => (sb (u d ρ)).bind fun o => match o with | .nx ρ' => forGo u sb ds ρ' | .rt r => some (.rt r)
def sFor {α : Type} (f : Ds → Option (List α)) (u : α → Ds → Ds) (sb : Ds → Option Out) : Ds → Option Out := fun ρ => (f ρ).bind fun ds => forGo u sb ds ρ
theorem ds_for {α : Type} {R : (Addr → Prop) → Hp → α → V → Prop} {fi : Ds → Option (List α)} {u : α → Ds → Ds} {g : TG} {vs : List Nat} (hu : Tgt X.K R u vs g) (hp : PassesOwn (model X.prog X.w) X.A X.env X.xe) (hc : X.calm = true) (hi : PI X tg iter (iG X.K R fi)) (hg : PG X tg g) (hb : PSs X sts (tS X.K sb))
    (hs : ∀ x, foldedSetIterable iter X.env x = pure x := by intro _; rfl) : PS X (.For tg iter sts [] pos) (tS X.K (sFor fi u sb)) := by
  refine ps_weak (ps_for hp hc hi hg hb hs) fun D σ H ⟨Z, ρ, o, hz, hg, hf, q1, q2⟩ => ?_
  obtain ⟨ds, e1, e2⟩ := Option.bind_eq_some_iff.mp hf
  refine ⟨Z, ρ, ds, hz, hg, e1, fun J H1 G s1 gen hG hl => ?_⟩
  refine for_it (n := ds.length) (G := fun H' => G Z H') (Y := fun i H0 x H' => Same H0 H' ∧ ∃ d, ds[i]? = some d ∧ R Z H' d x)
    ⟨fun i H' hi hq => gen.go _ i H' hi hq, fun H' hq => gen.stop _ H' hq, fun i H' x H2 hi hq y => gen.yld _ i H' x H2 hi hq y⟩
    (fun i σ' H' => Same H1 H' ∧ G Z H' ∧ ∃ ρ', Agr X.K Z H' σ' ρ' ∧ forGo u sb (ds.drop i) ρ' = some o)
    ⟨Same.refl _, hG, ρ, hg.same s1, e2⟩ (fun i σ' H' _ p => p.2.1) ?_ ?_
  · rintro i x σ2 H2 H3 hi ⟨s12, hG2, ρ', ag, hgo⟩ ⟨s23, d, ed, hR⟩
    have s13 := s12.trans s23
    have hdrop : ds.drop i = d :: ds.drop (i + 1) := by
      obtain ⟨hlt, hv⟩ := List.getElem?_eq_some_iff.mp ed
      rw [List.drop_eq_getElem_cons hlt, hv]
    rw [hdrop] at hgo
    obtain ⟨o1, eo, hgo1⟩ := Option.bind_eq_some_iff.mp hgo
    have hG3 := gen.car _ _ _ _ hG2 (Car.same s23)
    refine hu.at_ Z H3 σ2 ρ' d x _ (ag.same s23) hR fun σ3 ag3 _ => ⟨Z, _, o1, (hz.same s1).same s13, ag3, eo, fun ρ2 e σ4 H4 s34 ag4 => ?_, fun r e v H4 s34 hv => ?_⟩
    · subst e
      exact ⟨s13.trans s34, gen.car _ _ _ _ hG3 (Car.same s34), ρ2, ag4, hgo1⟩
    · subst e
      cases hgo1
      exact q2 r rfl v H4 ((s1.trans s13).trans s34) hv
  · rintro σ2 H2 ⟨s12, _, ρ', ag, hgo⟩
    rw [List.drop_length] at hgo
    cases hgo
    exact q1 _ rfl σ2 H2 (s1.trans s12) ag
end

/-! ### defs -/
def retOf (m : Nat) (g : Ds → Option Out) (ds : List PyData) : Option PyData := (g (ds.map some ++ List.replicate (m - ds.length) none)).bind fun o => match o with | .rt d => some d | .nx _ => some .none
section
variable {P : Program} {w : World} {K : PySem.W.Frag} {mg : Str → Option Value} {base : Heap}
theorem def_ok {x qual : Str} {st : Stmt} {f : Addr} {fd : FuncData} {N ps : List Str} {k n : Nat} {g : Ds → Option Out} {G : List PyData → Option PyData} (F : Fun K x qual st f fd) (S : FnScope N ps (defScope st)) (hn : n = ps.length)
    (hG : ∀ ds d, ds.length = n → G ds = some d → retOf N.length g ds = some d)
    (hbody : ∀ (cdv : Value) (A : Around) (outer : List Env) (s : Shared) (H : Hp) (E : XK), Room k (A.deeper (envOfC qual (defScope st) s.heap.objs.size f cdv)) →
      PSs (cxOf CX0 P w K mg base N qual (defScope st) f cdv A outer s H E).nox (defBody st) (tS K g)) : FnOk P w K mg base CX0 (k + 1) f fd ps (spD K n G) := by
  subst hn
  have hpl : ps.length ≤ N.length := by have := congrArg List.length S.pre; rw [List.length_take] at this; omega
  refine F.ok S (fun vs H Q E h => ?_) (fun cdv A outer s H vs Q E hr h => ⟨_, hbody cdv A outer s H E hr, ?_⟩)
  · obtain ⟨Z, ds, d, _, hd, hl, _⟩ := h
    rw [hd.length, hl]
  · obtain ⟨Z, ds, d, hz, hd, hl, hg, q⟩ := h
    obtain ⟨o, e1, e2⟩ := Option.bind_eq_some_iff.mp (hG ds d hl hg)
    refine ⟨Z, _, o, hz, Agr.start hd (by omega), e1, fun ρ' e σ' H' s' _ => ?_, fun r e v H' s' hv => ?_⟩
    · subst e
      cases e2
      exact q .non H' s' rfl
    · subst e
      cases e2
      exact q v H' s' hv
end
end Cr
namespace Cr
open PySem PySem.Spec PyProof.Rows L2

/-! ### zip of two tuples, given to ONE name: the pair given out before may still be held -/
abbrev ZRec (h : Heap) (z TI TO : Addr) (f0 : Value) (f1 : Bool) : Prop :=
  h.get? z = some { cls := .type "zip", dict := Option.none, data := .fields #[f0, .bool f1, .bool false, .ref TI, .ref TO], slots := #[] }
section
variable {prog : Program} {w : World} {A : Around} {E : Value → Shared → Prop} {s : Shared} {z TI TO i1 i2 l1 l2 : Addr} {k1 k2 : Nat} {xs ys : Array Value} {x y a b f0 : Value} {f1 : Bool}
/-- whether the pair is free, told apart by what the record holds -/
theorem zfree (hz : ZRec s.heap z TI TO f0 f1) (h0 : f0 = .none ∨ ∃ T : Addr, f0 = rawInt T ∧ s.heap.get? T = Option.none) {Q : Bool → Shared → Prop} (h : Q true s) :
    wpAny (model prog w) A (Builtin.SmallTypes.ownedTupleIsFree (.ref z)) Q E s := by
  unfold Builtin.SmallTypes.ownedTupleIsFree
  refine wpAny_bind (wpAny_field hz rfl (x := f0) rfl ?_)
  rcases h0 with e | ⟨T, e, hT⟩
  · subst e
    exact wpAny_pure h
  · subst e
    show wpAny _ _ (loadIfAlive ((T : Int).toNat) >>= _) _ _ _
    rw [Int.toNat_natCast]
    have al : wpAny (model prog w) A (loadIfAlive T) (fun o s' => o = Option.none ∧ s' = s) E s := by
      have q : (fun (o : Option Obj) (s' : Shared) => o = Option.none ∧ s' = s) (s.heap.get? T) s := ⟨hT, rfl⟩
      exact fun _ _ _ => q
    refine wpAny_bind (wpAny_mono al (fun o s' hq => ?_) fun _ _ e => e)
    obtain ⟨eo, es⟩ := hq
    subst eo es
    simp only [Option.isNone_none, if_true]
    exact wpAny_pure h
/-- a turn of which the pair is free -/
theorem znext_free (D : ZipApart z TI TO i1 i2 l1 l2) (hz : ZRec s.heap z TI TO f0 f1) (h0 : f0 = .none ∨ ∃ T : Addr, f0 = rawInt T ∧ s.heap.get? T = Option.none)
    (hTI : IsPair s.heap TI (.ref i1) (.ref i2)) (hTO : IsPair s.heap TO a b) (g1 : s.heap.IsTupleIter i1 l1 k1) (g2 : s.heap.IsTupleIter i2 l2 k2) (t1 : s.heap.IsTuple l1 xs) (t2 : s.heap.IsTuple l2 ys) (hx : xs[k1]? = some x) (hy : ys[k2]? = some y) {Q : Value → Shared → Prop}
    (hQ : ∀ h', ZRec h' z TI TO (rawInt s.heap.objs.size) false → IsPair h' TO x y → h'.IsTupleIter i1 l1 (k1 + 1) → h'.IsTupleIter i2 l2 (k2 + 1) → IsPair h' s.heap.objs.size x y → h'.objs.size = s.heap.objs.size + 1 →
      (∀ c o, c ∉ [z, TI, TO, i1, i2] → s.heap.get? c = some o → h'.get? c = some o) → IsPair h' TI (.ref i1) (.ref i2) → Q (.ref s.heap.objs.size) { s with heap := h' }) :
    wpAny (model prog w) A (Builtin.«zip.__next__» ⟨[.ref z], []⟩) (fun fin s' => ∃ v, fin = .done (.ret v) ∧ Q v s') E s := by
  show wpAny _ _ (field (.ref z) 2 >>= _) _ _ s
  refine wpAny_bind (wpAny_field hz rfl (x := .bool false) rfl ?_)
  show wpAny _ _ (field (.ref z) 3 >>= _) _ _ s
  refine wpAny_bind (wpAny_field hz rfl (x := .ref TI) rfl (wpAny_bind (wpAny_seqItems hTI rfl ?_)))
  show wpAny _ _ (Builtin.SmallTypes.ownedTupleIsFree (.ref z) >>= _) _ _ s
  refine wpAny_bind (zfree hz h0 ?_)
  simp only [if_true]
  refine wpAny_bind (wpAny_rule (wpAny_bind (wpAny_field hz rfl (x := .ref TO) rfl ?_)))
  refine wpAny_bind (wpAny_setField_rec hz (by simp) fun ha za sa => ?_)
  replace za : ZRec ha z TI TO .ellipsis f1 := za
  refine wpAny_bind ?_
  simp only [List.zipIdx_cons, List.zipIdx_nil, List.forIn_cons, List.forIn_nil]
  refine wpAny_bind (wpAny_bind (wpAny_onRaise ?_))
  show wpAny _ _ (Builtin.SmallTypes.nextOf (.ref i1) >>= _) _ _ _
  refine wpAny_bind (RZ.nextOf_tuple_item (g1.extBut sa.extBut D.i1z) (t1.extBut sa.extBut D.l1z) hx fun hb ib sb => wpAny_pure ?_)
  have pb : IsPair hb TO a b := sb.extBut _ _ D.TOi1 (sa.extBut _ _ D.TOz hTO)
  refine wpAny_bind (wpAny_seqItems pb rfl (wpAny_bind (wpAny_updateSeq_pair pb fun hc pc sc => ?_)))
  replace pc : IsPair hc TO x b := pc
  refine wpAny_bind (wpAny_letGo (wpAny_pure ?_))
  refine wpAny_bind (wpAny_bind (wpAny_onRaise ?_))
  show wpAny _ _ (Builtin.SmallTypes.nextOf (.ref i2) >>= _) _ _ _
  refine wpAny_bind (RZ.nextOf_tuple_item (((g2.extBut sa.extBut D.i2z).extBut sb.extBut D.i12.symm).extBut sc.extBut D.TOi2.symm) (((t2.extBut sa.extBut D.l2z).extBut sb.extBut D.l2i1).extBut sc.extBut D.l2TO) hy fun hd id' sd => wpAny_pure ?_)
  have pd : IsPair hd TO x b := sd.extBut _ _ D.TOi2 pc
  refine wpAny_bind (wpAny_seqItems pd rfl (wpAny_bind (wpAny_updateSeq_pair pd fun he pe se => ?_)))
  replace pe : IsPair he TO x y := pe
  refine wpAny_bind (wpAny_letGo (wpAny_pure (wpAny_pure ?_)))
  refine wpAny_bind (wpAny_seqItems pe rfl (wpAny_bind (wpAny_newTuple ?_)))
  have size : he.objs.size = s.heap.objs.size := by rw [se.1, sd.1, sc.1, sb.1, sa.1]
  have ze : ZRec he z TI TO .ellipsis f1 := se.extBut _ _ D.TOz.symm (sd.extBut _ _ D.i2z.symm (sc.extBut _ _ D.TOz.symm (sb.extBut _ _ D.i1z.symm za)))
  have keep : ∀ c o, c ≠ z → c ≠ TO → c ≠ i1 → c ≠ i2 → s.heap.get? c = some o → he.get? c = some o := fun c o n1 n2 n3 n4 e =>
    se.extBut _ _ n2 (sd.extBut _ _ n4 (sc.extBut _ _ n2 (sb.extBut _ _ n3 (sa.extBut _ _ n1 e))))
  have ie : he.IsTupleIter i1 l1 (k1 + 1) := ((ib.extBut sc.extBut D.TOi1.symm).extBut sd.extBut D.i12).extBut se.extBut D.TOi1.symm
  have je : he.IsTupleIter i2 l2 (k2 + 1) := id'.extBut se.extBut D.TOi2.symm
  have zl : z < he.objs.size := Heap.lt_size ze
  show wpAny _ _ (Builtin.SmallTypes.ownedTupleHandOut (.ref z) (.ref he.objs.size) >>= _) _ _ _
  refine wpAny_bind ?_
  unfold Builtin.SmallTypes.ownedTupleHandOut
  have zf : ZRec (he.push { cls := .type "tuple", data := .seq #[x, y] }) z TI TO .ellipsis f1 := Heap.get?_push_of_some _ ze
  refine wpAny_bind (wpAny_setField_rec zf (by simp) fun hg zg sg => ?_)
  replace zg : ZRec hg z TI TO (rawInt he.objs.size) f1 := zg
  refine wpAny_setField_rec zg (by simp) fun hh zh sh => ?_
  replace zh : ZRec hh z TI TO (rawInt he.objs.size) false := zh
  have up : ∀ c o, c ≠ z → he.get? c = some o → hh.get? c = some o := fun c o n1 e => sh.extBut _ _ n1 (sg.extBut _ _ n1 (Heap.get?_push_of_some _ e))
  have pT : IsPair hh he.objs.size x y := sh.extBut _ _ (Nat.ne_of_gt zl) (sg.extBut _ _ (Nat.ne_of_gt zl) (Heap.get?_push_size _ rfl))
  have sz : hh.objs.size = he.objs.size + 1 := by rw [sh.1, sg.1, Heap.size_push]
  rw [size] at zh pT sz
  refine wpAny_pure ⟨_, rfl, ?_⟩
  show Q (.ref he.objs.size) _
  rw [size]
  have mem : ∀ {c : Addr}, c ∉ [z, TI, TO, i1, i2] → c ≠ z ∧ c ≠ TI ∧ c ≠ TO ∧ c ≠ i1 ∧ c ≠ i2 := fun {c} hc => by simpa using hc
  exact hQ hh zh (up _ _ D.TOz pe) (ie.at fun o e => up _ o D.i1z e) (je.at fun o e => up _ o D.i2z e) pT sz (fun c o hc e => up c o (mem hc).1 (keep c o (mem hc).1 (mem hc).2.2.1 (mem hc).2.2.2.1 (mem hc).2.2.2.2 e))
    (up _ _ D.TIz (keep _ _ D.TIz D.TITO D.TIi1 D.TIi2 hTI))
/-- a turn of which the pair is held -/
theorem znext_held {T : Addr} {oT : Obj} (D : ZipApart z TI TO i1 i2 l1 l2) (hz : ZRec s.heap z TI TO (rawInt T) f1) (hT : s.heap.get? T = some oT)
    (hTI : IsPair s.heap TI (.ref i1) (.ref i2)) (hTO : IsPair s.heap TO a b) (g1 : s.heap.IsTupleIter i1 l1 k1) (g2 : s.heap.IsTupleIter i2 l2 k2) (t1 : s.heap.IsTuple l1 xs) (t2 : s.heap.IsTuple l2 ys) (hx : xs[k1]? = some x) (hy : ys[k2]? = some y) {Q : Value → Shared → Prop}
    (hQ : ∀ h', ZRec h' z TI TO (rawInt T) true → IsPair h' TO a b → h'.IsTupleIter i1 l1 (k1 + 1) → h'.IsTupleIter i2 l2 (k2 + 1) → IsPair h' s.heap.objs.size x y → h'.objs.size = s.heap.objs.size + 1 →
      (∀ c o, c ∉ [z, TI, TO, i1, i2] → s.heap.get? c = some o → h'.get? c = some o) → IsPair h' TI (.ref i1) (.ref i2) → Q (.ref s.heap.objs.size) { s with heap := h' }) :
    wpAny (model prog w) A (Builtin.«zip.__next__» ⟨[.ref z], []⟩) (fun fin s' => ∃ v, fin = .done (.ret v) ∧ Q v s') E s := by
  show wpAny _ _ (field (.ref z) 2 >>= _) _ _ s
  refine wpAny_bind (wpAny_field hz rfl (x := .bool false) rfl ?_)
  show wpAny _ _ (field (.ref z) 3 >>= _) _ _ s
  refine wpAny_bind (wpAny_field hz rfl (x := .ref TI) rfl (wpAny_bind (wpAny_seqItems hTI rfl ?_)))
  show wpAny _ _ (Builtin.SmallTypes.ownedTupleIsFree (.ref z) >>= _) _ _ s
  refine wpAny_bind (wpAny_tupleHeld_zip hz hT fun ha za sa => ?_)
  simp only [Bool.false_eq_true, if_false]
  refine wpAny_bind ?_
  rw [← Array.forIn_toList]
  simp only [List.forIn_cons, List.forIn_nil]
  refine wpAny_bind (wpAny_bind (wpAny_holding ?_))
  show wpAny _ _ (Builtin.SmallTypes.nextOf (.ref i1) >>= _) _ _ _
  refine wpAny_bind (RZ.nextOf_tuple_item (g1.extBut sa.extBut D.i1z) (t1.extBut sa.extBut D.l1z) hx fun hb ib sb => wpAny_pure ?_)
  refine wpAny_pure (wpAny_bind (wpAny_bind (wpAny_holding ?_)))
  show wpAny _ _ (Builtin.SmallTypes.nextOf (.ref i2) >>= _) _ _ _
  refine wpAny_bind (RZ.nextOf_tuple_item ((g2.extBut sa.extBut D.i2z).extBut sb.extBut D.i12.symm) ((t2.extBut sa.extBut D.l2z).extBut sb.extBut D.l2i1) hy fun hc ic sc => wpAny_pure ?_)
  refine wpAny_pure (wpAny_pure ?_)
  show wpAny _ _ (newTuple [x, y] >>= _) _ _ _
  refine wpAny_bind (wpAny_newTuple ?_)
  have size : hc.objs.size = s.heap.objs.size := by rw [sc.1, sb.1, sa.1]
  have zc : ZRec hc z TI TO (rawInt T) true := sc.extBut _ _ D.i2z.symm (sb.extBut _ _ D.i1z.symm za)
  have keep : ∀ c o, c ≠ z → c ≠ i1 → c ≠ i2 → s.heap.get? c = some o → hc.get? c = some o := fun c o n1 n3 n4 e => sc.extBut _ _ n4 (sb.extBut _ _ n3 (sa.extBut _ _ n1 e))
  have ie : hc.IsTupleIter i1 l1 (k1 + 1) := ib.extBut sc.extBut D.i12
  refine wpAny_pure ⟨_, rfl, ?_⟩
  show Q (.ref hc.objs.size) _
  have pT : IsPair (hc.push { cls := .type "tuple", data := .seq #[x, y] }) hc.objs.size x y := Heap.get?_push_size _ rfl
  have sz : (hc.push { cls := .type "tuple", data := .seq #[x, y] }).objs.size = hc.objs.size + 1 := Heap.size_push ..
  have mem : ∀ {c : Addr}, c ∉ [z, TI, TO, i1, i2] → c ≠ z ∧ c ≠ TI ∧ c ≠ TO ∧ c ≠ i1 ∧ c ≠ i2 := fun {c} hc => by simpa using hc
  rw [size] at pT sz ⊢
  exact hQ _ (Heap.get?_push_of_some _ zc) (Heap.get?_push_of_some _ (keep _ _ D.TOz D.TOi1 D.TOi2 hTO)) (ie.at fun o e => Heap.get?_push_of_some _ e) (ic.at fun o e => Heap.get?_push_of_some _ e) pT sz
    (fun c o hc e => Heap.get?_push_of_some _ (keep c o (mem hc).1 (mem hc).2.2.2.1 (mem hc).2.2.2.2 e)) (Heap.get?_push_of_some _ (keep _ _ D.TIz D.TIi1 D.TIi2 hTI))
/-- the end of it -/
theorem zend (hh : A.handled = Option.none) (D : ZipApart z TI TO i1 i2 l1 l2) (hz : ZRec s.heap z TI TO f0 f1) (h0 : f0 = .none ∨ ∃ T : Addr, f0 = rawInt T)
    (hTI : IsPair s.heap TI (.ref i1) (.ref i2)) (hTO : IsPair s.heap TO a b) (g1 : s.heap.IsTupleIter i1 l1 k1) (t1 : s.heap.IsTuple l1 xs) (hx : xs[k1]? = Option.none) {Q : Fin → Shared → Prop}
    (hE : ∀ h' e, (∀ c o, c ∉ [z, TI, TO, i1, i2] → s.heap.get? c = some o → h'.get? c = some o) → (∃ o, h'.get? e = some o ∧ o.cls = .type "StopIteration") → E (.ref e) { s with heap := h' }) :
    wpAny (model prog w) A (Builtin.«zip.__next__» ⟨[.ref z], []⟩) Q E s := by
  have mem : ∀ {c : Addr}, c ∉ [z, TI, TO, i1, i2] → c ≠ z ∧ c ≠ TI ∧ c ≠ TO ∧ c ≠ i1 ∧ c ≠ i2 := fun {c} hc => by simpa using hc
  show wpAny _ _ (field (.ref z) 2 >>= _) _ _ s
  refine wpAny_bind (wpAny_field hz rfl (x := .bool false) rfl ?_)
  show wpAny _ _ (field (.ref z) 3 >>= _) _ _ s
  refine wpAny_bind (wpAny_field hz rfl (x := .ref TI) rfl (wpAny_bind (wpAny_seqItems hTI rfl ?_)))
  show wpAny _ _ (Builtin.SmallTypes.ownedTupleIsFree (.ref z) >>= _) _ _ s
  have ways : (f0 = .none ∨ ∃ T : Addr, f0 = rawInt T ∧ s.heap.get? T = Option.none) ∨ ∃ (T : Addr) (oT : Obj), f0 = rawInt T ∧ s.heap.get? T = some oT := by
    rcases h0 with e | ⟨T, e⟩
    · exact .inl (.inl e)
    · cases hT : s.heap.get? T with
      | none => exact .inl (.inr ⟨T, e, hT⟩)
      | some oT => exact .inr ⟨T, oT, e, hT⟩
  rcases ways with fr | ⟨T, oT, e, hT⟩
  · refine wpAny_bind (zfree hz fr ?_)
    simp only [if_true]
    refine wpAny_bind (wpAny_rule (wpAny_bind (wpAny_field hz rfl (x := .ref TO) rfl ?_)))
    refine wpAny_bind (wpAny_setField_rec hz (by simp) fun ha za sa => ?_)
    replace za : ZRec ha z TI TO .ellipsis f1 := za
    refine wpAny_bind ?_
    simp only [List.zipIdx_cons, List.zipIdx_nil, List.forIn_cons, List.forIn_nil]
    refine wpAny_bind (wpAny_bind (wpAny_onRaise ?_))
    show wpAny _ _ (Builtin.SmallTypes.nextOf (.ref i1) >>= _) _ _ _
    refine wpAny_bind (RZ.nextOf_tuple_end hh (g1.extBut sa.extBut D.i1z) (t1.extBut sa.extBut D.l1z) hx fun hb e sb he => ?_)
    obtain ⟨oe, hoe, hce⟩ := he
    have zb : ZRec hb z TI TO .ellipsis f1 := sb _ _ D.i1z.symm za
    have ne : e ≠ z := fun q => by subst q; rw [zb] at hoe; cases hoe; simp at hce
    exact wpAny_setField_rec zb (by simp) fun hc _ sc => hE hc e (fun c o hc e => sc.extBut _ _ (mem hc).1 (sb _ _ (mem hc).2.2.2.1 (sa.extBut _ _ (mem hc).1 e))) ⟨oe, sc.extBut _ _ ne hoe, hce⟩
  · subst e
    refine wpAny_bind (wpAny_tupleHeld_zip hz hT fun ha za sa => ?_)
    simp only [Bool.false_eq_true, if_false]
    refine wpAny_bind ?_
    rw [← Array.forIn_toList]
    simp only [List.forIn_cons, List.forIn_nil]
    refine wpAny_bind (wpAny_bind (wpAny_holding ?_))
    show wpAny _ _ (Builtin.SmallTypes.nextOf (.ref i1) >>= _) _ _ _
    refine wpAny_bind (RZ.nextOf_tuple_end hh (g1.extBut sa.extBut D.i1z) (t1.extBut sa.extBut D.l1z) hx fun hb e sb he => ?_)
    exact hE hb e (fun c o hc e => sb _ _ (mem hc).2.2.2.1 (sa.extBut _ _ (mem hc).1 e)) he
end
/-- the turns: a new pair each, its object told -/
def ItzN (K : PySem.W.Frag) (a b : Addr) : It :=
  ⟨fun i H => ∃ (xs ys : List V) (x y : V), SqT K H a xs ∧ SqT K H b ys ∧ xs[i]? = some x ∧ ys[i]? = some y,
    fun i H v H' => ∃ T x y o, v = .ref T ∧ H T = Option.none ∧ o.dict = Option.none ∧ H' = upd H T (.frz o (.tup [x, y])) ∧ (∀ xs, SqT K H a xs → xs[i]? = some x) ∧ ∀ ys, SqT K H b ys → ys[i]? = some y,
    fun i H => ∃ xs : List V, SqT K H a xs ∧ xs.length ≤ i⟩
theorem turn_zipN {P : Program} {w : World} {K : PySem.W.Frag} {nm : Str} {npos : Pos} {a b z TI TO i1 i2 : Addr} (D : ZipApart z TI TO i1 i2 a b) :
    Turn P w K (.Name nm npos) (ItzN K a b) [z, TI, TO, i1, i2] z (fun i h => (∃ f0 f1, (f0 = .none ∨ ∃ T : Addr, f0 = rawInt T) ∧ ZRec h z TI TO f0 f1) ∧ IsPair h TI (.ref i1) (.ref i2) ∧ (∃ x y, IsPair h TO x y) ∧ h.IsTupleIter i1 a i ∧ h.IsTupleIter i2 b i) where
  mem := by simp
  obj := fun i h st c hc => by
    obtain ⟨⟨f0, f1, _, hz⟩, hTI, ⟨x, y, hTO⟩, ⟨o1, e1, _, d1⟩, ⟨o2, e2, _, d2⟩⟩ := st
    simp only [List.mem_cons, List.mem_singleton, List.not_mem_nil, or_false] at hc
    rcases hc with q | q | q | q | q <;> subst q
    · exact ⟨_, hz, fun v q => nomatch q⟩
    · exact ⟨_, hTI, fun v q => nomatch q⟩
    · exact ⟨_, hTO, fun v q => nomatch q⟩
    · exact ⟨o1, e1, fun v q => by rw [d1] at q; cases q⟩
    · exact ⟨o2, e2, fun v q => by rw [d2] at q; cases q⟩
  keep := fun i h h' st k => by
    obtain ⟨⟨f0, f1, h0, hz⟩, hTI, ⟨x, y, hTO⟩, g1, g2⟩ := st
    exact ⟨⟨f0, f1, h0, k z (by simp) _ hz⟩, k TI (by simp) _ hTI, ⟨x, y, k TO (by simp) _ hTO⟩, g1.at fun o q => k i1 (by simp) o q, g2.at fun o q => k i2 (by simp) o q⟩
  item := by
    intro X hP hw hK hc i pins s σ H E I hf st hg
    subst hP hw hK
    obtain ⟨⟨f0, f1, h0, hz⟩, hTI, ⟨x0, y0, hTO⟩, g1, g2⟩ := st
    obtain ⟨xs, ys, x, y, hqx, hqy, hx, hy⟩ := hg
    obtain ⟨its, rv, p, _⟩ := I.tuple hqx
    obtain ⟨jts, rv2, p2, _⟩ := I.tuple hqy
    obtain ⟨u, hu, ru⟩ := rv.get hx
    obtain ⟨u2, hu2, ru2⟩ := rv2.get hy
    have lt5 : ∀ c, c ∈ [z, TI, TO, i1, i2] → c < s.heap.objs.size := fun c hcm => by
      simp only [List.mem_cons, List.mem_singleton, List.not_mem_nil, or_false] at hcm
      rcases hcm with q | q | q | q | q <;> subst q
      · exact Heap.lt_size hz
      · exact Heap.lt_size hTI
      · exact Heap.lt_size hTO
      · obtain ⟨_, e1, _⟩ := g1; exact Heap.lt_size e1
      · obtain ⟨_, e2, _⟩ := g2; exact Heap.lt_size e2
    have fin : ∀ h' x1 y1 T f, ZRec h' z TI TO (rawInt (T : Addr)) f → IsPair h' TO x1 y1 → h'.IsTupleIter i1 a (i + 1) → h'.IsTupleIter i2 b (i + 1) → IsPair h' s.heap.objs.size u u2 →
        (∀ c o, c ∉ [z, TI, TO, i1, i2] → s.heap.get? c = some o → h'.get? c = some o) → IsPair h' TI (.ref i1) (.ref i2) →
        ∃ u', some (Value.ref s.heap.objs.size) = some u' ∧ wpAny (model X.prog X.w) X.A (letOwnedTupleGo (.Name nm npos) (.ref z) u') (fun _ s2 => ∃ x H', Inv X pins σ H' s2 ∧ RelV x u' ∧ (ItzN X.K a b).yld i H x H' ∧
          ((∃ f0 f1, (f0 = .none ∨ ∃ T : Addr, f0 = rawInt T) ∧ ZRec s2.heap z TI TO f0 f1) ∧ IsPair s2.heap TI (.ref i1) (.ref i2) ∧ (∃ x y, IsPair s2.heap TO x y) ∧ s2.heap.IsTupleIter i1 a (i + 1) ∧ s2.heap.IsTupleIter i2 b (i + 1)) ∧ ∀ b ∈ [z, TI, TO, i1, i2], H' b = Option.none) E { s with heap := h' } := by
      intro h' x1 y1 T f z' TO' i1' i2' pT hk TI'
      refine ⟨_, rfl, ?_⟩
      show wpAny _ _ (pure ()) _ _ _
      refine wpAny_pure ?_
      have new : ObjOk X.prog X.w (upd H s.heap.objs.size (.frz { cls := .type "tuple", data := .seq #[u, u2] } (.tup [x, y]))) h' s.heap.objs.size (.frz { cls := .type "tuple", data := .seq #[u, u2] } (.tup [x, y])) :=
        ⟨pT, by show 2 ≤ sizeLine; rw [sizeLine_eq]; omega, [u, u2], .cons ru (.cons ru2 .nil), ⟨_, pT, rfl, _, rfl⟩⟩
      refine ⟨.ref s.heap.objs.size, _, I.turnedNew (t' := s.toks) hk hf (Nat.le_refl _) new, rfl,
        ⟨_, x, y, _, rfl, I.hok.fresh (Nat.le_refl _), rfl, rfl, fun l hl => by rw [I.tuple_inj hl hqx]; exact hx, fun l hl => by rw [I.tuple_inj hl hqy]; exact hy⟩, ⟨⟨_, f, .inr ⟨T, rfl⟩, z'⟩, TI', ⟨_, _, TO'⟩, i1', i2'⟩, fun c hcm => ?_⟩
      rw [upd_ne (Nat.ne_of_lt (lt5 c hcm))]
      exact (hf c hcm).1
    have hTy : s.TypeIs (.ref z) "zip" := ⟨_, hz, rfl⟩
    have ways : (f0 = .none ∨ ∃ T : Addr, f0 = rawInt T ∧ s.heap.get? T = Option.none) ∨ ∃ (T : Addr) (oT : Obj), f0 = rawInt T ∧ s.heap.get? T = some oT := by
      rcases h0 with e | ⟨T, e⟩
      · exact .inl (.inl e)
      · cases hT : s.heap.get? T with
        | none => exact .inl (.inr ⟨T, e, hT⟩)
        | some oT => exact .inr ⟨T, oT, e, hT⟩
    unfold pyNext
    rcases ways with fr | ⟨T, oT, e, hT⟩
    · exact wpAny_bind (wpAny_attempt (wpAny_callSpecial?_slot (name := Str.ofString "__next__") hTy F.slot_zip_next
        (wpAny_call_entry F.slot_zip_next hTy F.entry_zip_next (znext_free D hz fr hTI hTO g1 g2 (show s.heap.IsTuple a its.toArray from p) (show s.heap.IsTuple b jts.toArray from p2) (x := u) (y := u2) (by simpa using hu) (by simpa using hu2)
          fun h' q1 q2 q3 q4 q5 q6 q7 q8 => wpAny_pure (fin h' _ _ _ _ q1 q2 q3 q4 q5 q7 q8)) (F.args_zip_next_1 _))))
    · subst e
      exact wpAny_bind (wpAny_attempt (wpAny_callSpecial?_slot (name := Str.ofString "__next__") hTy F.slot_zip_next
        (wpAny_call_entry F.slot_zip_next hTy F.entry_zip_next (znext_held D hz hT hTI hTO g1 g2 (show s.heap.IsTuple a its.toArray from p) (show s.heap.IsTuple b jts.toArray from p2) (x := u) (y := u2) (by simpa using hu) (by simpa using hu2)
          fun h' q1 q2 q3 q4 q5 q6 q7 q8 => wpAny_pure (fin h' _ _ _ _ q1 q2 q3 q4 q5 q7 q8)) (F.args_zip_next_1 _))))
  done := by
    intro X hP hw hK hc i pins s σ H E I hf st hg
    subst hP hw hK
    obtain ⟨⟨f0, f1, h0, hz⟩, hTI, ⟨x0, y0, hTO⟩, g1, g2⟩ := st
    obtain ⟨xs, hqx, hend⟩ := hg
    obtain ⟨its, rv, p, _⟩ := I.tuple hqx
    have hl := rv.length
    have hTy : s.TypeIs (.ref z) "zip" := ⟨_, hz, rfl⟩
    unfold pyNext
    refine wpAny_bind (wpAny_attempt (wpAny_callSpecial?_slot (name := Str.ofString "__next__") hTy F.slot_zip_next
      (wpAny_call_entry F.slot_zip_next hTy F.entry_zip_next (zend (A := X.A.in1) (show X.A.in1.handled = Option.none from I.ok.hd hc) D hz h0 hTI hTO g1 (show s.heap.IsTuple a its.toArray from p) (by simp; omega) fun h' e hk he => ?_) (F.args_zip_next_1 _))))
    obtain ⟨o, ho, hcl⟩ := he
    refine wpAny_bind (wpAny_isInstance (T := "StopIteration") (b := true) ⟨o, ho, hcl⟩ isSubtype_stop ?_)
    exact wpAny_pure ⟨rfl, I.turnedL (t' := s.toks) hk hf⟩
  self := fun A i s Q E st h => by
    obtain ⟨⟨f0, f1, h0, hz⟩, _⟩ := st
    have hTy : s.TypeIs (.ref z) "zip" := ⟨_, hz, rfl⟩
    refine wpAny_pyIter_slot hTy F.slot_zip_iter (wpAny_call_entry F.slot_zip_iter hTy F.entry_zip_iter ?_ (F.args_zip_iter_1 _))
    show wpAny _ _ (ret (Value.ref z)) _ _ s
    exact wpAny_pure ⟨_, rfl, "zip", _, hTy, F.slot_zip_next.lookup, h⟩
section
variable {X : Cx} {e e2 : Expr} {f g : F} {p pos npos tpos : Pos} {nm : Str} {elts : List Expr} {kk : Nat}
/-- zip(a, b) of tuples of one length, as pairs that are data -/
def fZipN (f g : F) : Ds → Option (List PyData) := fun ρ => (f ρ).bind fun a => (g ρ).bind fun b => match a, b with
  | .tuple xs, .tuple ys => if xs.length = ys.length then some ((xs.zip ys).map fun q => .tuple [q.1, q.2]) else none
  | _, _ => none
theorem gen_zipN {K : PySem.W.Frag} {a b : Addr} {xs ys : List V} {ds es : List PyData} (hl : xs.length = ds.length) (hl2 : ys.length = ds.length) (he : es.length = ds.length) :
    Gen K (Dq K) ((ds.zip es).map fun q => PyData.tuple [q.1, q.2]) (ItzN K a b) (fun Z H => (TpN K H a xs ∧ DqL K Z H ds xs) ∧ TpN K H b ys ∧ DqL K Z H es ys) where
  go := fun Z i H hi ⟨⟨h, _⟩, k, _⟩ => by
    have hi : i < ds.length := by simpa [he] using hi
    exact ⟨xs, ys, xs[i], ys[i], h.1, k.1, by simp [hl, hi], by simp [hl2, hi]⟩
  stop := fun Z H ⟨⟨h, _⟩, k, _⟩ => ⟨xs, h.1, by simp [he]; omega⟩
  yld := fun Z i H x H' hi ⟨⟨h, hd⟩, k, kd⟩ ⟨T, v, u, o, e1, hT, ho, e2, q1, q2⟩ => by
    subst e1 e2
    obtain ⟨d, d1, d2⟩ := hd.get2 (q1 xs h.1)
    obtain ⟨c, c1, c2⟩ := kd.get2 (q2 ys k.1)
    have s := same_upd (o := .frz o (.tup [v, u])) hT
    refine ⟨s, .tuple [d, c], ?_, T, [v, u], rfl, tpn_new ho, v, [u], rfl, d2.same s, u, [], rfl, c2.same s, rfl⟩
    have hz : (ds.zip es)[i]? = some (d, c) := by rw [List.getElem?_zip_eq_some]; exact ⟨d1, c1⟩
    rw [List.getElem?_map, hz] <;> rfl
  car := fun Z Z' H H' ⟨⟨h, hd⟩, k, kd⟩ c => ⟨⟨c.tup a xs h, DqL.car c _ _ hd⟩, c.tup b ys k, DqL.car c _ _ kd⟩
theorem pi_zipN (hg : Gl X "zip") (hm : X.mg "zip" = Option.none) (h1 : PE X e (tD X.K f)) (h2 : PE X e2 (tD X.K g))
    (hs : starEach [e, e2] X.env = (false, eval e X.env) :: starEach [e2] X.env := by rfl) (hs2 : starEach [e2] X.env = (false, eval e2 X.env) :: starEach [] X.env := by rfl) (hpl : (backTo pos (starEach [e2] X.env)).any (·.1) = false := by rfl) :
    PI X (.Name nm npos) (.Call (.Name "zip" p) [e, e2] [] pos) (iG X.K (Dq X.K) (fZipN f g)) := by
  refine ⟨fun pins s σ H R I hw => ?_⟩
  obtain ⟨Z, ρ, is, hz, hag, hf, q⟩ := hw
  obtain ⟨d, e1, hf1⟩ := Option.bind_eq_some_iff.mp hf
  obtain ⟨c, e3, hf2⟩ := Option.bind_eq_some_iff.mp hf1
  split at hf2
  · rename_i ds es
    split at hf2
    · rename_i hlen
      cases hf2
      have args : PA X [e, e2] (tDA X.K 2 (fCons f (fCons g fNil))) := da_cons h1 (da_cons h2 da_nil hs2) hs
      refine Call_ (ld_blt I hg hm PyProof.Rows.boot_zip (PyProof.Rows.callWith_type1 (thn (args.run pos pins s σ H _ I ⟨Z, ρ, [.tuple ds, .tuple es], hz, hag, by simp [fCons, fNil, e1, e3], fun vs H' s' hv hl => (⟨hv, s'⟩ : DqL X.K Z H' [.tuple ds, .tuple es] vs ∧ Same H H')⟩) fun us s1 ⟨vs, H1, I1, r1, hv, s01⟩ => ?_) hs hpl))
      obtain ⟨va, r2, rfl, ⟨a, xs, rfl, ha, hda⟩, vb, r3, rfl, ⟨b, ys, rfl, hb, hdb⟩, rfl⟩ := hv
      cases r1 with
      | cons ra rr =>
        cases rr with
        | cons rb rr =>
          cases rr
          cases ra
          cases rb
          obtain ⟨its, rv, p1, len1⟩ := I1.tuple ha.1
          obtain ⟨jts, rv2, p2, _⟩ := I1.tuple hb.1
          obtain ⟨o1, ho1, _⟩ := id p1
          obtain ⟨o2, ho2, _⟩ := id p2
          have n1 := hda.length
          have n2 := hdb.length
          refine RZ.call_zipT (show s1.heap.IsTuple a its.toArray from p1) (show s1.heap.IsTuple b jts.toArray from p2) fun h' zz zTI zTO z1 z2 zsz zk => wpAny_pyIter_zip zz ?_
          refine ⟨s1.heap.objs.size + 4, [s1.heap.objs.size + 4, s1.heap.objs.size + 2, s1.heap.objs.size + 3, s1.heap.objs.size, s1.heap.objs.size + 1], _, _, H1, rfl, I1.kept (t' := s1.toks) zk, turn_zipN (PySem.W.ktu_apart s1.heap.objs.size a b (Heap.lt_size ho1) (Heap.lt_size ho2)),
            ⟨⟨.none, false, .inl rfl, zz⟩, zTI, ⟨_, _, zTO⟩, z1, z2⟩, fun c hc => ?_, q _ H1 _ s01 (gen_zipN n1 (by omega) hlen.symm) ⟨⟨ha, hda⟩, hb, hdb⟩ (by simp [hlen]; omega)⟩
          have hle : s1.heap.objs.size ≤ c := by
            simp only [List.mem_cons, List.mem_singleton, List.not_mem_nil, or_false] at hc
            rcases hc with w | w | w | w | w <;> subst w <;> first | exact Nat.le_add_right _ _ | exact Nat.le_refl _
          exact I1.fpOk hle (I1.hok.fresh hle)
    · cases hf2
  · cases hf2

/-! ### zip(a, b) for a, b: two tuples or two lists of one length -/
def fZip (f g : F) : Ds → Option (List (PyData × PyData)) := fun ρ => (f ρ).bind fun a => (g ρ).bind fun b => match a, b with
  | .tuple xs, .tuple ys => if xs.length = ys.length then some (xs.zip ys) else none
  | .list xs, .list ys => if xs.length = ys.length then some (xs.zip ys) else none
  | _, _ => none
theorem gen_zipT {K : PySem.W.Frag} {a b : Addr} {xs ys : List V} {ds es : List PyData} (hl : xs.length = ds.length) (hl2 : ys.length = ds.length) (he : es.length = ds.length) :
    Gen K (RP K) (ds.zip es) (RZ.ItzT K a b) (fun Z H => (TpN K H a xs ∧ DqL K Z H ds xs) ∧ TpN K H b ys ∧ DqL K Z H es ys) where
  go := fun Z i H hi ⟨⟨h, _⟩, k, _⟩ => by
    have hi : i < ds.length := by simpa [he] using hi
    exact ⟨xs, ys, xs[i], ys[i], h.1, k.1, by simp [hl, hi], by simp [hl2, hi]⟩
  stop := fun Z H ⟨⟨h, _⟩, k, _⟩ => ⟨xs, ys, h.1, k.1, by simp [he]; omega⟩
  yld := fun Z i H x H' hi ⟨⟨h, hd⟩, k, kd⟩ ⟨T, v, u, e1, hT, e2, q1, q2⟩ => by
    subst e1 e2
    obtain ⟨d, d1, d2⟩ := hd.get2 (q1 xs h.1)
    obtain ⟨c, c1, c2⟩ := kd.get2 (q2 ys k.1)
    have s := same_upd (o := .tup [v, u]) hT
    exact ⟨s, (d, c), by rw [List.getElem?_zip_eq_some]; exact ⟨d1, c1⟩, T, v, u, rfl, .inl (.inl upd_same), d2.same s, c2.same s⟩
  car := fun Z Z' H H' ⟨⟨h, hd⟩, k, kd⟩ c => ⟨⟨c.tup a xs h, DqL.car c _ _ hd⟩, c.tup b ys k, DqL.car c _ _ kd⟩
theorem gen_zipL {K : PySem.W.Frag} {a b : Addr} {xs ys : List V} {ds es : List PyData} (hl : xs.length = ds.length) (hl2 : ys.length = ds.length) (he : es.length = ds.length) :
    Gen K (RP K) (ds.zip es) (Itz K a b) (fun Z H => (H a = some (.lst xs) ∧ ¬ Z a ∧ DqL K Z H ds xs) ∧ H b = some (.lst ys) ∧ ¬ Z b ∧ DqL K Z H es ys) where
  go := fun Z i H hi ⟨⟨h, _⟩, k, _⟩ => by
    have hi : i < ds.length := by simpa [he] using hi
    exact ⟨xs, ys, xs[i], ys[i], SqL.of h, SqL.of k, by simp [hl, hi], by simp [hl2, hi]⟩
  stop := fun Z H ⟨⟨h, _⟩, k, _⟩ => ⟨xs, ys, SqL.of h, SqL.of k, by simp [he]; omega⟩
  yld := fun Z i H x H' hi ⟨⟨h, _, hd⟩, k, _, kd⟩ ⟨T, v, u, e1, hT, e2, q1, q2⟩ => by
    subst e1 e2
    obtain ⟨d, d1, d2⟩ := hd.get2 (q1 xs (SqL.of h))
    obtain ⟨c, c1, c2⟩ := kd.get2 (q2 ys (SqL.of k))
    have s := same_upd (o := .tup [v, u]) hT
    exact ⟨s, (d, c), by rw [List.getElem?_zip_eq_some]; exact ⟨d1, c1⟩, T, v, u, rfl, .inl (.inl upd_same), d2.same s, c2.same s⟩
  car := fun Z Z' H H' ⟨⟨h, n, hd⟩, k, m, kd⟩ c => ⟨⟨(c.lst a xs h n).1, (c.lst a xs h n).2, DqL.car c _ _ hd⟩, (c.lst b ys k m).1, (c.lst b ys k m).2, DqL.car c _ _ kd⟩
theorem pa_lens2 (h1 : PE X e (tD X.K f)) (h2 : PE X e2 (tD X.K g)) (hs : starEach [e, e2] X.env = (false, eval e X.env) :: starEach [e2] X.env := by rfl) (hs2 : starEach [e2] X.env = (false, eval e2 X.env) :: starEach [] X.env := by rfl) :
    PA X [e, e2] (fun σ H Q => ∃ Z ρ a b, Zt Z H ∧ Agr X.K Z H σ ρ ∧ f ρ = some a ∧ g ρ = some b ∧ ∀ va vb H', Same H H' → Dq X.K Z H' a va → Dq X.K Z H' b vb → LenOk X.K H' vb → Q [va, vb] H') := by
  refine pa_weak (pa_cons h1 (pa_cons (pe_lens h2) pa_nil hs2) hs) fun σ H Q ⟨Z, ρ, a, b, hz, hg, e1, e3, q⟩ => ?_
  exact ⟨Z, ρ, a, hz, hg, e1, fun va H1 s1 ha => ⟨Z, ρ, b, hz.same s1, hg.same s1, e3, fun vb H2 s2 hb hl => q va vb H2 (s1.trans s2) (ha.same s2) hb hl⟩⟩
theorem pi_zipD (hg : Gl X "zip") (hm : X.mg "zip" = Option.none) (h1 : PE X e (tD X.K f)) (h2 : PE X e2 (tD X.K g))
    (hs : starEach [e, e2] X.env = (false, eval e X.env) :: starEach [e2] X.env := by rfl) (hs2 : starEach [e2] X.env = (false, eval e2 X.env) :: starEach [] X.env := by rfl) (hpl : (backTo pos (starEach [e2] X.env)).any (·.1) = false := by rfl) :
    PI X (.Tuple elts kk tpos) (.Call (.Name "zip" p) [e, e2] [] pos) (iG X.K (RP X.K) (fZip f g)) := by
  refine ⟨fun pins s σ H R I hw => ?_⟩
  obtain ⟨Z, ρ, is, hz, hag, hf, q⟩ := hw
  obtain ⟨d, e1, hf1⟩ := Option.bind_eq_some_iff.mp hf
  obtain ⟨c, e3, hf2⟩ := Option.bind_eq_some_iff.mp hf1
  refine (RZ.pi_zipA (tpos := tpos) (elts := elts) (kk := kk) hg hm (pa_lens2 h1 h2 hs hs2) hs hpl).run pins s σ H R I ⟨Z, ρ, d, c, hz, hag, e1, e3, fun va vb H' s' ha hb hl => ?_⟩
  split at hf2
  · rename_i ds es
    split at hf2
    · rename_i hlen
      cases hf2
      obtain ⟨a, xs, rfl, ta, da⟩ := ha
      obtain ⟨b, ys, rfl, tb, db⟩ := hb
      have n1 := da.length
      have n2 := db.length
      have n3 := hl b ys rfl (.inl tb.1)
      exact ⟨a, b, xs, ys, rfl, .inr ⟨ta.1, tb.1, q _ _ _ s' (gen_zipT n1 (by omega) hlen.symm) ⟨⟨ta, da⟩, tb, db⟩ (by simp; omega)⟩⟩
    · cases hf2
  · rename_i ds es
    split at hf2
    · rename_i hlen
      cases hf2
      obtain ⟨a, xs, rfl, ta, za, da⟩ := ha
      obtain ⟨b, ys, rfl, tb, zb, db⟩ := hb
      have n1 := da.length
      have n2 := db.length
      have n3 := hl b ys rfl (.inr (SqL.of tb))
      exact ⟨a, b, xs, ys, rfl, .inl ⟨SqL.of ta, SqL.of tb, q _ _ _ s' (gen_zipL n1 (by omega) hlen.symm) ⟨⟨ta, za, da⟩, tb, zb, db⟩ (by simp; omega)⟩⟩
    · cases hf2
  · cases hf2

/-! ### range -/
def rangeD (lo : Int) (n : Nat) : List PyData := (List.range n).map fun i => .int (lo + (i : Nat))
theorem gen_range {K : PySem.W.Frag} {lo : Int} {n : Nat} : Gen K (Dq K) (rangeD lo n) (Itr lo n) (fun _ _ => True) where
  go := fun Z i H hi _ => by show i < n; simpa [rangeD] using hi
  stop := fun Z H _ => by show n ≤ (rangeD lo n).length; simp [rangeD]
  yld := fun Z i H x H' hi _ ⟨e1, e2⟩ => by
    subst e1 e2
    have hi : i < n := by simpa [rangeD] using hi
    exact ⟨Same.refl _, .int (lo + i), by simp [rangeD, hi], rfl⟩
  car := fun _ _ _ _ _ _ => trivial
def fRange2 (f g : F) : Ds → Option (List PyData) := fun ρ => (f ρ).bind fun a => (g ρ).bind fun b => match a, b with
  | .int i, .int j => if -1000 ≤ i ∧ i ≤ 1000 ∧ -1000 ≤ j ∧ j ≤ 1000 then some (rangeD i (j - i).toNat) else none
  | _, _ => none
theorem pi_range2D {tg : Expr} (hg : Gl X "range") (hm : X.mg "range" = Option.none) (h1 : PE X e (tD X.K f)) (h2 : PE X e2 (tD X.K g))
    (hs : starEach [e, e2] X.env = [(false, eval e X.env), (false, eval e2 X.env)] := by rfl) (hs2 : starEach [e2] X.env = [(false, eval e2 X.env)] := by rfl) :
    PI X tg (.Call (.Name "range" p) [e, e2] [] pos) (iG X.K (Dq X.K) (fRange2 f g)) := by
  refine ⟨fun pins s σ H R I hw => ?_⟩
  obtain ⟨Z, ρ, is, hz, hag, hf, q⟩ := hw
  obtain ⟨d, e1, hf1⟩ := Option.bind_eq_some_iff.mp hf
  obtain ⟨c, e3, hf2⟩ := Option.bind_eq_some_iff.mp hf1
  have s0 : starEach ([] : List Expr) X.env = [] := rfl
  refine (pi_range2 (tg := tg) hg hm (da_cons h1 (da_cons h2 da_nil (by rw [hs2, s0])) (by rw [hs, hs2])) hs hs2).run pins s σ H R I ⟨Z, ρ, [d, c], hz, hag, by simp [fCons, fNil, e1, e3], fun vs H' s' hv hl => ?_⟩
  split at hf2
  · rename_i i j
    split at hf2
    · rename_i hb
      cases hf2
      obtain ⟨va, r2, rfl, ha, vb, r3, rfl, hb2, rfl⟩ := hv
      cases (show va = .int i from ha)
      cases (show vb = .int j from hb2)
      exact ⟨i, j, rfl, ⟨by omega, by omega, by omega, by omega⟩, q _ _ _ s' gen_range trivial (by simp [rangeD, sizeLine_eq]; omega)⟩
    · cases hf2
  · cases hf2
end
end Cr
namespace Cr
open PySem PySem.Spec PyProof.Rows L2
/-! ### enumerate(a tuple) -/
theorem meets_enumT (l : Addr) (items : Array Value) :
    Meets (Builtin.«enumerate.__new__» ⟨[.type "enumerate", .ref l], []⟩) (fun _ R s => s.heap.IsTuple l items ∧
      R (.ok (.ret (.ref (s.heap.push { cls := .type "tuple_iterator", data := .fields #[.ref l, .int 0 0] }).objs.size)))
        { s with heap := (s.heap.push { cls := .type "tuple_iterator", data := .fields #[.ref l, .int 0 0] }).push { cls := .type "enumerate", data := .fields #[.none, .bool false, .ref s.heap.objs.size, rawInt 0, .none, .none] } }) :=
  .of_wp fun prog w A R s h => by
    obtain ⟨hp, g, d, tk, os⟩ := s
    obtain ⟨tup, fin⟩ := h
    have below := sub_enumerate
    have tup' : Heap.IsTuple (Shared.heap ⟨hp, g, d, tk, os⟩) l items := tup
    wp_walk using wpAny_pyIter_tuple tup'
    refine wpAny_stack_any fun st => wpAny_pure ?_
    split
    · rename_i c _ _ _ _ _
      cases (c == Value.type "enumerate")
      · wp_walk using wpAny_pyIter_tuple tup'
        exact ⟨_, rfl, fin⟩
      · wp_walk using wpAny_pyIter_tuple tup'
        exact ⟨_, rfl, fin⟩
    · wp_walk using wpAny_pyIter_tuple tup'
      exact ⟨_, rfl, fin⟩
section
variable {prog : Program} {w : World} {A : Around} {E : Value → Shared → Prop} {s : Shared}
theorem call_enumT {l : Addr} {items : Array Value} {Q : Value → Shared → Prop} (tup : s.heap.IsTuple l items)
    (h : ∀ h', IsEnum h' (s.heap.objs.size + 1) s.heap.objs.size 0 .none → h'.IsTupleIter s.heap.objs.size l 0 → (∀ b o, s.heap.get? b = some o → h'.get? b = some o) → Q (.ref (s.heap.objs.size + 1)) { s with heap := h' }) :
    wpAny (model prog w) A (call (.type "enumerate") [.ref l]) Q E s := by
  refine callType_new F.called_enumerate (by decide) (F.typeCall_enumerate_1 _) (F.newCall_enumerate_1 _) (fun obj => F.args_object_init_2 obj _) F.entry_enumerate_new (meets_enumT l items) ⟨tup, ?_⟩
  have sz : (s.heap.push { cls := .type "tuple_iterator", data := .fields #[.ref l, .int 0 0] }).objs.size = s.heap.objs.size + 1 := Heap.size_push ..
  have en := Heap.get?_push_size (s.heap.push { cls := .type "tuple_iterator", data := .fields #[.ref l, .int 0 0] }) (o := { cls := .type "enumerate", data := .fields #[.none, .bool false, .ref s.heap.objs.size, rawInt 0, .none, .none] }) rfl
  show _ ∧ _
  rw [sz] at en ⊢
  exact ⟨⟨_, en, rfl⟩, h _ en ⟨_, Heap.get?_push_of_some _ (Heap.get?_push_size _ rfl), rfl, rfl⟩ fun b o x => Heap.get?_push_of_some _ (Heap.get?_push_of_some _ x)⟩
end
/-- the turns -/
def IteT (K : PySem.W.Frag) (a : Addr) : It :=
  ⟨fun i H => ∃ (xs : List V) (x : V), SqT K H a xs ∧ xs[i]? = some x, fun i H v H' => ∃ T x, v = .ref T ∧ H T = Option.none ∧ H' = upd H T (.tup [.int (i : Nat), x]) ∧ ∀ xs, SqT K H a xs → xs[i]? = some x, fun i H => ∃ xs : List V, SqT K H a xs ∧ xs.length ≤ i⟩
theorem turn_enumT {P : Program} {w : World} {K : PySem.W.Frag} {elts : List Expr} {kk : Nat} {tpos : Pos} (a e it : Addr) (hae : a ≠ e) (hai : a ≠ it) :
    Turn P w K (.Tuple elts kk tpos) (IteT K a) [e, it] e (fun i h => (∃ old, IsEnum h e it ((i : Nat) : Int) old) ∧ h.IsTupleIter it a i ∧ e ≠ it) where
  mem := by simp
  obj := fun i h st b hb => by
    obtain ⟨⟨old, he⟩, ⟨o, ho, hc, hd⟩, _⟩ := st
    simp only [List.mem_cons, List.mem_singleton, List.not_mem_nil, or_false] at hb
    rcases hb with q | q <;> subst q
    · exact ⟨_, he, fun v q => nomatch q⟩
    · exact ⟨o, ho, fun v q => by rw [hd] at q; cases q⟩
  keep := fun i h h' ⟨⟨old, he⟩, hi, hne⟩ k => ⟨⟨old, k e (by simp) _ he⟩, hi.at fun o q => k it (by simp) o q, hne⟩
  item := by
    intro X hP hw hK hc i pins s σ H E I hf st hg
    subst hP hw hK
    obtain ⟨⟨old, he⟩, hit, hne⟩ := st
    obtain ⟨xs, x, hq, hx⟩ := hg
    obtain ⟨its, rv, p, hz⟩ := I.tuple hq
    obtain ⟨u, hu, ru⟩ := rv.get hx
    have le : e < s.heap.objs.size := Heap.lt_size he
    have li : it < s.heap.objs.size := by obtain ⟨_, q, _⟩ := hit; exact Heap.lt_size q
    have dr := Draws.tuple (prog := X.prog) (w := X.w) (A := X.A.in1) (show X.A.in1.handled = Option.none from I.ok.hd hc) it a hai its.toArray
    have hlt : i < its.toArray.size := by
      obtain ⟨q, _⟩ := List.getElem?_eq_some_iff.mp hu
      simpa using q
    refine wpAny_pyNext_enum_itemD dr he ⟨hit, p⟩ hlt hne (by simp only [List.mem_cons, List.mem_singleton, List.not_mem_nil, or_false, not_or]; exact ⟨hne, Ne.symm hae⟩) fun y h' tk hy ho st' hT hsz hk => ?_
    have ey : y = u := by
      have q : its[i]? = some y := by simpa using hy
      rw [hu] at q
      exact (Option.some.inj q).symm
    subst ey
    refine ⟨_, rfl, wpAny_letOwnedTupleGo_enum (s := { s with heap := h', toks := tk + 1 }) ho fun h'' he' sb => ?_⟩
    have hT2 : h''.get? s.heap.objs.size = some { cls := .type "tuple", data := .seq #[.int i tk, y] } := (sb.2 _ (Nat.ne_of_gt le)).trans hT
    have new : ObjOk X.prog X.w (upd H s.heap.objs.size (.tup [.int (i : Nat), x])) h'' s.heap.objs.size (.tup [.int (i : Nat), x]) :=
      ⟨by show 2 ≤ sizeLine; rw [sizeLine_eq]; omega, [.int i tk, y], .cons ⟨_, rfl⟩ (.cons ru .nil), ⟨_, hT2, rfl, _, rfl⟩⟩
    have J := I.turnedNew (t' := tk + 1) (ch := [e, it]) (fun b ob hb q => (sb.2 b (fun z => hb (by simp [z]))).trans (hk b ob (fun z => hb (by simp [z])) (fun z => hb (by simp [z])) q)) hf (Nat.le_refl _) new
    refine ⟨.ref s.heap.objs.size, _, J, rfl, ⟨_, x, rfl, I.hok.fresh (Nat.le_refl _), rfl, fun ys hy => by rw [I.tuple_inj hy hq]; exact hx⟩, ⟨⟨y, ?_⟩, st'.1.at fun o q => (sb.2 it (Ne.symm hne)).trans q, hne⟩, fun b hb => ?_⟩
    · rw [show ((i + 1 : Nat) : Int) = (i : Int) + 1 by omega]; exact he'
    · have lb : b < s.heap.objs.size := by
        simp only [List.mem_cons, List.mem_singleton, List.not_mem_nil, or_false] at hb
        rcases hb with q | q <;> subst q
        · exact le
        · exact li
      rw [upd_ne (Nat.ne_of_lt lb)]
      exact (hf b hb).1
  done := by
    intro X hP hw hK hc i pins s σ H E I hf st hg
    subst hP hw hK
    obtain ⟨⟨old, he⟩, hit, hne⟩ := st
    obtain ⟨xs, hq, hx⟩ := hg
    obtain ⟨its, rv, p, hz⟩ := I.tuple hq
    obtain ⟨f0, f1, f2, f3, f4, f5⟩ := hf it (by simp)
    have hl := rv.length
    have hT : s.TypeIs (.ref e) "enumerate" := ⟨_, he, rfl⟩
    unfold pyNext
    refine wpAny_bind (wpAny_attempt (wpAny_callSpecial?_slot (name := Str.ofString "__next__") hT F.slot_enumerate_next
      (wpAny_call_entry F.slot_enumerate_next hT F.entry_enumerate_next ?_ (F.args_enumerate_next_1 _))))
    show wpAny _ _ (field (.ref e) 2 >>= _) _ _ _
    refine wpAny_bind (wpAny_field he rfl (x := .ref it) rfl ?_)
    refine wpAny_bind (RZ.nextOf_tuple_end (show X.A.in1.handled = Option.none from I.ok.hd hc) hit (show s.heap.IsTuple a its.toArray from p) (by simp; omega) fun h' x eb hx' => ?_)
    obtain ⟨o, ho, hcl⟩ := hx'
    refine wpAny_bind (wpAny_isInstance (T := "StopIteration") (b := true) ⟨o, ho, hcl⟩ isSubtype_stop ?_)
    exact wpAny_pure ⟨rfl, I.turned (t' := s.toks) (fun b o hb q => eb b o hb q) f0 f1 f3 f4 f5⟩
  self := fun A i s Q E ⟨⟨_, he⟩, _⟩ h => wpAny_pyIter_enum he h
section
variable {X : Cx} {e : Expr} {f : F} {p pos tpos : Pos} {elts : List Expr} {kk : Nat}
def enumD (ds : List PyData) : List (PyData × PyData) := (rangeD 0 ds.length).zip ds
def fEnumT (f : F) : Ds → Option (List (PyData × PyData)) := fun ρ => (f ρ).bind fun d => match d with | .tuple ds => some (enumD ds) | _ => none
theorem enum_get {ds : List PyData} {i : Nat} {d : PyData} (h : ds[i]? = some d) : (enumD ds)[i]? = some (.int (i : Nat), d) := by
  obtain ⟨hi, _⟩ := List.getElem?_eq_some_iff.mp h
  unfold enumD
  rw [List.getElem?_zip_eq_some]
  exact ⟨by simp [rangeD, hi], h⟩
theorem enum_len (ds : List PyData) : (enumD ds).length = ds.length := by simp [enumD, rangeD]
theorem gen_enumT {K : PySem.W.Frag} {a : Addr} {xs : List V} {ds : List PyData} (hl : xs.length = ds.length) : Gen K (RP K) (enumD ds) (IteT K a) (fun Z H => TpN K H a xs ∧ DqL K Z H ds xs) where
  go := fun Z i H hi ⟨h, _⟩ => by
    rw [enum_len] at hi
    exact ⟨xs, xs[i], h.1, by simp [hl, hi]⟩
  stop := fun Z H ⟨h, _⟩ => ⟨xs, h.1, by rw [enum_len]; omega⟩
  yld := fun Z i H x H' hi ⟨h, hd⟩ ⟨T, v, e1, hT, e2, q⟩ => by
    subst e1 e2
    obtain ⟨d, d1, d2⟩ := hd.get2 (q xs h.1)
    have s := same_upd (o := .tup [V.int (i : Nat), v]) hT
    exact ⟨s, _, enum_get d1, T, _, v, rfl, .inl (.inl upd_same), rfl, d2.same s⟩
  car := fun Z Z' H H' ⟨h, hd⟩ c => ⟨c.tup a xs h, DqL.car c _ _ hd⟩
theorem pi_enumT (hg : Gl X "enumerate") (hm : X.mg "enumerate" = Option.none) (ha : PE X e (tD X.K f)) (hs : starEach [e] X.env = (false, eval e X.env) :: starEach [] X.env := by rfl) :
    PI X (.Tuple elts kk tpos) (.Call (.Name "enumerate" p) [e] [] pos) (iG X.K (RP X.K) (fEnumT f)) := by
  refine ⟨fun pins s σ H R I hw => ?_⟩
  obtain ⟨Z, ρ, is, hz, hag, hf, q⟩ := hw
  obtain ⟨d, e1, hf1⟩ := Option.bind_eq_some_iff.mp hf
  cases d <;> simp only [reduceCtorEq, Option.some.injEq] at hf1
  rename_i ds
  subst hf1
  have args : PA X [e] (tDA X.K 1 (fCons f fNil)) := da_cons ha da_nil hs
  refine Call_ (ld_blt I hg hm boot_enumerate (PyProof.Rows.callWith_type1 (thn (args.run pos pins s σ H _ I ⟨Z, ρ, [.tuple ds], hz, hag, by simp [fCons, fNil, e1], fun vs H' s' hv hl => (⟨hv, s'⟩ : DqL X.K Z H' [.tuple ds] vs ∧ Same H H')⟩) fun us s1 ⟨vs, H1, I1, r1, hv, s01⟩ => ?_) hs rfl))
  obtain ⟨va, r2, rfl, ⟨a, xs, rfl, ht, hd⟩, rfl⟩ := hv
  cases r1 with
  | cons ra rr =>
    cases rr
    cases ra
    obtain ⟨its, rv, p1, len1⟩ := I1.tuple ht.1
    obtain ⟨o1, ho1, _⟩ := id p1
    have la : a < s1.heap.objs.size := Heap.lt_size ho1
    have n1 := hd.length
    refine call_enumT (show s1.heap.IsTuple a its.toArray from p1) fun h' he hit hk => wpAny_pyIter_enum he ?_
    refine ⟨s1.heap.objs.size + 1, [s1.heap.objs.size + 1, s1.heap.objs.size], _, _, H1, rfl, I1.kept (t' := s1.toks) hk, turn_enumT a (s1.heap.objs.size + 1) s1.heap.objs.size (Nat.ne_of_lt (Nat.lt_succ_of_lt la)) (Nat.ne_of_lt la), ⟨⟨.none, he⟩, hit, Nat.succ_ne_self _⟩, fun b hb => ?_,
      q _ H1 _ s01 (gen_enumT n1) ⟨ht, hd⟩ (by rw [enum_len]; omega)⟩
    have hle : s1.heap.objs.size ≤ b := by
      simp only [List.mem_cons, List.mem_singleton, List.not_mem_nil, or_false] at hb
      rcases hb with w | w <;> subst w <;> first | exact Nat.le_succ _ | exact Nat.le_refl _
    exact I1.fpOk hle (I1.hok.fresh hle)
end
end Cr
namespace Cr
open PySem PySem.Spec PyProof.Rows L2
/-! ### sets of tuples of ints and texts: over the kit's table lemmas (TupSets) -/
abbrev MKey := List Key
abbrev mh (P : Program) (w : World) (k : MKey) : Int := tupleKeyHash (mixKind P w) k
abbrev IsM (P : Program) (w : World) (h : Heap) (k : MKey) (a : Addr) : Prop := IsTupleKey (mixKind P w) h k a
section
variable {P : Program} {w : World} {A : Around} {E : Value → Shared → Prop} {s : Shared}
theorem mix_items {k : MKey} {vs : List Value} (h : ItemsAre (mixKind P w) k vs) : ∀ v ∈ vs, (∃ i t, v = Value.int i t) ∨ ∃ z t, v = Value.str z t := by
  induction h with
  | nil => intro v hv; cases hv
  | cons h1 _ ih =>
    intro v hv
    rcases List.mem_cons.mp hv with e | hv
    · subst e
      rcases keyIs_shape h1 with ⟨i, t, _, e⟩ | ⟨z, t, _, e⟩
      · exact .inl ⟨i, t, e⟩
      · exact .inr ⟨z, t, e⟩
    · exact ih v hv
theorem mix_class {k : MKey} {b : Addr} {Q : Bool → Shared → Prop} (hk : IsM P w s.heap k b) (h : Q false s) : wpAny (model P w) A (ofAClassStatement 8 (.ref b)) Q E s := by
  have ty := hk.typeIs
  obtain ⟨o, items, n, ho, _, hd, hi⟩ := hk
  unfold ofAClassStatement
  refine wpAny_bind (wpAny_typeOf ty ?_)
  dsimp only
  simp only [show (("tuple" : String) == "tuple") = true by decide, if_true, Bool.not_true, Bool.false_eq_true, if_false]
  try refine wpAny_bind (wpAny_pure ?_)
  try simp only [Bool.not_true, Bool.false_eq_true, if_false]
  show wpAny _ _ (seqItems? (.ref b) >>= _) _ _ s
  refine wpAny_bind (wpAny_seqItems ho hd ?_)
  dsimp only
  refine wpAny_bind ?_
  show wpAny _ _ (forIn items _ _) _ _ s
  rw [← Array.forIn_toList]
  refine wpAny_forIn_list _ (fun left r z => r.1 = Option.none ∧ z = s ∧ ∀ v ∈ left, (∃ i t, v = Value.int i t) ∨ ∃ z t, v = Value.str z t) _ ?_ ?_ _ _ ⟨rfl, rfl, mix_items hi⟩
  · rintro v left r z ⟨hr, rfl, hall⟩
    have e : ofAClassStatement 7 v = pure false := by rcases hall v List.mem_cons_self with ⟨i, t, e⟩ | ⟨x, t, e⟩ <;> subst e <;> rfl
    rw [e]
    refine wpAny_bind (wpAny_pure ?_)
    simp only [Bool.false_eq_true, if_false]
    exact wpAny_pure ⟨rfl, rfl, fun u hu => hall u (List.mem_cons_of_mem _ hu)⟩
  · rintro ⟨r1, r2⟩ z ⟨hr, rfl, _⟩
    simp only at hr
    subst hr
    exact wpAny_pure h
/-- whether it hashes by value: some answer -/
theorem mix_byValue {k : MKey} {b : Addr} {Q : Bool → Shared → Prop} (hk : IsM P w s.heap k b) (h : ∀ r, Q r s) : wpAny (model P w) A (hashByValue 8 (.ref b)) Q E s := by
  have ty := hk.typeIs
  obtain ⟨o, items, n, ho, _, hd, hi⟩ := hk
  unfold hashByValue
  refine wpAny_bind (wpAny_specialOf ty F.slot_tuple_hash.lookup ?_)
  show wpAny _ _ (seqItems? (.ref b) >>= _) _ _ s
  refine wpAny_bind (wpAny_seqItems ho hd ?_)
  refine wpAny_bind ?_
  show wpAny _ _ (forIn items _ _) _ _ s
  rw [← Array.forIn_toList]
  refine wpAny_forIn_list _ (fun left r z => (r.1 = Option.none ∨ r.1 = some false) ∧ z = s ∧ ∀ v ∈ left, (∃ i t, v = Value.int i t) ∨ ∃ z t, v = Value.str z t) _ ?_ ?_ _ _ ⟨.inl rfl, rfl, mix_items hi⟩
  · rintro v left r z ⟨hr, rfl, hall⟩
    rcases hall v List.mem_cons_self with ⟨i, t, e⟩ | ⟨x, t, e⟩
    · subst e
      rw [show hashByValue 7 (.int i t) = pure true from rfl]
      refine wpAny_bind (wpAny_pure ?_)
      simp only [Bool.not_true, Bool.false_eq_true, if_false]
      exact wpAny_pure ⟨.inl rfl, rfl, fun u hu => hall u (List.mem_cons_of_mem _ hu)⟩
    · subst e
      rw [show hashByValue 7 (.str x t) = pure false from rfl]
      refine wpAny_bind (wpAny_pure ?_)
      simp only [Bool.not_false, if_true]
      first
        | exact wpAny_pure (wpAny_pure (h false))
        | exact wpAny_bind (wpAny_pure (wpAny_pure (h false)))
        | exact wpAny_bind (wpAny_pure (wpAny_pure (wpAny_pure (h false))))
        | exact wpAny_pure ⟨.inr rfl, rfl, fun u hu => hall u (List.mem_cons_of_mem _ hu)⟩
  · rintro ⟨r1, r2⟩ z ⟨hr, rfl, _⟩
    simp only at hr
    rcases hr with hr | hr <;> subst hr
    · exact wpAny_pure (h true)
    · exact wpAny_pure (h false)
theorem mix_seen {k : MKey} {b : Addr} {Q : Bool → Shared → Prop} (hk : IsM P w s.heap k b) {ys : List Value} (hy : ∀ y ∈ ys, ∃ k' c, y = Value.ref c ∧ IsM P w s.heap k' c) (h : Q false s) : wpAny (model P w) A (searchCouldBeSeen (.ref b) ys) Q E s := by
  unfold searchCouldBeSeen
  refine wpAny_bind ?_
  refine wpAny_forIn_list _ (fun left r z => r.1 = Option.none ∧ z = s ∧ ∀ y ∈ left, ∃ k' c, y = Value.ref c ∧ IsM P w s.heap k' c) _ ?_ ?_ _ _ ⟨rfl, rfl, hy⟩
  · rintro v left r z ⟨hr, rfl, hall⟩
    obtain ⟨k', c, rfl, hc⟩ := hall v List.mem_cons_self
    have left' : ∀ y ∈ left, ∃ k' c, y = Value.ref c ∧ IsM P w z.heap k' c := fun u hu => hall u (List.mem_cons_of_mem _ hu)
    dsimp only
    by_cases hv : (b == c || (carriedByValue (.ref b) && carriedByValue (.ref c))) = true
    · exact wp_if_pos hv (wpAny_pure ⟨rfl, rfl, left'⟩)
    · refine wp_if_neg hv ?_
      refine wpAny_bind (wpAny_eqIsQuiet_tuple hk ?_)
      simp only [Bool.not_true, Bool.false_eq_true, if_false]
      refine wpAny_bind (wpAny_eqIsQuiet_tuple hc ?_)
      simp only [Bool.not_true, Bool.false_eq_true, if_false]
      refine wpAny_bind (mix_class hk ?_)
      simp only [Bool.false_eq_true, if_false]
      refine wpAny_bind (mix_class hc ?_)
      simp only [Bool.false_eq_true, if_false]
      exact wpAny_pure ⟨rfl, rfl, left'⟩
  · rintro ⟨r1, r2⟩ z ⟨hr, rfl, _⟩
    simp only at hr
    subst hr
    exact wpAny_pure h

/-! ### the set as it stands -/
def mrows (P : Program) (w : World) (L : List (Addr × MKey)) : List (Int × Value) := L.map fun p => (mh P w p.2, Value.ref p.1)
def mhs (P : Program) (w : World) (L : List (Addr × MKey)) : List Int := L.map fun p => mh P w p.2
structure SM (P : Program) (w : World) (h : Heap) (a : Addr) (L : List (Addr × MKey)) (es : Array (Int × Value)) (ep : Nat) (t : SetTable) : Prop where
  obj : ∃ o, h.get? a = some o ∧ o.ExactSet ∧ o.data = .set es ep t
  rows : es.toList = mrows P w L
  tab : TabOk t (mhs P w L)
  nodup : (L.map (·.2)).Nodup
  keys : ∀ p ∈ L, IsM P w h p.2 p.1
  led : w.params.followText "set-order" = true ∨ t.led = true
  room : L.length * 5 < t.mask * 3
  few : L.length < 64
variable {a : Addr} {L : List (Addr × MKey)} {es : Array (Int × Value)} {ep : Nat} {t : SetTable}
theorem rows_size (h : es.toList = mrows P w L) : es.size = L.length := by
  have q := congrArg List.length h
  rwa [Array.length_toList, mrows, List.length_map] at q
theorem tab_fits (T : TabOk t (mhs P w L)) (hs : es.size = L.length) (hm : L.length ≤ t.mask) : t.fits es.size = true := by
  have h1 := T.sz
  rw [mhs, List.length_map] at h1
  unfold SetTable.fits SetTable.fill
  rw [T.dm, Bool.and_eq_true, beq_iff_eq, decide_eq_true_eq]
  show t.place.size = es.size ∧ t.place.size + 0 ≤ t.mask
  omega
theorem SM.fits (R : SM P w s.heap a L es ep t) : t.fits es.size = true := tab_fits R.tab (rows_size R.rows) (by have := R.room; omega)
theorem row_at (h : es.toList = mrows P w L) {i : Nat} {p : Addr × MKey} (e : L[i]? = some p) : es[i]? = some (mh P w p.2, Value.ref p.1) := by
  rw [← Array.getElem?_toList, h, mrows, List.getElem?_map, e] <;> rfl
/-- the way of a hash through the table -/
abbrev prb (t : SetTable) (h : Int) (c : Nat) : SetTable.Probe := nth t.mask (runAt t.mask (SetTable.bits h % (t.mask + 1)) (SetTable.bits h)) c
theorem prb_dummy (t : SetTable) (h : Int) (c : Nat) : (prb t h c).dummy = Option.none := by
  have all : ∀ (n : Nat) (p : SetTable.Probe), p.dummy = Option.none → (nth t.mask p n).dummy = Option.none := by
    intro n
    induction n with
    | zero => exact fun p e => e
    | succ n ih => exact fun p e => ih (adv t.mask p) (by unfold adv; split <;> exact e)
  exact all c _ rfl
theorem prb_add (t : SetTable) (h : Int) (c q : Nat) : nth t.mask (prb t h c) q = prb t h (c + q) := (nth_add t.mask c _ q).symm
/-- looking for x, from the c-th step on: found exactly if its key is in -/
theorem look_from (R : SM P w s.heap a L es ep t) {x : Addr} {k : MKey} (hx : IsM P w s.heap k x) (hu : A.units < cLine) {n : Nat} (hn : n < 10 * SetTable.turns t.mask)
    (out : way t.mask (mh P w k) n ∉ t.place.toList) (inn : ∀ c, c < n → way t.mask (mh P w k) c ∈ t.place.toList) {Q : SetFound → Shared → Prop}
    (yes : k ∈ L.map (·.2) → Q (.there Option.none) s) (no : k ∉ L.map (·.2) → Q (.free (way t.mask (mh P w k) n) false) s) :
    ∀ (f c : Nat) (stand : Option SetTable.Probe), stand.getD (t.probeStart (mh P w k)) = prb t (mh P w k) c → c ≤ n → n - c < f →
      (∀ (i : Nat) p, L[i]? = some p → p.2 = k → ∃ d, c ≤ d ∧ d < n ∧ t.place.toList[i]? = some (way t.mask (mh P w k) d)) →
      wpAny (model P w) A (setSearchFrom a (.ref x) (mh P w k) true f stand) Q E s
  | 0, _, _, _, _, hf, _ => absurd hf (Nat.not_lt_zero _)
  | f + 1, c, stand, hst, hc, hf, hre => by
    obtain ⟨o, ho, hex, hd⟩ := R.obj
    have gw : ¬ t.gaveWay = true := by unfold SetTable.gaveWay; rw [mask_odd R.tab.mok]; decide
    rw [setSearchFrom_succ]
    refine wpAny_bind (wpAny_setState_of ho hd R.fits ?_)
    dsimp only
    refine wp_if_neg gw ?_
    try refine wpAny_bind (wpAny_pure ?_)
    have jq : ∀ q, (nth t.mask (prb t (mh P w k) c) q).j = way t.mask (mh P w k) (c + q) := fun q => congrArg SetTable.Probe.j (prb_add t _ c q)
    have stored : ∀ (i : Nat) p, L[i]? = some p → (fun i => (es[i]?.map (·.1)).getD 0) i = mh P w p.2 := fun i p hp => by
      show (es[i]?.map (·.1)).getD 0 = _
      rw [row_at R.rows hp] <;> rfl
    have spec := go_spec t R.tab.ris R.tab.dm (fun i => (es[i]?.map (·.1)).getD 0) (mh P w k) (10 * SetTable.turns t.mask) (n - c) _ (prb_dummy t (mh P w k) c) (by omega)
      (fun q hq => by rw [jq]; exact inn (c + q) (by omega)) (by rw [jq, show c + (n - c) = n by omega]; exact out)
    rcases spec with ⟨q, i, hq, hi, hh, hno, hpr⟩ | ⟨hno, hpr⟩
    · have cand : t.probe (fun i => (es[i]?.map (·.1)).getD 0) (mh P w k) (stand.getD (t.probeStart (mh P w k))) = some (.candidate (way t.mask (mh P w k) (c + q)) i (prb t (mh P w k) (c + (q + 1)))) := by
        rw [hst, ← jq, ← prb_add]
        exact hpr
      rw [cand]
      dsimp only
      rw [jq] at hi
      have il : i < L.length := by
        have q1 := (List.getElem?_eq_some_iff.mp hi).1
        have q2 := R.tab.sz
        rw [mhs, List.length_map] at q2
        rw [Array.length_toList] at q1
        omega
      obtain ⟨p, hp⟩ : ∃ p, L[i]? = some p := ⟨_, List.getElem?_eq_getElem il⟩
      have pm : p ∈ L := List.mem_of_getElem? hp
      have live : t.slot (way t.mask (mh P w k) (c + q)) = .live i := slot_live R.tab.ris hi
      have go : wpAny (model P w) A (searchRest a (.ref x) (mh P w k) true f es t (way t.mask (mh P w k) (c + q)) i (prb t (mh P w k) (c + (q + 1)))) Q E s := by
        unfold searchRest
        rw [row_at R.rows hp]
        dsimp only
        refine wpAny_bind (wpAny_holding (wpAny_eqBool_tuple hu (R.keys p pm) hx ?_))
        refine wpAny_bind (wpAny_setState_of ho hd R.fits ?_)
        dsimp only
        by_cases hkk : p.2 = k
        · exact wp_if_pos (by simp [hkk]) (wpAny_pure (yes (List.mem_map.mpr ⟨p, pm, hkk⟩)))
        · refine wp_if_neg (by simp [hkk]) ?_
          try refine wpAny_bind (wpAny_pure ?_)
          rw [sameMem]
          dsimp only
          simp only [if_true, live, row_at R.rows hp]
          refine wpAny_bind (wpAny_isSame_ref_self (wpAny_bind (wpAny_pure ?_)))
          simp only [if_true]
          refine wp_if_neg (by simp [hkk]) ?_
          refine look_from R hx hu hn out inn yes no f (c + (q + 1)) _ rfl (by omega) (by omega) fun i0 p0 h0 hk0 => ?_
          obtain ⟨d, a1, a2, a3⟩ := hre i0 p0 h0 hk0
          refine ⟨d, ?_, a2, a3⟩
          rcases Nat.lt_trichotomy d (c + q) with lt | eq | gt
          · exfalso
            exact hno (d - c) i0 (by omega) (by rw [jq, show c + (d - c) = d by omega]; exact a3) ((stored i0 p0 h0).trans (congrArg (mh P w) hk0))
          · exfalso
            rw [eq] at a3
            have z := slot_live R.tab.ris a3
            rw [live] at z
            injection z with z
            rw [← z, hp] at h0
            exact hkk ((congrArg Prod.snd (Option.some.inj h0)).trans hk0)
          · omega
      by_cases hl : t.led = true
      · refine wp_if_neg (by simp [hl]) ?_
        try refine wpAny_bind (wpAny_pure ?_)
        exact go
      · refine wp_if_pos (by simp [hl]) ?_
        refine wpAny_bind (mix_seen hx (fun y hy => ?_) ?_)
        · obtain ⟨e, he, ee⟩ := List.mem_map.mp hy
          have he1 : e ∈ es ∧ e.1 = mh P w k := by simpa using he
          have he2 : e ∈ es.toList := by simpa using he1.1
          rw [R.rows, mrows] at he2
          obtain ⟨p2, hp2, e2⟩ := List.mem_map.mp he2
          exact ⟨p2.2, p2.1, by rw [← ee, ← e2], R.keys p2 hp2⟩
        · refine wp_if_neg (by decide) ?_
          try refine wpAny_bind (wpAny_pure ?_)
          exact go
    · have empt : t.probe (fun i => (es[i]?.map (·.1)).getD 0) (mh P w k) (stand.getD (t.probeStart (mh P w k))) = some (.empty (way t.mask (mh P w k) n) Option.none) := by
        have e2 : way t.mask (mh P w k) n = (nth t.mask (prb t (mh P w k) c) (n - c)).j := by rw [jq, show c + (n - c) = n by omega]
        rw [hst, e2]
        exact hpr
      rw [empt]
      dsimp only
      refine wpAny_pure (no fun hm => ?_)
      obtain ⟨p0, h0, hk0⟩ := List.mem_map.mp hm
      obtain ⟨i0, hi0, e0⟩ := List.getElem_of_mem h0
      have h00 : L[i0]? = some p0 := by rw [List.getElem?_eq_getElem hi0, e0]
      obtain ⟨d, a1, a2, a3⟩ := hre i0 p0 h00 hk0
      exact hno (d - c) i0 (by omega) (by rw [jq, show c + (d - c) = d by omega]; exact a3) ((stored i0 p0 h00).trans (congrArg (mh P w) hk0))
theorem look_at (R : SM P w s.heap a L es ep t) {x : Addr} {k : MKey} (hx : IsM P w s.heap k x) (hu : A.units < cLine) {Q : SetFound → Shared → Prop} (yes : k ∈ L.map (·.2) → Q (.there Option.none) s)
    (no : ∀ n, k ∉ L.map (·.2) → way t.mask (mh P w k) n ∉ t.place.toList → (∀ c, c < n → way t.mask (mh P w k) c ∈ t.place.toList) → Q (.free (way t.mask (mh P w k) n) false) s) : wpAny (model P w) A (setSearch a (.ref x) (mh P w k) true) Q E s := by
  have rm := R.room
  obtain ⟨n, hn, out, inn⟩ := R.tab.first (by rw [mhs, List.length_map]; omega) (mh P w k)
  have small : n < 100000 := by
    have : 10 * SetTable.turns t.mask ≤ 1420 := by unfold SetTable.turns; rcases R.tab.mok with e | e | e <;> omega
    omega
  unfold setSearch
  refine look_from R hx hu hn out inn yes (fun z => no n z out inn) 100000 0 Option.none rfl (Nat.zero_le _) (by omega) fun i p hp hk => ?_
  have hi : (mhs P w L)[i]? = some (mh P w k) := by rw [mhs, List.getElem?_map, hp, ← hk] <;> rfl
  have il : i < t.place.toList.length := by
    have q1 := (List.getElem?_eq_some_iff.mp hp).1
    have q2 := R.tab.sz
    rw [mhs, List.length_map] at q2
    rw [Array.length_toList]
    omega
  obtain ⟨d, hd, e⟩ := R.tab.before out hi (List.getElem?_eq_getElem il)
  exact ⟨d, Nat.zero_le _, hd, by rw [List.getElem?_eq_getElem il, e]⟩

/-! ### adding -/
theorem key_same {h h' : Heap} {k : MKey} {b : Addr} {o : Obj} (hb : IsM P w h k b) (ho : h.get? a = some o) (hd : o.data = .set es ep t) (hs : Heap.SameBut a h h') : IsM P w h' k b := by
  obtain ⟨q, items, n, hq, r⟩ := hb
  refine ⟨q, items, n, (hs.2 b fun e => ?_).trans hq, r⟩
  subst e
  rw [ho] at hq
  cases hq
  rw [hd] at r
  exact nomatch r.2.1
theorem key_keep {h h' : Heap} {k : MKey} {b : Addr} (x : IsM P w h k b) (hk : ∀ c o, h.get? c = some o → h'.get? c = some o) : IsM P w h' k b := by
  obtain ⟨o, items, n, ho, r⟩ := x
  exact ⟨o, items, n, hk b o ho, r⟩
theorem order_mix (L : List (Addr × MKey)) (es : Array (Int × Value)) (order : Array Nat) (hr : es.toList = mrows P w L) (hp : order.toList.Perm (List.range L.length)) :
    ∃ M, (order.filterMap (es[·]?)).toList = mrows P w M ∧ M.Perm L ∧ mhs P w M = order.toList.map fun i => (es.map (·.1)).getD i 0 := by
  have sz := rows_size hr
  have each : ∀ l : List Nat, (∀ i ∈ l, i < L.length) → ∃ M : List (Addr × MKey), l.filterMap (fun i => es[i]?) = mrows P w M ∧ M = l.filterMap (fun i => L[i]?) ∧ mhs P w M = l.map fun i => (es.map (·.1)).getD i 0 := by
    intro l
    induction l with
    | nil => exact fun _ => ⟨[], rfl, rfl, rfl⟩
    | cons i l ih =>
      intro hl
      have hi := hl i List.mem_cons_self
      obtain ⟨M, e1, e2, e3⟩ := ih fun j hj => hl j (List.mem_cons_of_mem _ hj)
      have at_ : es[i]? = some (mh P w (L[i]).2, Value.ref (L[i]).1) := row_at hr (List.getElem?_eq_getElem hi)
      refine ⟨L[i] :: M, by rw [List.filterMap_cons_some at_, e1] <;> rfl, by rw [List.filterMap_cons_some (List.getElem?_eq_getElem hi), e2], ?_⟩
      have e4 : (es.map (·.1)).getD i 0 = mh P w (L[i]).2 := by
        have e5 : (es.map (·.1))[i]? = some (mh P w (L[i]).2) := by rw [Array.getElem?_map, at_] <;> rfl
        simp [Array.getD_eq_getD_getElem?, e5]
      rw [List.map_cons, e4, ← e3] <;> rfl
  obtain ⟨M, e1, e2, e3⟩ := each order.toList fun i hi => List.mem_range.mp (hp.mem_iff.mp hi)
  refine ⟨M, by first | (rw [Array.toList_filterMap]; exact e1) | simpa using e1, ?_, e3⟩
  have whole : (List.range L.length).filterMap (fun i => L[i]?) = L := by
    have up : ∀ n, n ≤ L.length → (List.range n).filterMap (fun i => L[i]?) = L.take n := by
      intro n
      induction n with
      | zero => exact fun _ => rfl
      | succ n ih =>
        intro hn
        rw [List.range_succ, List.filterMap_append, ih (Nat.le_of_lt hn), List.take_succ, List.getElem?_eq_getElem hn, List.filterMap_cons_some (List.getElem?_eq_getElem hn)] <;> rfl
    rw [up _ (Nat.le_refl _), List.take_length]
  have z : ((order.toList).filterMap fun i => L[i]?).Perm ((List.range L.length).filterMap fun i => L[i]?) := hp.filterMap _
  rw [whole] at z
  rw [e2]
  exact z
/-- the table laid anew -/
theorem mix_relay {o : Obj} (ho : s.heap.get? a = some o) (hex : o.ExactSet) (hd : o.data = .set es ep t) (hr : es.toList = mrows P w L) (tb : TabOk t (mhs P w L)) (hm : L.length ≤ t.mask)
    (nd : (L.map (·.2)).Nodup) (ks : ∀ p ∈ L, IsM P w s.heap p.2 p.1) (ld : w.params.followText "set-order" = true ∨ t.led = true) (few : L.length < 64) {wanted M : Nat}
    (hw : SetTable.sizeAbove wanted - 1 = M) (hM : MaskOk M) (hb : SetTable.sizeAbove wanted ≤ 128) (hn : L.length * 5 < M * 3) {Q : Unit → Shared → Prop}
    (hQ : ∀ h' L' es' ep' t', Heap.SameBut a s.heap h' → SM P w h' a L' es' ep' t' → L'.Perm L → Q () { s with heap := h' }) : wpAny (model P w) A (setRelay a wanted) Q E s := by
  have sz := rows_size hr
  obtain ⟨t2, order, e, hp, T2, em, el, _, ed⟩ := relaid_ok t (hs := es.map (·.1)) (wanted := wanted) hw hM (by rw [Array.size_map, sz]; omega)
  rw [Array.size_map, sz] at hp
  obtain ⟨L2, r1, r2, r3⟩ := order_mix L es order hr hp
  rw [← r3] at T2
  have sz2 : (order.filterMap (es[·]?)).size = es.size := by rw [rows_size r1, r2.length_eq, sz]
  rw [setRelay_eq]
  refine wpAny_bind (wpAny_setState_of ho hd (tab_fits tb sz hm) ?_)
  dsimp only
  refine wp_if_neg (by rw [sizeLine_eq]; omega) ?_
  try refine wpAny_bind (wpAny_pure ?_)
  rw [e]
  dsimp only
  refine wpAny_bind ?_
  refine wp_if_neg (by rw [sz2]; simp) ?_
  try refine wpAny_bind (wpAny_pure ?_)
  refine wpAny_pure ?_
  dsimp only
  refine wpAny_storeSet_of ho hd ?_ (by rw [sz2, sz, sizeLine_eq]; omega)
  have sb : Heap.SameBut a s.heap (s.heap.update a (Obj.putSet (order.filterMap (es[·]?)) t2)) := Heap.SameBut.update ..
  exact hQ _ L2 _ (ep + 1) t2 sb ⟨⟨_, store_at ho hd, ⟨hex.1, hex.2.1, hex.2.2⟩, rfl⟩, r1, T2, (r2.map (·.2)).nodup_iff.mpr nd, fun p hpm => key_same (ks p (r2.mem_iff.mp hpm)) ho hd sb, by rw [el]; exact ld, by rw [r2.length_eq, em]; exact hn, by rw [r2.length_eq]; exact few⟩ r2
theorem mix_add (R : SM P w s.heap a L es ep t) {x : Addr} {k : MKey} (hx : IsM P w s.heap k x) (hu : A.units < cLine) (few : L.length + 1 < 64) {Q : Bool → Shared → Prop}
    (hQ : ∀ b h' L' es' ep' t', Heap.SameBut a s.heap h' → SM P w h' a L' es' ep' t' → (k ∈ L.map (·.2) → L' = L) → (k ∉ L.map (·.2) → L'.Perm ((x, k) :: L)) → Q b { s with heap := h' }) :
    wpAny (model P w) A (setAddHashed a (.ref x) (mh P w k)) Q E s := by
  obtain ⟨o, ho, hex, hd⟩ := R.obj
  have sz := rows_size R.rows
  have rm := R.room
  unfold setAddHashed
  refine wpAny_holding ?_
  rw [show (100000 : Nat) = 99999 + 1 from rfl, setAddHashedIn_succ]
  refine wpAny_bind (wpAny_setState_of ho hd R.fits ?_)
  dsimp only
  refine wp_if_neg (by simp [byScan, Value.scannable]) ?_
  try refine wpAny_bind (wpAny_pure ?_)
  refine wpAny_bind (look_at R hx hu (fun hm => ?_) fun n hm out inn => ?_)
  · dsimp only
    exact wpAny_pure (hQ false s.heap L es ep t (Heap.SameBut.refl a s.heap) R (fun _ => rfl) fun z => absurd hm z)
  · dsimp only
    refine wpAny_bind (wpAny_setState_of ho hd R.fits ?_)
    dsimp only
    obtain ⟨q1, q2, q3, q4, q5, _, _, _, q9⟩ := R.tab.put out inn
    generalize hpt : t.put (way t.mask (mh P w k) n) = pt at q1 q3 q4 q5 q9 ⊢
    obtain ⟨tn, p⟩ := pt
    dsimp only at q1 q3 q4 q5 q9 ⊢
    subst q1
    -- whatever the answer to 'by value' is
    have tail : ∀ tb : SetTable, TabOk tb ((mhs P w L).take (SetTable.below t.place (way t.mask (mh P w k) n)) ++ mh P w k :: (mhs P w L).drop (SetTable.below t.place (way t.mask (mh P w k) n))) → tb.mask = t.mask → tb.led = t.led → tb.fill = (mhs P w L).length + 1 →
        wpAny (model P w) A (do
          storeSet a (SetTable.insertAt es (SetTable.below t.place (way t.mask (mh P w k) n)) (mh P w k, Value.ref x)) tb
          if !false && tb.tooFull then setRelay a (SetTable.grown (es.size + 1))
          return true) Q E s := by
      intro tb b3 b4 b5 b9
      have ins : (SetTable.insertAt es (SetTable.below t.place (way t.mask (mh P w k) n)) (mh P w k, Value.ref x)).toList = mrows P w (L.take (SetTable.below t.place (way t.mask (mh P w k) n)) ++ (x, k) :: L.drop (SetTable.below t.place (way t.mask (mh P w k) n))) := by
        rw [SetTable.toList_insertAt, R.rows]
        unfold mrows
        rw [List.map_append, List.map_cons, List.map_take, List.map_drop]
      generalize SetTable.below t.place (way t.mask (mh P w k) n) = p at q2 b3 ins ⊢
      have pm := put_perm L p (x, k)
      have len1 : (L.take p ++ (x, k) :: L.drop p).length = L.length + 1 := pm.length_eq
      have hs1 : mhs P w (L.take p ++ (x, k) :: L.drop p) = (mhs P w L).take p ++ mh P w k :: (mhs P w L).drop p := by
        unfold mhs
        rw [List.map_append, List.map_cons, List.map_take, List.map_drop]
      rw [← hs1] at b3
      have nd1 : ((L.take p ++ (x, k) :: L.drop p).map (·.2)).Nodup := by
        refine (pm.map (·.2)).nodup_iff.mpr ?_
        rw [List.map_cons]
        exact List.nodup_cons.mpr ⟨hm, R.nodup⟩
      have es1 := rows_size ins
      rw [len1] at es1
      generalize SetTable.insertAt es p (mh P w k, Value.ref x) = en at ins es1 ⊢
      generalize L.take p ++ (x, k) :: L.drop p = Ln at pm len1 b3 nd1 ins
      refine wpAny_bind (wpAny_storeSet_of ho hd ?_ (by rw [es1, sizeLine_eq]; omega))
      have sb : Heap.SameBut a s.heap (s.heap.update a (Obj.putSet en tb)) := Heap.SameBut.update ..
      have on := store_at (es' := en) (t' := tb) ho hd
      generalize s.heap.update a (Obj.putSet en tb) = hn at sb on ⊢
      have kn : ∀ p ∈ Ln, IsM P w hn p.2 p.1 := fun p hp => by
        rcases List.mem_cons.mp (pm.mem_iff.mp hp) with e | hp
        · rw [e]; exact key_same hx ho hd sb
        · exact key_same (R.keys p hp) ho hd sb
      have ldn : w.params.followText "set-order" = true ∨ tb.led = true := by rw [b5]; exact R.led
      have exn : ({ o with data := Data.set en (ep + 1) tb } : Obj).ExactSet := ⟨hex.1, hex.2.1, hex.2.2⟩
      rw [mhs, List.length_map] at b9
      by_cases hf : tb.tooFull = true
      · first
          | (refine wpAny_bind ?_; refine wp_if_pos (by simp [hf]) ?_)
          | (refine wp_if_pos (by simp [hf]) ?_; refine wpAny_bind ?_)
        have full : (L.length + 1) * 5 ≥ tb.mask * 3 := by
          have z := hf
          unfold SetTable.tooFull at z
          rwa [decide_eq_true_eq, b9] at z
        rw [sz]
        have two : (t.mask = 7 ∧ L.length = 4) ∨ (t.mask = 31 ∧ L.length = 18) := by
          rcases R.tab.mok with e | e | e
          · left; rw [b4, e] at full; rw [e] at rm; exact ⟨e, by omega⟩
          · right; rw [b4, e] at full; rw [e] at rm; exact ⟨e, by omega⟩
          · exfalso; rw [b4, e] at full; omega
        have go : ∀ M, SetTable.sizeAbove (SetTable.grown (L.length + 1)) - 1 = M → MaskOk M → SetTable.sizeAbove (SetTable.grown (L.length + 1)) ≤ 128 → (L.length + 1) * 5 < M * 3 →
            wpAny (model P w) A (setRelay a (SetTable.grown (L.length + 1))) (fun _ z => wpAny (model P w) A (pure true) Q E z) E { s with heap := hn } := fun M g1 g2 g3 g4 =>
          mix_relay (s := { s with heap := hn }) on exn rfl ins b3 (by rw [len1, b4]; rcases two with ⟨e, e2⟩ | ⟨e, e2⟩ <;> omega) nd1 kn ldn (by rw [len1]; exact few) g1 g2 g3 (by rw [len1]; exact g4)
            fun h2 L2 es2 ep2 t2 sb2 R2 pm2 => wpAny_pure (hQ true h2 L2 es2 ep2 t2 (sb.trans sb2) R2 (fun z => absurd z hm) fun _ => pm2.trans pm)
        rcases two with ⟨_, e2⟩ | ⟨_, e2⟩
        · exact go 31 (by rw [e2, size_20]) (.inr (.inl rfl)) (by rw [e2, size_20]; decide) (by omega)
        · exact go 127 (by rw [e2, size_76]) (.inr (.inr rfl)) (by rw [e2, size_76]; decide) (by omega)
      · first
          | refine wp_if_neg (by simp [hf]) ?_
          | (refine wpAny_bind ?_; refine wp_if_neg (by simp [hf]) ?_; refine wpAny_pure ?_)
        have z := hf
        unfold SetTable.tooFull at z
        rw [decide_eq_true_eq, b9] at z
        exact wpAny_pure (hQ true hn Ln en (ep + 1) tb sb ⟨⟨_, on, exn, rfl⟩, ins, b3, nd1, kn, ldn, by rw [len1]; omega, by rw [len1]; exact few⟩ (fun z => absurd z hm) fun _ => pm)
    have fin : ∀ r : Bool, wpAny (model P w) A (do
        let tz := if r = true then tn else { tn with plain := false }
        storeSet a (SetTable.insertAt es (SetTable.below t.place (way t.mask (mh P w k) n)) (mh P w k, Value.ref x)) tz
        if !false && tz.tooFull then setRelay a (SetTable.grown (es.size + 1))
        return true) Q E s := fun r => by
      cases r with
      | true => exact tail tn q3 q4 q5 q9
      | false => exact tail { tn with plain := false } ⟨q3.ris, q3.dm, q3.sz, q3.mok, q3.bd, q3.reach⟩ q4 q5 q9
    by_cases hpl : tn.plain = true
    · first
        | (refine wpAny_bind ?_; refine wp_if_pos hpl ?_; exact mix_byValue hx fun r => fin r)
        | exact wp_if_pos hpl (wpAny_bind (mix_byValue hx fun r => fin r))
    · first
        | (refine wpAny_bind ?_; refine wp_if_neg hpl ?_; exact wpAny_pure (fin true))
        | exact wp_if_neg hpl (wpAny_bind (wpAny_pure (fin true)))
        | exact wp_if_neg hpl (fin true)

/-! ### set(xs) -/
theorem sm_fresh {h : Heap} (ho : h.get? a = some { cls := .type "set", dict := Option.none, data := .set #[] 0 (.fresh 0 0 (!w.params.followText "set-order")) }) : SM P w h a [] #[] 0 (.fresh 0 0 (!w.params.followText "set-order")) :=
  ⟨⟨_, ho, ⟨rfl, rfl, rfl⟩, rfl⟩, rfl, ⟨List.Pairwise.nil, rfl, rfl, .inl rfl, fun x hx => (by cases hx), fun i h j hi => (by simp [mhs] at hi)⟩, List.nodup_nil, fun p hp => (by cases hp),
    by show _ ∨ (!w.params.followText "set-order") = true; cases w.params.followText "set-order" <;> simp, by show 0 * 5 < 7 * 3; decide, by show 0 < 64; decide⟩
theorem SM.keep {h h' : Heap} (R : SM P w h a L es ep t) (ha : ∀ o, h.get? a = some o → h'.get? a = some o) (hk : ∀ p ∈ L, IsM P w h' p.2 p.1) : SM P w h' a L es ep t := by
  obtain ⟨o, ho, r⟩ := R.obj
  exact ⟨⟨o, ha o ho, r⟩, R.rows, R.tab, R.nodup, hk, R.led, R.room, R.few⟩
/-- what the set has of the first i items: their keys, each once -/
structure Has (ks : List (Addr × MKey)) (i : Nat) (L : List (Addr × MKey)) : Prop where
  sub : ∀ p ∈ L, p ∈ ks.take i
  all : ∀ p ∈ ks.take i, p.2 ∈ L.map (·.2)
  len : L.length ≤ i
theorem Has.next {ks L L' : List (Addr × MKey)} {i : Nat} {x : Addr × MKey} (g : Has ks i L) (h : ks[i]? = some x) (c1 : x.2 ∈ L.map (·.2) → L' = L) (c2 : x.2 ∉ L.map (·.2) → L'.Perm (x :: L)) : Has ks (i + 1) L' := by
  have tk := take_next h
  rcases Classical.em (x.2 ∈ L.map (·.2)) with c | c
  · rw [c1 c]
    refine ⟨fun p hp => ?_, fun p hp => ?_, Nat.le_succ_of_le g.len⟩
    · rw [tk]; exact List.mem_append_left _ (g.sub p hp)
    · rw [tk] at hp
      rcases List.mem_append.mp hp with z | z
      · exact g.all p z
      · rw [List.mem_singleton.mp z]; exact c
  · have pm := c2 c
    refine ⟨fun p hp => ?_, fun p hp => ?_, by rw [pm.length_eq, List.length_cons]; exact Nat.succ_le_succ g.len⟩
    · rw [tk]
      rcases List.mem_cons.mp (pm.mem_iff.mp hp) with e | z
      · rw [e]; exact List.mem_append_right _ (List.mem_singleton.mpr rfl)
      · exact List.mem_append_left _ (g.sub p z)
    · rw [(pm.map (·.2)).mem_iff, List.map_cons]
      rw [tk] at hp
      rcases List.mem_append.mp hp with z | z
      · exact List.mem_cons_of_mem _ (g.all p z)
      · rw [List.mem_singleton.mp z]; exact List.mem_cons_self
theorem mix_update {I : Addr} {fp wr : List Addr} {G : Array GenState → Array GenState → Prop} {n : Nat} {Pv : Nat → Value → Prop} {St : Nat → Shared → Prop} {R : Result → Shared → Prop}
    (W : WalksS P w A.in1 I fp wr G n Pv St) (S : Addr) (out : S ∉ fp) (ks : List (Addr × MKey)) (hn : n = ks.length) (few : ks.length < 64) (val : ∀ i v, Pv i v → ∃ p, ks[i]? = some p ∧ v = .ref p.1)
    (h0 : Heap) (hk : ∀ p ∈ ks, IsM P w h0 p.2 p.1) (hS0 : h0.get? S = Option.none) (hw0 : ∀ b ∈ wr, h0.get? b = Option.none) (hu : A.in1.units < cLine) :
    ∀ (k i : Nat) (s : Shared), n - i = k → i ≤ n → St i s → (∀ b o, h0.get? b = some o → s.heap.get? b = some o) → (∃ L es ep t, SM P w s.heap S L es ep t ∧ Has ks i L) →
      (∀ s' L es ep t, Moved (S :: wr) G s s' → SM P w s'.heap S L es ep t → Has ks n L → (∀ b o, h0.get? b = some o → s'.heap.get? b = some o) → R (.ok (.ret .none)) s') →
      codeAny (model P w) A (.builtin "set.update.loop" ⟨[.ref S, .ref I], []⟩) R s := by
  have outW : S ∉ wr := fun h => out (W.sub _ h)
  have wider : ∀ b ∈ wr, b ∈ S :: wr := fun b hb => List.mem_cons_of_mem _ hb
  have kept : ∀ {s s' : Shared}, Moved wr G s s' → (∀ b o, h0.get? b = some o → s.heap.get? b = some o) → ∀ b o, h0.get? b = some o → s'.heap.get? b = some o := fun hm hkp b o e =>
    hm.heap b o (fun hb => by rw [hw0 b hb] at e; cases e) (hkp b o e)
  intro k
  induction k with
  | zero =>
    intro i s hk' hi hst hkp ⟨L, es, ep, t, hS, g⟩ hR
    obtain rfl : i = n := by omega
    refine codeAny_builtin F.entry_set_update_loop ?_
    rw [Around.under_plainId F.plain_set_update_loop _]
    show wpAny _ A.in1 (pyNext (.ref I) >>= _) _ _ s
    refine wpAny_bind (W.done s _ _ hst fun s' hm => ?_)
    show wpAny _ A.in1 (ret Value.none) _ _ s'
    have kp2 := kept hm hkp
    exact wpAny_pure (hR s' L es ep t (hm.mono wider) (hS.keep (fun o e => hm.heap S o outW e) fun p hp => key_keep (hk p (List.mem_of_mem_take (g.sub p hp))) kp2) g kp2)
  | succ k ih =>
    intro i s hk' hi hst hkp ⟨L, es, ep, t, hS, g⟩ hR
    have lt : i < n := by omega
    refine codeAny_builtin F.entry_set_update_loop ?_
    rw [Around.under_plainId F.plain_set_update_loop _]
    show wpAny _ A.in1 (pyNext (.ref I) >>= _) _ _ s
    refine wpAny_bind (W.item i s _ _ lt hst fun v s' hP hst' hm => ?_)
    obtain ⟨p, hp, rfl⟩ := val i v hP
    have kp2 := kept hm hkp
    have hS' : SM P w s'.heap S L es ep t := hS.keep (fun o e => hm.heap S o outW e) fun q hq => key_keep (hk q (List.mem_of_mem_take (g.sub q hq))) kp2
    have hx : IsM P w s'.heap p.2 p.1 := key_keep (hk p (List.mem_of_getElem? hp)) kp2
    show wpAny _ A.in1 (holding [Value.ref p.1] (setAdd S (.ref p.1)) >>= _) _ _ s'
    refine wpAny_bind (wpAny_holding ?_)
    unfold setAdd
    refine wpAny_holding (wpAny_bind (wpAny_pyHash_tuple hu hx ?_))
    refine mix_add (s := { s' with toks := s'.toks + (p.2.length + 1) }) hS' hx hu (by have := g.len; omega) fun b h' L' es' ep' t' hsb hS2 c1 c2 => ?_
    have kp3 : ∀ b o, h0.get? b = some o → h'.get? b = some o := fun b o e => (hsb.2 b (fun z => by rw [z, hS0] at e; cases e)).trans (kp2 b o e)
    refine wpAny_pure ⟨plainId_quiet F.plain_set_update_loop _, ih (i + 1) _ (by omega) lt (W.frame _ s' _ _ hst' (Nat.le_add_right _ _) fun b hb o e => ?_) kp3 ⟨L', es', ep', t', hS2, g.next hp c1 c2⟩ fun s'' L2 es2 ep2 t2 hm2 hS3 g3 kp4 => ?_⟩
    · rw [hsb.2 b (fun h : b = S => out (by rw [← h]; exact hb))]; exact e
    · refine hR s'' L2 es2 ep2 t2 (Moved.trans W.gtrans ((hm.mono wider).then_heap (Nat.le_add_right _ _) fun b o hb e => ?_) hm2) hS3 g3 kp4
      rw [hsb.2 b (fun h : b = S => hb (by rw [h]; exact List.mem_cons_self))]; exact e
theorem mix_set {l : Addr} {items : Array Value} (ks : List (Addr × MKey)) {Q : Value → Shared → Prop} (hh : A.handled = Option.none) (hl : s.heap.IsList l items) (hit : items.toList = ks.map fun p => Value.ref p.1)
    (hk : ∀ p ∈ ks, IsM P w s.heap p.2 p.1) (few : ks.length < 64) (hu : A.units + 3 < cLine)
    (h : ∀ (h' : Heap) (tk : Nat) L es ep t, SM P w h' s.heap.objs.size L es ep t → Has ks ks.length L → (∀ b o, s.heap.get? b = some o → h'.get? b = some o) → Q (.ref s.heap.objs.size) { s with heap := h', toks := tk }) :
    wpAny (model P w) A (call (.type "set") [.ref l]) Q E s := by
  have isz : items.size = ks.length := by
    have q := congrArg List.length hit
    rwa [Array.length_toList, List.length_map] at q
  obtain ⟨c, tl, hmro⟩ := F.called_set.mro
  have m1 := F.called_set.made
  have m2 := F.called_set.sub
  refine wpAny_call (codeAny_of_tree ?_)
  show wpAny _ _ (callAny (.type "set") _) _ _ _
  refine wpAny_pure ⟨Code.quiet_builtin _ (by decide +kernel), codeAny_builtin F.entry_type_call ?_⟩
  rw [Around.under_plain (weight_type_call_type "set" [.ref l] []) rfl]
  have m3 := F.called_set.notType
  have m4 := F.called_set.canCreate
  have m5 := F.typeCall_set_1 (.ref l)
  repeat (any_goals (first | assumption | wp_step))
  generalize hset : ({ cls := .type "set", dict := Option.none, data := .set #[] 0 (.fresh 0 0 (!w.params.followText "set-order")) } : Obj) = newset
  refine codeAny_mono (code_set_led1 (.ref l) (E := E) (Q₁ := fun obj s₁ => obj = .ref s.heap.objs.size ∧ s₁ = { s with heap := s.heap.push newset }) ⟨rfl, by rw [← hset]⟩) fun r s₁ hr => ?_
  cases r with
  | error e => exact hr
  | ok fl =>
    cases fl with
    | ret obj =>
      obtain ⟨rfl, rfl⟩ := hr
      have free : newset.isFreed = false := by rw [← hset]; rfl
      have hcls : newset.cls = .type "set" := by rw [← hset]
      have hS : (s.heap.push newset).get? s.heap.objs.size = some newset := Heap.get?_push_size _ free
      have hT : Shared.TypeIs { s with heap := s.heap.push newset } (.ref s.heap.objs.size) "set" := ⟨_, hS, hcls⟩
      have i1 := F.called_set.init.lookup
      have i2 := F.called_set.init.bind (.ref s.heap.objs.size)
      repeat (any_goals (first | assumption | wp_step))
      refine codeAny_mono (codeAny_call_builtin (R := wants (fun r s₂ => r = .none ∧ ∃ h' tk L es ep t, s₂ = { s with heap := h', toks := tk } ∧ SM P w h' s.heap.objs.size L es ep t ∧ Has ks ks.length L ∧
          (∀ b o, s.heap.get? b = some o → h'.get? b = some o)) E) F.called_set.init.plain F.entry_set_init (check_set_init_1 hT ?_)) fun r₂ s₂ hr₂ => ?_
      · obtain ⟨ol, hol, hcl, nl, hdl⟩ := hl
        obtain ⟨ocls, odict, odata, oslots⟩ := ol
        simp only at hcl hdl
        subst hcl hdl
        have hol' : (s.heap.push newset).get? l = some { cls := .type "list", dict := odict, data := .seq items nl, slots := oslots } := Heap.get?_push_of_some _ hol
        have j1 := F.sub_list_set
        have j2 := F.sub_list_frozenset
        have j3 : (Value.type "list" == Value.type "dict") = false := by decide
        have hl1 : (s.heap.push newset).IsList l items := ⟨_, hol', rfl, nl, rfl⟩
        have sz1 : (s.heap.push newset).objs.size = s.heap.objs.size + 1 := Heap.size_push ..
        have lS : l < s.heap.objs.size := Heap.lt_size hol
        have ne1 : l ≠ (s.heap.push newset).objs.size := by rw [sz1]; exact Nat.ne_of_lt (Nat.lt_succ_of_lt lS)
        have ne2 : s.heap.objs.size ∉ [(s.heap.push newset).objs.size, l] := by
          rw [sz1]
          simp only [List.mem_cons, List.mem_singleton, List.not_mem_nil, or_false, not_or]
          exact ⟨Nat.ne_of_lt (Nat.lt_succ_self _), Nat.ne_of_gt lS⟩
        have nS : Heap.get? (s.heap.push newset) s.heap.objs.size = some { cls := .type "set", dict := Option.none, data := .set #[] 0 (.fresh 0 0 (!w.params.followText "set-order")) } := by rw [hset]; exact hS
        subst hset
        unfold Builtin.«set.__init__» noKeywords Builtin.Frozenset.updateFrom
        generalize hPI : pyIter = PI
        wp_walk
        subst hPI
        refine wpAny_pyIter_list hl1 ?_
        refine wpAny_bind (wpAny_runValue ?_)
        have hh3 : A.in1.in1.in1.handled = Option.none := by simp [hh]
        have val : ∀ (i : Nat) (v : Value), items[i]? = some v → ∃ p, ks[i]? = some p ∧ v = .ref p.1 := fun i v hv => by
          have q : items.toList[i]? = some v := by rw [Array.getElem?_toList]; exact hv
          rw [hit, List.getElem?_map] at q
          cases hq : ks[i]? with
          | none => rw [hq] at q; cases q
          | some p =>
            rw [hq] at q
            exact ⟨p, rfl, (Option.some.inj q).symm⟩
        have none_of : ∀ b, s.heap.objs.size ≤ b → s.heap.get? b = Option.none := fun b hb => Heap.get?_none_of_le hb
        refine mix_update ((Walks.list hh3 _ l ne1 items).toS) s.heap.objs.size
          ne2 ks isz few val s.heap hk (none_of _ (Nat.le_refl _)) (fun b hb => none_of b (by rw [List.mem_singleton.mp hb, sz1]; exact Nat.le_succ _)) hu (items.size - 0) 0 _ (by omega) (Nat.zero_le _)
          ⟨⟨_, Heap.get?_push_size _ rfl, rfl, rfl⟩, (hl1.push _)⟩ (fun b o e => Heap.get?_push_of_some _ (Heap.get?_push_of_some _ e)) ?first ?last
        case first =>
          exact ⟨[], #[], 0, _, sm_fresh (Heap.get?_push_of_some _ nS), ⟨fun p hp => (by cases hp), fun p hp => (by simp at hp), Nat.le_refl _⟩⟩
        case last =>
          intro s' L es ep t hm hS' g' hkp
          obtain ⟨h', g2, d', tk', os'⟩ := s'
          obtain rfl : g2 = s.gens := hm.gens
          obtain rfl : d' = s.drawn := hm.drawn
          obtain rfl : os' = s.os := hm.os
          show wpAny _ _ _ _ _ _
          refine wpAny_pure ?_
          show wpAny _ _ (ret Value.none) _ _ _
          rw [isz] at g'
          exact wpAny_pure ⟨rfl, h', tk', L, es, ep, t, rfl, hS', g', hkp⟩
      · cases r₂ with
        | error e => exact hr₂
        | ok fl₂ =>
          cases fl₂ with
          | ret r =>
            obtain ⟨rfl, h', tk, L, es, ep, t, rfl, hS', g', hk'⟩ := hr₂
            repeat (any_goals (first | assumption | wp_step))
            exact h _ _ _ _ _ _ hS' g' hk'
          | _ => exact hr₂.elim
    | _ => exact hr.elim
end

/-! ### len(set(xs)) -/
/-- a list's items, each once -/
def dd {α : Type} [DecidableEq α] : List α → List α
  | [] => []
  | x :: r => if x ∈ dd r then dd r else x :: dd r
theorem mem_dd {α : Type} [DecidableEq α] {x : α} : ∀ {l : List α}, x ∈ dd l ↔ x ∈ l
  | [] => Iff.rfl
  | y :: r => by
    unfold dd
    split
    · rename_i h
      rw [mem_dd, List.mem_cons]
      exact ⟨.inr, fun z => z.elim (fun e => by rw [e]; exact mem_dd.mp h) id⟩
    · rw [List.mem_cons, List.mem_cons, mem_dd]
theorem nodup_dd {α : Type} [DecidableEq α] : ∀ l : List α, (dd l).Nodup
  | [] => List.nodup_nil
  | y :: r => by
    unfold dd
    split
    · exact nodup_dd r
    · rename_i h
      exact List.nodup_cons.mpr ⟨h, nodup_dd r⟩
theorem nodup_le {α : Type} [DecidableEq α] : ∀ {l m : List α}, l.Nodup → (∀ x ∈ l, x ∈ m) → l.length ≤ m.length
  | [], _, _, _ => Nat.zero_le _
  | x :: l, m, h, hs => by
    obtain ⟨h1, h2⟩ := List.nodup_cons.mp h
    have hx := hs x List.mem_cons_self
    have z := nodup_le (m := m.erase x) h2 fun y hy => (List.mem_erase_of_ne (fun e => h1 (by rw [← e]; exact hy))).mpr (hs y (List.mem_cons_of_mem _ hy))
    rw [List.length_erase_of_mem hx] at z
    have := List.length_pos_of_mem hx
    simp only [List.length_cons]
    omega
def keyD : PyData → Option Key
  | .int i => some (.inl i)
  | .str x => some (.inr x)
  | _ => none
def mapO {α β : Type} (f : α → Option β) : List α → Option (List β)
  | [] => some []
  | x :: r => (f x).bind fun y => (mapO f r).bind fun ys => some (y :: ys)
def tupKey : PyData → Option MKey
  | .tuple ds => mapO keyD ds
  | _ => none
def hLenSet : PyData → Option PyData
  | .list ds => if ds.length < 64 then (mapO tupKey ds).bind fun ks => some (.int ((dd ks).length : Nat)) else none
  | _ => none
section
variable {X : Cx} {pins : List (Addr × Obj)} {σ : L2.St} {H : Hp} {s : Shared} {Z : Addr → Prop}
theorem key_items {P : Program} {w : World} {K : PySem.W.Frag} : ∀ {ds : List PyData} {k : MKey} {xs : List V} {vs : List Value}, mapO keyD ds = some k → DqL K Z H ds xs → Vals xs vs → ItemsAre (mixKind P w) k vs
  | [], _, _, _, e, h, r => by
    cases e
    cases (show _ = _ from h)
    cases r
    exact .nil
  | d :: ds, _, _, _, e, ⟨x, rr, e2, h1, h2⟩, r => by
    subst e2
    obtain ⟨y, e3, e4⟩ := Option.bind_eq_some_iff.mp e
    obtain ⟨ys, e5, e6⟩ := Option.bind_eq_some_iff.mp e4
    cases e6
    cases r with
    | cons r1 r2 =>
      refine .cons ?_ (key_items e5 h2 r2)
      cases d <;> simp only [keyD, reduceCtorEq, Option.some.injEq] at e3
      · subst e3
        cases (show _ = _ from h1)
        obtain ⟨t, rfl⟩ := r1
        exact keyIs_int _ t
      · subst e3
        cases (show _ = _ from h1)
        obtain ⟨t, rfl⟩ := r1
        exact keyIs_str _ t
theorem keys_of (I : Inv X pins σ H s) : ∀ {ds : List PyData} {ks : List MKey} {xs : List V} {vs : List Value}, mapO tupKey ds = some ks → DqL X.K Z H ds xs → Vals xs vs →
    ∃ L : List (Addr × MKey), L.map (·.2) = ks ∧ vs = L.map (fun p => Value.ref p.1) ∧ ∀ p ∈ L, IsM X.prog X.w s.heap p.2 p.1
  | [], _, _, _, e, h, r => by
    cases e
    cases (show _ = _ from h)
    cases r
    exact ⟨[], rfl, rfl, fun p hp => (by cases hp)⟩
  | d :: ds, _, _, _, e, ⟨x, rr, e2, h1, h2⟩, r => by
    subst e2
    obtain ⟨y, e3, e4⟩ := Option.bind_eq_some_iff.mp e
    obtain ⟨ys, e5, e6⟩ := Option.bind_eq_some_iff.mp e4
    cases e6
    cases r with
    | cons r1 r2 =>
      obtain ⟨L, l1, l2, l3⟩ := keys_of I e5 h2 r2
      cases d <;> simp only [tupKey, reduceCtorEq] at e3
      obtain ⟨a, zs, rfl, ht, hz⟩ := h1
      cases r1
      obtain ⟨its, rv, ⟨o, ho, hc, n, hd⟩, _⟩ := I.tuple ht.1
      refine ⟨(a, y) :: L, by rw [List.map_cons, l1], by rw [List.map_cons, ← l2], fun p hp => ?_⟩
      rcases List.mem_cons.mp hp with e | hp
      · subst e
        exact ⟨o, its.toArray, n, ho, hc, hd, key_items e3 hz rv⟩
      · exact l3 p hp
theorem de_lenset {a : Expr} {f : F} {p p2 q pos : Pos} (hc : X.calm = true) (hu : X.A.units + 64 < cLine) (hg : Gl X "len") (hm : X.mg "len" = Option.none) (hg2 : Gl X "set") (hm2 : X.mg "set" = Option.none) (ha : PE X a (tD X.K f))
    (na : starEach [a] X.env = (false, eval a X.env) :: starEach [] X.env := by rfl) : PE X (.Call (.Name "len" p) [.Call (.Name "set" p2) [a] [] q] [] pos) (tD X.K (f1 hLenSet f)) := by
  refine ⟨fun pins s σ H Q I ⟨Z, ρ, d, hz, hag, hf, q⟩ => ?_⟩
  obtain ⟨d0, e1, hf1⟩ := Option.bind_eq_some_iff.mp hf
  cases d0 <;> simp only [hLenSet, reduceCtorEq] at hf1
  rename_i ds
  split at hf1
  · rename_i few
    obtain ⟨ks, e2, e3⟩ := Option.bind_eq_some_iff.mp hf1
    cases e3
    refine Call_ (ld_blt I hg hm PySem.boot_len ?_)
    refine PyProof.Rows.callWith_builtin1 (PyProof.Rows.args_cons ?_ rfl) rfl rfl
    refine Call_ (ld_blt I hg2 hm2 PyProof.Rows.boot_set ?_)
    refine PyProof.Rows.callWith_type1 (PyProof.Rows.args_cons (thn (ha.run pins s σ H _ I ⟨Z, ρ, _, hz, hag, e1, fun v H' s' hv => (⟨hv, s'⟩ : Dq X.K Z H' (.list ds) v ∧ Same H H')⟩) fun v s1 ⟨x, H1, I1, r1, hv, s01⟩ => PyProof.Rows.args_nil ?_) na) na rfl
    obtain ⟨l, xs, rfl, hl, _, hd⟩ := hv
    cases r1
    obtain ⟨its, rv, pl, _⟩ := I1.list (SqL.of hl)
    obtain ⟨L0, l1, l2, l3⟩ := keys_of I1 e2 hd rv
    have n0 : L0.length = ds.length := by
      have z1 := congrArg List.length l2
      have z2 := rv.length
      have z3 := hd.length
      rw [List.length_map] at z1
      omega
    refine mix_set L0 (I1.ok.hd hc) pl.isList (by simpa using l2) l3 (by omega) (by omega) fun h' tk L es ep t R G hk => ?_
    refine PyProof.Rows.args_nil ?_
    have sz := rows_size R.rows
    have eqn : L.length = (dd ks).length := by
      have n1 : (L.map (·.2)).length ≤ (dd ks).length := nodup_le R.nodup fun x hx => by
        obtain ⟨p, hp, e⟩ := List.mem_map.mp hx
        rw [mem_dd, ← l1]
        exact List.mem_map.mpr ⟨p, List.mem_of_mem_take (G.sub p hp), e⟩
      have n2 : (dd ks).length ≤ (L.map (·.2)).length := nodup_le (nodup_dd ks) fun x hx => by
        rw [mem_dd, ← l1] at hx
        obtain ⟨p, hp, e⟩ := List.mem_map.mp hx
        rw [← e]
        exact G.all p (by rw [List.take_length]; exact hp)
      rw [List.length_map] at n1 n2
      omega
    obtain ⟨o, ho, hex, hdt⟩ := R.obj
    have few2 := R.few
    have J : Inv X pins σ H1 { s1 with heap := h', toks := tk } := I1.kept hk
    refine call_len_set ho hex hdt (tab_fits R.tab sz (by have := R.room; omega)) (by rw [sz]; omega) ⟨.int ((dd ks).length : Nat), H1, J.tok _, ⟨_, by rw [sz, eqn]⟩, q _ H1 s01 rfl⟩
  · cases hf1
end
end Cr
namespace Cr
open PySem PySem.Spec PyProof.Rows L2

/-! ### the text by places, what the top has written -/
def topS (i : Nat) : Stmt := PySem.Challenge.pw_manrods_k27_whole_things_that_are_crowds.main.body.getD i (.Pass ⟨0, 0, 0, 0⟩)
def GlobD (K : PySem.W.Frag) (mg : Str → Option Value) (x : Str) (d : PyData) : Prop := ∃ v u, mg x = some u ∧ RelV v u ∧ ∀ Z H, Dq K Z H d v
structure Txt (K : PySem.W.Frag) (mg : Str → Option Value) : Prop where
  aside : GlobD K mg "ASIDE" (.str "aside")
  grass : GlobD K mg "GRASS" (.tuple [.str "grass"])
  lost : GlobD K mg "LOST" (.tuple [.str "lost"])
  rod : GlobD K mg "ROD" (.str "rod")
  nIsi : mg "isinstance" = Option.none
  nLen : mg "len" = Option.none
  nAll : mg "all" = Option.none
  nAbs : mg "abs" = Option.none
  nMax : mg "max" = Option.none
  tInt : mg "int" = Option.none
  tBool : mg "bool" = Option.none
  tTuple : mg "tuple" = Option.none
  tList : mg "list" = Option.none
  tStr : mg "str" = Option.none
  tSet : mg "set" = Option.none
  tZip : mg "zip" = Option.none
  tRange : mg "range" = Option.none
  tEnum : mg "enumerate" = Option.none
section
variable {X : Cx} {a b c : Expr} {f g k : F} {pos : Pos}
theorem de_globD {x : Str} {d : PyData} (G : GlobD X.K X.mg x d) (hg : Gl X x) (hd : (x == ("__debug__" : Str)) = false := by decide) : PE X (.Name x pos) (tD X.K (fC d)) := by
  obtain ⟨v, u, hm, r, h⟩ := G
  exact de_glob (pe_glob hg hm r hd) h
theorem de_chain2 {op op' : CmpOp} {h h' : PyData → PyData → Option PyData} (ho : OpD X (compareOp op) h) (ho' : OpD X (compareOp op') h') (ha : PE X a (tD X.K f)) (hb : PE X b (tD X.K g)) (hc : PE X c (tD X.K k))
    (hm : lastMarks [op, op'] [b, c] = false := by with_unfolding_all rfl) : PE X (.Compare a [op, op'] [b, c] pos) (tD X.K (fChain h h' f g k)) := de_chain ho ho' ha hb hc (pe_chain ho ho' ha hb hc hm)
theorem dt_chain2 {op op' : CmpOp} {h h' : PyData → PyData → Option PyData} (ho : OpD X (compareOp op) h) (ho' : OpD X (compareOp op') h') (ha : PE X a (tD X.K f)) (hb : PE X b (tD X.K g)) (hc : PE X c (tD X.K k))
    (hm : lastMarks [op, op'] [b, c] = false := by with_unfolding_all rfl) : PT X (.Compare a [op, op'] [b, c] pos) (tDT X.K (fB (fChain h h' f g k))) := by
  refine pt_weak (pt_chain ho ho' ha hb hc hm) fun σ H Q ⟨Z, ρ, d, hz, hg, hf0, q⟩ => ?_
  obtain ⟨r0, hf, er⟩ := Option.bind_eq_some_iff.mp hf0
  have er2 := asB_some er
  subst er2
  obtain ⟨x, e1, hf1⟩ := Option.bind_eq_some_iff.mp hf
  obtain ⟨y, e2, hf2⟩ := Option.bind_eq_some_iff.mp hf1
  obtain ⟨r, e3, hf3⟩ := Option.bind_eq_some_iff.mp hf2
  obtain ⟨b, e4, hf4⟩ := Option.bind_eq_some_iff.mp hf3
  have e5 := asB_some e4
  subst e5
  refine two_run (h := h) hz hg e1 e2 fun v u H' s hv hu z => ⟨Z, x, y, _, z, hv, hu, e3, fun w H2 s2 hw => ⟨b, hw, ?_⟩⟩
  cases b with
  | false =>
    rw [if_neg Bool.false_ne_true] at hf4 ⊢
    cases hf4
    exact ⟨_, rfl, q H2 (s.trans s2)⟩
  | true =>
    rw [if_pos rfl] at hf4 ⊢
    obtain ⟨y3, e6, hf5⟩ := Option.bind_eq_some_iff.mp hf4
    exact ⟨Z, ρ, y3, z.same s2, (hg.same s).same s2, e6, fun w3 H3 s3 hw3 => ⟨Z, y, y3, _, (z.same s2).same s3, (hu.same s2).same s3, hw3, hf5, fun w4 H4 s4 hw4 => ⟨_, hw4, q H4 (((s.trans s2).trans s3).trans s4)⟩⟩⟩
end
def fCall (G : List PyData → Option PyData) (ga : Ds → Option (List PyData)) : F := fun ρ => (ga ρ).bind G
def fStar (n : Nat) (G : List PyData → Option PyData) (f : F) : F := fun ρ => ((f ρ).bind starOf).bind fun ds => if ds.length = n then G ds else none
def fSeq (f : F) : Ds → Option (List PyData) := fun ρ => (f ρ).bind seqD

/-! ### what the defs compute -/
def isNum : PyData → Bool | .int _ => true | _ => false
def tupN (n : Int) : PyData → Bool | .tuple ds => decide (((ds.length : Nat) : Int) = n) | _ => false
def geB (lo : Int) : PyData → Bool | .int i => decide (lo ≤ i) | _ => false
def inB (lo hi : Int) : PyData → Bool | .int i => decide (lo ≤ i) && decide (i ≤ hi) | _ => false
def isS (x : Str) (d : PyData) : Bool := PyData.eqv d (.str x)
def dGrass : PyData := .tuple [.str "grass"]
def dLost : PyData := .tuple [.str "lost"]
def leastD (made : Int) (x : PyData) : Int := if PyData.eqv x (.int (1 - made % 2)) = true then 1 else 0
def placeB (deep made : Int) : PyData → Bool
  | .tuple [h] => PyData.eqv dGrass (.tuple [h]) || PyData.eqv dLost (.tuple [h])
  | .tuple [h, x] => isS "aside" h && inB 1 deep x
  | .tuple [h, x, y] => isS "rod" h && inB 0 1 x && inB (leastD made x) (deep - 1 + leastD made x) y
  | _ => false
def aimB (deep : Int) : PyData → Bool
  | .none => true
  | .tuple [a, b] => inB 0 deep a && geB 0 b
  | _ => false
def headD : PyData → PyData
  | .tuple (h :: _) => h
  | _ => .none
def fitsB (place aim : PyData) : Bool := if PyData.eqv place dLost = true then isNone aim else !isS "rod" (headD place) || !isNone aim
def pitD : PyData → Option (Int × List PyData)
  | .tuple [.int n, _, .tuple rs] => if 0 ≤ n ∧ n ≤ 100 ∧ rs.length = n.toNat + 1 ∧ rs.all (geB 0) = true then some (n, rs) else none
  | .list [.int n, _, .list rs] => if 0 ≤ n ∧ n ≤ 100 ∧ rs.length = n.toNat + 1 ∧ rs.all (geB 0) = true then some (n, rs) else none
  | _ => none
def p_is_number : List PyData → Option PyData | [d] => some (.bool (isNum d)) | _ => none
def p_is_tuple_of : List PyData → Option PyData | [d, .int n] => some (.bool (tupN n d)) | _ => none
def p_rising_rod : List PyData → Option PyData | [.int m] => some (.int (1 - m % 2)) | _ => none
def p_is_from : List PyData → Option PyData
  | [d, .int lo, .none] => some (.bool (geB lo d))
  | [d, .int lo, .int hi] => some (.bool (inB lo hi d))
  | _ => none
def p_is_place : List PyData → Option PyData | [t, sh, .int made] => (pitD sh).map fun p => .bool (placeB p.1 made t) | _ => none
def p_is_aim : List PyData → Option PyData | [a, sh] => (pitD sh).map fun p => .bool (aimB p.1 a) | _ => none
def p_fits_aim : List PyData → Option PyData
  | [.tuple (h :: r), aim] => some (.bool (fitsB (.tuple (h :: r)) aim))
  | _ => none
def p_law_is_number : List PyData → Option PyData | [d] => some (.bool (isNum d)) | _ => none
section
variable {P : Program} {w : World} {K : PySem.W.Frag} {mg : Str → Option Value} {base : Heap}
abbrev st_is_number : Stmt := topS 1
theorem sc_is_number : FnScope ["thing"] ["thing"] (defScope st_is_number) := ⟨rfl, rfl, rfl, by decide +kernel, rfl, by decide +kernel, by decide +kernel⟩
abbrev g_is_number : Ds → Option Out := (sRet (fAnd (f1 (hIsi isIntB) (fVar 0)) (fNot (f1 (hIsi isBoo) (fVar 0)))))
theorem ok_is_number {f : Addr} {fd : FuncData} (F : Fun K "is_number" "is_number" st_is_number f fd) (T : Txt K mg) 
    (hG : ∀ ds d, ds.length = 1 → p_is_number ds = some d → retOf 1 g_is_number ds = some d) : FnOk P w K mg base CX0 1 f fd ["thing"] (spD K 1 p_is_number) :=
  def_ok (k := 0) (g := g_is_number) F sc_is_number rfl hG fun cdv A outer s H E hr =>
    (dss_one (ds_ret (de_and (de_isi kb_int (by rfl) T.nIsi (pe_bltn (by rfl) T.tInt PyProof.Rows.boot_int (by rfl)) (de_var (pv 0))) (de_one (de_not (de_isi kb_bool (by rfl) T.nIsi (pe_bltn (by rfl) T.tBool PyProof.Rows.boot_bool (by rfl)) (de_var (pv 0))))))))
abbrev st_is_tuple_of : Stmt := topS 2
theorem sc_is_tuple_of : FnScope ["thing", "many"] ["thing", "many"] (defScope st_is_tuple_of) := ⟨rfl, rfl, rfl, by decide +kernel, rfl, by decide +kernel, by decide +kernel⟩
abbrev g_is_tuple_of : Ds → Option Out := (sRet (fAnd (f1 (hIsi isTup) (fVar 0)) (f2 hEq (f1 hLen (fVar 0)) (fVar 1))))
theorem ok_is_tuple_of {f : Addr} {fd : FuncData} (F : Fun K "is_tuple_of" "is_tuple_of" st_is_tuple_of f fd) (T : Txt K mg) 
    (hG : ∀ ds d, ds.length = 2 → p_is_tuple_of ds = some d → retOf 2 g_is_tuple_of ds = some d) : FnOk P w K mg base CX0 1 f fd ["thing", "many"] (spD K 2 p_is_tuple_of) :=
  def_ok (k := 0) (g := g_is_tuple_of) F sc_is_tuple_of rfl hG fun cdv A outer s H E hr =>
    (dss_one (ds_ret (de_and (de_isi kb_tuple (by rfl) T.nIsi (pe_bltn (by rfl) T.tTuple PyProof.Rows.boot_tuple (by rfl)) (de_var (pv 0))) (de_one (de_cmp (opd_eq hr.units) (de_b1 cd_len (by rfl) T.nLen PySem.boot_len (de_var (pv 0))) (de_var (pv 1)) (nomark _))))))
abbrev st_rising_rod : Stmt := topS 4
theorem sc_rising_rod : FnScope ["made"] ["made"] (defScope st_rising_rod) := ⟨rfl, rfl, rfl, by decide +kernel, rfl, by decide +kernel, by decide +kernel⟩
abbrev g_rising_rod : Ds → Option Out := (sRet (f2 (hII fun i j => .int (i - j)) (fC (.int 1)) (f2 hMod (fVar 0) (fC (.int 2)))))
theorem ok_rising_rod {f : Addr} {fd : FuncData} (F : Fun K "rising_rod" "rising_rod" st_rising_rod f fd) (T : Txt K mg) 
    (hG : ∀ ds d, ds.length = 1 → p_rising_rod ds = some d → retOf 1 g_rising_rod ds = some d) : FnOk P w K mg base CX0 1 f fd ["made"] (spD K 1 p_rising_rod) :=
  def_ok (k := 0) (g := g_rising_rod) F sc_rising_rod rfl hG fun cdv A outer s H E hr =>
    (dss_one (ds_ret (de_op opd_sub de_int (de_op opd_mod (de_var (pv 0)) de_int))))
abbrev st_is_from : Stmt := topS 10
theorem sc_is_from : FnScope ["thing", "least", "most"] ["thing", "least", "most"] (defScope st_is_from) := ⟨rfl, rfl, rfl, by decide +kernel, rfl, by decide +kernel, by decide +kernel⟩
abbrev g_is_from : Ds → Option Out := (sRet (fAnd (fCall p_is_number (fCons (fVar 0) fNil)) (fAnd (f2 (hII fun i j => .bool (decide (j ≤ i))) (fVar 0) (fVar 1)) (fOr (f2 (hIs false) (fVar 2) (fC .none)) (f2 (hII fun i j => .bool (decide (i ≤ j))) (fVar 0) (fVar 2))))))
theorem ok_is_from {f : Addr} {fd : FuncData} (F : Fun K "is_from" "is_from" st_is_from f fd) (T : Txt K mg) (D_is_number : DefOk P w K mg base "is_number" 1 (spD K 1 p_is_number))
    (hG : ∀ ds d, ds.length = 3 → p_is_from ds = some d → retOf 3 g_is_from ds = some d) : FnOk P w K mg base CX0 2 f fd ["thing", "least", "most"] (spD K 3 p_is_from) :=
  def_ok (k := 1) (g := g_is_from) F sc_is_from rfl hG fun cdv A outer s H E hr =>
    (dss_one (ds_ret (de_and (de_call D_is_number (hr.mono (show 1 ≤ 1 by decide)) (by rfl) (da_cons (de_var (pv 0)) da_nil)) (de_and (de_cmp opd_ge (de_var (pv 0)) (de_var (pv 1)) (nomark _)) (de_one (de_or (de_cmp opd_is (de_var (pv 2)) de_non (nomark _)) (de_one (de_cmp opd_le (de_var (pv 0)) (de_var (pv 2)) (nomark _)))))))))
abbrev st_is_place : Stmt := topS 11
theorem sc_is_place : FnScope ["thing", "shaft", "made", "least"] ["thing", "shaft", "made"] (defScope st_is_place) := ⟨rfl, rfl, rfl, by decide +kernel, rfl, by decide +kernel, by decide +kernel⟩
abbrev g_is_place : Ds → Option Out := (sSeq (sIf (bOr (bNot (fB (f1 (hIsi isTup) (fVar 0)))) (fB (f2 (hIn false) (fVar 0) (fTup (fCons (fC (.tuple [.str "grass"])) (fCons (fC (.tuple [.str "lost"])) fNil)))))) (sRet (f1 (hIsi isTup) (fVar 0))) sNil)
    (sSeq (sIf (fB (fCall p_is_tuple_of (fCons (fVar 0) (fCons (fC (.int 2)) fNil)))) (sRet (fAnd (f2 hEq (f2 hIx (fVar 0) (fC (.int 0))) (fC (.str "aside"))) (fCall p_is_from (fCons (f2 hIx (fVar 0) (fC (.int 1))) (fCons (fC (.int 1)) (fCons (f2 hIx (fVar 1) (fC (.int 0))) fNil)))))) sNil)
    (sSeq (sIf (bOr (bNot (fB (fCall p_is_tuple_of (fCons (fVar 0) (fCons (fC (.int 3)) fNil))))) (bOr (fB (f2 hNe (f2 hIx (fVar 0) (fC (.int 0))) (fC (.str "rod")))) (bNot (fB (fCall p_is_from (fCons (f2 hIx (fVar 0) (fC (.int 1))) (fCons (fC (.int 0)) (fCons (fC (.int 1)) fNil)))))))) (sRet (fC (.bool false))) sNil)
    (sSeq (sSet 3 (f1 hInt (f2 hEq (f2 hIx (fVar 0) (fC (.int 1))) (fCall p_rising_rod (fCons (fVar 2) fNil)))))
    (sRet (fCall p_is_from (fCons (f2 hIx (fVar 0) (fC (.int 2))) (fCons (fVar 3) (fCons (f2 (hII fun i j => .int (i + j)) (f2 (hII fun i j => .int (i - j)) (f2 hIx (fVar 1) (fC (.int 0))) (fC (.int 1))) (fVar 3)) fNil)))))))))
theorem ok_is_place {f : Addr} {fd : FuncData} (F : Fun K "is_place" "is_place" st_is_place f fd) (T : Txt K mg) (D_is_tuple_of : DefOk P w K mg base "is_tuple_of" 1 (spD K 2 p_is_tuple_of)) (D_is_from : DefOk P w K mg base "is_from" 2 (spD K 3 p_is_from)) (D_rising_rod : DefOk P w K mg base "rising_rod" 1 (spD K 1 p_rising_rod))
    (hG : ∀ ds d, ds.length = 3 → p_is_place ds = some d → retOf 4 g_is_place ds = some d) : FnOk P w K mg base CX0 3 f fd ["thing", "shaft", "made"] (spD K 3 p_is_place) :=
  def_ok (k := 2) (g := g_is_place) F sc_is_place rfl hG fun cdv A outer s H E hr =>
    (dss_cons (ds_if (dw_or (dt_not (dt_val (de_isi kb_tuple (by rfl) T.nIsi (pe_bltn (by rfl) T.tTuple PyProof.Rows.boot_tuple (by rfl)) (de_var (pv 0))))) (dw_or1 (dt_cmp (opd_in hr.units) (de_var (pv 0)) (de_tup (da_cons (de_globD T.grass (by rfl)) (da_cons (de_globD T.lost (by rfl)) da_nil))) (by rfl)))).pt
      (dss_one (ds_ret (de_isi kb_tuple (by rfl) T.nIsi (pe_bltn (by rfl) T.tTuple PyProof.Rows.boot_tuple (by rfl)) (de_var (pv 0)))))
      dss_nil)
      (dss_cons (ds_if (dt_val (de_call D_is_tuple_of (hr.mono (show 1 ≤ 2 by decide)) (by rfl) (da_cons (de_var (pv 0)) (da_cons de_int da_nil))))
      (dss_one (ds_ret (de_and (de_cmp (opd_eq hr.units) (de_ix (de_var (pv 0)) de_int) (de_globD T.aside (by rfl)) (nomark _)) (de_one (de_call D_is_from (hr.mono (show 2 ≤ 2 by decide)) (by rfl) (da_cons (de_ix (de_var (pv 0)) de_int) (da_cons de_int (da_cons (de_ix (de_var (pv 1)) de_int) da_nil))))))))
      dss_nil)
      (dss_cons (ds_if (dw_or (dt_not (dt_val (de_call D_is_tuple_of (hr.mono (show 1 ≤ 2 by decide)) (by rfl) (da_cons (de_var (pv 0)) (da_cons de_int da_nil))))) (dw_or (dt_cmp (opd_ne hr.units) (de_ix (de_var (pv 0)) de_int) (de_globD T.rod (by rfl)) (nomark _)) (dw_or1 (dt_not (dt_val (de_call D_is_from (hr.mono (show 2 ≤ 2 by decide)) (by rfl) (da_cons (de_ix (de_var (pv 0)) de_int) (da_cons de_int (da_cons de_int da_nil))))))))).pt
      (dss_one (ds_ret de_bl))
      dss_nil)
      (dss_cons (ds_set (i := 3) sc_is_place.nd (by rfl) (Or.inl (by rfl)) (de_t1 cd_int (by rfl) T.tInt PyProof.Rows.boot_int (de_cmp (opd_eq hr.units) (de_ix (de_var (pv 0)) de_int) (de_call D_rising_rod (hr.mono (show 1 ≤ 2 by decide)) (by rfl) (da_cons (de_var (pv 2)) da_nil)) (nomark _))))
      (dss_one (ds_ret (de_call D_is_from (hr.mono (show 2 ≤ 2 by decide)) (by rfl) (da_cons (de_ix (de_var (pv 0)) de_int) (da_cons (de_var (pv 3)) (da_cons (de_op opd_add (de_op opd_sub (de_ix (de_var (pv 1)) de_int) de_int) (de_var (pv 3))) da_nil))))))))))
abbrev st_is_aim : Stmt := topS 12
theorem sc_is_aim : FnScope ["thing", "shaft"] ["thing", "shaft"] (defScope st_is_aim) := ⟨rfl, rfl, rfl, by decide +kernel, rfl, by decide +kernel, by decide +kernel⟩
abbrev g_is_aim : Ds → Option Out := (sRet (fOr (f2 (hIs false) (fVar 0) (fC .none)) (fAnd (fCall p_is_tuple_of (fCons (fVar 0) (fCons (fC (.int 2)) fNil))) (fAnd (fCall p_is_from (fCons (f2 hIx (fVar 0) (fC (.int 0))) (fCons (fC (.int 0)) (fCons (f2 hIx (fVar 1) (fC (.int 0))) fNil)))) (fCall p_is_from (fCons (f2 hIx (fVar 0) (fC (.int 1))) (fCons (fC (.int 0)) (fCons (fC .none) fNil))))))))
theorem ok_is_aim {f : Addr} {fd : FuncData} (F : Fun K "is_aim" "is_aim" st_is_aim f fd) (T : Txt K mg) (D_is_tuple_of : DefOk P w K mg base "is_tuple_of" 1 (spD K 2 p_is_tuple_of)) (D_is_from : DefOk P w K mg base "is_from" 2 (spD K 3 p_is_from))
    (hG : ∀ ds d, ds.length = 2 → p_is_aim ds = some d → retOf 2 g_is_aim ds = some d) : FnOk P w K mg base CX0 3 f fd ["thing", "shaft"] (spD K 2 p_is_aim) :=
  def_ok (k := 2) (g := g_is_aim) F sc_is_aim rfl hG fun cdv A outer s H E hr =>
    (dss_one (ds_ret (de_or (de_cmp opd_is (de_var (pv 0)) de_non (nomark _)) (de_one (de_and (de_call D_is_tuple_of (hr.mono (show 1 ≤ 2 by decide)) (by rfl) (da_cons (de_var (pv 0)) (da_cons de_int da_nil))) (de_and (de_call D_is_from (hr.mono (show 2 ≤ 2 by decide)) (by rfl) (da_cons (de_ix (de_var (pv 0)) de_int) (da_cons de_int (da_cons (de_ix (de_var (pv 1)) de_int) da_nil)))) (de_one (de_call D_is_from (hr.mono (show 2 ≤ 2 by decide)) (by rfl) (da_cons (de_ix (de_var (pv 0)) de_int) (da_cons de_int (da_cons de_non da_nil)))))))))))
abbrev st_fits_aim : Stmt := topS 13
theorem sc_fits_aim : FnScope ["place", "aim"] ["place", "aim"] (defScope st_fits_aim) := ⟨rfl, rfl, rfl, by decide +kernel, rfl, by decide +kernel, by decide +kernel⟩
abbrev g_fits_aim : Ds → Option Out := (sSeq (sIf (fB (f2 hEq (fVar 0) (fC (.tuple [.str "lost"])))) (sRet (f2 (hIs false) (fVar 1) (fC .none))) sNil)
    (sRet (fOr (f2 hNe (f2 hIx (fVar 0) (fC (.int 0))) (fC (.str "rod"))) (f2 (hIs true) (fVar 1) (fC .none)))))
theorem ok_fits_aim {f : Addr} {fd : FuncData} (F : Fun K "fits_aim" "fits_aim" st_fits_aim f fd) (T : Txt K mg) 
    (hG : ∀ ds d, ds.length = 2 → p_fits_aim ds = some d → retOf 2 g_fits_aim ds = some d) : FnOk P w K mg base CX0 1 f fd ["place", "aim"] (spD K 2 p_fits_aim) :=
  def_ok (k := 0) (g := g_fits_aim) F sc_fits_aim rfl hG fun cdv A outer s H E hr =>
    (dss_cons (ds_if (dt_cmp (opd_eq hr.units) (de_var (pv 0)) (de_globD T.lost (by rfl)) (nomark _))
      (dss_one (ds_ret (de_cmp opd_is (de_var (pv 1)) de_non (nomark _))))
      dss_nil)
      (dss_one (ds_ret (de_or (de_cmp (opd_ne hr.units) (de_ix (de_var (pv 0)) de_int) (de_globD T.rod (by rfl)) (nomark _)) (de_one (de_cmp opd_isnot (de_var (pv 1)) de_non (nomark _)))))))
abbrev st_law_is_number : Stmt := topS 23
theorem sc_law_is_number : FnScope ["_law_own"] ["_law_own"] (defScope st_law_is_number) := ⟨rfl, rfl, rfl, by decide +kernel, rfl, by decide +kernel, by decide +kernel⟩
abbrev g_law_is_number : Ds → Option Out := (sRet (fAnd (f1 (hIsi isIntB) (fVar 0)) (fNot (f1 (hIsi isBoo) (fVar 0)))))
theorem ok_law_is_number {f : Addr} {fd : FuncData} (F : Fun K "_law_is_number" "_law_is_number" st_law_is_number f fd) (T : Txt K mg) 
    (hG : ∀ ds d, ds.length = 1 → p_law_is_number ds = some d → retOf 1 g_law_is_number ds = some d) : FnOk P w K mg base CX0 1 f fd ["_law_own"] (spD K 1 p_law_is_number) :=
  def_ok (k := 0) (g := g_law_is_number) F sc_law_is_number rfl hG fun cdv A outer s H E hr =>
    (dss_one (ds_ret (de_and (de_isi kb_int (by rfl) T.nIsi (pe_bltn (by rfl) T.tInt PyProof.Rows.boot_int (by rfl)) (de_var (pv 0))) (de_one (de_not (de_isi kb_bool (by rfl) T.nIsi (pe_bltn (by rfl) T.tBool PyProof.Rows.boot_bool (by rfl)) (de_var (pv 0))))))))
end
end Cr
namespace Cr
open PySem PySem.Spec PyProof.Rows L2

/-! ### crowds -/
def roomAt (rs : List PyData) (x : PyData) : Int := match x with
  | .int i => match rs[i.toNat]? with
    | some (.int r) => r
    | _ => 0
  | _ => 0
def secD : PyData → PyData
  | .tuple (_ :: x :: _) => x
  | _ => .none
def alikeN (men : List PyData) (spot : PyData) : Int := ((men.countP fun y => PyData.eqv y spot : Nat) : Int)
def standB (rs men : List PyData) (spot : PyData) : Bool := !(isS "rod" (headD spot) && decide (1 < alikeN men spot)) && !(isS "aside" (headD spot) && decide (roomAt rs (secD spot) < alikeN men spot))
def manB (deep made : Int) (spot aim : PyData) : Bool := placeB deep made spot && aimB deep aim && fitsB spot aim
def crowdB (deep : Int) (rs : List PyData) (made : Int) : PyData → Bool
  | .tuple [.tuple men, .tuple aims] => decide (men.length = aims.length) && ((List.zip men aims).all fun p => manB deep made p.1 p.2) && men.all (standB rs men)
  | _ => false
def fewB : PyData → Bool
  | .tuple [.tuple men, _] => decide (men.length < 64)
  | _ => true
def p_is_crowd : List PyData → Option PyData
  | [t, sh, .int made] => (pitD sh).bind fun p => if fewB t = true then some (.bool (crowdB p.1 p.2 made t)) else none
  | _ => none
def p_law_fits_man : List PyData → Option PyData
  | [spot, aim, sh, .int made] => (pitD sh).map fun p => .bool (manB p.1 made spot aim)
  | _ => none
def p_law_fits : List PyData → Option PyData := p_is_crowd
def listsD : Nat → PyData → Option PyData
  | 0, .tuple ds => if ds = [] then some (.list []) else none
  | 0, .list ds => if ds = [] then some (.list []) else none
  | n + 1, .tuple ds => (mapO (listsD n) ds).map .list
  | n + 1, .list ds => (mapO (listsD n) ds).map .list
  | _, d => some d
def p_law_lists (n : Nat) : List PyData → Option PyData
  | [d] => listsD n d
  | _ => none
def btEq : Nat → PyData → PyData → Bool
  | _, .bool a, .bool b => a == b
  | n + 1, .list as, .list bs => decide (as.length = bs.length) && (List.zip as bs).all fun p => btEq n p.1 p.2
  | _, _, _ => false
def p_law_same (n : Nat) : List PyData → Option PyData
  | [a, b] => if btEq n a b = true then some (.bool true) else none
  | _ => none
def p_law_by_hand_right : List PyData → Option PyData
  | [] => some (.bool true)
  | _ => none
section
variable {P : Program} {w : World} {K : PySem.W.Frag} {mg : Str → Option Value} {base : Heap}
/-- at no data: nothing is promised -/
theorem def_none {x qual : Str} {st : Stmt} {f : Addr} {fd : FuncData} {N ps : List Str} {n : Nat} (F : Fun K x qual st f fd) (S : FnScope N ps (defScope st)) : FnOk P w K mg base CX0 1 f fd ps (spD K n fun _ => Option.none) := by
  refine F.ok S (fun vs H Q E h => ?_) (fun cdv A outer s H vs Q E hr h => ?_)
  · obtain ⟨Z, ds, d, _, _, _, e, _⟩ := h
    cases e
  · exfalso
    obtain ⟨Z, ds, d, _, _, _, e, _⟩ := h
    cases e
abbrev st_is_crowd : Stmt := topS 14
theorem sc_is_crowd : FnScope ["thing", "shaft", "made", "men", "aims", "riding", "place", "level", "part", "aim", "pair"] ["thing", "shaft", "made"] (defScope st_is_crowd) := ⟨rfl, rfl, rfl, by decide +kernel, rfl, by decide +kernel, by decide +kernel⟩
abbrev g_is_crowd : Ds → Option Out := (sSeq (sIf (bOr (bNot (fB (fCall p_is_tuple_of (fCons (fVar 0) (fCons (fC (.int 2)) fNil))))) (bNot (fB (f1 hAll (fLc (fSeq (fVar 0)) (fun d ρ => ρ.set 8 (some d)) bYes (f1 (hIsi isTup) (fVar 8)) [8]))))) (sRet (fC (.bool false))) sNil)
    (sSeq (sSet2 3 4 (fVar 0))
    (sSeq (sIf (bOr (fB (f2 hNe (f1 hLen (fVar 3)) (f1 hLen (fVar 4)))) (bNot (fB (f1 hAll (fLc (fSeq (fVar 3)) (fun d ρ => ρ.set 6 (some d)) bYes (fCall p_is_place (fCons (fVar 6) (fCons (fVar 1) (fCons (fVar 2) fNil)))) [6]))))) (sRet (fC (.bool false))) sNil)
    (sSeq (sIf (bOr (bNot (fB (f1 hAll (fLc (fSeq (fVar 4)) (fun d ρ => ρ.set 9 (some d)) bYes (fCall p_is_aim (fCons (fVar 9) (fCons (fVar 1) fNil))) [9])))) (bNot (fB (f1 hAll (fLc (fZipN (fVar 3) (fVar 4)) (fun d ρ => ρ.set 10 (some d)) bYes (fStar 2 p_fits_aim (fVar 10)) [10]))))) (sRet (fC (.bool false))) sNil)
    (sSeq (sSet 5 (fLc (fSeq (fVar 3)) (fun d ρ => ρ.set 6 (some d)) (fB (f2 hEq (f2 hIx (fVar 6) (fC (.int 0))) (fC (.str "rod")))) (fVar 6) [6]))
    (sSeq (sIf (fB (f2 (hII fun i j => .bool (decide (i < j))) (f1 hLenSet (fVar 5)) (f1 hLen (fVar 5)))) (sRet (fC (.bool false))) sNil)
    (sRet (f1 hAll (fLc (fRange2 (fC (.int 1)) (f2 (hII fun i j => .int (i + j)) (f2 hIx (fVar 1) (fC (.int 0))) (fC (.int 1)))) (fun d ρ => ρ.set 7 (some d)) bYes (f2 (hII fun i j => .bool (decide (i ≤ j))) (f2 hCount (fVar 3) (fTup (fCons (fC (.str "aside")) (fCons (fVar 7) fNil)))) (f2 hIx (f2 hIx (fVar 1) (fC (.int 2))) (fVar 7))) [7])))))))))
theorem ok_is_crowd {f : Addr} {fd : FuncData} (F : Fun K "is_crowd" "is_crowd" st_is_crowd f fd) (T : Txt K mg) (D_is_tuple_of : DefOk P w K mg base "is_tuple_of" 1 (spD K 2 p_is_tuple_of)) (D_is_place : DefOk P w K mg base "is_place" 3 (spD K 3 p_is_place)) (D_is_aim : DefOk P w K mg base "is_aim" 3 (spD K 2 p_is_aim)) (D_fits_aim : DefOk P w K mg base "fits_aim" 1 (spD K 2 p_fits_aim))
    (hG : ∀ ds d, ds.length = 3 → p_is_crowd ds = some d → retOf 11 g_is_crowd ds = some d) : FnOk P w K mg base CX0 4 f fd ["thing", "shaft", "made"] (spD K 3 p_is_crowd) :=
  def_ok (k := 3) (g := g_is_crowd) F sc_is_crowd rfl hG fun cdv A outer s H E hr =>
    (dss_cons (ds_if (dw_or (dt_not (dt_val (de_call D_is_tuple_of (hr.mono (show 1 ≤ 3 by decide)) (by rfl) (da_cons (de_var (pv 0)) (da_cons de_int da_nil))))) (dw_or1 (dt_not (dt_val (de_b1 (cd_all (by rfl)) (by rfl) T.nAll PyProof.Rows.boot_all (de_lc tgt_name (by rfl) sc_is_crowd.nd (pi_seq (de_var (pv 0))) (blkOk_by (own := [("part", 8)]) (by show blkC ["thing", "shaft", "made", "men", "aims", "riding", "place", "level", "part", "aim", "pair"] (defScope st_is_crowd) _ _ = true; decide +kernel)) (fun _ _ _ _ _ => (pg_name (i := 8) sc_is_crowd.nd (by rfl) (Or.inl (by rfl)))) (fun _ _ _ _ _ => dts_nil) (fun _ _ _ _ _ => (de_isi kb_tuple (by rfl) T.nIsi (pe_bltn (by rfl) T.tTuple PyProof.Rows.boot_tuple (by rfl)) (de_var (pv 8)))))))))).pt
      (dss_one (ds_ret de_bl))
      dss_nil)
      (dss_cons (ds_set2 (de_var (pv 0)) (pg_tup (by rfl) (pgs_cons (pg_name (i := 3) sc_is_crowd.nd (by rfl) (Or.inr (by rfl))) (pgs_cons (pg_name (i := 4) sc_is_crowd.nd (by rfl) (Or.inl (by rfl))) pgs_nil))))
      (dss_cons (ds_if (dw_or (dt_cmp (opd_ne hr.units) (de_b1 cd_len (by rfl) T.nLen PySem.boot_len (de_var (pv 3))) (de_b1 cd_len (by rfl) T.nLen PySem.boot_len (de_var (pv 4))) (nomark _)) (dw_or1 (dt_not (dt_val (de_b1 (cd_all (by rfl)) (by rfl) T.nAll PyProof.Rows.boot_all (de_lc tgt_name (by rfl) sc_is_crowd.nd (pi_seq (de_var (pv 3))) (blkOk_by (own := [("place", 6)]) (by show blkC ["thing", "shaft", "made", "men", "aims", "riding", "place", "level", "part", "aim", "pair"] (defScope st_is_crowd) _ _ = true; decide +kernel)) (fun _ _ _ _ _ => (pg_name (i := 6) sc_is_crowd.nd (by rfl) (Or.inl (by rfl)))) (fun _ _ _ _ _ => dts_nil) (fun _ _ _ _ _ => (de_call D_is_place (hr.mono (show 3 ≤ 3 by decide)) (by rfl) (da_cons (de_var (pv 6)) (da_cons (de_var (pv 1)) (da_cons (de_var (pv 2)) da_nil))))))))))).pt
      (dss_one (ds_ret de_bl))
      dss_nil)
      (dss_cons (ds_if (dw_or (dt_not (dt_val (de_b1 (cd_all (by rfl)) (by rfl) T.nAll PyProof.Rows.boot_all (de_lc tgt_name (by rfl) sc_is_crowd.nd (pi_seq (de_var (pv 4))) (blkOk_by (own := [("aim", 9)]) (by show blkC ["thing", "shaft", "made", "men", "aims", "riding", "place", "level", "part", "aim", "pair"] (defScope st_is_crowd) _ _ = true; decide +kernel)) (fun _ _ _ _ _ => (pg_name (i := 9) sc_is_crowd.nd (by rfl) (Or.inl (by rfl)))) (fun _ _ _ _ _ => dts_nil) (fun _ _ _ _ _ => (de_call D_is_aim (hr.mono (show 3 ≤ 3 by decide)) (by rfl) (da_cons (de_var (pv 9)) (da_cons (de_var (pv 1)) da_nil)))))))) (dw_or1 (dt_not (dt_val (de_b1 (cd_all (by rfl)) (by rfl) T.nAll PyProof.Rows.boot_all (de_lc tgt_name (by rfl) sc_is_crowd.nd (pi_zipN (by rfl) T.tZip (de_var (pv 3)) (de_var (pv 4))) (blkOk_by (own := [("pair", 10)]) (by show blkC ["thing", "shaft", "made", "men", "aims", "riding", "place", "level", "part", "aim", "pair"] (defScope st_is_crowd) _ _ = true; decide +kernel)) (fun _ _ _ _ _ => (pg_name (i := 10) sc_is_crowd.nd (by rfl) (Or.inl (by rfl)))) (fun _ _ _ _ _ => dts_nil) (fun _ _ _ _ _ => (de_star D_fits_aim (hr.mono (show 1 ≤ 3 by decide)) (by rfl) (de_var (pv 10)))))))))).pt
      (dss_one (ds_ret de_bl))
      dss_nil)
      (dss_cons (ds_setLc (i := 5) tgt_name (by rfl) sc_is_crowd.nd (by rfl) (by rfl) (by rfl) (pi_seq (de_var (pv 3))) (blkOk_by (own := [("place", 6)]) (by show blkC ["thing", "shaft", "made", "men", "aims", "riding", "place", "level", "part", "aim", "pair"] (defScope st_is_crowd) _ _ = true; decide +kernel)) (fun _ _ _ _ _ => (pg_name (i := 6) sc_is_crowd.nd (by rfl) (Or.inl (by rfl)))) (fun _ _ _ _ _ => (pts_one (dt_cmp (opd_eq hr.units) (de_ix (de_var (pv 6)) de_int) (de_globD T.rod (by rfl)) (nomark _)))) (fun _ _ _ _ _ => (de_var (pv 6))))
      (dss_cons (ds_if (dt_cmp opd_lt (de_lenset (by rfl) hr.units (by rfl) T.nLen (by rfl) T.tSet (de_var (pv 5))) (de_b1 cd_len (by rfl) T.nLen PySem.boot_len (de_var (pv 5))) (nomark _))
      (dss_one (ds_ret de_bl))
      dss_nil)
      (dss_one (ds_ret (de_b1 (cd_all (by rfl)) (by rfl) T.nAll PyProof.Rows.boot_all (de_lc tgt_name (by rfl) sc_is_crowd.nd (pi_range2D (by rfl) T.tRange de_int (de_op opd_add (de_ix (de_var (pv 1)) de_int) de_int)) (blkOk_by (own := [("level", 7)]) (by show blkC ["thing", "shaft", "made", "men", "aims", "riding", "place", "level", "part", "aim", "pair"] (defScope st_is_crowd) _ _ = true; decide +kernel)) (fun _ _ _ _ _ => (pg_name (i := 7) sc_is_crowd.nd (by rfl) (Or.inl (by rfl)))) (fun _ _ _ _ _ => dts_nil) (fun _ _ _ _ _ => (de_cmp opd_le (de_count hr.units (de_var (pv 3)) (de_tup (da_cons (de_globD T.aside (by rfl)) (da_cons (de_var (pv 7)) da_nil)))) (de_ix (de_ix (de_var (pv 1)) de_int) (de_var (pv 7))) (nomark _)))))))))))))
abbrev st_law_fits_man : Stmt := topS 24
theorem sc_law_fits_man : FnScope ["_law_spot", "_law_aim", "_law_pit_here", "_law_made", "_law_tail", "_law_least", "_law_own"] ["_law_spot", "_law_aim", "_law_pit_here", "_law_made"] (defScope st_law_fits_man) := ⟨rfl, rfl, rfl, by decide +kernel, rfl, by decide +kernel, by decide +kernel⟩
abbrev g_law_fits_man : Ds → Option Out := (sSeq (sIf (fB (f2 (hIs true) (fVar 1) (fC .none))) (sSeq (sIf (bOr (bNot (fB (f1 (hIsi isTup) (fVar 1)))) (bOr (fB (f2 hNe (f1 hLen (fVar 1)) (fC (.int 2)))) (bNot (fB (f1 hAll (fLc (fSeq (fVar 1)) (fun d ρ => ρ.set 6 (some d)) bYes (fAnd (fCall p_law_is_number (fCons (fVar 6) fNil)) (f2 (hII fun i j => .bool (decide (j ≤ i))) (fVar 6) (fC (.int 0)))) [6])))))) (sRet (fC (.bool false))) sNil)
    (sIf (fB (f2 (hII fun i j => .bool (decide (j < i))) (f2 hIx (fVar 1) (fC (.int 0))) (f2 hIx (fVar 2) (fC (.int 0))))) (sRet (fC (.bool false))) sNil)) sNil)
    (sSeq (sIf (bOr (bNot (fB (f1 (hIsi isTup) (fVar 0)))) (bOr (fB (f2 hEq (fVar 0) (fTup fNil))) (bNot (fB (f1 (hIsi isStr) (f2 hIx (fVar 0) (fC (.int 0)))))))) (sRet (fC (.bool false))) sNil)
    (sSeq (sSet 4 (fCut (fVar 0) (fPart (fC (.int 1))) fNoPart))
    (sSeq (sIf (bNot (fB (f1 hAll (fLc (fSeq (fVar 4)) (fun d ρ => ρ.set 6 (some d)) bYes (fCall p_law_is_number (fCons (fVar 6) fNil)) [6])))) (sRet (fC (.bool false))) sNil)
    (sSeq (sIf (fB (f2 hEq (f2 hIx (fVar 0) (fC (.int 0))) (fC (.str "rod")))) (sSeq (sIf (bOr (fB (f2 hNe (f1 hLen (fVar 4)) (fC (.int 2)))) (bOr (fB (f2 (hIn true) (f2 hIx (fVar 4) (fC (.int 0))) (fTup (fCons (fC (.int 0)) (fCons (fC (.int 1)) fNil))))) (fB (f2 (hIs false) (fVar 1) (fC .none))))) (sRet (fC (.bool false))) sNil)
    (sSeq (sSet 5 (fIf (fB (f2 hEq (f2 hIx (fVar 4) (fC (.int 0))) (f2 hMod (f1 hInt (fVar 3)) (fC (.int 2))))) (fC (.int 0)) (fC (.int 1))))
    (sRet (fChain (hII fun i j => .bool (decide (i ≤ j))) (hII fun i j => .bool (decide (i ≤ j))) (fVar 5) (f2 hIx (fVar 4) (fC (.int 1))) (f2 (hII fun i j => .int (i + j)) (f2 (hII fun i j => .int (i - j)) (f2 hIx (fVar 2) (fC (.int 0))) (fC (.int 1))) (fVar 5)))))) sNil)
    (sSeq (sIf (fB (f2 hEq (f2 hIx (fVar 0) (fC (.int 0))) (fC (.str "aside")))) (sRet (fAnd (f2 hEq (f1 hLen (fVar 4)) (fC (.int 1))) (fChain (hII fun i j => .bool (decide (i ≤ j))) (hII fun i j => .bool (decide (i ≤ j))) (fC (.int 1)) (f2 hIx (fVar 4) (fC (.int 0))) (f2 hIx (fVar 2) (fC (.int 0)))))) sNil)
    (sRet (fOr (f2 hEq (fVar 0) (fTup (fCons (fC (.str "grass")) fNil))) (fAnd (f2 hEq (fVar 0) (fTup (fCons (fC (.str "lost")) fNil))) (f2 (hIs false) (fVar 1) (fC .none)))))))))))
theorem ok_law_fits_man {f : Addr} {fd : FuncData} (F : Fun K "_law_fits_man" "_law_fits_man" st_law_fits_man f fd) (T : Txt K mg) (D_law_is_number : DefOk P w K mg base "_law_is_number" 1 (spD K 1 p_law_is_number))
    (hG : ∀ ds d, ds.length = 4 → p_law_fits_man ds = some d → retOf 7 g_law_fits_man ds = some d) : FnOk P w K mg base CX0 2 f fd ["_law_spot", "_law_aim", "_law_pit_here", "_law_made"] (spD K 4 p_law_fits_man) :=
  def_ok (k := 1) (g := g_law_fits_man) F sc_law_fits_man rfl hG fun cdv A outer s H E hr =>
    (dss_cons (ds_if (dt_cmp opd_isnot (de_var (pv 1)) de_non (nomark _))
      (dss_cons (ds_if (dw_or (dt_not (dt_val (de_isi kb_tuple (by rfl) T.nIsi (pe_bltn (by rfl) T.tTuple PyProof.Rows.boot_tuple (by rfl)) (de_var (pv 1))))) (dw_or (dt_cmp (opd_ne hr.units) (de_b1 cd_len (by rfl) T.nLen PySem.boot_len (de_var (pv 1))) de_int (nomark _)) (dw_or1 (dt_not (dt_val (de_b1 (cd_all (by rfl)) (by rfl) T.nAll PyProof.Rows.boot_all (de_lc tgt_name (by rfl) sc_law_fits_man.nd (pi_seq (de_var (pv 1))) (blkOk_by (own := [("_law_own", 6)]) (by show blkC ["_law_spot", "_law_aim", "_law_pit_here", "_law_made", "_law_tail", "_law_least", "_law_own"] (defScope st_law_fits_man) _ _ = true; decide +kernel)) (fun _ _ _ _ _ => (pg_name (i := 6) sc_law_fits_man.nd (by rfl) (Or.inl (by rfl)))) (fun _ _ _ _ _ => dts_nil) (fun _ _ _ _ _ => (de_and (de_call D_law_is_number (hr.mono (show 1 ≤ 1 by decide)) (by rfl) (da_cons (de_var (pv 6)) da_nil)) (de_one (de_cmp opd_ge (de_var (pv 6)) de_int (nomark _)))))))))))).pt
      (dss_one (ds_ret de_bl))
      dss_nil)
      (dss_one (ds_if (dt_cmp opd_gt (de_ix (de_var (pv 1)) de_int) (de_ix (de_var (pv 2)) de_int) (nomark _))
      (dss_one (ds_ret de_bl))
      dss_nil)))
      dss_nil)
      (dss_cons (ds_if (dw_or (dt_not (dt_val (de_isi kb_tuple (by rfl) T.nIsi (pe_bltn (by rfl) T.tTuple PyProof.Rows.boot_tuple (by rfl)) (de_var (pv 0))))) (dw_or (dt_cmp (opd_eq hr.units) (de_var (pv 0)) (de_tup da_nil) (nomark _)) (dw_or1 (dt_not (dt_val (de_isi kb_str (by rfl) T.nIsi (pe_bltn (by rfl) T.tStr PyProof.Rows.boot_str (by rfl)) (de_ix (de_var (pv 0)) de_int))))))).pt
      (dss_one (ds_ret de_bl))
      dss_nil)
      (dss_cons (ds_set (i := 4) sc_law_fits_man.nd (by rfl) (Or.inl (by rfl)) (de_cut (de_var (pv 0)) (do_some de_int) do_none))
      (dss_cons (ds_if (dt_not (dt_val (de_b1 (cd_all (by rfl)) (by rfl) T.nAll PyProof.Rows.boot_all (de_lc tgt_name (by rfl) sc_law_fits_man.nd (pi_seq (de_var (pv 4))) (blkOk_by (own := [("_law_own", 6)]) (by show blkC ["_law_spot", "_law_aim", "_law_pit_here", "_law_made", "_law_tail", "_law_least", "_law_own"] (defScope st_law_fits_man) _ _ = true; decide +kernel)) (fun _ _ _ _ _ => (pg_name (i := 6) sc_law_fits_man.nd (by rfl) (Or.inl (by rfl)))) (fun _ _ _ _ _ => dts_nil) (fun _ _ _ _ _ => (de_call D_law_is_number (hr.mono (show 1 ≤ 1 by decide)) (by rfl) (da_cons (de_var (pv 6)) da_nil)))))))
      (dss_one (ds_ret de_bl))
      dss_nil)
      (dss_cons (ds_if (dt_cmp (opd_eq hr.units) (de_ix (de_var (pv 0)) de_int) de_str (nomark _))
      (dss_cons (ds_if (dw_or (dt_cmp (opd_ne hr.units) (de_b1 cd_len (by rfl) T.nLen PySem.boot_len (de_var (pv 4))) de_int (nomark _)) (dw_or (dt_cmp (opd_notin hr.units) (de_ix (de_var (pv 4)) de_int) (de_tup (da_cons de_int (da_cons de_int da_nil))) (by rfl)) (dw_or1 (dt_cmp opd_is (de_var (pv 1)) de_non (nomark _))))).pt
      (dss_one (ds_ret de_bl))
      dss_nil)
      (dss_cons (ds_set (i := 5) sc_law_fits_man.nd (by rfl) (Or.inl (by rfl)) (de_if (dt_cmp (opd_eq hr.units) (de_ix (de_var (pv 4)) de_int) (de_op opd_mod (de_t1 cd_int (by rfl) T.tInt PyProof.Rows.boot_int (de_var (pv 3))) de_int) (nomark _)) de_int de_int))
      (dss_one (ds_ret (de_chain2 opd_le opd_le (de_var (pv 5)) (de_ix (de_var (pv 4)) de_int) (de_op opd_add (de_op opd_sub (de_ix (de_var (pv 2)) de_int) de_int) (de_var (pv 5))))))))
      dss_nil)
      (dss_cons (ds_if (dt_cmp (opd_eq hr.units) (de_ix (de_var (pv 0)) de_int) de_str (nomark _))
      (dss_one (ds_ret (de_and (de_cmp (opd_eq hr.units) (de_b1 cd_len (by rfl) T.nLen PySem.boot_len (de_var (pv 4))) de_int (nomark _)) (de_one (de_chain2 opd_le opd_le de_int (de_ix (de_var (pv 4)) de_int) (de_ix (de_var (pv 2)) de_int))))))
      dss_nil)
      (dss_one (ds_ret (de_or (de_cmp (opd_eq hr.units) (de_var (pv 0)) (de_tup (da_cons de_str da_nil)) (nomark _)) (de_one (de_and (de_cmp (opd_eq hr.units) (de_var (pv 0)) (de_tup (da_cons de_str da_nil)) (nomark _)) (de_one (de_cmp opd_is (de_var (pv 1)) de_non (nomark _))))))))))))))
abbrev st_law_fits : Stmt := topS 25
theorem sc_law_fits : FnScope ["_law_thing", "_law_pit_here", "_law_made", "_law_men", "_law_aims", "_law_k", "_law_spot", "_law_alike", "_law_own", "_law_aim"] ["_law_thing", "_law_pit_here", "_law_made"] (defScope st_law_fits) := ⟨rfl, rfl, rfl, by decide +kernel, rfl, by decide +kernel, by decide +kernel⟩
abbrev g_law_fits : Ds → Option Out := (sSeq (sIf (bOr (bNot (fB (f1 (hIsi isTup) (fVar 0)))) (bOr (fB (f2 hNe (f1 hLen (fVar 0)) (fC (.int 2)))) (bNot (fB (f1 hAll (fLc (fSeq (fVar 0)) (fun d ρ => ρ.set 8 (some d)) bYes (f1 (hIsi isTup) (fVar 8)) [8])))))) (sRet (fC (.bool false))) sNil)
    (sSeq (sSet2 3 4 (fVar 0))
    (sSeq (sIf (bOr (fB (f2 hNe (f1 hLen (fVar 3)) (f1 hLen (fVar 4)))) (bNot (fB (f1 hAll (fLc (fZip (fVar 3) (fVar 4)) (fun d ρ => (ρ.set 6 (some d.1)).set 9 (some d.2)) bYes (fCall p_law_fits_man (fCons (fVar 6) (fCons (fVar 9) (fCons (fVar 1) (fCons (fVar 2) fNil))))) [6, 9]))))) (sRet (fC (.bool false))) sNil)
    (sSeq (sFor (fEnumT (fVar 3)) (fun d ρ => (ρ.set 5 (some d.1)).set 6 (some d.2)) (sSeq (sSet 7 (f1 hLen (fLc (fSeq (fVar 3)) (fun d ρ => ρ.set 8 (some d)) (fB (f2 hEq (fVar 8) (fVar 6))) (fVar 8) [8])))
    (sIf (bOr (bAnd (fB (f2 hEq (f2 hIx (fVar 6) (fC (.int 0))) (fC (.str "rod")))) (fB (f2 (hII fun i j => .bool (decide (j < i))) (fVar 7) (fC (.int 1))))) (bAnd (fB (f2 hEq (f2 hIx (fVar 6) (fC (.int 0))) (fC (.str "aside")))) (fB (f2 (hII fun i j => .bool (decide (j < i))) (fVar 7) (f2 hIx (f2 hIx (fVar 1) (fC (.int 2))) (f2 hIx (fVar 6) (fC (.int 1)))))))) (sRet (fC (.bool false))) sNil)))
    (sRet (fC (.bool true)))))))
theorem ok_law_fits {f : Addr} {fd : FuncData} (F : Fun K "_law_fits" "_law_fits" st_law_fits f fd) (T : Txt K mg) (D_law_fits_man : DefOk P w K mg base "_law_fits_man" 2 (spD K 4 p_law_fits_man))
    (hG : ∀ ds d, ds.length = 3 → p_law_fits ds = some d → retOf 10 g_law_fits ds = some d) : FnOk P w K mg base CX0 3 f fd ["_law_thing", "_law_pit_here", "_law_made"] (spD K 3 p_law_fits) :=
  def_ok (k := 2) (g := g_law_fits) F sc_law_fits rfl hG fun cdv A outer s H E hr =>
    (dss_cons (ds_if (dw_or (dt_not (dt_val (de_isi kb_tuple (by rfl) T.nIsi (pe_bltn (by rfl) T.tTuple PyProof.Rows.boot_tuple (by rfl)) (de_var (pv 0))))) (dw_or (dt_cmp (opd_ne hr.units) (de_b1 cd_len (by rfl) T.nLen PySem.boot_len (de_var (pv 0))) de_int (nomark _)) (dw_or1 (dt_not (dt_val (de_b1 (cd_all (by rfl)) (by rfl) T.nAll PyProof.Rows.boot_all (de_lc tgt_name (by rfl) sc_law_fits.nd (pi_seq (de_var (pv 0))) (blkOk_by (own := [("_law_own", 8)]) (by show blkC ["_law_thing", "_law_pit_here", "_law_made", "_law_men", "_law_aims", "_law_k", "_law_spot", "_law_alike", "_law_own", "_law_aim"] (defScope st_law_fits) _ _ = true; decide +kernel)) (fun _ _ _ _ _ => (pg_name (i := 8) sc_law_fits.nd (by rfl) (Or.inl (by rfl)))) (fun _ _ _ _ _ => dts_nil) (fun _ _ _ _ _ => (de_isi kb_tuple (by rfl) T.nIsi (pe_bltn (by rfl) T.tTuple PyProof.Rows.boot_tuple (by rfl)) (de_var (pv 8))))))))))).pt
      (dss_one (ds_ret de_bl))
      dss_nil)
      (dss_cons (ds_set2 (de_var (pv 0)) (pg_tup (by rfl) (pgs_cons (pg_name (i := 3) sc_law_fits.nd (by rfl) (Or.inl (by rfl))) (pgs_cons (pg_name (i := 4) sc_law_fits.nd (by rfl) (Or.inl (by rfl))) pgs_nil))))
      (dss_cons (ds_if (dw_or (dt_cmp (opd_ne hr.units) (de_b1 cd_len (by rfl) T.nLen PySem.boot_len (de_var (pv 3))) (de_b1 cd_len (by rfl) T.nLen PySem.boot_len (de_var (pv 4))) (nomark _)) (dw_or1 (dt_not (dt_val (de_b1 (cd_all (by rfl)) (by rfl) T.nAll PyProof.Rows.boot_all (de_lc (tgt_pair (by decide)) (by rfl) sc_law_fits.nd (pi_zipD (by rfl) T.tZip (de_var (pv 3)) (de_var (pv 4))) (blkOk_by (own := [("_law_spot", 6), ("_law_aim", 9)]) (by show blkC ["_law_thing", "_law_pit_here", "_law_made", "_law_men", "_law_aims", "_law_k", "_law_spot", "_law_alike", "_law_own", "_law_aim"] (defScope st_law_fits) _ _ = true; decide +kernel)) (fun _ _ _ _ _ => (pg_tup (by rfl) (pgs_cons (pg_name (i := 6) sc_law_fits.nd (by rfl) (Or.inl (by rfl))) (pgs_cons (pg_name (i := 9) sc_law_fits.nd (by rfl) (Or.inl (by rfl))) pgs_nil)))) (fun _ _ _ _ _ => dts_nil) (fun _ _ _ _ _ => (de_call D_law_fits_man (hr.mono (show 2 ≤ 2 by decide)) (by rfl) (da_cons (de_var (pv 6)) (da_cons (de_var (pv 9)) (da_cons (de_var (pv 1)) (da_cons (de_var (pv 2)) da_nil)))))))))))).pt
      (dss_one (ds_ret de_bl))
      dss_nil)
      (dss_cons (ds_for (tgt_pair (by decide)) PassesOwn.never (by rfl) (pi_enumT (by rfl) T.tEnum (de_var (pv 3))) (pg_tup (by rfl) (pgs_cons (pg_name (i := 5) sc_law_fits.nd (by rfl) (Or.inl (by rfl))) (pgs_cons (pg_name (i := 6) sc_law_fits.nd (by rfl) (Or.inr (by rfl))) pgs_nil)))
      (dss_cons (ds_set (i := 7) sc_law_fits.nd (by rfl) (Or.inl (by rfl)) (de_b1 cd_len (by rfl) T.nLen PySem.boot_len (de_lc tgt_name (by rfl) sc_law_fits.nd (pi_seq (de_var (pv 3))) (blkOk_by (own := [("_law_own", 8)]) (by show blkC ["_law_thing", "_law_pit_here", "_law_made", "_law_men", "_law_aims", "_law_k", "_law_spot", "_law_alike", "_law_own", "_law_aim"] (defScope st_law_fits) _ _ = true; decide +kernel)) (fun _ _ _ _ _ => (pg_name (i := 8) sc_law_fits.nd (by rfl) (Or.inl (by rfl)))) (fun _ _ _ _ _ => (pts_one (dt_cmp (opd_eq hr.units) (de_var (pv 8)) (de_var (pv 6)) (nomark _)))) (fun _ _ _ _ _ => (de_var (pv 8))))))
      (dss_one (ds_if (dw_or (dw_and (dt_cmp (opd_eq hr.units) (de_ix (de_var (pv 6)) de_int) de_str (nomark _)) (dw_and1 (dt_cmp opd_gt (de_var (pv 7)) de_int (nomark _)))).pt (dw_or1 (dw_and (dt_cmp (opd_eq hr.units) (de_ix (de_var (pv 6)) de_int) de_str (nomark _)) (dw_and1 (dt_cmp opd_gt (de_var (pv 7)) (de_ix (de_ix (de_var (pv 1)) de_int) (de_ix (de_var (pv 6)) de_int)) (nomark _)))).pt)).pt
      (dss_one (ds_ret de_bl))
      dss_nil))))
      (dss_one (ds_ret de_bl))))))
abbrev st_law_lists : Stmt := topS 19
theorem sc_law_lists : FnScope ["_law_matter", "_law_own"] ["_law_matter"] (defScope st_law_lists) := ⟨rfl, rfl, rfl, by decide +kernel, rfl, by decide +kernel, by decide +kernel⟩
abbrev g_law_lists (q : List PyData → Option PyData) : Ds → Option Out := (sRet (fIf (fB (f1 (hIsi fun d => isLst d || isTup d) (fVar 0))) (fLc (fSeq (fVar 0)) (fun d ρ => ρ.set 1 (some d)) bYes (fCall q (fCons (fVar 1) fNil)) [1]) (fVar 0)))
theorem ok_law_lists {f : Addr} {fd : FuncData} {p q : List PyData → Option PyData} {n : Nat} (F : Fun K "_law_lists" "_law_lists" st_law_lists f fd) (T : Txt K mg) (D_law_lists : DefOk P w K mg base "_law_lists" n (spD K 1 q))
    (hG : ∀ ds d, ds.length = 1 → p ds = some d → retOf 2 (g_law_lists q) ds = some d) : FnOk P w K mg base CX0 (n + 1) f fd ["_law_matter"] (spD K 1 p) :=
  def_ok (k := n) (g := (g_law_lists q)) F sc_law_lists rfl hG fun cdv A outer s H E hr =>
    (dss_one (ds_ret (de_if (dt_val (de_isi2 kb_list kb_tuple (by rfl) T.nIsi (pe_bltn (by rfl) T.tList PyProof.Rows.boot_list (by rfl)) (pe_bltn (by rfl) T.tTuple PyProof.Rows.boot_tuple (by rfl)) (de_var (pv 0)))) (de_lc tgt_name (by rfl) sc_law_lists.nd (pi_seq (de_var (pv 0))) (blkOk_by (own := [("_law_own", 1)]) (by show blkC ["_law_matter", "_law_own"] (defScope st_law_lists) _ _ = true; decide +kernel)) (fun _ _ _ _ _ => (pg_name (i := 1) sc_law_lists.nd (by rfl) (Or.inl (by rfl)))) (fun _ _ _ _ _ => dts_nil) (fun _ _ _ _ _ => (de_call D_law_lists (hr.mono (Nat.le_refl _)) (by rfl) (da_cons (de_var (pv 1)) da_nil)))) (de_var (pv 0)))))
abbrev st_law_same : Stmt := topS 20
theorem sc_law_same : FnScope ["_law_got", "_law_goal", "_law_mine_so", "_law_own"] ["_law_got", "_law_goal"] (defScope st_law_same) := ⟨rfl, rfl, rfl, by decide +kernel, rfl, by decide +kernel, by decide +kernel⟩
abbrev g_law_same (q : List PyData → Option PyData) : Ds → Option Out := (sSeq (sIf (fB (f1 (hIsi fun d => isLst d || isTup d) (fVar 1))) (sSeq (sIf (bOr (fB (f2 hNe (f1 (hIsi isLst) (fVar 0)) (f1 (hIsi isLst) (fVar 1)))) (fB (f2 hNe (f1 (hIsi isTup) (fVar 0)) (f1 (hIsi isTup) (fVar 1))))) (sRet (fC (.bool false))) sNil)
    (sRet (fAnd (f2 hEq (f1 hLen (fVar 0)) (f1 hLen (fVar 1))) (f1 hAll (fLc (fZip (fVar 0) (fVar 1)) (fun d ρ => (ρ.set 2 (some d.1)).set 3 (some d.2)) bYes (fCall q (fCons (fVar 2) (fCons (fVar 3) fNil))) [2, 3]))))) sNil)
    (sSeq (sIf (bOr (fB (f2 (hIs false) (fVar 1) (fC .none))) (fB (f1 (hIsi fun d => isBoo d || isStr d) (fVar 1)))) (sRet (fAnd (f2 hEq (fVar 0) (fVar 1)) (fAnd (f2 hEq (f1 (hIsi isBoo) (fVar 0)) (f1 (hIsi isBoo) (fVar 1))) (f2 hEq (f2 (hIs false) (fVar 0) (fC .none)) (f2 (hIs false) (fVar 1) (fC .none)))))) sNil)
    (sRet (fAnd (f1 (hIsi isIntB) (fVar 0)) (fAnd (fNot (f1 (hIsi isBoo) (fVar 0))) (f2 hEq (fVar 0) (fVar 1)))))))
theorem ok_law_same {f : Addr} {fd : FuncData} {p q : List PyData → Option PyData} {n : Nat} (F : Fun K "_law_same" "_law_same" st_law_same f fd) (T : Txt K mg) (D_law_same : DefOk P w K mg base "_law_same" n (spD K 2 q))
    (hG : ∀ ds d, ds.length = 2 → p ds = some d → retOf 4 (g_law_same q) ds = some d) : FnOk P w K mg base CX0 (n + 1) f fd ["_law_got", "_law_goal"] (spD K 2 p) :=
  def_ok (k := n) (g := (g_law_same q)) F sc_law_same rfl hG fun cdv A outer s H E hr =>
    (dss_cons (ds_if (dt_val (de_isi2 kb_list kb_tuple (by rfl) T.nIsi (pe_bltn (by rfl) T.tList PyProof.Rows.boot_list (by rfl)) (pe_bltn (by rfl) T.tTuple PyProof.Rows.boot_tuple (by rfl)) (de_var (pv 1))))
      (dss_cons (ds_if (dw_or (dt_cmp (opd_ne hr.units) (de_isi kb_list (by rfl) T.nIsi (pe_bltn (by rfl) T.tList PyProof.Rows.boot_list (by rfl)) (de_var (pv 0))) (de_isi kb_list (by rfl) T.nIsi (pe_bltn (by rfl) T.tList PyProof.Rows.boot_list (by rfl)) (de_var (pv 1))) (nomark _)) (dw_or1 (dt_cmp (opd_ne hr.units) (de_isi kb_tuple (by rfl) T.nIsi (pe_bltn (by rfl) T.tTuple PyProof.Rows.boot_tuple (by rfl)) (de_var (pv 0))) (de_isi kb_tuple (by rfl) T.nIsi (pe_bltn (by rfl) T.tTuple PyProof.Rows.boot_tuple (by rfl)) (de_var (pv 1))) (nomark _)))).pt
      (dss_one (ds_ret de_bl))
      dss_nil)
      (dss_one (ds_ret (de_and (de_cmp (opd_eq hr.units) (de_b1 cd_len (by rfl) T.nLen PySem.boot_len (de_var (pv 0))) (de_b1 cd_len (by rfl) T.nLen PySem.boot_len (de_var (pv 1))) (nomark _)) (de_one (de_b1 (cd_all (by rfl)) (by rfl) T.nAll PyProof.Rows.boot_all (de_lc (tgt_pair (by decide)) (by rfl) sc_law_same.nd (pi_zipD (by rfl) T.tZip (de_var (pv 0)) (de_var (pv 1))) (blkOk_by (own := [("_law_mine_so", 2), ("_law_own", 3)]) (by show blkC ["_law_got", "_law_goal", "_law_mine_so", "_law_own"] (defScope st_law_same) _ _ = true; decide +kernel)) (fun _ _ _ _ _ => (pg_tup (by rfl) (pgs_cons (pg_name (i := 2) sc_law_same.nd (by rfl) (Or.inl (by rfl))) (pgs_cons (pg_name (i := 3) sc_law_same.nd (by rfl) (Or.inl (by rfl))) pgs_nil)))) (fun _ _ _ _ _ => dts_nil) (fun _ _ _ _ _ => (de_call D_law_same (hr.mono (Nat.le_refl _)) (by rfl) (da_cons (de_var (pv 2)) (da_cons (de_var (pv 3)) da_nil)))))))))))
      dss_nil)
      (dss_cons (ds_if (dw_or (dt_cmp opd_is (de_var (pv 1)) de_non (nomark _)) (dw_or1 (dt_val (de_isi2 kb_bool kb_str (by rfl) T.nIsi (pe_bltn (by rfl) T.tBool PyProof.Rows.boot_bool (by rfl)) (pe_bltn (by rfl) T.tStr PyProof.Rows.boot_str (by rfl)) (de_var (pv 1)))))).pt
      (dss_one (ds_ret (de_and (de_cmp (opd_eq hr.units) (de_var (pv 0)) (de_var (pv 1)) (nomark _)) (de_and (de_cmp (opd_eq hr.units) (de_isi kb_bool (by rfl) T.nIsi (pe_bltn (by rfl) T.tBool PyProof.Rows.boot_bool (by rfl)) (de_var (pv 0))) (de_isi kb_bool (by rfl) T.nIsi (pe_bltn (by rfl) T.tBool PyProof.Rows.boot_bool (by rfl)) (de_var (pv 1))) (nomark _)) (de_one (de_cmp (opd_eq hr.units) (de_cmp opd_is (de_var (pv 0)) de_non (nomark _)) (de_cmp opd_is (de_var (pv 1)) de_non (nomark _)) (nomark _)))))))
      dss_nil)
      (dss_one (ds_ret (de_and (de_isi kb_int (by rfl) T.nIsi (pe_bltn (by rfl) T.tInt PyProof.Rows.boot_int (by rfl)) (de_var (pv 0))) (de_and (de_not (de_isi kb_bool (by rfl) T.nIsi (pe_bltn (by rfl) T.tBool PyProof.Rows.boot_bool (by rfl)) (de_var (pv 0)))) (de_one (de_cmp (opd_eq hr.units) (de_var (pv 0)) (de_var (pv 1)) (nomark _)))))))))
abbrev st_law_by_hand_right : Stmt := topS 27
theorem sc_law_by_hand_right : FnScope ["_law_pit_here", "_law_goods", "_law_bads", "_law_own"] [] (defScope st_law_by_hand_right) := ⟨rfl, rfl, rfl, by decide +kernel, rfl, by decide +kernel, by decide +kernel⟩
abbrev g_law_by_hand_right : Ds → Option Out := (sSeq (sSet 0 (fTup (fCons (fC (.int 4)) (fCons (fC (.bool false)) (fCons (fTup (fCons (fC (.int 0)) (fCons (fC (.int 0)) (fCons (fC (.int 0)) (fCons (fC (.int 0)) (fCons (fC (.int 2)) fNil)))))) fNil)))))
    (sSeq (sSet 1 (fLst (fCons (fTup (fCons (f2 hRepT (fTup (fCons (fTup (fCons (fC (.str "aside")) (fCons (fC (.int 4)) fNil))) fNil)) (fC (.int 2))) (fCons (f2 hRepT (fTup (fCons (fC .none) fNil)) (fC (.int 2))) fNil))) (fCons (fTup (fCons (fTup (fCons (fTup (fCons (fC (.str "rod")) (fCons (fC (.int 0)) (fCons (fC (.int 3)) fNil)))) fNil)) (fCons (fTup (fCons (fTup (fCons (fC (.int 3)) (fCons (fC (.int 0)) fNil))) fNil)) fNil))) (fCons (fTup (fCons (fTup fNil) (fCons (fTup fNil) fNil))) fNil)))))
    (sSeq (sSet 2 (fLst (fCons (fTup (fCons (f2 hRepT (fTup (fCons (fTup (fCons (fC (.str "aside")) (fCons (fC (.int 4)) fNil))) fNil)) (fC (.int 3))) (fCons (f2 hRepT (fTup (fCons (fC .none) fNil)) (fC (.int 3))) fNil))) (fCons (fTup (fCons (fTup (fCons (fTup (fCons (fC (.str "rod")) (fCons (fC (.int 0)) (fCons (fC (.int 4)) fNil)))) fNil)) (fCons (fTup (fCons (fTup (fCons (fC (.int 3)) (fCons (fC (.int 0)) fNil))) fNil)) fNil))) (fCons (fTup (fCons (fTup (fCons (fTup (fCons (fC (.str "rod")) (fCons (fC (.int 0)) (fCons (fC (.int 3)) fNil)))) fNil)) (fCons (fTup (fCons (fC .none) fNil)) fNil))) (fCons (fTup (fCons (fTup (fCons (fTup (fCons (fC (.str "lost")) fNil)) fNil)) (fCons (fTup (fCons (fTup (fCons (fC (.int 0)) (fCons (fC (.int 0)) fNil))) fNil)) fNil))) (fCons (fTup (fCons (f2 hRepT (fTup (fCons (fTup (fCons (fC (.str "rod")) (fCons (fC (.int 0)) (fCons (fC (.int 3)) fNil)))) fNil)) (fC (.int 2))) (fCons (f2 hRepT (fTup (fCons (fTup (fCons (fC (.int 0)) (fCons (fC (.int 0)) fNil))) fNil)) (fC (.int 2))) fNil))) fNil)))))))
    (sRet (fCall (p_law_same 2) (fCons (fLst (fCons (fLc (fSeq (fVar 1)) (fun d ρ => ρ.set 3 (some d)) bYes (fCall p_is_crowd (fCons (fVar 3) (fCons (fVar 0) (fCons (fC (.int 2)) fNil)))) [3]) (fCons (fLc (fSeq (fVar 2)) (fun d ρ => ρ.set 3 (some d)) bYes (fCall p_is_crowd (fCons (fVar 3) (fCons (fVar 0) (fCons (fC (.int 2)) fNil)))) [3]) fNil))) (fCons (fLst (fCons (f2 hRepL (fLst (fCons (fC (.bool true)) fNil)) (fC (.int 3))) (fCons (f2 hRepL (fLst (fCons (fC (.bool false)) fNil)) (fC (.int 5))) fNil))) fNil)))))))
theorem ok_law_by_hand_right {f : Addr} {fd : FuncData} (F : Fun K "_law_by_hand_right" "_law_by_hand_right" st_law_by_hand_right f fd) (T : Txt K mg) (D_law_same : DefOk P w K mg base "_law_same" 4 (spD K 2 (p_law_same 2))) (D_is_crowd : DefOk P w K mg base "is_crowd" 4 (spD K 3 p_is_crowd))
    (hG : ∀ ds d, ds.length = 0 → p_law_by_hand_right ds = some d → retOf 4 g_law_by_hand_right ds = some d) : FnOk P w K mg base CX0 5 f fd [] (spD K 0 p_law_by_hand_right) :=
  def_ok (k := 4) (g := g_law_by_hand_right) F sc_law_by_hand_right rfl hG fun cdv A outer s H E hr =>
    (dss_cons (ds_set (i := 0) sc_law_by_hand_right.nd (by rfl) (Or.inr (by rfl)) (de_tup (da_cons de_int (da_cons de_bl (da_cons (de_tup (da_cons de_int (da_cons de_int (da_cons de_int (da_cons de_int (da_cons de_int da_nil)))))) da_nil)))))
      (dss_cons (ds_set (i := 1) sc_law_by_hand_right.nd (by rfl) (Or.inl (by rfl)) (de_lst (da_cons (de_tup (da_cons (de_op opd_rept (de_tup (da_cons (de_tup (da_cons de_str (da_cons de_int da_nil))) da_nil)) de_int) (da_cons (de_op opd_rept (de_tup (da_cons de_non da_nil)) de_int) da_nil))) (da_cons (de_tup (da_cons (de_tup (da_cons (de_tup (da_cons de_str (da_cons de_int (da_cons de_int da_nil)))) da_nil)) (da_cons (de_tup (da_cons (de_tup (da_cons de_int (da_cons de_int da_nil))) da_nil)) da_nil))) (da_cons (de_tup (da_cons (de_tup da_nil) (da_cons (de_tup da_nil) da_nil))) da_nil)))))
      (dss_cons (ds_set (i := 2) sc_law_by_hand_right.nd (by rfl) (Or.inl (by rfl)) (de_lst (da_cons (de_tup (da_cons (de_op opd_rept (de_tup (da_cons (de_tup (da_cons de_str (da_cons de_int da_nil))) da_nil)) de_int) (da_cons (de_op opd_rept (de_tup (da_cons de_non da_nil)) de_int) da_nil))) (da_cons (de_tup (da_cons (de_tup (da_cons (de_tup (da_cons de_str (da_cons de_int (da_cons de_int da_nil)))) da_nil)) (da_cons (de_tup (da_cons (de_tup (da_cons de_int (da_cons de_int da_nil))) da_nil)) da_nil))) (da_cons (de_tup (da_cons (de_tup (da_cons (de_tup (da_cons de_str (da_cons de_int (da_cons de_int da_nil)))) da_nil)) (da_cons (de_tup (da_cons de_non da_nil)) da_nil))) (da_cons (de_tup (da_cons (de_tup (da_cons (de_tup (da_cons de_str da_nil)) da_nil)) (da_cons (de_tup (da_cons (de_tup (da_cons de_int (da_cons de_int da_nil))) da_nil)) da_nil))) (da_cons (de_tup (da_cons (de_op opd_rept (de_tup (da_cons (de_tup (da_cons de_str (da_cons de_int (da_cons de_int da_nil)))) da_nil)) de_int) (da_cons (de_op opd_rept (de_tup (da_cons (de_tup (da_cons de_int (da_cons de_int da_nil))) da_nil)) de_int) da_nil))) da_nil)))))))
      (dss_one (ds_ret (de_call D_law_same (hr.mono (show 4 ≤ 4 by decide)) (by rfl) (da_cons (de_lst (da_cons (de_lc tgt_name (by rfl) sc_law_by_hand_right.nd (pi_seq (de_var (pv 1))) (blkOk_by (own := [("_law_own", 3)]) (by show blkC ["_law_pit_here", "_law_goods", "_law_bads", "_law_own"] (defScope st_law_by_hand_right) _ _ = true; decide +kernel)) (fun _ _ _ _ _ => (pg_name (i := 3) sc_law_by_hand_right.nd (by rfl) (Or.inl (by rfl)))) (fun _ _ _ _ _ => dts_nil) (fun _ _ _ _ _ => (de_call D_is_crowd (hr.mono (show 4 ≤ 4 by decide)) (by rfl) (da_cons (de_var (pv 3)) (da_cons (de_var (pv 0)) (da_cons de_int da_nil)))))) (da_cons (de_lc tgt_name (by rfl) sc_law_by_hand_right.nd (pi_seq (de_var (pv 2))) (blkOk_by (own := [("_law_own", 3)]) (by show blkC ["_law_pit_here", "_law_goods", "_law_bads", "_law_own"] (defScope st_law_by_hand_right) _ _ = true; decide +kernel)) (fun _ _ _ _ _ => (pg_name (i := 3) sc_law_by_hand_right.nd (by rfl) (Or.inl (by rfl)))) (fun _ _ _ _ _ => dts_nil) (fun _ _ _ _ _ => (de_call D_is_crowd (hr.mono (show 4 ≤ 4 by decide)) (by rfl) (da_cons (de_var (pv 3)) (da_cons (de_var (pv 0)) (da_cons de_int da_nil)))))) da_nil))) (da_cons (de_lst (da_cons (de_op opd_repl (de_lst (da_cons de_bl da_nil)) de_int) (da_cons (de_op opd_repl (de_lst (da_cons de_bl da_nil)) de_int) da_nil))) da_nil))))))))
end
end Cr
namespace Cr
open PySem PySem.Spec PyProof.Rows L2
theorem eqv_tt (xs ys : List PyData) : PyData.eqv (.tuple xs) (.tuple ys) = PyData.eqvAll xs ys := by rw [PyData.eqv]
theorem eqv_cc (x y : PyData) (xs ys : List PyData) : PyData.eqvAll (x :: xs) (y :: ys) = (PyData.eqv x y && PyData.eqvAll xs ys) := by rw [PyData.eqvAll]
theorem eqv_nn : PyData.eqvAll [] [] = true := by rw [PyData.eqvAll]
theorem eqv_cn (x : PyData) (xs : List PyData) : PyData.eqvAll (x :: xs) [] = false := by rw [PyData.eqvAll]
theorem eqv_nc (x : PyData) (xs : List PyData) : PyData.eqvAll [] (x :: xs) = false := by rw [PyData.eqvAll]
theorem ixt0 (a : PyData) (r : List PyData) : hIx (.tuple (a :: r)) (.int 0) = some a := by
  show atI (a :: r) 0 = some a
  unfold atI ixN
  rw [if_pos (by omega), if_pos (by simp only [List.length_cons]; omega)]
  rfl
theorem ixt1 (a b : PyData) (r : List PyData) : hIx (.tuple (a :: b :: r)) (.int 1) = some b := by
  show atI (a :: b :: r) 1 = some b
  unfold atI ixN
  rw [if_pos (by omega), if_pos (by simp only [List.length_cons]; omega)]
  rfl
theorem ixt2 (a b c : PyData) (r : List PyData) : hIx (.tuple (a :: b :: c :: r)) (.int 2) = some c := by
  show atI (a :: b :: c :: r) 2 = some c
  unfold atI ixN
  rw [if_pos (by omega), if_pos (by simp only [List.length_cons]; omega)]
  rfl

theorem hG_is_number : ∀ ds d, ds.length = 1 → p_is_number ds = some d → retOf 1 g_is_number ds = some d := by
  intro ds d hl h
  unfold p_is_number at h
  split at h
  · rename_i x
    cases h
    cases x <;> rfl
  · cases h
theorem hG_law_is_number : ∀ ds d, ds.length = 1 → p_law_is_number ds = some d → retOf 1 g_law_is_number ds = some d := by
  intro ds d hl h
  unfold p_law_is_number at h
  split at h
  · rename_i x
    cases h
    cases x <;> rfl
  · cases h
theorem hG_rising_rod : ∀ ds d, ds.length = 1 → p_rising_rod ds = some d → retOf 1 g_rising_rod ds = some d := by
  intro ds d hl h
  unfold p_rising_rod at h
  split at h
  · cases h; rfl
  · cases h
theorem hG_is_tuple_of : ∀ ds d, ds.length = 2 → p_is_tuple_of ds = some d → retOf 2 g_is_tuple_of ds = some d := by
  intro ds d hl h
  unfold p_is_tuple_of at h
  split at h
  · rename_i x n
    cases h
    cases x <;> rfl
  · cases h
theorem hG_is_from : ∀ ds d, ds.length = 3 → p_is_from ds = some d → retOf 3 g_is_from ds = some d := by
  intro ds d hl h
  unfold p_is_from at h
  split at h
  · rename_i x lo
    cases h
    cases x <;> first | rfl | skip
    rename_i i
    show retOf 3 g_is_from [.int i, .int lo, .none] = some (.bool (decide (lo ≤ i)))
    by_cases c : lo ≤ i <;> simp [retOf, sRet, sSet, sSet2, sIf, sNil, sSeq, fVar, fC, fNil, fCons, fTup, fLst, f1, f2, fB, fAnd, fOr, fNot, fIf, bAnd, bOr, bNot, fChain, fCall, fStar, starOf, asB, hII, hIs, hIsi, ixt0, ixt1, ixt2, hLen, hEq, hNe, hInt, hMod, isTup, isLst, isBoo, isStr, isIntB, isNone, p_is_number, isNum, c]
  · rename_i x lo hi
    cases h
    cases x <;> first | rfl | skip
    rename_i i
    show retOf 3 g_is_from [.int i, .int lo, .int hi] = some (.bool (decide (lo ≤ i) && decide (i ≤ hi)))
    by_cases c : lo ≤ i <;> simp [retOf, sRet, sSet, sSet2, sIf, sNil, sSeq, fVar, fC, fNil, fCons, fTup, fLst, f1, f2, fB, fAnd, fOr, fNot, fIf, bAnd, bOr, bNot, fChain, fCall, fStar, starOf, asB, hII, hIs, hIsi, ixt0, ixt1, ixt2, hLen, hEq, hNe, hInt, hMod, isTup, isLst, isBoo, isStr, isIntB, isNone, p_is_number, isNum, c]
  · cases h
/-! ### pits -/
theorem pit_parts {sh : PyData} {n : Int} {rs : List PyData} (h : pitD sh = some (n, rs)) : hIx sh (.int 0) = some (.int n) ∧
    (∃ r, hIx sh (.int 2) = some r ∧ ∀ (i : Nat) (d : PyData), rs[i]? = some d → hIx r (.int i) = some d) ∧ 0 ≤ n ∧ n ≤ 100 ∧ rs.length = n.toNat + 1 ∧ rs.all (geB 0) = true := by
  have at_ : ∀ {rs : List PyData} {i : Nat} {d : PyData}, rs[i]? = some d → atI rs (i : Int) = some d := fun {rs i d} e => by
    obtain ⟨hi, _⟩ := List.getElem?_eq_some_iff.mp e
    unfold atI ixN
    rw [if_pos (by omega), if_pos (by omega)]
    exact e
  unfold pitD at h
  split at h
  · split at h
    · rename_i c
      cases h
      exact ⟨rfl, ⟨_, rfl, fun i d e => at_ e⟩, c.1, c.2.1, c.2.2.1, c.2.2.2⟩
    · cases h
  · split at h
    · rename_i c
      cases h
      exact ⟨rfl, ⟨_, rfl, fun i d e => at_ e⟩, c.1, c.2.1, c.2.2.1, c.2.2.2⟩
    · cases h
  · cases h
theorem shal_gl : shal (.tuple [.tuple [.str "grass"], .tuple [.str "lost"]]) = true := by decide +kernel
theorem shal_str (x : Str) : shal (.str x) = true := by unfold shal; simp [PyData.depth]
theorem shal_int (x : Int) : shal (.int x) = true := by unfold shal; simp [PyData.depth]
theorem shal_bool (x : Bool) : shal (.bool x) = true := by unfold shal; simp [PyData.depth]
theorem shal_lost : shal (.tuple [.str "lost"]) = true := by decide +kernel
theorem shal_grass : shal (.tuple [.str "grass"]) = true := by decide +kernel
theorem shal_nil : shal (.tuple []) = true := by decide +kernel
theorem hG_is_place : ∀ ds d, ds.length = 3 → p_is_place ds = some d → retOf 4 g_is_place ds = some d := by
  intro ds d hl h
  unfold p_is_place at h
  split at h
  · rename_i t sh made
    obtain ⟨⟨n, rs⟩, hp, e⟩ := Option.map_eq_some_iff.mp h
    subst e
    obtain ⟨h0, _⟩ := pit_parts hp
    have s1 := shal_gl
    cases t with
    | tuple ds =>
      rcases ds with _ | ⟨a, _ | ⟨x, _ | ⟨y, _ | ⟨z, r⟩⟩⟩⟩
      · simp [retOf, sRet, sSet, sSet2, sIf, sNil, sSeq, fVar, fC, fNil, fCons, fTup, fLst, f1, f2, fB, fAnd, fOr, fNot, fIf, bAnd, bOr, bNot, fChain, fCall, fStar, starOf, asB, hII, hIs, hIsi, ixt0, ixt1, ixt2, hLen, hEq, hNe, hInt, hMod, isTup, isLst, isBoo, isStr, isIntB, isNone, hIn, s1, eqv_tt, eqv_cc, eqv_nn, eqv_cn, eqv_nc, p_is_tuple_of, tupN, placeB]
      · by_cases c : PyData.eqv (.str "grass") a = true <;> by_cases c2 : PyData.eqv (.str "lost") a = true <;> simp [retOf, sRet, sSet, sSet2, sIf, sNil, sSeq, fVar, fC, fNil, fCons, fTup, fLst, f1, f2, fB, fAnd, fOr, fNot, fIf, bAnd, bOr, bNot, fChain, fCall, fStar, starOf, asB, hII, hIs, hIsi, ixt0, ixt1, ixt2, hLen, hEq, hNe, hInt, hMod, isTup, isLst, isBoo, isStr, isIntB, isNone, hIn, s1, eqv_tt, eqv_cc, eqv_nn, eqv_cn, eqv_nc, p_is_tuple_of, tupN, placeB, dGrass, dLost, c, c2]
      · by_cases c : PyData.eqv a (.str "aside") = true <;> simp [retOf, sRet, sSet, sSet2, sIf, sNil, sSeq, fVar, fC, fNil, fCons, fTup, fLst, f1, f2, fB, fAnd, fOr, fNot, fIf, bAnd, bOr, bNot, fChain, fCall, fStar, starOf, asB, hII, hIs, hIsi, ixt0, ixt1, ixt2, hLen, hEq, hNe, hInt, hMod, isTup, isLst, isBoo, isStr, isIntB, isNone, hIn, s1, eqv_tt, eqv_cc, eqv_nn, eqv_cn, eqv_nc, p_is_tuple_of, tupN, placeB, h0, p_is_from, shal_str, c, isS]
      · by_cases c : PyData.eqv a (.str "rod") = true <;> by_cases c2 : inB 0 1 x = true <;> by_cases c3 : PyData.eqv x (.int (1 - made % 2)) = true <;>
          simp [retOf, sRet, sSet, sSet2, sIf, sNil, sSeq, fVar, fC, fNil, fCons, fTup, fLst, f1, f2, fB, fAnd, fOr, fNot, fIf, bAnd, bOr, bNot, fChain, fCall, fStar, starOf, asB, hII, hIs, hIsi, ixt0, ixt1, ixt2, hLen, hEq, hNe, hInt, hMod, isTup, isLst, isBoo, isStr, isIntB, isNone, hIn, s1, eqv_tt, eqv_cc, eqv_nn, eqv_cn, eqv_nc, p_is_tuple_of, tupN, placeB, h0, p_is_from, p_rising_rod, shal_str, shal_int, c, c2, c3, isS, leastD]
      · have t2 : tupN 2 (.tuple (a :: x :: y :: z :: r)) = false := by unfold tupN; exact decide_eq_false (by simp only [List.length_cons]; omega)
        have t3 : tupN 3 (.tuple (a :: x :: y :: z :: r)) = false := by unfold tupN; exact decide_eq_false (by simp only [List.length_cons]; omega)
        simp [retOf, sRet, sSet, sSet2, sIf, sNil, sSeq, fVar, fC, fNil, fCons, fTup, fLst, f1, f2, fB, fAnd, fOr, fNot, fIf, bAnd, bOr, bNot, fChain, fCall, fStar, starOf, asB, hII, hIs, hIsi, ixt0, ixt1, ixt2, hLen, hEq, hNe, hInt, hMod, isTup, isLst, isBoo, isStr, isIntB, isNone, hIn, s1, eqv_tt, eqv_cc, eqv_nn, eqv_cn, eqv_nc, p_is_tuple_of, t2, t3, placeB, h0]
    | _ => rfl
  · cases h
theorem hG_is_aim : ∀ ds d, ds.length = 2 → p_is_aim ds = some d → retOf 2 g_is_aim ds = some d := by
  intro ds d hl h
  unfold p_is_aim at h
  split at h
  · rename_i t sh
    obtain ⟨⟨n, rs⟩, hp, e⟩ := Option.map_eq_some_iff.mp h
    subst e
    obtain ⟨h0, _⟩ := pit_parts hp
    cases t with
    | tuple ds =>
      rcases ds with _ | ⟨a, _ | ⟨x, _ | ⟨y, r⟩⟩⟩
      · rfl
      · rfl
      · by_cases c : inB 0 n a = true <;> simp [retOf, sRet, sSet, sSet2, sIf, sNil, sSeq, fVar, fC, fNil, fCons, fTup, fLst, f1, f2, fB, fAnd, fOr, fNot, fIf, bAnd, bOr, bNot, fChain, fCall, fStar, starOf, asB, hII, hIs, hIsi, ixt0, ixt1, ixt2, hLen, hEq, hNe, hInt, hMod, isTup, isLst, isBoo, isStr, isIntB, isNone, p_is_tuple_of, tupN, p_is_from, aimB, h0, c]
      · have t2 : tupN 2 (.tuple (a :: x :: y :: r)) = false := by unfold tupN; exact decide_eq_false (by simp only [List.length_cons]; omega)
        simp [retOf, sRet, sSet, sSet2, sIf, sNil, sSeq, fVar, fC, fNil, fCons, fTup, fLst, f1, f2, fB, fAnd, fOr, fNot, fIf, bAnd, bOr, bNot, fChain, fCall, fStar, starOf, asB, hII, hIs, hIsi, ixt0, ixt1, ixt2, hLen, hEq, hNe, hInt, hMod, isTup, isLst, isBoo, isStr, isIntB, isNone, p_is_tuple_of, t2, aimB, h0]
    | _ => rfl
  · cases h
theorem hG_fits_aim : ∀ ds d, ds.length = 2 → p_fits_aim ds = some d → retOf 2 g_fits_aim ds = some d := by
  intro ds d hl h
  unfold p_fits_aim at h
  split at h
  · rename_i a r aim
    cases h
    have s1 := shal_lost
    by_cases c : PyData.eqv (.tuple (a :: r)) (.tuple [.str "lost"]) = true <;> by_cases c2 : PyData.eqv a (.str "rod") = true <;>
      simp [retOf, sRet, sSet, sSet2, sIf, sNil, sSeq, fVar, fC, fNil, fCons, fTup, fLst, f1, f2, fB, fAnd, fOr, fNot, fIf, bAnd, bOr, bNot, fChain, fCall, fStar, starOf, asB, hII, hIs, hIsi, ixt0, ixt1, ixt2, hLen, hEq, hNe, hInt, hMod, isTup, isLst, isBoo, isStr, isIntB, isNone, shal_str, s1, fitsB, dLost, headD, isS, c, c2]
  · cases h
/-! ### comprehensions -/
theorem lcGo_map {α : Type} {u : α → Ds → Ds} {k : F} {ρ : Ds} {h : α → PyData} : ∀ {ds : List α}, (∀ d ∈ ds, k (u d ρ) = some (h d)) → lcGo u bYes k ρ ds = some (ds.map h)
  | [], _ => rfl
  | d :: ds, e => by
    have e1 := e d List.mem_cons_self
    have e2 := lcGo_map (ds := ds) fun x hx => e x (List.mem_cons_of_mem _ hx)
    show ((some true).bind fun b => if b then (k (u d ρ)).bind fun r => (lcGo u bYes k ρ ds).bind fun rs => some (r :: rs) else lcGo u bYes k ρ ds) = _
    rw [Option.bind_some, if_pos rfl, e1, e2]
    rfl
theorem lcGo_filter {α : Type} {u : α → Ds → Ds} {t : Ds → Option Bool} {k : F} {ρ : Ds} {p : α → Bool} {h : α → PyData} : ∀ {ds : List α}, (∀ d ∈ ds, t (u d ρ) = some (p d)) → (∀ d ∈ ds, k (u d ρ) = some (h d)) → lcGo u t k ρ ds = some ((ds.filter p).map h)
  | [], _, _ => rfl
  | d :: ds, e, e2 => by
    have e3 := lcGo_filter (ds := ds) (fun x hx => e x (List.mem_cons_of_mem _ hx)) fun x hx => e2 x (List.mem_cons_of_mem _ hx)
    show ((t (u d ρ)).bind fun b => if b then (k (u d ρ)).bind fun r => (lcGo u t k ρ ds).bind fun rs => some (r :: rs) else lcGo u t k ρ ds) = _
    rw [e d List.mem_cons_self, Option.bind_some, e3, e2 d List.mem_cons_self, List.filter_cons]
    cases p d <;> rfl
theorem lcGo_mapO {α : Type} {u : α → Ds → Ds} {k : F} {ρ : Ds} : ∀ {ds : List α}, lcGo u bYes k ρ ds = mapO (fun d => k (u d ρ)) ds
  | [] => rfl
  | d :: ds => by
    show ((some true).bind fun b => if b then (k (u d ρ)).bind fun r => (lcGo u bYes k ρ ds).bind fun rs => some (r :: rs) else lcGo u bYes k ρ ds) = _
    rw [Option.bind_some, if_pos rfl, lcGo_mapO]
    rfl
theorem hAll_map {α : Type} (q : α → Bool) : ∀ ds : List α, allB (ds.map fun d => .bool (q d)) = some (ds.all q)
  | [] => rfl
  | d :: ds => by
    show (asB (.bool (q d))).bind (fun b => (allB (ds.map fun d => .bool (q d))).bind fun c => some (b && c)) = _
    rw [hAll_map q ds]
    rfl
theorem hAll_of {α : Type} (q : α → Bool) (ds : List α) : hAll (.list (ds.map fun d => .bool (q d))) = some (.bool (ds.all q)) := by
  show (allB _).map PyData.bool = _
  rw [hAll_map]
  rfl
theorem fLc_map {α : Type} {f : Ds → Option (List α)} {u : α → Ds → Ds} {k : F} {vs : List Nat} {ρ : Ds} {ds : List α} {h : α → PyData} (e : f ρ = some ds) (hk : ∀ d ∈ ds, k (u d (wipeD ρ vs)) = some (h d)) : fLc f u bYes k vs ρ = some (.list (ds.map h)) := by
  unfold fLc
  rw [e, Option.bind_some, lcGo_map hk]
  rfl
theorem fLc_all {α : Type} {f : Ds → Option (List α)} {u : α → Ds → Ds} {k : F} {vs : List Nat} {ρ : Ds} {ds : List α} {q : α → Bool} (e : f ρ = some ds) (hk : ∀ d ∈ ds, k (u d (wipeD ρ vs)) = some (.bool (q d))) : f1 hAll (fLc f u bYes k vs) ρ = some (.bool (ds.all q)) := by
  show (fLc f u bYes k vs ρ).bind hAll = _
  rw [fLc_map e hk]
  exact hAll_of q ds
theorem fLc_filter {α : Type} {f : Ds → Option (List α)} {u : α → Ds → Ds} {t : Ds → Option Bool} {k : F} {vs : List Nat} {ρ : Ds} {ds : List α} {p : α → Bool} {h : α → PyData} (e : f ρ = some ds) (ht : ∀ d ∈ ds, t (u d (wipeD ρ vs)) = some (p d)) (hk : ∀ d ∈ ds, k (u d (wipeD ρ vs)) = some (h d)) : fLc f u t k vs ρ = some (.list ((ds.filter p).map h)) := by
  unfold fLc
  rw [e, Option.bind_some, lcGo_filter ht hk]
  rfl
theorem hG_law_lists0 : ∀ ds d, ds.length = 1 → p_law_lists 0 ds = some d → retOf 2 (g_law_lists fun _ => Option.none) ds = some d := by
  intro ds d hl h
  unfold p_law_lists at h
  split at h
  · rename_i x
    cases x with
    | tuple ds =>
      unfold listsD at h
      split at h
      · rename_i e; subst e; cases h; rfl
      · cases h
    | list ds =>
      unfold listsD at h
      split at h
      · rename_i e; subst e; cases h; rfl
      · cases h
    | _ => cases h; rfl
  · cases h
theorem hG_law_lists (n : Nat) : ∀ ds d, ds.length = 1 → p_law_lists (n + 1) ds = some d → retOf 2 (g_law_lists (p_law_lists n)) ds = some d := by
  intro ds d hl h
  unfold p_law_lists at h
  split at h
  · rename_i x
    cases x with
    | tuple ds =>
      unfold listsD at h
      show ((((lcGo (fun d ρ => List.set ρ 1 (some d)) bYes (fCall (p_law_lists n) (fCons (fVar 1) fNil)) [some (.tuple ds), none] ds).bind fun rs => some (.list rs)).bind fun d => some (Out.rt d)).bind _) = _
      rw [lcGo_mapO]
      have e : (fun d => fCall (p_law_lists n) (fCons (fVar 1) fNil) (List.set [some (.tuple ds), none] 1 (some d))) = listsD n := rfl
      rw [e]
      obtain ⟨rs, e1, e2⟩ := Option.map_eq_some_iff.mp h
      rw [e1]
      cases e2
      rfl
    | list ds =>
      unfold listsD at h
      show ((((lcGo (fun d ρ => List.set ρ 1 (some d)) bYes (fCall (p_law_lists n) (fCons (fVar 1) fNil)) [some (.list ds), none] ds).bind fun rs => some (.list rs)).bind fun d => some (Out.rt d)).bind _) = _
      rw [lcGo_mapO]
      have e : (fun d => fCall (p_law_lists n) (fCons (fVar 1) fNil) (List.set [some (.list ds), none] 1 (some d))) = listsD n := rfl
      rw [e]
      obtain ⟨rs, e1, e2⟩ := Option.map_eq_some_iff.mp h
      rw [e1]
      cases e2
      rfl
    | _ => cases h; rfl
  · cases h
end Cr
namespace Cr
open PySem PySem.Spec PyProof.Rows L2

/-! ### the functions at their arguments -/
section
variable {ρ ρ' : Ds} {a b : Ds → Option Out} {c fb gb : Ds → Option Bool} {f g : F} {d e : PyData} {x y : Bool}
theorem sSeq_nx (h : a ρ = some (.nx ρ')) : sSeq a b ρ = b ρ' := by
  show (a ρ).bind _ = _
  rw [h]; rfl
theorem sSeq_rt (h : a ρ = some (.rt d)) : sSeq a b ρ = some (.rt d) := by
  show (a ρ).bind _ = _
  rw [h]; rfl
theorem sIf_t (h : c ρ = some true) : sIf c a b ρ = a ρ := by
  show (c ρ).bind _ = _
  rw [h]; rfl
theorem sIf_f (h : c ρ = some false) : sIf c a b ρ = b ρ := by
  show (c ρ).bind _ = _
  rw [h]; rfl
/-- if c: return False -/
theorem sIf_no (h : c ρ = some true) (hd : sRet f ρ = some (.rt d)) : sSeq (sIf c (sRet f) b) a ρ = some (.rt d) := sSeq_rt (by rw [sIf_t h]; exact hd)
theorem sIf_go (h : c ρ = some false) : sSeq (sIf c b sNil) a ρ = a ρ := sSeq_nx (by rw [sIf_f h]; rfl)
theorem sRet_v (h : f ρ = some d) : sRet f ρ = some (.rt d) := by
  show (f ρ).bind _ = _
  rw [h]; rfl
theorem sSet_v {i : Nat} (h : f ρ = some d) : sSet i f ρ = some (.nx (ρ.set i (some d))) := by
  show (f ρ).bind _ = _
  rw [h]; rfl
theorem bOr_v (h : fb ρ = some x) (h2 : gb ρ = some y) : bOr fb gb ρ = some (x || y) := by
  show (fb ρ).bind _ = _
  rw [h, Option.bind_some]
  cases x
  · rw [if_neg Bool.false_ne_true, h2]; rfl
  · rfl
theorem bOr_t (h : fb ρ = some true) : bOr fb gb ρ = some true := by
  show (fb ρ).bind _ = _
  rw [h]; rfl
theorem bOr_f (h : fb ρ = some false) : bOr fb gb ρ = gb ρ := by
  show (fb ρ).bind _ = _
  rw [h]; rfl
theorem bAnd_t (h : fb ρ = some true) : bAnd fb gb ρ = gb ρ := by
  show (fb ρ).bind _ = _
  rw [h]; rfl
theorem bAnd_f (h : fb ρ = some false) : bAnd fb gb ρ = some false := by
  show (fb ρ).bind _ = _
  rw [h]; rfl
theorem bNot_v (h : fb ρ = some x) : bNot fb ρ = some (!x) := by
  show (fb ρ).bind _ = _
  rw [h]; rfl
theorem fB_v (h : f ρ = some (.bool x)) : fB f ρ = some x := by
  show (f ρ).bind _ = _
  rw [h]; rfl
theorem f1_v {k : PyData → Option PyData} (h : f ρ = some d) : f1 k f ρ = k d := by
  show (f ρ).bind _ = _
  rw [h]; rfl
theorem f2_v {k : PyData → PyData → Option PyData} (h : f ρ = some d) (h2 : g ρ = some e) : f2 k f g ρ = k d e := by
  show (f ρ).bind _ = _
  rw [h, Option.bind_some, h2]; rfl
theorem fAnd_t (h : f ρ = some (.bool true)) : fAnd f g ρ = g ρ := by
  show (f ρ).bind _ = _
  rw [h]; rfl
theorem fAnd_f (h : f ρ = some (.bool false)) : fAnd f g ρ = some (.bool false) := by
  show (f ρ).bind _ = _
  rw [h]; rfl
theorem fAnd_v (h : f ρ = some (.bool x)) (h2 : g ρ = some (.bool y)) : fAnd f g ρ = some (.bool (x && y)) := by
  cases x
  · rw [fAnd_f h]; rfl
  · rw [fAnd_t h, h2]; rfl
theorem fOr_t (h : f ρ = some (.bool true)) : fOr f g ρ = some (.bool true) := by
  show (f ρ).bind _ = _
  rw [h]; rfl
theorem fOr_f (h : f ρ = some (.bool false)) : fOr f g ρ = g ρ := by
  show (f ρ).bind _ = _
  rw [h]; rfl
theorem fCall_v {G : List PyData → Option PyData} {ga : Ds → Option (List PyData)} {ds : List PyData} (h : ga ρ = some ds) : fCall G ga ρ = G ds := by
  show (ga ρ).bind _ = _
  rw [h]; rfl
theorem fCons_v {ga : Ds → Option (List PyData)} {ds : List PyData} (h : f ρ = some d) (h2 : ga ρ = some ds) : fCons f ga ρ = some (d :: ds) := by
  show (f ρ).bind _ = _
  rw [h, Option.bind_some, h2]; rfl
theorem fIf_t (h : fb ρ = some true) : fIf fb f g ρ = f ρ := by
  show (fb ρ).bind _ = _
  rw [h]; rfl
theorem fIf_f (h : fb ρ = some false) : fIf fb f g ρ = g ρ := by
  show (fb ρ).bind _ = _
  rw [h]; rfl
theorem retOf_v {m : Nat} {G : Ds → Option Out} {ds : List PyData} (h : G (ds.map some ++ List.replicate (m - ds.length) none) = some (.rt d)) : retOf m G ds = some d := by
  unfold retOf
  rw [h]; rfl
theorem hEq_v (h : (shal d || shal e) = true) : hEq d e = some (.bool (PyData.eqv d e)) := if_pos h
theorem hNe_v (h : (shal d || shal e) = true) : hNe d e = some (.bool (!PyData.eqv d e)) := if_pos h
end

/-! ### _law_same -/
theorem hG_law_same_b {q : List PyData → Option PyData} {a b : PyData} {d : PyData} (x : Bool) (ha : a = .bool x) (hb : b = .bool x) (h : some (PyData.bool true) = some d) : retOf 4 (g_law_same q) [a, b] = some d := by
  subst ha hb
  cases h
  cases x <;> rfl
theorem hG_law_same0 : ∀ ds d, ds.length = 2 → p_law_same 0 ds = some d → retOf 4 (g_law_same fun _ => Option.none) ds = some d := by
  intro ds d hl h
  unfold p_law_same at h
  split at h
  · rename_i a b
    split at h
    · rename_i c
      cases a <;> cases b <;> simp only [btEq, Bool.false_eq_true] at c
      exact hG_law_same_b _ rfl (by rw [eq_of_beq c]) h
    · cases h
  · cases h
theorem hG_law_same (n : Nat) : ∀ ds d, ds.length = 2 → p_law_same (n + 1) ds = some d → retOf 4 (g_law_same (p_law_same n)) ds = some d := by
  intro ds d hl h
  unfold p_law_same at h
  split at h
  · rename_i a b
    split at h
    · rename_i c
      cases a <;> cases b <;> simp only [btEq, Bool.false_eq_true] at c
      · exact hG_law_same_b _ rfl (by rw [eq_of_beq c]) h
      · rename_i xs ys
        cases h
        obtain ⟨c1, c2⟩ := Bool.and_eq_true_iff.mp c
        have c1 := of_decide_eq_true c1
        refine retOf_v ?_
        show g_law_same (p_law_same n) [some (.list xs), some (.list ys), none, none] = _
        have e1 : f2 hEq (f1 hLen (fVar 0)) (f1 hLen (fVar 1)) [some (.list xs), some (.list ys), none, none] = some (.bool true) := by
          show hEq (.int xs.length) (.int ys.length) = _
          rw [hEq_v (by rw [shal_int]; rfl), c1]
          show some (PyData.bool ((ys.length : Int) == (ys.length : Int))) = _
          rw [beq_self_eq_true]
        have e2 := fLc_all (f := fZip (fVar 0) (fVar 1)) (u := fun d ρ => (ρ.set 2 (some d.1)).set 3 (some d.2)) (k := fCall (p_law_same n) (fCons (fVar 2) (fCons (fVar 3) fNil))) (vs := [2, 3]) (ρ := [some (.list xs), some (.list ys), none, none]) (ds := xs.zip ys) (q := fun _ => true)
          (by show (if xs.length = ys.length then some (xs.zip ys) else none) = _; rw [if_pos c1]) (fun p hp => by
            show p_law_same n [p.1, p.2] = _
            have := List.all_eq_true.mp c2 p hp
            exact if_pos this)
        have e3 : (xs.zip ys).all (fun _ => true) = true := List.all_eq_true.mpr fun _ _ => rfl
        rw [e3] at e2
        refine sSeq_rt ?_
        refine (sIf_t rfl).trans ?_
        refine (sIf_go rfl).trans ?_
        exact sRet_v ((fAnd_t e1).trans e2)
    · cases h
  · cases h
theorem hG_law_by_hand_right : ∀ ds d, ds.length = 0 → p_law_by_hand_right ds = some d → retOf 4 g_law_by_hand_right ds = some d := by
  intro ds d hl h
  unfold p_law_by_hand_right at h
  split at h
  · cases h
    have z : (match retOf 4 g_law_by_hand_right [] with | some (.bool b) => b | _ => false) = true := by decide +kernel
    split at z
    · rename_i b e
      rw [e, z]
    · cases z
  · cases h
end Cr
namespace Cr
open PySem PySem.Spec PyProof.Rows L2

/-! ### _law_fits_man -/
theorem n_gr : (("grass" : Str) == ("rod" : Str)) = false := by decide +kernel
theorem n_ga : (("grass" : Str) == ("aside" : Str)) = false := by decide +kernel
theorem n_lr : (("lost" : Str) == ("rod" : Str)) = false := by decide +kernel
theorem n_la : (("lost" : Str) == ("aside" : Str)) = false := by decide +kernel
theorem n_gl : (("grass" : Str) == ("lost" : Str)) = false := by decide +kernel
theorem n_ra : (("rod" : Str) == ("aside" : Str)) = false := by decide +kernel
theorem n_ar : (("aside" : Str) == ("rod" : Str)) = false := by decide +kernel
theorem eqv_ss (x y : Str) : PyData.eqv (.str x) (.str y) = (x == y) := by rw [PyData.eqv]
theorem eqv_ii (x y : Int) : PyData.eqv (.int x) (.int y) = (x == y) := by rw [PyData.eqv]
/-- the law's test of an aim -/
abbrev gAim : Ds → Option Out := sIf (fB (f2 (hIs true) (fVar 1) (fC .none))) (sSeq (sIf (bOr (bNot (fB (f1 (hIsi isTup) (fVar 1)))) (bOr (fB (f2 hNe (f1 hLen (fVar 1)) (fC (.int 2)))) (bNot (fB (f1 hAll (fLc (fSeq (fVar 1)) (fun d ρ => ρ.set 6 (some d)) bYes (fAnd (fCall p_law_is_number (fCons (fVar 6) fNil)) (f2 (hII fun i j => .bool (decide (j ≤ i))) (fVar 6) (fC (.int 0)))) [6])))))) (sRet (fC (.bool false))) sNil)
    (sIf (fB (f2 (hII fun i j => .bool (decide (j < i))) (f2 hIx (fVar 1) (fC (.int 0))) (f2 hIx (fVar 2) (fC (.int 0))))) (sRet (fC (.bool false))) sNil)) sNil
theorem ne_len {ds : List PyData} {n : Int} {ρ : Ds} {f : F} (h : f ρ = some (.tuple ds)) : fB (f2 hNe (f1 hLen f) (fC (.int n))) ρ = some (!decide (((ds.length : Nat) : Int) = n)) := by
  refine fB_v ((f2_v (d := .int ds.length) (e := .int n) (by rw [f1_v h]; rfl) rfl).trans ?_)
  rw [hNe_v (by rw [shal_int]; rfl), eqv_ii]
  rfl
theorem aim_stage {spot aim sh : PyData} {n made : Int} (h0 : hIx sh (.int 0) = some (.int n)) :
    gAim [some spot, some aim, some sh, some (.int made), none, none, none] = some (if aimB n aim = true then .nx [some spot, some aim, some sh, some (.int made), none, none, none] else .rt (.bool false)) := by
  cases aim with
  | tuple ds =>
    refine (sIf_t rfl).trans ?_
    rcases ds with _ | ⟨a, _ | ⟨x, _ | ⟨y, r⟩⟩⟩
    · exact sIf_no (by rw [bOr_f rfl]; exact bOr_t ((ne_len (ds := []) rfl).trans rfl)) rfl
    · exact sIf_no (by rw [bOr_f rfl]; exact bOr_t ((ne_len (ds := [a]) rfl).trans rfl)) rfl
    · have e := fLc_all (f := fSeq (fVar 1)) (u := fun d ρ => ρ.set 6 (some d)) (k := fAnd (fCall p_law_is_number (fCons (fVar 6) fNil)) (f2 (hII fun i j => .bool (decide (j ≤ i))) (fVar 6) (fC (.int 0)))) (vs := [6]) (ρ := [some spot, some (.tuple [a, x]), some sh, some (.int made), none, none, none]) (ds := [a, x]) (q := geB 0) rfl
        (fun d _ => by cases d <;> rfl)
      have e2 : bOr (bNot (fB (f1 (hIsi isTup) (fVar 1)))) (bOr (fB (f2 hNe (f1 hLen (fVar 1)) (fC (.int 2)))) (bNot (fB (f1 hAll (fLc (fSeq (fVar 1)) (fun d ρ => ρ.set 6 (some d)) bYes (fAnd (fCall p_law_is_number (fCons (fVar 6) fNil)) (f2 (hII fun i j => .bool (decide (j ≤ i))) (fVar 6) (fC (.int 0)))) [6])))))
          [some spot, some (.tuple [a, x]), some sh, some (.int made), none, none, none] = some (!(geB 0 a && geB 0 x)) := by
        rw [bOr_f rfl, bOr_f ((ne_len (ds := [a, x]) rfl).trans rfl), bNot_v (fB_v e)]
        simp
      cases ha : geB 0 a with
      | false =>
        rw [ha] at e2
        rw [sIf_no e2 rfl]
        have : inB 0 n a = false := by cases a <;> simp [geB, inB] at ha ⊢; omega
        simp [aimB, this]
      | true =>
        cases hx : geB 0 x with
        | false =>
          rw [ha, hx] at e2
          rw [sIf_no e2 rfl]
          simp [aimB, hx]
        | true =>
          rw [ha, hx] at e2
          rw [sIf_go e2]
          cases a <;> simp only [geB, Bool.false_eq_true] at ha
          rename_i i
          have e3 : fB (f2 (hII fun i j => .bool (decide (j < i))) (f2 hIx (fVar 1) (fC (.int 0))) (f2 hIx (fVar 2) (fC (.int 0)))) [some spot, some (.tuple [.int i, x]), some sh, some (.int made), none, none, none] = some (decide (n < i)) := by
            refine fB_v ((f2_v (d := .int i) (e := .int n) ((f2_v rfl rfl).trans (ixt0 _ _)) ((f2_v rfl rfl).trans h0)).trans rfl)
          have ha := of_decide_eq_true ha
          by_cases c : n < i
          · rw [sIf_t (by rw [e3, decide_eq_true c])]
            simp [aimB, inB, hx, show ¬ (i ≤ n) by omega]
            rfl
          · rw [sIf_f (by rw [e3, decide_eq_false c])]
            simp [aimB, inB, hx, show i ≤ n by omega, ha]
            rfl
    · have t : (!decide ((((a :: x :: y :: r).length : Nat) : Int) = 2)) = true := by rw [decide_eq_false (by simp only [List.length_cons]; omega)]; rfl
      exact sIf_no (by rw [bOr_f rfl]; exact bOr_t ((ne_len rfl).trans (congrArg some t))) rfl
  | none => rfl
  | bool _ => rfl
  | int _ => rfl
  | str _ => rfl
  | list _ => rfl
  | dict _ => rfl
theorem isS_non {h : PyData} (e : isStr h = false) (x : Str) : isS x h = false := by
  cases h <;> first | rfl | (cases e)
theorem isS_non2 {h : PyData} (e : isStr h = false) (x : Str) : PyData.eqv (.str x) h = false := by
  cases h <;> first | rfl | (cases e)
theorem place_str {n made : Int} {h : PyData} {r : List PyData} (e : isStr h = false) : placeB n made (.tuple (h :: r)) = false := by
  rcases r with _ | ⟨x, _ | ⟨y, _ | ⟨z, r⟩⟩⟩
  · show (PyData.eqv dGrass (.tuple [h]) || PyData.eqv dLost (.tuple [h])) = false
    unfold dGrass dLost
    rw [eqv_tt, eqv_tt, eqv_cc, eqv_cc, isS_non2 e, isS_non2 e]
    rfl
  · show (isS "aside" h && _) = false
    rw [isS_non e]; rfl
  · show (isS "rod" h && _ && _) = false
    rw [isS_non e]; rfl
  · rfl
theorem inB_num {a b : Int} {d : PyData} (h : inB a b d = true) : isNum d = true := by
  cases d <;> first | rfl | (cases h)
theorem place_num {n made : Int} {h : PyData} {r : List PyData} (e : placeB n made (.tuple (h :: r)) = true) : r.all isNum = true := by
  rcases r with _ | ⟨x, _ | ⟨y, _ | ⟨z, r⟩⟩⟩
  · rfl
  · have e : (isS "aside" h && inB 1 n x) = true := e
    have := inB_num (Bool.and_eq_true_iff.mp e).2
    simp [this]
  · have e : (isS "rod" h && inB 0 1 x && inB (leastD made x) (n - 1 + leastD made x) y) = true := e
    obtain ⟨e1, e2⟩ := Bool.and_eq_true_iff.mp e
    have := inB_num (Bool.and_eq_true_iff.mp e1).2
    have := inB_num e2
    simp [*]
  · cases e
abbrev gSpot : Ds → Option Out := (sSeq (sIf (bOr (bNot (fB (f1 (hIsi isTup) (fVar 0)))) (bOr (fB (f2 hEq (fVar 0) (fTup fNil))) (bNot (fB (f1 (hIsi isStr) (f2 hIx (fVar 0) (fC (.int 0)))))))) (sRet (fC (.bool false))) sNil)
    (sSeq (sSet 4 (fCut (fVar 0) (fPart (fC (.int 1))) fNoPart))
    (sSeq (sIf (bNot (fB (f1 hAll (fLc (fSeq (fVar 4)) (fun d ρ => ρ.set 6 (some d)) bYes (fCall p_law_is_number (fCons (fVar 6) fNil)) [6])))) (sRet (fC (.bool false))) sNil)
    (sSeq (sIf (fB (f2 hEq (f2 hIx (fVar 0) (fC (.int 0))) (fC (.str "rod")))) (sSeq (sIf (bOr (fB (f2 hNe (f1 hLen (fVar 4)) (fC (.int 2)))) (bOr (fB (f2 (hIn true) (f2 hIx (fVar 4) (fC (.int 0))) (fTup (fCons (fC (.int 0)) (fCons (fC (.int 1)) fNil))))) (fB (f2 (hIs false) (fVar 1) (fC .none))))) (sRet (fC (.bool false))) sNil)
    (sSeq (sSet 5 (fIf (fB (f2 hEq (f2 hIx (fVar 4) (fC (.int 0))) (f2 hMod (f1 hInt (fVar 3)) (fC (.int 2))))) (fC (.int 0)) (fC (.int 1))))
    (sRet (fChain (hII fun i j => .bool (decide (i ≤ j))) (hII fun i j => .bool (decide (i ≤ j))) (fVar 5) (f2 hIx (fVar 4) (fC (.int 1))) (f2 (hII fun i j => .int (i + j)) (f2 (hII fun i j => .int (i - j)) (f2 hIx (fVar 2) (fC (.int 0))) (fC (.int 1))) (fVar 5)))))) sNil)
    (sSeq (sIf (fB (f2 hEq (f2 hIx (fVar 0) (fC (.int 0))) (fC (.str "aside")))) (sRet (fAnd (f2 hEq (f1 hLen (fVar 4)) (fC (.int 1))) (fChain (hII fun i j => .bool (decide (i ≤ j))) (hII fun i j => .bool (decide (i ≤ j))) (fC (.int 1)) (f2 hIx (fVar 4) (fC (.int 0))) (f2 hIx (fVar 2) (fC (.int 0)))))) sNil)
    (sRet (fOr (f2 hEq (fVar 0) (fTup (fCons (fC (.str "grass")) fNil))) (fAnd (f2 hEq (fVar 0) (fTup (fCons (fC (.str "lost")) fNil))) (f2 (hIs false) (fVar 1) (fC .none))))))))))
theorem g_man_eq : g_law_fits_man = sSeq gAim gSpot := rfl
theorem head_eq {s x : Str} {r : List PyData} {ρ : Ds} (h : fVar 0 ρ = some (.tuple (.str s :: r))) : fB (f2 hEq (f2 hIx (fVar 0) (fC (.int 0))) (fC (.str x))) ρ = some (s == x) := by
  refine fB_v ((f2_v ((f2_v h rfl).trans (ixt0 _ _)) rfl).trans ?_)
  rw [hEq_v (by rw [shal_str]; rfl), eqv_ss]
theorem cut1 (h : PyData) (r : List PyData) : cutD (h :: r) (some 1) none = r := by
  unfold cutD HT.sIx
  simp
theorem chain_v {ρ : Ds} {f g k : F} {i j l : Int} (h1 : f ρ = some (.int i)) (h2 : g ρ = some (.int j)) (h3 : k ρ = some (.int l)) : fChain (hII fun i j => .bool (decide (i ≤ j))) (hII fun i j => .bool (decide (i ≤ j))) f g k ρ = some (.bool (decide (i ≤ j) && decide (j ≤ l))) := by
  unfold fChain
  rw [h1, Option.bind_some, h2, Option.bind_some]
  show (some (PyData.bool (decide (i ≤ j)))).bind _ = _
  rw [Option.bind_some]
  show (some (decide (i ≤ j))).bind _ = _
  rw [Option.bind_some]
  by_cases c : i ≤ j
  · rw [if_pos (decide_eq_true c), h3]
    simp [hII, c]
  · rw [if_neg (by rw [decide_eq_false c]; exact Bool.false_ne_true), decide_eq_false c]
    rfl
theorem spot_stage {spot aim sh : PyData} {n made : Int} (h0 : hIx sh (.int 0) = some (.int n)) :
    gSpot [some spot, some aim, some sh, some (.int made), none, none, none] = some (.rt (.bool (placeB n made spot && fitsB spot aim))) := by
  cases spot with
  | tuple ds =>
    rcases ds with _ | ⟨h, r⟩
    · rfl
    · have e1 : fB (f2 hEq (fVar 0) (fTup fNil)) [some (.tuple (h :: r)), some aim, some sh, some (.int made), none, none, none] = some false := by
        refine fB_v ((f2_v (d := .tuple (h :: r)) (e := .tuple []) rfl rfl).trans ?_)
        rw [hEq_v (by rw [shal_nil, Bool.or_true]), eqv_tt, eqv_cn]
      have e2 : bOr (bNot (fB (f1 (hIsi isTup) (fVar 0)))) (bOr (fB (f2 hEq (fVar 0) (fTup fNil))) (bNot (fB (f1 (hIsi isStr) (f2 hIx (fVar 0) (fC (.int 0)))))))
          [some (.tuple (h :: r)), some aim, some sh, some (.int made), none, none, none] = some (!isStr h) := by
        rw [bOr_f rfl, bOr_f e1, bNot_v (fB_v (x := isStr h) (by rw [f1_v ((f2_v rfl rfl).trans (ixt0 h r))]; rfl))]
      cases hs : isStr h with
      | false =>
        rw [hs] at e2
        rw [place_str hs]
        exact sIf_no e2 rfl
      | true =>
        rw [hs] at e2
        cases h <;> simp only [isStr, Bool.false_eq_true] at hs
        rename_i s
        refine (sIf_go e2).trans ?_
        have e3 : fCut (fVar 0) (fPart (fC (.int 1))) fNoPart [some (.tuple (.str s :: r)), some aim, some sh, some (.int made), none, none, none] = some (.tuple r) := by
          show some (PyData.tuple (cutD (.str s :: r) (some 1) none)) = _
          rw [cut1]
        refine (sSeq_nx (sSet_v e3)).trans ?_
        show _ = _
        have e4 := fLc_all (f := fSeq (fVar 4)) (u := fun d ρ => ρ.set 6 (some d)) (k := fCall p_law_is_number (fCons (fVar 6) fNil)) (vs := [6]) (ρ := [some (.tuple (.str s :: r)), some aim, some sh, some (.int made), some (.tuple r), none, none]) (ds := r) (q := isNum) rfl
          (fun d _ => rfl)
        cases hn : r.all isNum with
        | false =>
          rw [hn] at e4
          have : placeB n made (.tuple (.str s :: r)) = false := by
            cases c : placeB n made (.tuple (.str s :: r)) with
            | false => rfl
            | true => rw [place_num c] at hn; cases hn
          rw [this]
          exact sIf_no (bNot_v (fB_v e4)) rfl
        | true =>
          rw [hn] at e4
          refine (sIf_go (bNot_v (fB_v e4))).trans ?_
          cases c1 : s == ("rod" : Str) with
          | true =>
            have c1' := eq_of_beq c1
            subst c1'
            refine (sSeq_rt (d := .bool (placeB n made (.tuple (.str "rod" :: r)) && fitsB (.tuple (.str "rod" :: r)) aim)) ?_)
            refine (sIf_t ((head_eq rfl).trans (congrArg some c1))).trans ?_
            rcases r with _ | ⟨x, _ | ⟨y, _ | ⟨z, r⟩⟩⟩
            · refine (sIf_no (bOr_t ((ne_len (ds := []) rfl).trans rfl)) rfl).trans ?_
              show _ = some (Out.rt (.bool ((PyData.eqv dGrass (.tuple [.str "rod"]) || PyData.eqv dLost (.tuple [.str "rod"])) && _)))
              unfold dGrass dLost
              rw [eqv_tt, eqv_tt, eqv_cc, eqv_cc, eqv_ss, eqv_ss, n_gr, n_lr]
              rfl
            · refine (sIf_no (bOr_t ((ne_len (ds := [x]) rfl).trans rfl)) rfl).trans ?_
              show _ = some (Out.rt (.bool ((isS "aside" (.str "rod") && inB 1 n x) && fitsB (.tuple [.str "rod", x]) aim)))
              unfold isS
              rw [eqv_ss, n_ra]
              rfl
            · have nx : isNum x = true := by simp at hn; exact hn.1
              have ny : isNum y = true := by simp at hn; exact hn.2
              cases x <;> simp only [isNum, Bool.false_eq_true] at nx
              cases y <;> simp only [isNum, Bool.false_eq_true] at ny
              rename_i i j
              have e5 : fB (f2 (hIn true) (f2 hIx (fVar 4) (fC (.int 0))) (fTup (fCons (fC (.int 0)) (fCons (fC (.int 1)) fNil)))) [some (.tuple [.str "rod", .int i, .int j]), some aim, some sh, some (.int made), some (.tuple [.int i, .int j]), none, none] = some (!(inB 0 1 (.int i))) := by
                refine fB_v ((f2_v (d := .int i) (e := .tuple [.int 0, .int 1]) ((f2_v rfl rfl).trans (ixt0 _ _)) rfl).trans ?_)
                show (if (shal (.int i) || shal (.tuple [.int 0, .int 1])) = true then some (PyData.bool (([PyData.int 0, .int 1].any fun y => PyData.eqv y (.int i)) != true)) else none) = _
                rw [shal_int, Bool.true_or, if_pos rfl]
                simp only [List.any_cons, List.any_nil, eqv_ii, inB, Bool.or_false]
                congr 2
                by_cases h0 : i = 0
                · subst h0; rfl
                · by_cases h1 : i = 1
                  · subst h1; rfl
                  · rw [show ((0 : Int) == i) = false from beq_eq_false_iff_ne.mpr (by omega), show ((1 : Int) == i) = false from beq_eq_false_iff_ne.mpr (by omega)]
                    by_cases h2 : 0 ≤ i
                    · rw [decide_eq_true h2, decide_eq_false (by omega : ¬ i ≤ 1)]; rfl
                    · rw [decide_eq_false h2]; rfl
              have e6 : fB (f2 (hIs false) (fVar 1) (fC .none)) [some (.tuple [.str "rod", .int i, .int j]), some aim, some sh, some (.int made), some (.tuple [.int i, .int j]), none, none] = some (isNone aim) := by
                refine fB_v ((f2_v rfl rfl).trans ?_)
                show some (PyData.bool (isNone aim != false)) = _
                simp
              have ef : fitsB (.tuple [.str "rod", .int i, .int j]) aim = !isNone aim := by
                unfold fitsB dLost
                rw [eqv_tt, eqv_cc, eqv_cn, Bool.and_false, if_neg Bool.false_ne_true]
                show (!isS "rod" (.str "rod") || !isNone aim) = _
                unfold isS
                rw [eqv_ss, beq_self_eq_true]; rfl
              have ep : placeB n made (.tuple [.str "rod", .int i, .int j]) = (inB 0 1 (.int i) && inB (leastD made (.int i)) (n - 1 + leastD made (.int i)) (.int j)) := by
                show (isS "rod" (.str "rod") && inB 0 1 (.int i) && inB (leastD made (.int i)) (n - 1 + leastD made (.int i)) (.int j)) = _
                unfold isS
                rw [eqv_ss, beq_self_eq_true]; rfl
              rw [ef, ep]
              cases cb : inB 0 1 (.int i) with
              | false =>
                rw [cb] at e5
                exact sIf_no (by rw [bOr_f ((ne_len (ds := [.int i, .int j]) rfl).trans rfl)]; exact bOr_t e5) rfl
              | true =>
                rw [cb] at e5
                cases ca : isNone aim with
                | true =>
                  rw [ca] at e6
                  refine (sIf_no (by rw [bOr_f ((ne_len (ds := [.int i, .int j]) rfl).trans rfl), bOr_f e5]; exact e6) rfl).trans ?_
                  simp
                | false =>
                  rw [ca] at e6
                  refine (sIf_go (by rw [bOr_f ((ne_len (ds := [.int i, .int j]) rfl).trans rfl), bOr_f e5]; exact e6)).trans ?_
                  have cb := of_decide_eq_true (p := 0 ≤ i ∧ i ≤ 1) (by simpa [inB] using cb)
                  have el : leastD made (.int i) = if i = made % 2 then 0 else 1 := by
                    unfold leastD
                    rw [eqv_ii]
                    have m2 := Int.emod_two_eq made
                    by_cases c : i = made % 2
                    · rw [if_pos c, if_neg (by simp; omega)]
                    · rw [if_neg c, if_pos (by simp; omega)]
                  have e7 : fIf (fB (f2 hEq (f2 hIx (fVar 4) (fC (.int 0))) (f2 hMod (f1 hInt (fVar 3)) (fC (.int 2))))) (fC (.int 0)) (fC (.int 1)) [some (.tuple [.str "rod", .int i, .int j]), some aim, some sh, some (.int made), some (.tuple [.int i, .int j]), none, none] = some (.int (leastD made (.int i))) := by
                    have e8 : fB (f2 hEq (f2 hIx (fVar 4) (fC (.int 0))) (f2 hMod (f1 hInt (fVar 3)) (fC (.int 2)))) [some (.tuple [.str "rod", .int i, .int j]), some aim, some sh, some (.int made), some (.tuple [.int i, .int j]), none, none] = some (i == made % 2) := by
                      refine fB_v ((f2_v (d := .int i) (e := .int (made % 2)) ((f2_v rfl rfl).trans (ixt0 _ _)) rfl).trans ?_)
                      rw [hEq_v (by rw [shal_int]; rfl), eqv_ii]
                    rw [el]
                    by_cases c : i = made % 2
                    · rw [fIf_t (e8.trans (congrArg some (beq_iff_eq.mpr c))), if_pos c]; rfl
                    · rw [fIf_f (e8.trans (congrArg some (beq_eq_false_iff_ne.mpr c))), if_neg c]; rfl
                  refine (sSeq_nx (sSet_v e7)).trans ?_
                  refine sRet_v ?_
                  refine (chain_v (i := leastD made (.int i)) (j := j) (l := n - 1 + leastD made (.int i)) rfl ((f2_v rfl rfl).trans (ixt1 _ _ _)) ?_).trans ?_
                  · refine (f2_v (d := .int (n - 1)) (e := .int (leastD made (.int i))) ((f2_v (d := .int n) (e := .int 1) ((f2_v rfl rfl).trans h0) rfl).trans rfl) rfl).trans rfl
                  · simp [inB]
            · have t : (!decide ((((x :: y :: z :: r).length : Nat) : Int) = 2)) = true := by rw [decide_eq_false (by simp only [List.length_cons]; omega)]; rfl
              exact sIf_no (bOr_t ((ne_len rfl).trans (congrArg some t))) rfl
          | false =>
            refine (sSeq_nx (sIf_f ((head_eq rfl).trans (congrArg some c1)))).trans ?_
            cases c2 : s == ("aside" : Str) with
            | true =>
              have c2' := eq_of_beq c2
              subst c2'
              refine (sSeq_rt (d := .bool (placeB n made (.tuple (.str "aside" :: r)) && fitsB (.tuple (.str "aside" :: r)) aim)) ?_)
              refine (sIf_t ((head_eq rfl).trans (congrArg some c2))).trans ?_
              refine sRet_v ?_
              have el : f2 hEq (f1 hLen (fVar 4)) (fC (.int 1)) [some (.tuple (.str "aside" :: r)), some aim, some sh, some (.int made), some (.tuple r), none, none] = some (.bool (decide (((r.length : Nat) : Int) = 1))) := by
                refine (f2_v (d := .int r.length) (e := .int 1) rfl rfl).trans ?_
                rw [hEq_v (by rw [shal_int]; rfl), eqv_ii]; rfl
              rcases r with _ | ⟨x, _ | ⟨y, _ | ⟨z, r⟩⟩⟩
              · refine (fAnd_f (el.trans rfl)).trans ?_
                show _ = some (PyData.bool ((PyData.eqv dGrass (.tuple [.str "aside"]) || PyData.eqv dLost (.tuple [.str "aside"])) && _))
                unfold dGrass dLost
                rw [eqv_tt, eqv_tt, eqv_cc, eqv_cc, eqv_ss, eqv_ss, n_ga, n_la]
                rfl
              · have nx : isNum x = true := by simpa using hn
                cases x <;> simp only [isNum, Bool.false_eq_true] at nx
                rename_i i
                have ef : fitsB (.tuple [.str "aside", .int i]) aim = true := by
                  unfold fitsB dLost
                  rw [eqv_tt, eqv_cc, eqv_cn, Bool.and_false, if_neg Bool.false_ne_true]
                  show (!isS "rod" (.str "aside") || !isNone aim) = _
                  unfold isS
                  rw [eqv_ss, n_ar]; rfl
                have ep : placeB n made (.tuple [.str "aside", .int i]) = inB 1 n (.int i) := by
                  show (isS "aside" (.str "aside") && inB 1 n (.int i)) = _
                  unfold isS
                  rw [eqv_ss, beq_self_eq_true]; rfl
                refine (fAnd_t (el.trans rfl)).trans ?_
                refine (chain_v (i := 1) (j := i) (l := n) rfl ((f2_v rfl rfl).trans (ixt0 _ _)) ((f2_v rfl rfl).trans h0)).trans ?_
                rw [ef, ep]
                simp [inB]
              · refine (fAnd_f (el.trans rfl)).trans ?_
                show _ = some (PyData.bool (((isS "rod" (.str "aside") && inB 0 1 x) && inB (leastD made x) (n - 1 + leastD made x) y) && fitsB (.tuple [.str "aside", x, y]) aim))
                unfold isS
                rw [eqv_ss, n_ar]
                rfl
              · exact fAnd_f (el.trans (by rw [decide_eq_false (by simp only [List.length_cons]; omega)]))
            | false =>
              refine (sSeq_nx (sIf_f ((head_eq rfl).trans (congrArg some c2)))).trans ?_
              refine sRet_v ?_
              have eg : ∀ x : Str, f2 hEq (fVar 0) (fTup (fCons (fC (.str x)) fNil)) [some (.tuple (.str s :: r)), some aim, some sh, some (.int made), some (.tuple r), none, none] = some (.bool (s == x && PyData.eqvAll r [])) := fun x => by
                refine (f2_v (d := .tuple (.str s :: r)) (e := .tuple [.str x]) rfl rfl).trans ?_
                rw [hEq_v (by rw [show shal (.tuple [.str x]) = true from by unfold shal; simp [PyData.depth, PyData.depthAll], Bool.or_true]), eqv_tt, eqv_cc, eqv_ss]
              have es : f2 (hIs false) (fVar 1) (fC .none) [some (.tuple (.str s :: r)), some aim, some sh, some (.int made), some (.tuple r), none, none] = some (.bool (isNone aim)) := by
                refine (f2_v rfl rfl).trans ?_
                show some (PyData.bool (isNone aim != false)) = _
                simp
              rcases r with _ | ⟨x, _ | ⟨y, _ | ⟨z, r⟩⟩⟩
              · have ep : placeB n made (.tuple [.str s]) = (("grass" : Str) == s || ("lost" : Str) == s) := by
                  show (PyData.eqv dGrass (.tuple [.str s]) || PyData.eqv dLost (.tuple [.str s])) = _
                  unfold dGrass dLost
                  rw [eqv_tt, eqv_tt, eqv_cc, eqv_cc, eqv_ss, eqv_ss, eqv_nn, Bool.and_true, Bool.and_true]
                have ef : fitsB (.tuple [.str s]) aim = if (s == ("lost" : Str)) = true then isNone aim else true := by
                  unfold fitsB dLost
                  rw [eqv_tt, eqv_cc, eqv_ss, eqv_nn, Bool.and_true]
                  show (if _ then isNone aim else (!isS "rod" (.str s) || !isNone aim)) = _
                  unfold isS
                  rw [eqv_ss, c1]; rfl
                rw [ep, ef]
                cases c3 : s == ("grass" : Str) with
                | true =>
                  have c3' := eq_of_beq c3
                  subst c3'
                  rw [fOr_t (by rw [eg, c3, eqv_nn]; rfl), n_gl]
                  rfl
                | false =>
                  rw [fOr_f (by rw [eg, c3]; rfl), show (("grass" : Str) == s) = false from by rw [Bool.beq_comm]; exact c3]
                  cases c4 : s == ("lost" : Str) with
                  | true =>
                    have c4' := eq_of_beq c4
                    subst c4'
                    rw [fAnd_t (by rw [eg, c4, eqv_nn]; rfl), es]
                    rfl
                  | false =>
                    rw [fAnd_f (by rw [eg, c4]; rfl), show (("lost" : Str) == s) = false from by rw [Bool.beq_comm]; exact c4]
                    rfl
              · rw [fOr_f (by rw [eg, eqv_cn, Bool.and_false]), fAnd_f (by rw [eg, eqv_cn, Bool.and_false])]
                show _ = some (PyData.bool ((isS "aside" (.str s) && inB 1 n x) && fitsB (.tuple [.str s, x]) aim))
                unfold isS
                rw [eqv_ss, c2]; rfl
              · rw [fOr_f (by rw [eg, eqv_cn, Bool.and_false]), fAnd_f (by rw [eg, eqv_cn, Bool.and_false])]
                show _ = some (PyData.bool (((isS "rod" (.str s) && inB 0 1 x) && inB (leastD made x) (n - 1 + leastD made x) y) && fitsB (.tuple [.str s, x, y]) aim))
                unfold isS
                rw [eqv_ss, c1]; rfl
              · rw [fOr_f (by rw [eg, eqv_cn, Bool.and_false]), fAnd_f (by rw [eg, eqv_cn, Bool.and_false])]
                rfl
  | none => rfl
  | bool _ => rfl
  | int _ => rfl
  | str _ => rfl
  | list _ => rfl
  | dict _ => rfl
theorem hG_law_fits_man : ∀ ds d, ds.length = 4 → p_law_fits_man ds = some d → retOf 7 g_law_fits_man ds = some d := by
  intro ds d hl h
  unfold p_law_fits_man at h
  split at h
  · rename_i spot aim sh made
    obtain ⟨⟨n, rs⟩, hp, e⟩ := Option.map_eq_some_iff.mp h
    subst e
    obtain ⟨h0, _⟩ := pit_parts hp
    refine retOf_v ?_
    rw [g_man_eq]
    have e1 := aim_stage (spot := spot) (aim := aim) (made := made) h0
    cases ha : aimB n aim with
    | false =>
      rw [ha, if_neg Bool.false_ne_true] at e1
      refine (sSeq_rt e1).trans ?_
      show _ = some (Out.rt (.bool (placeB n made spot && aimB n aim && fitsB spot aim)))
      rw [ha]; simp
    | true =>
      rw [ha, if_pos rfl] at e1
      refine (sSeq_nx e1).trans ?_
      refine (spot_stage h0).trans ?_
      show _ = some (Out.rt (.bool (placeB n made spot && aimB n aim && fitsB spot aim)))
      rw [ha, Bool.and_true]
  · cases h
end Cr
namespace Cr
open PySem PySem.Spec PyProof.Rows L2

/-! ### spots as keys -/
def encK : Key → PyData
  | .inl i => .int i
  | .inr x => .str x
def encM (k : MKey) : PyData := .tuple (k.map encK)
theorem eqv_key (a b : Key) : PyData.eqv (encK a) (encK b) = decide (a = b) := by
  cases a <;> cases b
  · show PyData.eqv (.int _) (.int _) = _
    rw [eqv_ii]
    simp [Bool.beq_eq_decide_eq]
  · simp [encK, PyData.eqv]
  · simp [encK, PyData.eqv]
  · show PyData.eqv (.str _) (.str _) = _
    rw [eqv_ss]
    simp [Bool.beq_eq_decide_eq]
theorem eqv_keys : ∀ a b : MKey, PyData.eqvAll (a.map encK) (b.map encK) = decide (a = b)
  | [], [] => by simp [eqv_nn]
  | _ :: _, [] => by rw [List.map_cons, List.map_nil, eqv_cn]; simp
  | [], _ :: _ => by rw [List.map_cons, List.map_nil, eqv_nc]; simp
  | x :: a, y :: b => by rw [List.map_cons, List.map_cons, eqv_cc, eqv_key, eqv_keys a b]; simp [Bool.decide_and]
theorem eqv_encM (a b : MKey) : PyData.eqv (encM a) (encM b) = decide (a = b) := by
  unfold encM
  rw [eqv_tt]
  exact eqv_keys a b
theorem keyD_enc (k : Key) : keyD (encK k) = some k := by cases k <;> rfl
theorem mapO_enc : ∀ k : MKey, mapO keyD (k.map encK) = some k
  | [] => rfl
  | x :: r => by
    show (keyD (encK x)).bind (fun y => (mapO keyD (r.map encK)).bind fun ys => some (y :: ys)) = _
    rw [keyD_enc, mapO_enc r]
    rfl
theorem tupKey_enc (k : MKey) : tupKey (encM k) = some k := mapO_enc k
theorem mapO_encM : ∀ ks : List MKey, mapO tupKey (ks.map encM) = some ks
  | [] => rfl
  | x :: r => by
    show (tupKey (encM x)).bind (fun y => (mapO tupKey (r.map encM)).bind fun ys => some (y :: ys)) = _
    rw [tupKey_enc, mapO_encM r]
    rfl
def kRod (i j : Int) : MKey := [.inr "rod", .inl i, .inl j]
def kAside (i : Int) : MKey := [.inr "aside", .inl i]
def isRodK : MKey → Bool
  | .inr x :: _ => x == ("rod" : Str)
  | _ => false
def isAsK : MKey → Bool
  | .inr x :: _ => x == ("aside" : Str)
  | _ => false
def secK : MKey → Int
  | _ :: .inl i :: _ => i
  | _ => 0
/-- a place is a key -/
theorem isS_eq {x : Str} {d : PyData} (h : isS x d = true) : d = .str x := by
  unfold isS at h
  cases d <;> first | (rw [eqv_ss] at h; rw [eq_of_beq h]) | (simp [PyData.eqv] at h)
theorem inB_eq {a b : Int} {d : PyData} (h : inB a b d = true) : ∃ i, d = .int i ∧ a ≤ i ∧ i ≤ b := by
  cases d <;> first | (rename_i i; exact ⟨i, rfl, by simpa [inB] using h⟩) | (cases h)
theorem eqv_one {x : Str} {d : PyData} (h : PyData.eqv (.str x) d = true) : d = .str x := by
  cases d <;> first | (rw [eqv_ss] at h; rw [eq_of_beq h]) | (simp [PyData.eqv] at h)
theorem place_key {n made : Int} {d : PyData} (h : placeB n made d = true) : ∃ k : MKey, d = encM k ∧ (isAsK k = true → ∃ i, k = kAside i ∧ 1 ≤ i ∧ i ≤ n) ∧ isS "rod" (headD d) = isRodK k ∧ isS "aside" (headD d) = isAsK k ∧ k ≠ [] := by
  cases d with
  | tuple ds =>
    rcases ds with _ | ⟨a, _ | ⟨x, _ | ⟨y, _ | ⟨z, r⟩⟩⟩⟩
    · cases h
    · have h : (PyData.eqv dGrass (.tuple [a]) || PyData.eqv dLost (.tuple [a])) = true := h
      unfold dGrass dLost at h
      rw [eqv_tt, eqv_tt, eqv_cc, eqv_cc, eqv_nn, Bool.and_true, Bool.and_true] at h
      rcases Bool.or_eq_true_iff.mp h with h | h
      · cases eqv_one h
        refine ⟨[.inr "grass"], rfl, fun q => ?_, ?_, ?_, by simp⟩
        · rw [show isAsK [.inr "grass"] = (("grass" : Str) == ("aside" : Str)) from rfl, n_ga] at q; cases q
        · exact eqv_ss _ _
        · exact eqv_ss _ _
      · cases eqv_one h
        refine ⟨[.inr "lost"], rfl, fun q => ?_, ?_, ?_, by simp⟩
        · rw [show isAsK [.inr "lost"] = (("lost" : Str) == ("aside" : Str)) from rfl, n_la] at q; cases q
        · exact eqv_ss _ _
        · exact eqv_ss _ _
    · have h : (isS "aside" a && inB 1 n x) = true := h
      obtain ⟨h1, h2⟩ := Bool.and_eq_true_iff.mp h
      cases isS_eq h1
      obtain ⟨i, rfl, h3⟩ := inB_eq h2
      exact ⟨kAside i, rfl, fun _ => ⟨i, rfl, h3⟩, eqv_ss _ _, eqv_ss _ _, by simp [kAside]⟩
    · have h : (isS "rod" a && inB 0 1 x && inB (leastD made x) (n - 1 + leastD made x) y) = true := h
      obtain ⟨h1, h2⟩ := Bool.and_eq_true_iff.mp h
      obtain ⟨h1, h3⟩ := Bool.and_eq_true_iff.mp h1
      cases isS_eq h1
      obtain ⟨i, rfl, _⟩ := inB_eq h3
      obtain ⟨j, rfl, _⟩ := inB_eq h2
      refine ⟨kRod i j, rfl, fun q => ?_, eqv_ss _ _, eqv_ss _ _, by simp [kRod]⟩
      rw [show isAsK (kRod i j) = (("rod" : Str) == ("aside" : Str)) from rfl, n_ra] at q; cases q
    · cases h
  | _ => cases h
theorem places_keys {n made : Int} : ∀ {men : List PyData}, men.all (placeB n made) = true → ∃ ks : List MKey, men = ks.map encM ∧ (∀ k ∈ ks, isAsK k = true → ∃ i, k = kAside i ∧ 1 ≤ i ∧ i ≤ n) ∧ (∀ k ∈ ks, isS "rod" (headD (encM k)) = isRodK k ∧ isS "aside" (headD (encM k)) = isAsK k ∧ k ≠ [])
  | [], _ => ⟨[], rfl, fun k hk => (by cases hk), fun k hk => (by cases hk)⟩
  | d :: men, h => by
    rw [List.all_cons] at h
    obtain ⟨h1, h2⟩ := Bool.and_eq_true_iff.mp h
    obtain ⟨k, rfl, q1, q2⟩ := place_key h1
    obtain ⟨ks, rfl, r1, r2⟩ := places_keys h2
    refine ⟨k :: ks, rfl, fun x hx => ?_, fun x hx => ?_⟩
    · rcases List.mem_cons.mp hx with e | hx
      · subst e; exact q1
      · exact r1 x hx
    · rcases List.mem_cons.mp hx with e | hx
      · subst e; exact q2
      · exact r2 x hx
def kc (ks : List MKey) (k : MKey) : Nat := @List.count MKey instBEqOfDecidableEq k ks
theorem count_enc (ks : List MKey) (k : MKey) : ((ks.map encM).countP fun y => PyData.eqv y (encM k)) = kc ks k := by
  show _ = ks.countP fun y => decide (y = k)
  rw [List.countP_map]
  refine List.countP_congr fun x _ => ?_
  show PyData.eqv (encM x) (encM k) = true ↔ _
  rw [eqv_encM]
theorem filter_enc {ks : List MKey} (h : ∀ k ∈ ks, isS "rod" (headD (encM k)) = isRodK k) : (ks.map encM).filter (fun d => isS "rod" (headD d)) = (ks.filter isRodK).map encM := by
  rw [List.filter_map]
  congr 1
  exact List.filter_congr fun x hx => h x hx
/-- no two alike: as many as there are -/
theorem dd_len {α : Type} [DecidableEq α] : ∀ l : List α, (dd l).length ≤ l.length
  | [] => Nat.le_refl _
  | x :: r => by
    have := dd_len r
    unfold dd
    split <;> simp only [List.length_cons] <;> omega
theorem dd_nodup {α : Type} [DecidableEq α] : ∀ l : List α, ((dd l).length < l.length) ↔ ¬ l.Nodup
  | [] => by simp [dd]
  | x :: r => by
    have h1 := dd_len r
    have h2 := dd_nodup r
    rw [List.nodup_cons]
    unfold dd
    split
    · rename_i hx
      rw [mem_dd] at hx
      simp only [List.length_cons]
      constructor
      · intro _ hq; exact hq.1 hx
      · intro _; omega
    · rename_i hx
      rw [mem_dd] at hx
      simp only [List.length_cons]
      rw [show (dd r).length + 1 < r.length + 1 ↔ (dd r).length < r.length by omega, h2]
      constructor
      · intro h q; exact h q.2
      · intro h q; exact h ⟨hx, q⟩
theorem rods_iff (ks : List MKey) : (∀ k ∈ ks, isRodK k = true → kc ks k ≤ 1) ↔ (ks.filter isRodK).Nodup := by
  letI : BEq MKey := instBEqOfDecidableEq
  show (∀ k ∈ ks, isRodK k = true → ks.count k ≤ 1) ↔ _
  rw [List.nodup_iff_count]
  constructor
  · intro h a
    by_cases ha : isRodK a = true
    · rw [List.count_filter ha]
      by_cases hm : a ∈ ks
      · exact h a hm ha
      · rw [List.count_eq_zero_of_not_mem hm]; omega
    · rw [List.count_eq_zero_of_not_mem (fun hq => ha (List.mem_filter.mp hq).2)]; omega
  · intro h k hk hr
    have := h k
    rw [List.count_filter hr] at this
    exact this
end Cr
namespace Cr
open PySem PySem.Spec PyProof.Rows L2

theorem room_int {rs : List PyData} {n l : Int} (hl : rs.length = n.toNat + 1) (hr : rs.all (geB 0) = true) (h1 : 0 ≤ l) (h2 : l ≤ n) : ∃ r : Int, rs[l.toNat]? = some (.int r) ∧ 0 ≤ r ∧ roomAt rs (.int l) = r := by
  have hi : l.toNat < rs.length := by omega
  have e := List.getElem?_eq_getElem hi
  have q := List.all_eq_true.mp hr _ (List.getElem_mem hi)
  cases c : rs[l.toNat] with
  | int r =>
    rw [c] at e q
    refine ⟨r, e, by simpa [geB] using q, ?_⟩
    show (match rs[l.toNat]? with | some (.int r) => r | _ => 0) = r
    rw [e]
  | _ => rw [c] at q; cases q
theorem alike_enc (ks : List MKey) (k : MKey) : alikeN (ks.map encM) (encM k) = (kc ks k : Nat) := by
  unfold alikeN
  rw [count_enc]
theorem stand_eq {n : Int} {rs : List PyData} {ks : List MKey} (hl : rs.length = n.toNat + 1) (hr : rs.all (geB 0) = true) (p1 : ∀ k ∈ ks, isAsK k = true → ∃ i, k = kAside i ∧ 1 ≤ i ∧ i ≤ n)
    (p2 : ∀ k ∈ ks, isS "rod" (headD (encM k)) = isRodK k ∧ isS "aside" (headD (encM k)) = isAsK k ∧ k ≠ []) :
    (ks.map encM).all (standB rs (ks.map encM)) = (!decide ((dd (ks.filter isRodK)).length < (ks.filter isRodK).length) && (rangeD 1 n.toNat).all fun lv => decide (alikeN (ks.map encM) (.tuple [.str "aside", lv]) ≤ roomAt rs lv)) := by
  rw [Bool.eq_iff_iff]
  have L : (ks.map encM).all (standB rs (ks.map encM)) = true ↔ (∀ k ∈ ks, isRodK k = true → kc ks k ≤ 1) ∧ ∀ k ∈ ks, isAsK k = true → ((kc ks k : Nat) : Int) ≤ roomAt rs (secD (encM k)) := by
    rw [List.all_map, List.all_eq_true]
    have one : ∀ k ∈ ks, (standB rs (ks.map encM) ∘ encM) k = true ↔ (isRodK k = true → kc ks k ≤ 1) ∧ (isAsK k = true → ((kc ks k : Nat) : Int) ≤ roomAt rs (secD (encM k))) := fun k hk => by
      show standB rs (ks.map encM) (encM k) = true ↔ _
      unfold standB
      obtain ⟨e1, e2, _⟩ := p2 k hk
      rw [e1, e2, alike_enc]
      cases isRodK k <;> cases isAsK k <;> simp <;> omega
    constructor
    · intro h
      exact ⟨fun k hk => ((one k hk).mp (h k hk)).1, fun k hk => ((one k hk).mp (h k hk)).2⟩
    · rintro ⟨h1, h2⟩ k hk
      exact (one k hk).mpr ⟨h1 k hk, h2 k hk⟩
  have R : (rangeD 1 n.toNat).all (fun lv => decide (alikeN (ks.map encM) (.tuple [.str "aside", lv]) ≤ roomAt rs lv)) = true ↔ ∀ l : Int, 1 ≤ l → l ≤ n → ((kc ks (kAside l) : Nat) : Int) ≤ roomAt rs (.int l) := by
    rw [List.all_eq_true]
    constructor
    · intro h l h1 h2
      have := h (.int l) (by
        unfold rangeD
        rw [List.mem_map]
        exact ⟨(l - 1).toNat, by rw [List.mem_range]; omega, by congr 1; omega⟩)
      have := of_decide_eq_true this
      rw [show (PyData.tuple [.str "aside", .int l]) = encM (kAside l) from rfl, alike_enc] at this
      exact this
    · intro h d hd
      unfold rangeD at hd
      obtain ⟨i, hi, rfl⟩ := List.mem_map.mp hd
      rw [List.mem_range] at hi
      have := h (1 + (i : Nat)) (by omega) (by omega)
      refine decide_eq_true ?_
      rw [show (PyData.tuple [.str "aside", .int (1 + (i : Nat))]) = encM (kAside (1 + (i : Nat))) from rfl, alike_enc]
      exact this
  rw [L, Bool.and_eq_true, R, Bool.not_eq_true', decide_eq_false_iff_not, dd_nodup, Classical.not_not, ← rods_iff]
  refine and_congr_right fun _ => ?_
  constructor
  · intro h l h1 h2
    obtain ⟨r, _, r0, er⟩ := room_int hl hr (by omega) h2
    by_cases hm : kAside l ∈ ks
    · exact h _ hm (by show (("aside" : Str) == ("aside" : Str)) = true; exact beq_self_eq_true _)
    · have : kc ks (kAside l) = 0 := by
        letI : BEq MKey := instBEqOfDecidableEq
        show ks.count (kAside l) = 0
        exact List.count_eq_zero_of_not_mem hm
      rw [this, er]
      exact r0
  · intro h k hk ha
    obtain ⟨i, rfl, h1, h2⟩ := p1 k hk ha
    exact h i h1 h2
theorem zip_all {n made : Int} : ∀ {men aims : List PyData}, men.length = aims.length → ((List.zip men aims).all fun p => manB n made p.1 p.2) = (men.all (placeB n made) && aims.all (aimB n) && (List.zip men aims).all fun p => fitsB p.1 p.2)
  | [], [], _ => rfl
  | m :: men, a :: aims, h => by
    have z := zip_all (n := n) (made := made) (men := men) (aims := aims) (by simpa using h)
    rw [List.zip_cons_cons, List.all_cons, List.all_cons, List.all_cons, List.all_cons, z]
    unfold manB
    generalize placeB n made m = x1
    generalize aimB n a = x2
    generalize fitsB m a = x3
    generalize men.all (placeB n made) = x4
    generalize aims.all (aimB n) = x5
    generalize ((List.zip men aims).all fun p => fitsB p.1 p.2) = x6
    cases x1 <;> cases x2 <;> cases x3 <;> cases x4 <;> cases x5 <;> cases x6 <;> rfl
  | [], _ :: _, h => by simp at h
  | _ :: _, [], h => by simp at h
theorem tupN_len {ds : List PyData} {n : Int} : tupN n (.tuple ds) = decide (((ds.length : Nat) : Int) = n) := rfl
theorem place_head {n made : Int} {d : PyData} (h : placeB n made d = true) : ∃ a r, d = .tuple (a :: r) := by
  cases d with
  | tuple ds =>
    cases ds with
    | nil => cases h
    | cons a r => exact ⟨a, r, rfl⟩
  | _ => cases h
end Cr
namespace Cr
open PySem PySem.Spec PyProof.Rows L2

theorem aside_shal (l : Int) : shal (.tuple [.str "aside", .int l]) = true := by unfold shal; simp [PyData.depth, PyData.depthAll]
theorem crowd_rest {n : Int} {rs : List PyData} {made : Int} {t sh : PyData} {men aims : List PyData} (hp : pitD sh = some (n, rs)) (few : men.length < 64) (ht : t = .tuple [.tuple men, .tuple aims]) :
    retOf 11 g_is_crowd [t, sh, .int made] = some (.bool (crowdB n rs made t)) := by
  subst ht
  obtain ⟨h0, ⟨r2, h2, hix⟩, n0, n1, hl, hr⟩ := pit_parts hp
  refine retOf_v ?_
  show g_is_crowd [some (.tuple [.tuple men, .tuple aims]), some sh, some (.int made), none, none, none, none, none, none, none, none] = _
  have a1 := fLc_all (f := fSeq (fVar 0)) (u := fun d ρ => ρ.set 8 (some d)) (k := f1 (hIsi isTup) (fVar 8)) (vs := [8]) (ρ := [some (.tuple [.tuple men, .tuple aims]), some sh, some (.int made), none, none, none, none, none, none, none, none]) (ds := [.tuple men, .tuple aims]) (q := isTup) rfl
    (fun d _ => rfl)
  refine (sIf_go (by rw [bOr_f rfl, bNot_v (fB_v a1)]; rfl)).trans ?_
  refine (sSeq_nx (ρ' := [some (.tuple [.tuple men, .tuple aims]), some sh, some (.int made), some (.tuple men), some (.tuple aims), none, none, none, none, none, none]) rfl).trans ?_
  -- the lengths, the places
  have b1 : fB (f2 hNe (f1 hLen (fVar 3)) (f1 hLen (fVar 4))) [some (.tuple [.tuple men, .tuple aims]), some sh, some (.int made), some (.tuple men), some (.tuple aims), none, none, none, none, none, none] = some (!decide (men.length = aims.length)) := by
    refine fB_v ((f2_v (d := .int men.length) (e := .int aims.length) rfl rfl).trans ?_)
    rw [hNe_v (by rw [shal_int]; rfl), eqv_ii]
    congr 3
    by_cases c : men.length = aims.length
    · rw [c]; simp
    · rw [decide_eq_false c]; simp; omega
  have b2 := fLc_all (f := fSeq (fVar 3)) (u := fun d ρ => ρ.set 6 (some d)) (k := fCall p_is_place (fCons (fVar 6) (fCons (fVar 1) (fCons (fVar 2) fNil)))) (vs := [6]) (ρ := [some (.tuple [.tuple men, .tuple aims]), some sh, some (.int made), some (.tuple men), some (.tuple aims), none, none, none, none, none, none]) (ds := men) (q := placeB n made) rfl
    (fun d _ => by
      show (pitD sh).map (fun p => PyData.bool (placeB p.1 made d)) = _
      rw [hp]; rfl)
  show _ = some (Out.rt (.bool (decide (men.length = aims.length) && ((List.zip men aims).all fun p => manB n made p.1 p.2) && men.all (standB rs men))))
  by_cases cl : men.length = aims.length
  · rw [zip_all cl]
    rw [decide_eq_true cl] at b1
    rw [decide_eq_true cl]
    cases cp : men.all (placeB n made) with
    | false =>
      rw [cp] at b2
      refine (sIf_no (by rw [bOr_f b1]; exact bNot_v (fB_v b2)) rfl).trans ?_
      rfl
    | true =>
      rw [cp] at b2
      refine (sIf_go (by rw [bOr_f b1]; exact bNot_v (fB_v b2))).trans ?_
      -- the aims
      have c1 := fLc_all (f := fSeq (fVar 4)) (u := fun d ρ => ρ.set 9 (some d)) (k := fCall p_is_aim (fCons (fVar 9) (fCons (fVar 1) fNil))) (vs := [9]) (ρ := [some (.tuple [.tuple men, .tuple aims]), some sh, some (.int made), some (.tuple men), some (.tuple aims), none, none, none, none, none, none]) (ds := aims) (q := aimB n) rfl
        (fun d _ => by
          show (pitD sh).map (fun p => PyData.bool (aimB p.1 d)) = _
          rw [hp]; rfl)
      have hpl : ∀ d ∈ men, placeB n made d = true := List.all_eq_true.mp cp
      have c2 := fLc_all (f := fZipN (fVar 3) (fVar 4)) (u := fun d ρ => ρ.set 10 (some d)) (k := fStar 2 p_fits_aim (fVar 10)) (vs := [10]) (ρ := [some (.tuple [.tuple men, .tuple aims]), some sh, some (.int made), some (.tuple men), some (.tuple aims), none, none, none, none, none, none]) (ds := (men.zip aims).map fun q => .tuple [q.1, q.2]) (q := fun d => match d with | .tuple [a, b] => fitsB a b | _ => false)
        (by show (if men.length = aims.length then some ((men.zip aims).map fun q => PyData.tuple [q.1, q.2]) else none) = _; rw [if_pos cl])
        (fun d hd => by
          obtain ⟨⟨a, b⟩, hab, rfl⟩ := List.mem_map.mp hd
          obtain ⟨x, r, rfl⟩ := place_head (hpl a (List.of_mem_zip hab).1)
          rfl)
      rw [List.all_map] at c2
      have c3 : (men.zip aims).all ((fun d => match d with | PyData.tuple [a, b] => fitsB a b | _ => false) ∘ fun q => PyData.tuple [q.1, q.2]) = (List.zip men aims).all fun p => fitsB p.1 p.2 := rfl
      rw [c3] at c2
      cases ca : aims.all (aimB n) with
      | false =>
        rw [ca] at c1
        refine (sIf_no (bOr_t (bNot_v (fB_v c1))) rfl).trans ?_
        rfl
      | true =>
        rw [ca] at c1
        cases cf : (List.zip men aims).all fun p => fitsB p.1 p.2 with
        | false =>
          rw [cf] at c2
          refine (sIf_no (by rw [bOr_f (bNot_v (fB_v c1))]; exact bNot_v (fB_v c2)) rfl).trans ?_
          rfl
        | true =>
          rw [cf] at c2
          refine (sIf_go (by rw [bOr_f (bNot_v (fB_v c1))]; exact bNot_v (fB_v c2))).trans ?_
          obtain ⟨ks, ek, p1, p2⟩ := places_keys cp
          have d1 := fLc_filter (f := fSeq (fVar 3)) (u := fun d ρ => ρ.set 6 (some d)) (t := fB (f2 hEq (f2 hIx (fVar 6) (fC (.int 0))) (fC (.str "rod")))) (k := fVar 6) (vs := [6]) (ρ := [some (.tuple [.tuple men, .tuple aims]), some sh, some (.int made), some (.tuple men), some (.tuple aims), none, none, none, none, none, none]) (ds := men) (p := fun d => isS "rod" (headD d)) (h := id) rfl
            (fun d hd => by
              obtain ⟨x, r, rfl⟩ := place_head (hpl d hd)
              refine fB_v ((f2_v ((f2_v rfl rfl).trans (ixt0 _ _)) rfl).trans ?_)
              rw [hEq_v (by rw [shal_str, Bool.or_true])]
              rfl)
            (fun d _ => rfl)
          have d2 : (men.filter fun d => isS "rod" (headD d)).map id = (ks.filter isRodK).map encM := by
            rw [List.map_id, ek, filter_enc fun k hk => (p2 k hk).1]
          rw [d2] at d1
          refine (sSeq_nx (sSet_v d1)).trans ?_
          have lk : (ks.filter isRodK).length < 64 := by
            have z1 := List.length_filter_le isRodK ks
            have z2 : men.length = ks.length := by rw [ek, List.length_map]
            omega
          have d3 : fB (f2 (hII fun i j => .bool (decide (i < j))) (f1 hLenSet (fVar 5)) (f1 hLen (fVar 5))) [some (.tuple [.tuple men, .tuple aims]), some sh, some (.int made), some (.tuple men), some (.tuple aims), some (.list ((ks.filter isRodK).map encM)), none, none, none, none, none] = some (decide ((dd (ks.filter isRodK)).length < (ks.filter isRodK).length)) := by
            refine fB_v ((f2_v (d := .int (dd (ks.filter isRodK)).length) (e := .int (ks.filter isRodK).length) ((f1_v rfl).trans ?_) ((f1_v rfl).trans ?_)).trans ?_)
            · show (if ((ks.filter isRodK).map encM).length < 64 then (mapO tupKey ((ks.filter isRodK).map encM)).bind fun ks => some (PyData.int ((dd ks).length : Nat)) else none) = _
              rw [if_pos (by rw [List.length_map]; exact lk), mapO_encM]
              rfl
            · show some (PyData.int ((ks.filter isRodK).map encM).length) = _
              rw [List.length_map]
            · show some (PyData.bool (decide ((((dd (ks.filter isRodK)).length : Nat) : Int) < ((ks.filter isRodK).length : Nat)))) = _
              congr 2
              exact decide_eq_decide.mpr (by omega)
          have es := stand_eq hl hr p1 p2
          rw [← ek] at es
          rw [es]
          cases cr : decide ((dd (ks.filter isRodK)).length < (ks.filter isRodK).length) with
          | true =>
            rw [cr] at d3
            exact sIf_no d3 rfl
          | false =>
            rw [cr] at d3
            refine (sIf_go d3).trans ?_
            refine sRet_v ?_
            refine (fLc_all (ds := rangeD 1 n.toNat) (q := fun lv => decide (alikeN men (.tuple [.str "aside", lv]) ≤ roomAt rs lv)) ?_ (fun d hd => ?_)).trans ?_
            · have e1 : f2 (hII fun i j => .int (i + j)) (f2 hIx (fVar 1) (fC (.int 0))) (fC (.int 1)) [some (.tuple [.tuple men, .tuple aims]), some sh, some (.int made), some (.tuple men), some (.tuple aims), some (.list ((ks.filter isRodK).map encM)), none, none, none, none, none] = some (.int (n + 1)) :=
                (f2_v (d := .int n) (e := .int 1) ((f2_v rfl rfl).trans h0) rfl).trans rfl
              show ((some (PyData.int 1)).bind fun a => (f2 (hII fun i j => .int (i + j)) (f2 hIx (fVar 1) (fC (.int 0))) (fC (.int 1)) [some (.tuple [.tuple men, .tuple aims]), some sh, some (.int made), some (.tuple men), some (.tuple aims), some (.list ((ks.filter isRodK).map encM)), none, none, none, none, none]).bind fun b => _) = _
              rw [e1]
              show (if -1000 ≤ (1 : Int) ∧ (1 : Int) ≤ 1000 ∧ -1000 ≤ n + 1 ∧ n + 1 ≤ 1000 then some (rangeD 1 (n + 1 - 1).toNat) else none) = _
              rw [if_pos ⟨by omega, by omega, by omega, by omega⟩]
              congr 2
              omega
            · unfold rangeD at hd
              obtain ⟨i, hi, rfl⟩ := List.mem_map.mp hd
              rw [List.mem_range] at hi
              obtain ⟨r, e1, _, e2⟩ := room_int (l := 1 + (i : Nat)) hl hr (by omega) (by omega)
              have e3 := hix _ _ e1
              rw [show (((1 + (i : Nat) : Int).toNat : Nat) : Int) = 1 + (i : Nat) by omega] at e3
              refine (f2_v (d := .int (alikeN men (.tuple [.str "aside", .int (1 + (i : Nat))]))) (e := .int r) ((f2_v (d := .tuple men) (e := .tuple [.str "aside", .int (1 + (i : Nat))]) rfl rfl).trans ?_) ((f2_v (d := r2) (e := .int (1 + (i : Nat))) ((f2_v rfl rfl).trans h2) rfl).trans e3)).trans ?_
              · exact if_pos (by rw [aside_shal, Bool.or_true])
              · show some (PyData.bool (decide (alikeN men (.tuple [.str "aside", .int (1 + (i : Nat))]) ≤ r))) = _
                rw [e2]
            · simp
  · rw [decide_eq_false cl] at b1
    rw [decide_eq_false cl]
    refine (sIf_no (bOr_t b1) rfl).trans ?_
    rfl
theorem crowd_one {n : Int} {rs : List PyData} {made : Int} (a : PyData) : crowdB n rs made (.tuple [a]) = false := by
  cases a <;> rfl
theorem crowd_many {n : Int} {rs : List PyData} {made : Int} (a b c : PyData) (r : List PyData) : crowdB n rs made (.tuple (a :: b :: c :: r)) = false := by
  cases a <;> first | rfl | (cases b <;> rfl)
theorem hG_is_crowd : ∀ ds d, ds.length = 3 → p_is_crowd ds = some d → retOf 11 g_is_crowd ds = some d := by
  intro ds d hl h
  unfold p_is_crowd at h
  split at h
  · rename_i t sh made
    obtain ⟨⟨n, rs⟩, hp, e⟩ := Option.bind_eq_some_iff.mp h
    split at e
    · rename_i few
      cases e
      show _ = some (PyData.bool (crowdB n rs made t))
      cases t with
      | tuple ds =>
        rcases ds with _ | ⟨a, _ | ⟨b, _ | ⟨c, r⟩⟩⟩
        · rfl
        · rw [crowd_one]; rfl
        · have a1 := fLc_all (f := fSeq (fVar 0)) (u := fun d ρ => ρ.set 8 (some d)) (k := f1 (hIsi isTup) (fVar 8)) (vs := [8]) (ρ := [some (.tuple [a, b]), some sh, some (.int made), none, none, none, none, none, none, none, none]) (ds := [a, b]) (q := isTup) rfl
            (fun d _ => rfl)
          cases ca : [a, b].all isTup with
          | false =>
            rw [ca] at a1
            refine (retOf_v (d := .bool false) (sIf_no (by rw [bOr_f rfl]; exact bNot_v (fB_v a1)) rfl)).trans ?_
            have : crowdB n rs made (.tuple [a, b]) = false := by cases a <;> cases b <;> first | rfl | (cases ca)
            rw [this]
          | true =>
            cases a <;> first | (cases ca; done) | skip
            cases b <;> first | (cases ca; done) | skip
            exact crowd_rest hp (of_decide_eq_true few) rfl
        · have t2 : tupN 2 (.tuple (a :: b :: c :: r)) = false := by rw [tupN_len]; exact decide_eq_false (by simp only [List.length_cons]; omega)
          rw [crowd_many]
          refine retOf_v (d := .bool false) (sIf_no (bOr_t ?_) rfl)
          refine bNot_v (fB_v (x := false) ?_)
          show some (PyData.bool (tupN 2 (.tuple (a :: b :: c :: r)))) = _
          rw [t2]
      | _ => rfl
    · cases e
  · cases h
end Cr
namespace Cr
open PySem PySem.Spec PyProof.Rows L2

theorem depth_encK (k : Key) : (encK k).depth ≤ 1 := by cases k <;> simp [encK, PyData.depth]
theorem depth_encs : ∀ k : MKey, PyData.depthAll (k.map encK) ≤ 1
  | [] => by simp [PyData.depthAll]
  | x :: r => by
    have h1 := depth_encK x
    have h2 := depth_encs r
    rw [List.map_cons]
    simp only [PyData.depthAll]
    omega
theorem shal_enc (k : MKey) : shal (encM k) = true := by
  have := depth_encs k
  unfold shal encM
  refine decide_eq_true ?_
  simp only [PyData.depth]
  omega
abbrev gLoop : Ds → Option Out := (sSeq (sSet 7 (f1 hLen (fLc (fSeq (fVar 3)) (fun d ρ => ρ.set 8 (some d)) (fB (f2 hEq (fVar 8) (fVar 6))) (fVar 8) [8])))
    (sIf (bOr (bAnd (fB (f2 hEq (f2 hIx (fVar 6) (fC (.int 0))) (fC (.str "rod")))) (fB (f2 (hII fun i j => .bool (decide (j < i))) (fVar 7) (fC (.int 1))))) (bAnd (fB (f2 hEq (f2 hIx (fVar 6) (fC (.int 0))) (fC (.str "aside")))) (fB (f2 (hII fun i j => .bool (decide (j < i))) (fVar 7) (f2 hIx (f2 hIx (fVar 1) (fC (.int 2))) (f2 hIx (fVar 6) (fC (.int 1)))))))) (sRet (fC (.bool false))) sNil))
theorem bAnd_v {fb gb : Ds → Option Bool} {ρ : Ds} {x y : Bool} (h : fb ρ = some x) (h2 : x = true → gb ρ = some y) : bAnd fb gb ρ = some (x && y) := by
  cases x with
  | false => rw [bAnd_f h]; rfl
  | true => rw [bAnd_t h, h2 rfl]; rfl
theorem spot_turn {n made : Int} {rs men : List PyData} {t sh d3 e d5 spot : PyData} {x7 x8 x9 : Option PyData} (hp : pitD sh = some (n, rs)) (hs : placeB n made spot = true) :
    gLoop [some t, some sh, some d3, some (.tuple men), some e, some d5, some spot, x7, x8, x9] = some (if standB rs men spot = true then .nx [some t, some sh, some d3, some (.tuple men), some e, some d5, some spot, some (.int (alikeN men spot)), x8, x9] else .rt (.bool false)) := by
  obtain ⟨h0, ⟨r2, h2, hix⟩, n0, n1, hl, hr⟩ := pit_parts hp
  obtain ⟨k, ek, p1, p2, p3, p4⟩ := place_key hs
  obtain ⟨a, r, ea⟩ := place_head hs
  have e1 : f1 hLen (fLc (fSeq (fVar 3)) (fun d ρ => ρ.set 8 (some d)) (fB (f2 hEq (fVar 8) (fVar 6))) (fVar 8) [8]) [some t, some sh, some d3, some (.tuple men), some e, some d5, some spot, x7, x8, x9] = some (.int (alikeN men spot)) := by
    refine (f1_v (fLc_filter (ds := men) (p := fun d => PyData.eqv d spot) (h := id) rfl (fun d _ => ?_) (fun d _ => rfl))).trans ?_
    · refine fB_v ((f2_v rfl rfl).trans ?_)
      rw [hEq_v (by rw [ek, shal_enc, Bool.or_true])]
    · show some (PyData.int ((men.filter fun d => PyData.eqv d spot).map id).length) = _
      rw [List.map_id, ← List.countP_eq_length_filter]
      rfl
  refine (sSeq_nx (sSet_v e1)).trans ?_
  have hd : ∀ x : Str, fB (f2 hEq (f2 hIx (fVar 6) (fC (.int 0))) (fC (.str x))) [some t, some sh, some d3, some (.tuple men), some e, some d5, some spot, some (.int (alikeN men spot)), x8, x9] = some (isS x (headD spot)) := fun x => by
    subst ea
    refine fB_v ((f2_v ((f2_v rfl rfl).trans (ixt0 _ _)) rfl).trans ?_)
    rw [hEq_v (by rw [shal_str, Bool.or_true])]
    rfl
  have c1 : fB (f2 (hII fun i j => .bool (decide (j < i))) (fVar 7) (fC (.int 1))) [some t, some sh, some d3, some (.tuple men), some e, some d5, some spot, some (.int (alikeN men spot)), x8, x9] = some (decide (1 < alikeN men spot)) := rfl
  have c2 : isAsK k = true → fB (f2 (hII fun i j => .bool (decide (j < i))) (fVar 7) (f2 hIx (f2 hIx (fVar 1) (fC (.int 2))) (f2 hIx (fVar 6) (fC (.int 1))))) [some t, some sh, some d3, some (.tuple men), some e, some d5, some spot, some (.int (alikeN men spot)), x8, x9] = some (decide (roomAt rs (secD spot) < alikeN men spot)) := fun ha => by
    obtain ⟨i, ei, i1, i2⟩ := p1 ha
    obtain ⟨q, q1, _, q2⟩ := room_int (l := i) hl hr (by omega) (by omega)
    have q3 := hix _ _ q1
    rw [show ((i.toNat : Nat) : Int) = i by omega] at q3
    have es : spot = .tuple [.str "aside", .int i] := by rw [ek, ei]; rfl
    have e6 : f2 hIx (fVar 6) (fC (.int 1)) [some t, some sh, some d3, some (.tuple men), some e, some d5, some spot, some (.int (alikeN men spot)), x8, x9] = some (.int i) := by
      refine (f2_v (d := spot) rfl rfl).trans ?_
      rw [es]
      exact ixt1 _ _ _
    refine fB_v ((f2_v (d := .int (alikeN men spot)) (e := .int q) rfl ((f2_v ((f2_v rfl rfl).trans h2) e6).trans q3)).trans ?_)
    show some (PyData.bool (decide (q < alikeN men spot))) = _
    rw [← q2, es]
    rfl
  have hda := hd "aside"
  have cond := bOr_v (bAnd_v (hd "rod") fun _ => c1) (bAnd_v hda fun hx => c2 (by rw [p3] at hx; exact hx))
  have st : standB rs men spot = !((isS "rod" (headD spot) && decide (1 < alikeN men spot)) || (isS "aside" (headD spot) && decide (roomAt rs (secD spot) < alikeN men spot))) := by
    unfold standB
    rw [Bool.not_or]
  rw [st]
  cases cb : ((isS "rod" (headD spot) && decide (1 < alikeN men spot)) || (isS "aside" (headD spot) && decide (roomAt rs (secD spot) < alikeN men spot))) with
  | true =>
    rw [cb] at cond
    exact (sIf_t cond).trans rfl
  | false =>
    rw [cb] at cond
    exact (sIf_f cond).trans rfl
theorem loop_go {n made : Int} {rs men : List PyData} {t sh d3 e : PyData} (hp : pitD sh = some (n, rs)) : ∀ {L : List (PyData × PyData)} (x5 x6 x7 x8 x9 : Option PyData), (∀ p ∈ L, placeB n made p.2 = true) →
    ∃ ρ, forGo (fun d ρ => (ρ.set 5 (some d.1)).set 6 (some d.2)) gLoop L [some t, some sh, some d3, some (.tuple men), some e, x5, x6, x7, x8, x9] = some (if (L.all fun p => standB rs men p.2) = true then .nx ρ else .rt (.bool false))
  | [], _, _, _, _, _, _ => ⟨_, rfl⟩
  | p :: L, x5, x6, x7, x8, x9, h => by
    have e1 := spot_turn (men := men) (t := t) (d3 := d3) (e := e) (d5 := p.1) (x7 := x7) (x8 := x8) (x9 := x9) hp (h p List.mem_cons_self)
    obtain ⟨ρ, e2⟩ := loop_go (men := men) (t := t) (d3 := d3) (e := e) hp (L := L) (some p.1) (some p.2) (some (.int (alikeN men p.2))) x8 x9 fun q hq => h q (List.mem_cons_of_mem _ hq)
    refine ⟨ρ, ?_⟩
    show (gLoop [some t, some sh, some d3, some (.tuple men), some e, some p.1, some p.2, x7, x8, x9]).bind _ = _
    rw [e1, List.all_cons]
    cases standB rs men p.2 with
    | true => exact e2.trans (by rw [Bool.true_and])
    | false => rfl
theorem fits_rest {n : Int} {rs : List PyData} {made : Int} {t sh : PyData} {men aims : List PyData} (hp : pitD sh = some (n, rs)) (ht : t = .tuple [.tuple men, .tuple aims]) :
    retOf 10 g_law_fits [t, sh, .int made] = some (.bool (crowdB n rs made t)) := by
  subst ht
  refine retOf_v ?_
  show g_law_fits [some (.tuple [.tuple men, .tuple aims]), some sh, some (.int made), none, none, none, none, none, none, none] = _
  have a1 := fLc_all (f := fSeq (fVar 0)) (u := fun d ρ => ρ.set 8 (some d)) (k := f1 (hIsi isTup) (fVar 8)) (vs := [8]) (ρ := [some (.tuple [.tuple men, .tuple aims]), some sh, some (.int made), none, none, none, none, none, none, none]) (ds := [.tuple men, .tuple aims]) (q := isTup) rfl
    (fun d _ => rfl)
  refine (sIf_go (by rw [bOr_f rfl, bOr_f ((ne_len (ds := [.tuple men, .tuple aims]) rfl).trans rfl), bNot_v (fB_v a1)]; rfl)).trans ?_
  refine (sSeq_nx (ρ' := [some (.tuple [.tuple men, .tuple aims]), some sh, some (.int made), some (.tuple men), some (.tuple aims), none, none, none, none, none]) rfl).trans ?_
  have b1 : fB (f2 hNe (f1 hLen (fVar 3)) (f1 hLen (fVar 4))) [some (.tuple [.tuple men, .tuple aims]), some sh, some (.int made), some (.tuple men), some (.tuple aims), none, none, none, none, none] = some (!decide (men.length = aims.length)) := by
    refine fB_v ((f2_v (d := .int men.length) (e := .int aims.length) rfl rfl).trans ?_)
    rw [hNe_v (by rw [shal_int]; rfl), eqv_ii]
    congr 3
    by_cases c : men.length = aims.length
    · rw [c]; simp
    · rw [decide_eq_false c]; simp; omega
  show _ = some (Out.rt (.bool (decide (men.length = aims.length) && ((List.zip men aims).all fun p => manB n made p.1 p.2) && men.all (standB rs men))))
  by_cases cl : men.length = aims.length
  · rw [decide_eq_true cl] at b1
    rw [decide_eq_true cl]
    have b2 := fLc_all (f := fZip (fVar 3) (fVar 4)) (u := fun d ρ => (ρ.set 6 (some d.1)).set 9 (some d.2)) (k := fCall p_law_fits_man (fCons (fVar 6) (fCons (fVar 9) (fCons (fVar 1) (fCons (fVar 2) fNil))))) (vs := [6, 9]) (ρ := [some (.tuple [.tuple men, .tuple aims]), some sh, some (.int made), some (.tuple men), some (.tuple aims), none, none, none, none, none]) (ds := men.zip aims) (q := fun p => manB n made p.1 p.2)
      (by show (if men.length = aims.length then some (men.zip aims) else none) = _; rw [if_pos cl])
      (fun p _ => by
        show (pitD sh).map (fun q => PyData.bool (manB q.1 made p.1 p.2)) = _
        rw [hp]; rfl)
    cases cm : (List.zip men aims).all fun p => manB n made p.1 p.2 with
    | false =>
      rw [cm] at b2
      refine (sIf_no (by rw [bOr_f b1]; exact bNot_v (fB_v b2)) rfl).trans ?_
      rfl
    | true =>
      rw [cm] at b2
      refine (sIf_go (by rw [bOr_f b1]; exact bNot_v (fB_v b2))).trans ?_
      have cp : men.all (placeB n made) = true := by
        rw [zip_all cl] at cm
        exact (Bool.and_eq_true_iff.mp (Bool.and_eq_true_iff.mp cm).1).1
      have hpl : ∀ d ∈ men, placeB n made d = true := List.all_eq_true.mp cp
      obtain ⟨ρ, e1⟩ := loop_go (n := n) (made := made) (men := men) (t := .tuple [.tuple men, .tuple aims]) (d3 := .int made) (e := .tuple aims) hp (L := enumD men) none none none none none fun p hq => hpl _ (List.of_mem_zip hq).2
      have e2 : ((enumD men).all fun p => standB rs men p.2) = men.all (standB rs men) := by
        have z : (enumD men).map (·.2) = men := by
          unfold enumD
          exact List.map_snd_zip (by simp [rangeD])
        have z2 := congrArg (fun l => List.all l (standB rs men)) z
        simp only [List.all_map] at z2
        exact z2
      rw [e2] at e1
      have e3 : sFor (fEnumT (fVar 3)) (fun d ρ => (ρ.set 5 (some d.1)).set 6 (some d.2)) gLoop [some (.tuple [.tuple men, .tuple aims]), some sh, some (.int made), some (.tuple men), some (.tuple aims), none, none, none, none, none] = some (if men.all (standB rs men) = true then .nx ρ else .rt (.bool false)) := e1
      cases cs : men.all (standB rs men) with
      | true =>
        rw [cs] at e3
        exact (sSeq_nx e3).trans rfl
      | false =>
        rw [cs] at e3
        exact (sSeq_rt e3).trans rfl
  · rw [decide_eq_false cl] at b1
    rw [decide_eq_false cl]
    refine (sIf_no (bOr_t b1) rfl).trans ?_
    rfl
theorem hG_law_fits : ∀ ds d, ds.length = 3 → p_law_fits ds = some d → retOf 10 g_law_fits ds = some d := by
  intro ds d hl h
  unfold p_law_fits p_is_crowd at h
  split at h
  · rename_i t sh made
    obtain ⟨⟨n, rs⟩, hp, e⟩ := Option.bind_eq_some_iff.mp h
    split at e
    · cases e
      show _ = some (PyData.bool (crowdB n rs made t))
      cases t with
      | tuple ds =>
        rcases ds with _ | ⟨a, _ | ⟨b, _ | ⟨c, r⟩⟩⟩
        · exact retOf_v (sIf_no (by rw [bOr_f rfl]; exact bOr_t ((ne_len (ds := []) rfl).trans rfl)) rfl)
        · rw [crowd_one]
          exact retOf_v (sIf_no (by rw [bOr_f rfl]; exact bOr_t ((ne_len (ds := [a]) rfl).trans rfl)) rfl)
        · have a1 := fLc_all (f := fSeq (fVar 0)) (u := fun d ρ => ρ.set 8 (some d)) (k := f1 (hIsi isTup) (fVar 8)) (vs := [8]) (ρ := [some (.tuple [a, b]), some sh, some (.int made), none, none, none, none, none, none, none]) (ds := [a, b]) (q := isTup) rfl
            (fun d _ => rfl)
          cases ca : [a, b].all isTup with
          | false =>
            rw [ca] at a1
            refine (retOf_v (d := .bool false) (sIf_no (by rw [bOr_f rfl, bOr_f ((ne_len (ds := [a, b]) rfl).trans rfl)]; exact bNot_v (fB_v a1)) rfl)).trans ?_
            have : crowdB n rs made (.tuple [a, b]) = false := by cases a <;> cases b <;> first | rfl | (cases ca)
            rw [this]
          | true =>
            cases a <;> first | (cases ca; done) | skip
            cases b <;> first | (cases ca; done) | skip
            exact fits_rest hp rfl
        · rw [crowd_many]
          have t : (!decide ((((a :: b :: c :: r).length : Nat) : Int) = 2)) = true := by rw [decide_eq_false (by simp only [List.length_cons]; omega)]; rfl
          exact retOf_v (sIf_no (by rw [bOr_f rfl]; exact bOr_t ((ne_len rfl).trans (congrArg some t))) rfl)
      | _ => rfl
    · cases e
  · cases h
end Cr
namespace Cr
open PySem PySem.Spec PyProof.Rows L2

/-! ### more operators -/
def smallI (i : Int) : Bool := decide (-(2 ^ 64) < i ∧ i < 2 ^ 64)
def hMul : PyData → PyData → Option PyData
  | .int i, .int j => if smallI i = true ∨ smallI j = true then some (.int (i * j)) else none
  | _, _ => none
def hFdiv : PyData → PyData → Option PyData
  | .int i, .int j => if 0 < j ∧ j < 1073741824 then some (.int (i / j)) else none
  | _, _ => none
def hAbs : PyData → Option PyData
  | .int i => some (.int (if i < 0 then -i else i))
  | _ => none
section
variable {X : Cx}
theorem opd_mul : OpD X (binaryOp .Mult) hMul := by
  intro pins s σ H x y v u Q I rx ry h
  obtain ⟨Z, d, e, r, hz, hd, he, hr, q⟩ := h
  cases d <;> cases e <;> simp only [hMul, reduceCtorEq] at hr
  split at hr
  · rename_i c
    cases hr
    refine op_mul pins s σ H x y v u Q I rx ry ⟨_, _, hd, he, ?_, q _ H (Same.refl H) rfl⟩
    exact c.elim (fun z => .inl (of_decide_eq_true z)) fun z => .inr (of_decide_eq_true z)
  · cases hr
theorem opd_fdiv : OpD X (binaryOp .FloorDiv) hFdiv := by
  intro pins s σ H x y v u Q I rx ry h
  obtain ⟨Z, d, e, r, hz, hd, he, hr, q⟩ := h
  cases d <;> cases e <;> simp only [hFdiv, reduceCtorEq] at hr
  split at hr
  · rename_i c
    cases hr
    exact op_fdiv pins s σ H x y v u Q I rx ry ⟨_, _, hd, he, c, q _ H (Same.refl H) rfl⟩
  · cases hr
theorem cd_abs : CallD X (.builtin "abs") hAbs := by
  intro pins s σ H xs us Q I r h
  obtain ⟨Z, v, d, res, rfl, hz, hd, hr, q⟩ := h
  cases d <;> simp only [hAbs, reduceCtorEq, Option.some.injEq] at hr
  subst hr
  cases (show _ = _ from hd)
  exact call_abs pins s σ H _ us Q I r ⟨_, rfl, q _ H (Same.refl H) rfl⟩
end

/-! ### all but what is protected is kept -/
def SameX (Z : Addr → Prop) (H H' : Hp) : Prop := ∀ b x, ¬ Z b → H b = some x → H' b = some x
def Zl (Z : Addr → Prop) (H : Hp) : Prop := ∀ a, Z a → ∃ xs, H a = some (.lst xs)
section
variable {K : PySem.W.Frag} {Z : Addr → Prop} {H H' H2 : Hp}
theorem Zl.zt (z : Zl Z H) : Zt Z H := fun a h => let ⟨xs, e⟩ := z a h; ⟨_, e⟩
theorem Zl.same (z : Zl Z H) (s : Same H H') : Zl Z H' := fun a h => let ⟨xs, e⟩ := z a h; ⟨xs, s a _ e⟩
theorem Same.sx (s : Same H H') : SameX Z H H' := fun b x _ e => s b x e
theorem SameX.trans (s : SameX Z H H') (t : SameX Z H' H2) : SameX Z H H2 := fun b x n e => t b x n (s b x n e)
theorem car_sx (s : SameX Z H H') (z : Zl Z H) : Car K Z Z H H' := by
  refine ⟨fun a xs h => ?_, fun a xs h n => ⟨s a _ n h, n⟩⟩
  have nz : ∀ {a : Addr} {o : HO}, H a = some o → (∀ l, o ≠ .lst l) → ¬ Z a := fun {a o} e n q => by
    obtain ⟨ys, e2⟩ := z a q
    rw [e] at e2
    cases e2
    exact n ys rfl
  refine ⟨?_, ?_⟩
  · rcases h.1 with (h1 | ⟨o, h1⟩) | h1
    · exact .inl (.inl (s _ _ (nz h1 fun l q => nomatch q) h1))
    · exact .inl (.inr ⟨o, s _ _ (nz h1 fun l q => nomatch q) h1⟩)
    · exact .inr h1
  · rcases h.2 with ⟨o, u, h1, d⟩ | h1
    · exact .inl ⟨o, u, s _ _ (nz h1 fun l q => nomatch q) h1, d⟩
    · exact .inr h1
theorem agr_nil : Agr K Z H [] [] := ⟨rfl, fun i d e => by simp at e⟩
theorem agr_some {d : PyData} {v : V} {σ : L2.St} {ρ : Ds} (h : Dq K Z H d v) (t : Agr K Z H σ ρ) : Agr K Z H (some v :: σ) (some d :: ρ) := by
  refine ⟨by simp [t.len], fun i e he => ?_⟩
  cases i with
  | zero => cases he; exact ⟨v, rfl, h⟩
  | succ i => exact t.get i e he
theorem agr_none {x : Option V} {σ : L2.St} {ρ : Ds} (t : Agr K Z H σ ρ) : Agr K Z H (x :: σ) (none :: ρ) := by
  refine ⟨by simp [t.len], fun i e he => ?_⟩
  cases i with
  | zero => cases he
  | succ i => exact t.get i e he
theorem ixl0 (a : PyData) (r : List PyData) : hIx (.list (a :: r)) (.int 0) = some a := by
  show atI (a :: r) 0 = some a
  unfold atI ixN
  rw [if_pos (by omega), if_pos (by simp only [List.length_cons]; omega)]
  rfl
theorem ixl1 (a b : PyData) (r : List PyData) : hIx (.list (a :: b :: r)) (.int 1) = some b := by
  show atI (a :: b :: r) 1 = some b
  unfold atI ixN
  rw [if_pos (by omega), if_pos (by simp only [List.length_cons]; omega)]
  rfl
theorem ixl2 (a b c : PyData) (r : List PyData) : hIx (.list (a :: b :: c :: r)) (.int 2) = some c := by
  show atI (a :: b :: c :: r) 2 = some c
  unfold atI ixN
  rw [if_pos (by omega), if_pos (by simp only [List.length_cons]; omega)]
  rfl
theorem small_bit (p : Prop) [Decidable p] : smallI (if p then 1 else 0) = true := by split <;> decide
theorem fLst_v {ga : Ds → Option (List PyData)} {ρ : Ds} {ds : List PyData} (h : ga ρ = some ds) : fLst ga ρ = some (.list ds) := by
  show (ga ρ).bind _ = _
  rw [h]; rfl
theorem fTup_v {ga : Ds → Option (List PyData)} {ρ : Ds} {ds : List PyData} (h : ga ρ = some ds) : fTup ga ρ = some (.tuple ds) := by
  show (ga ρ).bind _ = _
  rw [h]; rfl
theorem mul_v {i j : Int} (h : smallI i = true ∨ smallI j = true) : hMul (.int i) (.int j) = some (.int (i * j)) := if_pos h
theorem mod_v {i j : Int} (h : 0 < j) : hMod (.int i) (.int j) = some (.int (i % j)) := if_pos h
theorem fdiv_v {i j : Int} (h : 0 < j ∧ j < 1073741824) : hFdiv (.int i) (.int j) = some (.int (i / j)) := if_pos h
section
variable {f g : F} {ρ : Ds} {i j : Int}
theorem add_e (h : f ρ = some (.int i)) (h2 : g ρ = some (.int j)) : f2 (hII fun i j => .int (i + j)) f g ρ = some (.int (i + j)) := (f2_v h h2).trans rfl
theorem sub_e (h : f ρ = some (.int i)) (h2 : g ρ = some (.int j)) : f2 (hII fun i j => .int (i - j)) f g ρ = some (.int (i - j)) := (f2_v h h2).trans rfl
theorem mul_e (h : f ρ = some (.int i)) (h2 : g ρ = some (.int j)) (c : smallI i = true ∨ smallI j = true) : f2 hMul f g ρ = some (.int (i * j)) := (f2_v h h2).trans (mul_v c)
theorem mod_e (h : f ρ = some (.int i)) (h2 : g ρ = some (.int j)) (c : 0 < j) : f2 hMod f g ρ = some (.int (i % j)) := (f2_v h h2).trans (mod_v c)
theorem fdiv_e (h : f ρ = some (.int i)) (h2 : g ρ = some (.int j)) (c : 0 < j ∧ j < 1073741824) : f2 hFdiv f g ρ = some (.int (i / j)) := (f2_v h h2).trans (fdiv_v c)
theorem int_e (h : f ρ = some (.int i)) : f1 hInt f ρ = some (.int i) := (f1_v h).trans rfl
end
end

/-! ### the urn -/
def Urn (H : Hp) (U : Addr) (m : Int) : Prop := ∃ a b c : Int, H U = some (.lst [.int a, .int b, .int c]) ∧ 0 ≤ c ∧ c ≤ m
theorem Urn.same {H H' : Hp} {U : Addr} {m : Int} (u : Urn H U m) (s : Same H H') : Urn H' U m := let ⟨a, b, c, e, h⟩ := u; ⟨a, b, c, s _ _ e, h⟩
theorem Urn.mono {H : Hp} {U : Addr} {m k : Int} (u : Urn H U m) (h : m ≤ k) : Urn H U k := let ⟨a, b, c, e, h1, h2⟩ := u; ⟨a, b, c, e, h1, by omega⟩
def spTake : Sp := fun vs H Q _ => ∃ (U : Addr) (n m : Int), vs = [.ref U, .int n] ∧ Urn H U m ∧ m ≤ 10000 ∧ 0 < n ∧ n < 1000 ∧ ∀ (r : Int) (H' : Hp), 0 ≤ r → r < n → SameX (fun b => b = U) H H' → Urn H' U (m + 1) → Q (.int r) H'
def p_law_box : List PyData → Option PyData
  | [.list [.int c], .int 0] => some (.list [.int ((if c < 0 then -c else c) * (if (10 : Int) ^ 18 ≤ (if c < 0 then -c else c) then 1 else 0)), .int (c % 2305843009213693951 + 39373 * 0 + 3163027), .int 0])
  | _ => none
section
variable {P : Program} {w : World} {K : PySem.W.Frag} {mg : Str → Option Value} {base : Heap}
abbrev st_law_box : Stmt := topS 16
theorem sc_law_box : FnScope ["_law_script", "_law_k", "_law_cell"] ["_law_script", "_law_k"] (defScope st_law_box) := ⟨rfl, rfl, rfl, by decide +kernel, rfl, by decide +kernel, by decide +kernel⟩
abbrev g_law_box : Ds → Option Out := (sSeq (sSet 2 (fIf (fB (f2 (hII fun i j => .bool (decide (i < j))) (fVar 1) (f1 hLen (fVar 0)))) (f2 hIx (fVar 0) (fVar 1)) (fC (.int 0))))
    (sRet (fLst (fCons (f2 hMul (f1 hAbs (fVar 2)) (f1 hInt (f2 (hII fun i j => .bool (decide (j ≤ i))) (f1 hAbs (fVar 2)) (f2 hPow (fC (.int 10)) (fC (.int 18)))))) (fCons (f2 (hII fun i j => .int (i + j)) (f2 (hII fun i j => .int (i + j)) (f2 hMod (f1 hInt (fVar 2)) (fC (.int 2305843009213693951))) (f2 hMul (fC (.int 39373)) (fVar 1))) (fC (.int 3163027))) (fCons (fC (.int 0)) fNil))))))
theorem ok_law_box {f : Addr} {fd : FuncData} (F : Fun K "_law_box" "_law_box" st_law_box f fd) (T : Txt K mg) 
    (hG : ∀ ds d, ds.length = 2 → p_law_box ds = some d → retOf 3 g_law_box ds = some d) : FnOk P w K mg base CX0 1 f fd ["_law_script", "_law_k"] (spD K 2 p_law_box) :=
  def_ok (k := 0) (g := g_law_box) F sc_law_box rfl hG fun cdv A outer s H E hr =>
    (dss_cons (ds_set (i := 2) sc_law_box.nd (by rfl) (Or.inl (by rfl)) (de_if (dt_cmp opd_lt (de_var (pv 1)) (de_b1 cd_len (by rfl) T.nLen PySem.boot_len (de_var (pv 0))) (nomark _)) (de_ix (de_var (pv 0)) (de_var (pv 1))) de_int))
      (dss_one (ds_ret (de_lst (da_cons (de_op opd_mul (de_b1 cd_abs (by rfl) T.nAbs PyProof.Rows.boot_abs (de_var (pv 2))) (de_t1 cd_int (by rfl) T.tInt PyProof.Rows.boot_int (de_cmp opd_ge (de_b1 cd_abs (by rfl) T.nAbs PyProof.Rows.boot_abs (de_var (pv 2))) (de_op opd_pow de_int de_int) (nomark _)))) (da_cons (de_op opd_add (de_op opd_add (de_op opd_mod (de_t1 cd_int (by rfl) T.tInt PyProof.Rows.boot_int (de_var (pv 2))) de_int) (de_op opd_mul de_int (de_var (pv 1)))) de_int) (da_cons de_int da_nil)))))))
theorem hG_law_box : ∀ ds d, ds.length = 2 → p_law_box ds = some d → retOf 3 g_law_box ds = some d := by
  intro ds d hl h
  unfold p_law_box at h
  split at h
  · rename_i c
    cases h
    refine retOf_v ?_
    show g_law_box [some (.list [.int c]), some (.int 0), none] = _
    refine (sSeq_nx (sSet_v (d := .int c) ((fIf_t rfl).trans ((f2_v rfl rfl).trans (ixl0 _ _))))).trans ?_
    refine sRet_v ?_
    have e1 : f1 hAbs (fVar 2) [some (.list [.int c]), some (.int 0), some (.int c)] = some (.int (if c < 0 then -c else c)) := rfl
    have e2 : f1 hInt (f2 (hII fun i j => .bool (decide (j ≤ i))) (f1 hAbs (fVar 2)) (f2 hPow (fC (.int 10)) (fC (.int 18)))) [some (.list [.int c]), some (.int 0), some (.int c)] = some (.int (if (10 : Int) ^ 18 ≤ (if c < 0 then -c else c) then 1 else 0)) := by
      refine (f1_v ((f2_v e1 (e := .int (10 ^ 18)) (by rfl)).trans rfl)).trans ?_
      show some (PyData.int (if decide ((10 : Int) ^ 18 ≤ (if c < 0 then -c else c)) = true then 1 else 0)) = _
      by_cases h : (10 : Int) ^ 18 ≤ (if c < 0 then -c else c)
      · rw [if_pos (decide_eq_true h), if_pos h]
      · rw [if_neg (by rw [decide_eq_false h]; exact Bool.false_ne_true), if_neg h]
    have e3 := (f2_v (k := hMul) e1 e2).trans (mul_v (.inr (small_bit _)))
    have e4 : f2 hMod (f1 hInt (fVar 2)) (fC (.int 2305843009213693951)) [some (.list [.int c]), some (.int 0), some (.int c)] = some (.int (c % 2305843009213693951)) := (f2_v rfl rfl).trans (mod_v (by decide))
    have e5 : f2 hMul (fC (.int 39373)) (fVar 1) [some (.list [.int c]), some (.int 0), some (.int c)] = some (.int (39373 * 0)) := (f2_v rfl rfl).trans (mul_v (.inl (by decide)))
    exact fLst_v (fCons_v e3 (fCons_v ((f2_v ((f2_v e4 e5).trans rfl) rfl).trans rfl) rfl))
  · cases h
abbrev st_law_take : Stmt := topS 17
theorem sc_law_take : FnScope ["_law_urn", "_law_low_so", "_law_drawn", "_law_once", "_law_far", "_law_twice"] ["_law_urn", "_law_low_so"] (defScope st_law_take) := ⟨rfl, rfl, rfl, by decide +kernel, rfl, by decide +kernel, by decide +kernel⟩
theorem ok_law_take {f : Addr} {fd : FuncData} (F : Fun K "_law_take" "_law_take" st_law_take f fd) (T : Txt K mg) : FnOk P w K mg base CX0 1 f fd ["_law_urn", "_law_low_so"] spTake := by
  refine F.ok sc_law_take (fun vs H Q E h => ?_) (fun cdv A outer s H vs Q E hr h => ?_)
  · obtain ⟨U, n, m, rfl, _⟩ := h
    rfl
  · obtain ⟨U, n, m, rfl, ⟨a, b, c, hU, c0, cm⟩, hm, n0, n1, k⟩ := h
    refine ⟨_, pss_cons (ps_if (dt_cmp opd_gt (de_ix (de_var (pv 0)) de_int) de_int (nomark _))
      (pss_cons (ps_set (i := 2) sc_law_take.nd rfl (Or.inl rfl) (de_op opd_mod (de_t1 cd_int (by rfl) T.tInt PyProof.Rows.boot_int (de_ix (de_var (pv 0)) de_int)) (de_var (pv 1))))
        (pss_cons (ps_asg (de_op opd_fdiv (de_ix (de_var (pv 0)) de_int) (de_var (pv 1))) (pg_sub (pv 0) pe_int set_list))
        (pss_one (ps_ret (pv 2)))))
      pss_nil)
      (pss_cons (ps_asg (de_op opd_add (de_ix (de_var (pv 0)) de_int) de_int) (pg_sub (pv 0) pe_int set_list))
      (pss_cons (ps_set (i := 3) sc_law_take.nd rfl (Or.inl rfl) (de_op opd_mod (de_t1 cd_int (by rfl) T.tInt PyProof.Rows.boot_int (de_op opd_mul (de_op opd_add (de_ix (de_var (pv 0)) de_int) (de_op opd_mul de_int (de_ix (de_var (pv 0)) de_int))) (de_op opd_add de_int (de_ix (de_var (pv 0)) de_int)))) de_int))
      (pss_cons (ps_set (i := 4) sc_law_take.nd rfl (Or.inl rfl) (de_op opd_add (de_op opd_mod (de_t1 cd_int (by rfl) T.tInt PyProof.Rows.boot_int (de_var (pv 3))) de_int) de_int))
      (pss_cons (ps_set (i := 5) sc_law_take.nd rfl (Or.inl rfl) (de_op opd_mod (de_t1 cd_int (by rfl) T.tInt PyProof.Rows.boot_int (de_op opd_mul (de_op opd_add (de_op opd_add (de_var (pv 3)) (de_ix (de_var (pv 0)) de_int)) (de_op opd_fdiv (de_ix (de_var (pv 0)) de_int) de_int)) (de_var (pv 4)))) de_int))
      (pss_one (ps_ret (de_op opd_mod (de_t1 cd_int (by rfl) T.tInt PyProof.Rows.boot_int (de_op opd_fdiv (de_op opd_mod (de_t1 cd_int (by rfl) T.tInt PyProof.Rows.boot_int (de_op opd_add (de_op opd_mul (de_var (pv 5)) de_int) (de_var (pv 3)))) de_int) de_int)) (de_var (pv 1))))))))), ?_⟩
    have no : ∀ {H : Hp}, Zt (fun _ => False) H := fun {H} a h => h.elim
    have dU : ∀ {H : Hp} {a b c : Int}, H U = some (.lst [.int a, .int b, .int c]) → Dq K (fun _ => False) H (.list [.int a, .int b, .int c]) (.ref U) := fun {H a b c} h => ⟨U, _, rfl, h, id, ⟨_, _, rfl, rfl, _, _, rfl, rfl, _, _, rfl, rfl, rfl⟩⟩
    refine ⟨fun _ => False, [some (.list [.int a, .int b, .int c]), some (.int n), none, none, none, none], decide (0 < a), no, agr_some (dU hU) (agr_some rfl (agr_none (agr_none (agr_none (agr_none agr_nil))))), fB_v ((f2_v ((f2_v rfl rfl).trans (ixl0 _ _)) rfl).trans rfl), fun H1 s1 => ?_⟩
    by_cases ha : 0 < a
    · rw [decide_eq_true ha]
      refine iteT ?_
      refine ⟨fun _ => False, [some (.list [.int a, .int b, .int c]), some (.int n), none, none, none, none], .int (a % n), no, agr_some (dU (s1 _ _ hU)) (agr_some rfl (agr_none (agr_none (agr_none (agr_none agr_nil))))), mod_e (int_e ((f2_v rfl rfl).trans (ixl0 _ _))) rfl n0, fun v H2 s2 hv => ?_⟩
      cases hv
      have h2 := (s1.trans s2) _ _ hU
      refine ⟨fun _ => False, [some (.list [.int a, .int b, .int c]), some (.int n), none, none, none, none], .int (a / n), no, agr_some (dU h2) (agr_some rfl (agr_none (agr_none (agr_none (agr_none agr_nil))))), fdiv_e ((f2_v rfl rfl).trans (ixl0 _ _)) rfl ⟨n0, by omega⟩, fun v H3 s3 hv => ?_⟩
      cases hv
      have h3 := s3 _ _ h2
      refine ⟨.ref U, rfl, U, _, 0, 0, rfl, rfl, h3, rfl, ?_⟩
      refine ⟨.int (a % n), rfl, ?_⟩
      refine k _ _ (Int.emod_nonneg _ (by omega)) (Int.emod_lt_of_pos _ n0) (fun x o nx e => ?_) ⟨a / n, b, c, upd_same, c0, by omega⟩
      rw [upd_ne nx]
      exact ((s1.trans s2).trans s3) _ _ e
    · rw [decide_eq_false ha]
      refine iteF ?_
      refine ⟨fun _ => False, [some (.list [.int a, .int b, .int c]), some (.int n), none, none, none, none], .int (c + 1), no, agr_some (dU (s1 _ _ hU)) (agr_some rfl (agr_none (agr_none (agr_none (agr_none agr_nil))))), (f2_v ((f2_v rfl rfl).trans (ixl2 _ _ _ _)) rfl).trans rfl, fun v H2 s2 hv => ?_⟩
      cases hv
      have h2 := (s1.trans s2) _ _ hU
      refine ⟨.ref U, rfl, U, _, 2, 2, rfl, rfl, h2, rfl, ?_⟩
      have h3 : upd H2 U (.lst ([.int a, .int b, .int c].set 2 (.int (c + 1)))) U = some (.lst [.int a, .int b, .int (c + 1)]) := upd_same
      generalize eH : upd H2 U (.lst ([.int a, .int b, .int c].set 2 (.int (c + 1)))) = H3 at h3 ⊢
      have sx : SameX (fun b => b = U) H H3 := fun x o nx e => by
        rw [← eH, upd_ne nx]
        exact (s1.trans s2) _ _ e
      clear eH
      have sm : smallI (39373 + (c + 1)) = true := decide_eq_true ⟨by omega, by omega⟩
      refine ⟨fun _ => False, [some (.list [.int a, .int b, .int (c + 1)]), some (.int n), none, none, none, none], .int (((b + 48271 * (c + 1)) * (39373 + (c + 1))) % 2147483647), no, agr_some (dU h3) (agr_some rfl (agr_none (agr_none (agr_none (agr_none agr_nil))))), ?_, fun v H4 s4 hv => ?_⟩
      · have e1 : f2 hIx (fVar 0) (fC (.int 2)) [some (.list [.int a, .int b, .int (c + 1)]), some (.int n), none, none, none, none] = some (.int (c + 1)) := (f2_v rfl rfl).trans (ixl2 _ _ _ _)
        have e2 : f2 hIx (fVar 0) (fC (.int 1)) [some (.list [.int a, .int b, .int (c + 1)]), some (.int n), none, none, none, none] = some (.int b) := (f2_v rfl rfl).trans (ixl1 _ _ _)
        have e3 : f2 hMul (fC (.int 48271)) (f2 hIx (fVar 0) (fC (.int 2))) [some (.list [.int a, .int b, .int (c + 1)]), some (.int n), none, none, none, none] = some (.int (48271 * (c + 1))) := (f2_v rfl e1).trans (mul_v (.inl (by decide)))
        exact mod_e (int_e (mul_e (add_e e2 e3) (add_e rfl e1) (.inr sm))) rfl (by decide)
      cases hv
      have h4 := s4 _ _ h3
      generalize ((b + 48271 * (c + 1)) * (39373 + (c + 1))) % 2147483647 = once
      refine ⟨fun _ => False, [some (.list [.int a, .int b, .int (c + 1)]), some (.int n), none, some (.int once), none, none], .int (once % 40009 + 7), no, agr_some (dU h4) (agr_some rfl (agr_none (agr_some rfl (agr_none (agr_none agr_nil))))), add_e (mod_e (int_e rfl) rfl (by decide)) rfl, fun v H5 s5 hv => ?_⟩
      cases hv
      have h5 := s5 _ _ h4
      have f0 : smallI (once % 40009 + 7) = true := by
        have z1 := Int.emod_nonneg once (show (40009 : Int) ≠ 0 by decide)
        have z2 := Int.emod_lt_of_pos once (show (0 : Int) < 40009 by decide)
        exact decide_eq_true ⟨by omega, by omega⟩
      generalize once % 40009 + 7 = far at f0 ⊢
      refine ⟨fun _ => False, [some (.list [.int a, .int b, .int (c + 1)]), some (.int n), none, some (.int once), some (.int far), none], .int (((once + (c + 1) + b / 1000003) * far) % 2147483629), no, agr_some (dU h5) (agr_some rfl (agr_none (agr_some rfl (agr_some rfl (agr_none agr_nil))))), ?_, fun v H6 s6 hv => ?_⟩
      · have e1 : f2 hIx (fVar 0) (fC (.int 2)) [some (.list [.int a, .int b, .int (c + 1)]), some (.int n), none, some (.int once), some (.int far), none] = some (.int (c + 1)) := (f2_v rfl rfl).trans (ixl2 _ _ _ _)
        have e2 : f2 hIx (fVar 0) (fC (.int 1)) [some (.list [.int a, .int b, .int (c + 1)]), some (.int n), none, some (.int once), some (.int far), none] = some (.int b) := (f2_v rfl rfl).trans (ixl1 _ _ _)
        exact mod_e (int_e (mul_e (add_e (add_e rfl e1) (fdiv_e e2 rfl (by decide))) rfl (.inr f0))) rfl (by decide)
      cases hv
      have h6 := s6 _ _ h5
      generalize ((once + (c + 1) + b / 1000003) * far) % 2147483629 = twice
      refine ⟨fun _ => False, [some (.list [.int a, .int b, .int (c + 1)]), some (.int n), none, some (.int once), some (.int far), some (.int twice)], .int (((twice * 48271 + once) % 2147483587 / 64) % n), no, agr_some (dU h6) (agr_some rfl (agr_none (agr_some rfl (agr_some rfl (agr_some rfl agr_nil))))), ?_, fun v H7 s7 hv => ?_⟩
      · exact mod_e (int_e (fdiv_e (mod_e (int_e (add_e (mul_e rfl rfl (.inr (by decide))) rfl)) rfl (by decide)) rfl (by decide))) rfl n0
      cases hv
      refine k _ _ (Int.emod_nonneg _ (by omega)) (Int.emod_lt_of_pos _ n0) (sx.trans (Same.sx (((s4.trans s5).trans s6).trans s7))) ⟨a, b, c + 1, s7 _ _ h6, by omega, by omega⟩
end
end Cr
namespace Cr
open PySem PySem.Spec PyProof.Rows L2

/-! ### the cells of a script -/
def spCells (K : PySem.W.Frag) : Sp := fun vs H Q _ => ∃ (a : Addr) (ns : List Int), vs = [.ref a, .int 1] ∧ SqL K H a (ns.map V.int) ∧ ns.length ≤ 63 ∧ ∀ (L : Addr) (H' : Hp) (r : Int), Same H H' → H L = none → H' L = some (.lst [.int r]) → Q (.ref L) H'
def tFirst (K : PySem.W.Frag) : TE := fun σ H Q => ∃ (a : Addr) (ns : List Int), σ[0]? = some (some (.ref a)) ∧ σ[1]? = some (some (.int 1)) ∧ SqL K H a (ns.map V.int) ∧ ∀ (L : Addr) (H' : Hp) (r : Int), Same H H' → H L = none → H' L = some (.lst [.int r]) → Q (.ref L) H'
section
variable {P : Program} {w : World} {K : PySem.W.Frag} {mg : Str → Option Value} {base : Heap}
theorem cut_first0 : cutV ([] : List V) none (some 1) = [] := by simp [cutV]
theorem cut_first (x : V) (r : List V) : cutV (x :: r) none (some 1) = [x] := by
  unfold cutV
  rw [HT.sIx_none, show (some (1 : Int)) = some ((1 : Nat) : Int) from rfl, HT.sIx_nat]
  simp
theorem sqL_same {H H' : Hp} {a : Addr} {xs : List V} (e : Same H H') (h : SqL K H a xs) : SqL K H' a xs := by
  rcases h with (h | ⟨o, h⟩) | h
  · exact .inl (.inl (e _ _ h))
  · exact .inl (.inr ⟨o, e _ _ h⟩)
  · exact .inr h
theorem first_read {σ : L2.St} {H : Hp} {Q : VK} (h : tFirst K σ H Q) :
    tOrT K (tCB (fun xs H Q => ∃ p ys, xs = [.ref p] ∧ (SqL K H p ys ∨ SqT K H p ys) ∧ ∀ l, H l = none → Q (.ref l) (upd H l (.lst ys))) (tCons (tSl (rSlL K) (tVar 0) tNoPart (tPart (tVar 1))) tNil)) (tLst (tCons (tC (.int 0)) tNil)) σ H Q := by
  obtain ⟨a, ns, e0, e1, hS, k⟩ := h
  refine ⟨_, e0, _, e1, 1, rfl, a, _, rfl, hS, fun p hp => ⟨p, _, rfl, .inl (SqL.of upd_same), fun l hl => ?_⟩⟩
  have s1 : Same H (upd H p (.lst (cutV (ns.map V.int) none (some 1)))) := same_upd hp
  have s2 : Same (upd H p (.lst (cutV (ns.map V.int) none (some 1)))) (upd (upd H p (.lst (cutV (ns.map V.int) none (some 1)))) l (.lst (cutV (ns.map V.int) none (some 1)))) := same_upd hl
  have hl0 : H l = none := by
    by_cases e : l = p
    · rw [e]; exact hp
    · rw [upd_ne e] at hl; exact hl
  cases ns with
  | nil =>
    refine ⟨false, .inl ⟨_, SqL.of upd_same, by rw [List.map_nil, cut_first0]; rfl⟩, iteF ⟨by show 1 ≤ sizeLine; rw [sizeLine_eq]; omega, fun q hq => ?_⟩⟩
    have s3 := (s1.trans s2).trans (same_upd (o := .lst [.int 0]) hq)
    refine k q _ 0 s3 ?_ upd_same
    cases e : H q with
    | none => rfl
    | some o => rw [(s1.trans s2) _ _ e] at hq; cases hq
  | cons n r =>
    refine ⟨true, .inl ⟨_, SqL.of upd_same, by rw [List.map_cons, cut_first]; rfl⟩, iteT ?_⟩
    exact k l _ n (s1.trans s2) hl0 (by rw [List.map_cons, cut_first]; exact upd_same)
abbrev st_law_cells : Stmt := topS 18
theorem sc_law_cells : FnScope ["_law_script", "_law_top", "_law_cells_here", "_law_k", "_law_cell", "_law_at_so"] ["_law_script", "_law_top"] (defScope st_law_cells) := ⟨rfl, rfl, rfl, by decide +kernel, rfl, by decide +kernel, by decide +kernel⟩
theorem cutV_ints (ns : List Int) (lo hi : Option Int) : ∃ ms : List Int, cutV (ns.map V.int) lo hi = ms.map V.int ∧ ms.length ≤ ns.length := by
  refine ⟨(ns.drop (HT.sIx ns.length 0 lo)).take (HT.sIx ns.length ns.length hi - HT.sIx ns.length 0 lo), ?_, ?_⟩
  · unfold cutV
    rw [List.length_map, List.map_take, List.map_drop]
  · rw [List.length_take, List.length_drop]; omega
theorem ok_law_cells {f : Addr} {fd : FuncData} (F : Fun K "_law_cells" "_law_cells" st_law_cells f fd) (T : Txt K mg) : FnOk P w K mg base CX0 1 f fd ["_law_script", "_law_top"] (spCells K) := by
  refine F.ok sc_law_cells (fun vs H Q E h => ?_) (fun cdv A outer s H vs Q E hr h => ?_)
  · obtain ⟨a, ns, rfl, _⟩ := h
    rfl
  · obtain ⟨a, ns, rfl, hS, hn, k⟩ := h
    refine ⟨_, pss_cons (ps_set (i := 2) sc_law_cells.nd rfl (Or.inl rfl) (pe_weak (pe_orT (pe_callTy call_list_of rfl T.tList PyProof.Rows.boot_list (pa_cons (pe_slice sl_list (pv 0) po_none (po_some (pv 1))) pa_nil)) (pe_one (pe_lst (pa_cons pe_int pa_nil)))) fun σ H Q h => first_read h))
      (pss_cons (ps_for PassesOwn.never rfl (pi_enum rfl T.tEnum (pa_cons (pe_slice sl_list (pv 0) (po_some (pv 1)) (po_some pe_int)) pa_nil)) (pg_tup rfl (pgs_cons (pg_name (i := 3) sc_law_cells.nd rfl (Or.inl rfl)) (pgs_cons (pg_name (i := 4) sc_law_cells.nd rfl (Or.inl rfl)) pgs_nil)))
        (pss_cons (ps_set (i := 5) sc_law_cells.nd rfl (Or.inl rfl) (de_op opd_mod (de_t1 cd_int (by rfl) T.tInt PyProof.Rows.boot_int (de_var (pv 3))) (de_var (pv 1))))
          (pss_one (ps_asg (de_op opd_add (de_ix (de_var (pv 2)) (de_var (pv 5))) (de_op opd_mul (de_var (pv 4)) (de_op opd_add (de_var (pv 3)) de_int))) (pg_sub (pv 2) (pv 5) set_list)))))
      (pss_one (ps_ret (pv 2)))), ?_⟩
    refine ⟨a, ns, rfl, rfl, hS, fun L H2 r0 s2 hL h2 => ?_⟩
    refine ⟨_, rfl, _, rfl, 1, rfl, 63, rfl, a, _, rfl, sqL_same s2 hS, fun p hp => ?_⟩
    obtain ⟨ms, em, lm⟩ := cutV_ints ns (some 1) (some 63)
    refine ⟨p, _, rfl, SqL.of upd_same, ?_⟩
    have hLp : L ≠ p := fun e => by rw [e, hp] at h2; cases h2
    have h0 : H p = none := by
      cases e : H p with
      | none => rfl
      | some o => rw [s2 _ _ e] at hp; cases hp
    refine for_it (walk_enum (K := K) (a := p) (xs := cutV (ns.map V.int) (some 1) (some 63)))
      (fun i σ H' => ∃ (r : Int) (x3 x4 x5 : Option V), σ = [some (.ref a), some (.int 1), some (.ref L), x3, x4, x5] ∧ Same H H' ∧ H' L = some (.lst [.int r]) ∧ H' p = some (.lst (cutV (ns.map V.int) (some 1) (some 63))))
      ⟨r0, none, none, none, rfl, s2.trans (same_upd hp), by rw [upd_ne hLp]; exact h2, upd_same⟩ (fun i σ H' _ ⟨_, _, _, _, _, _, _, h⟩ => SqL.of h) ?_ ?_
    · rintro i x σ H3 H4 hi ⟨r, x3, x4, x5, rfl, s3, h3, hp3⟩ ⟨T1, y1, y2, rfl, hT, rfl, e1, e2⟩
      cases e1
      have e2 : (ms.map V.int)[i]? = some y2 := by rw [← em]; exact e2
      rw [List.getElem?_map] at e2
      obtain ⟨c, ec, rfl⟩ := Option.map_eq_some_iff.mp e2
      have hi63 : i < 63 := by
        rw [em, List.length_map] at hi
        omega
      have LT : L ≠ T1 := fun e => by rw [e, hT] at h3; cases h3
      have pT : p ≠ T1 := fun e => by rw [e, hT] at hp3; cases hp3
      have no : ∀ {H : Hp}, Zt (fun _ => False) H := fun {H} a h => h.elim
      refine ⟨T1, [.int (i : Nat), .int c], rfl, SqT.of upd_same, rfl, _, [.int c], rfl, _, [], rfl, rfl, ?_⟩
      have h4 : upd H3 T1 (.tup [.int (i : Nat), .int c]) L = some (.lst [.int r]) := by rw [upd_ne LT]; exact h3
      have hp4 : upd H3 T1 (.tup [.int (i : Nat), .int c]) p = some (.lst (cutV (ns.map V.int) (some 1) (some 63))) := by rw [upd_ne pT]; exact hp3
      have s4 := s3.trans (same_upd (o := .tup [V.int (i : Nat), .int c]) hT)
      generalize upd H3 T1 (.tup [.int (i : Nat), .int c]) = H4 at h4 hp4 s4 ⊢
      have dL : ∀ {H : Hp}, H L = some (.lst [.int r]) → Dq K (fun _ => False) H (.list [.int r]) (.ref L) := fun {H} h => ⟨L, _, rfl, h, id, ⟨_, _, rfl, rfl, rfl⟩⟩
      refine ⟨fun _ => False, [none, some (.int 1), some (.list [.int r]), some (.int (i : Nat)), some (.int c), none], .int ((i : Nat) % 1), no, agr_none (agr_some rfl (agr_some (dL h4) (agr_some rfl (agr_some rfl (agr_none agr_nil))))), mod_e (int_e rfl) rfl (by decide), fun v H5 s5 hv => ?_⟩
      cases hv
      rw [Int.emod_one]
      refine ⟨fun _ => False, [none, some (.int 1), some (.list [.int r]), some (.int (i : Nat)), some (.int c), some (.int 0)], .int (r + c * ((i : Nat) + 2)), no, agr_none (agr_some rfl (agr_some (dL (s5 _ _ h4)) (agr_some rfl (agr_some rfl (agr_some rfl agr_nil))))), add_e ((f2_v rfl rfl).trans (ixl0 _ _)) (mul_e rfl (add_e rfl rfl) (.inr (decide_eq_true ⟨by omega, by omega⟩))), fun v H6 s6 hv => ?_⟩
      cases hv
      have h6 := s6 _ _ (s5 _ _ h4)
      refine ⟨_, rfl, _, rfl, L, _, 0, 0, rfl, rfl, h6, rfl, ?_⟩
      refine ⟨r + c * ((i : Nat) + 2), _, _, _, rfl, fun b o e => ?_, upd_same, ?_⟩
      · rw [upd_ne (ne_of_none e hL)]
        exact s6 _ _ (s5 _ _ (s4 _ _ e))
      · rw [upd_ne hLp.symm]
        exact s6 _ _ (s5 _ _ hp4)
    · rintro σ H3 ⟨r, x3, x4, x5, rfl, s3, h3, _⟩
      exact ⟨_, rfl, k L H3 r s3 hL h3⟩
end
end Cr
namespace Cr
open PySem PySem.Spec PyProof.Rows L2

/-! ### the pit -/
theorem dql_ints {K : PySem.W.Frag} {Z : Addr → Prop} {H : Hp} : ∀ rs : List Int, DqL K Z H (rs.map .int) (rs.map V.int)
  | [] => rfl
  | r :: rs => ⟨_, _, rfl, rfl, dql_ints rs⟩
def tDef (sp : Sp) (t : TA) : TE := fun σ H Q => t σ H fun vs H1 => sp vs H1 Q E0
theorem pe_dT {X : Cx} {x : Str} {p pos : Pos} {e : Expr} {es : List Expr} {k : Nat} {sp : Sp} {t : TA} (D : DefOk X.prog X.w X.K X.mg X.base x k sp) (hr : Room k X.A) (hg : Gl X x) (ha : PA X (e :: es) t) (hdb : (x == ("__debug__" : Str)) = false := by decide)
    (he : starEach (e :: es) X.env = (false, eval e X.env) :: starEach es X.env := by rfl) (hpl : (backTo pos (starEach es X.env)).any (·.1) = false := by rfl) : PE X (.Call (.Name x p) (e :: es) [] pos) (tDef sp t)   := pe_def D hr hg ha hdb he hpl
def spPit (K : PySem.W.Frag) : Sp := fun vs H Q _ => ∃ (U : Addr) (m : Int), vs = [.ref U, .int 2, .int 6] ∧ Urn H U m ∧ m ≤ 1000 ∧ ∀ (v : V) (H' : Hp) (n : Int) (b : Bool) (rs : List Int), SameX (fun x => x = U) H H' → Urn H' U (m + 20) → 2 ≤ n → n ≤ 6 → rs.length = n.toNat + 1 →
  (∀ r ∈ rs, 0 ≤ r) → Dq K (fun x => x = U) H' (.tuple [.int n, .bool b, .tuple (rs.map .int)]) v → Q v H'
section
variable {P : Program} {w : World} {K : PySem.W.Frag} {mg : Str → Option Value} {base : Heap}
abbrev st_law_pit : Stmt := topS 21
theorem sc_law_pit : FnScope ["_law_urn", "_law_least", "_law_most", "_law_deep", "_law_k"] ["_law_urn", "_law_least", "_law_most"] (defScope st_law_pit) := ⟨rfl, rfl, rfl, by decide +kernel, rfl, by decide +kernel, by decide +kernel⟩
theorem urn_zl {H : Hp} {U : Addr} {m : Int} (u : Urn H U m) : Zl (fun x => x = U) H := fun a e => by
  obtain ⟨x, y, z, h, _⟩ := u
  exact ⟨_, by rw [e]; exact h⟩
theorem urn_ne {H : Hp} {U D : Addr} {m : Int} (u : Urn H U m) (h : H D = none) : D ≠ U := fun e => by
  obtain ⟨x, y, z, h2, _⟩ := u
  rw [e, h2] at h
  cases h
theorem urn_upd {H : Hp} {U D : Addr} {m : Int} {o : HO} (u : Urn H U m) (h : D ≠ U) : Urn (upd H D o) U m := by
  obtain ⟨x, y, z, h2, h3⟩ := u
  exact ⟨x, y, z, by rw [upd_ne h.symm]; exact h2, h3⟩
theorem ok_law_pit {f : Addr} {fd : FuncData} (F : Fun K "_law_pit" "_law_pit" st_law_pit f fd) (T : Txt K mg) (D : DefOk P w K mg base "_law_take" 1 spTake) : FnOk P w K mg base CX0 2 f fd ["_law_urn", "_law_least", "_law_most"] (spPit K) := by
  refine F.ok sc_law_pit (fun vs H Q E h => ?_) (fun cdv A outer s H vs Q E hr h => ?_)
  · obtain ⟨U, m, rfl, _⟩ := h
    rfl
  · obtain ⟨U, m, rfl, hu, hm, k⟩ := h
    refine ⟨_, pss_cons (ps_set (i := 3) sc_law_pit.nd rfl (Or.inl rfl) (pe_op op_add (pv 1) (pe_dT D hr rfl (pa_cons (pv 0) (pa_cons (pe_op op_add (pe_op op_sub (pv 2) (pv 1)) pe_int) pa_nil)))))
      (pss_one (ps_ret (pe_tupN (pa_cons (pv 3) (pa_cons (pe_cmpR op_eq (pe_dT D hr rfl (pa_cons (pv 0) (pa_cons pe_int pa_nil))) pe_int (nomark _))
        (pa_cons (pe_callTy cd_tuple rfl T.tTuple PyProof.Rows.boot_tuple (pa_cons (pe_lc rfl sc_law_pit.nd (pi_range1 rfl T.tRange (pa_cons (pe_op op_add (pv 3) pe_int) pa_nil))
          (blkOk_by (own := [("_law_k", 4)]) (by show blkC ["_law_urn", "_law_least", "_law_most", "_law_deep", "_law_k"] (defScope st_law_pit) _ _ = true; decide +kernel))
          (fun _ _ _ _ _ => pg_name (i := 4) sc_law_pit.nd rfl (Or.inl rfl)) (fun _ _ _ _ _ => pts_nil) (fun _ _ _ _ _ => pe_dT D hr rfl (pa_cons (pv 0) (pa_cons pe_int pa_nil)))) pa_nil)) pa_nil)))))), ?_⟩
    refine ⟨_, rfl, _, rfl, _, rfl, _, rfl, _, _, rfl, rfl, _, _, rfl, rfl, ?_⟩
    refine ⟨U, 5, m, rfl, hu, by omega, by omega, by omega, fun r H1 r0 r1 x1 u1 => ⟨_, _, rfl, rfl, ?_⟩⟩
    refine ⟨_, rfl, _, rfl, U, 2, m + 1, rfl, u1, by omega, by omega, by omega, fun q H2 q0 q1 x2 u2 => ?_⟩
    refine ⟨rfl, ?_⟩
    refine ⟨_, rfl, _, _, rfl, rfl, 2 + r + 1, rfl, by omega, by omega, fun D1 hD => ?_⟩
    have nD := urn_ne u2 hD
    refine lc_range (fun i H' => SameX (fun x => x = U) H2 H' ∧ ∃ rs : List Int, H' D1 = some (.lst (rs.map V.int)) ∧ rs.length = i ∧ (∀ r ∈ rs, 0 ≤ r) ∧ Urn H' U (m + 1 + 1 + (i : Nat)))
      ⟨Same.sx (same_upd hD), [], upd_same, rfl, fun r hr => (by cases hr), (urn_upd u2 nD).mono (by omega)⟩ ?_ ?_
    · rintro i H3 hi ⟨x3, rs, e3, l3, p3, u3⟩
      refine ⟨rfl, ?_⟩
      unfold tYes
      refine iteT ?_
      refine ⟨_, rfl, U, 4, _, rfl, u3, by omega, by omega, by omega, fun y H4 y0 y1 x4 u4 => ?_⟩
      refine ⟨rs.map V.int, x4 _ _ nD e3, by rw [List.length_map, sizeLine_eq]; omega, fun b o nb e => ?_, rs ++ [y], ?_, by rw [List.length_append, l3]; rfl, fun z hz => ?_, ?_⟩
      · rw [upd_ne (ne_of_none e hD)]
        exact x4 _ _ nb (x3 _ _ nb e)
      · rw [upd_same, List.map_append]; rfl
      · rcases List.mem_append.mp hz with hz | hz
        · exact p3 z hz
        · rw [List.mem_singleton.mp hz]; exact y0
      · exact (urn_upd u4 nD).mono (by omega)
    · rintro H3 ⟨x3, rs, e3, l3, p3, u3⟩
      refine ⟨fun x => x = U, _, .list (rs.map .int), _, rfl, (urn_zl u3).zt, ⟨D1, _, rfl, e3, nD, dql_ints rs⟩, rfl, fun v H4 s4 hv => ⟨by show 3 ≤ sizeLine; rw [sizeLine_eq]; omega, fun p o hp hd => ?_⟩⟩
      have s5 := same_upd (o := .frz o (.tup [V.int (2 + r), .bl (decide (V.int q = V.int 0)), v])) hp
      refine k _ _ (2 + r) (decide (V.int q = V.int 0)) rs ((x1.trans x2).trans (x3.trans (Same.sx (s4.trans s5)))) ((u3.same (s4.trans s5)).mono (by omega)) (by omega) (by omega) (by omega) p3 ?_
      exact ⟨p, _, rfl, tpn_new hd, ⟨_, _, rfl, rfl, ⟨_, _, rfl, rfl, ⟨_, _, rfl, hv.same s5, rfl⟩⟩⟩⟩
end
end Cr
namespace Cr
open PySem PySem.Spec PyProof.Rows L2

/-! ### a crowd grows -/
def pitT (n : Int) (b : Bool) (rs : List Int) : PyData := .tuple [.int n, .bool b, .tuple (rs.map .int)]
structure PitOk (n : Int) (rs : List Int) : Prop where
  lo : 2 ≤ n
  hi : n ≤ 6
  len : rs.length = n.toNat + 1
  nn : ∀ r ∈ rs, 0 ≤ r
theorem rooms_ok {rs : List Int} (h : ∀ r ∈ rs, 0 ≤ r) : (rs.map PyData.int).all (geB 0) = true := by
  rw [List.all_map, List.all_eq_true]
  exact fun r hr => decide_eq_true (h r hr)
theorem pitD_T {n : Int} {b : Bool} {rs : List Int} (p : PitOk n rs) : pitD (pitT n b rs) = some (n, rs.map .int) := by
  have h1 := p.lo
  have h2 := p.hi
  exact if_pos ⟨by omega, by omega, by rw [List.length_map]; exact p.len, rooms_ok p.nn⟩
theorem kc_app (ks : List MKey) (k y : MKey) : kc (ks ++ [k]) y = kc ks y + if k = y then 1 else 0 := by
  letI : BEq MKey := instBEqOfDecidableEq
  show (ks ++ [k]).count y = ks.count y + _
  rw [List.count_append]
  congr 1
  by_cases h : k = y
  · rw [if_pos h, h]; simp
  · rw [if_neg h]; simp [h]
theorem crowd_add {n made : Int} {rs men aims : List PyData} {spot aim : PyData} (hc : crowdB n rs made (.tuple [.tuple men, .tuple aims]) = true) (hm : manB n made spot aim = true)
    (hr : isS "rod" (headD spot) = true → (men.any fun y => PyData.eqv y spot) = false) (ha : isS "aside" (headD spot) = true → alikeN men spot + 1 ≤ roomAt rs (secD spot)) :
    crowdB n rs made (.tuple [.tuple (men ++ [spot]), .tuple (aims ++ [aim])]) = true := by
  have hc : (decide (men.length = aims.length) && ((List.zip men aims).all fun p => manB n made p.1 p.2) && men.all (standB rs men)) = true := hc
  obtain ⟨hc1, c3⟩ := Bool.and_eq_true_iff.mp hc
  obtain ⟨c1, c2⟩ := Bool.and_eq_true_iff.mp hc1
  have c1 := of_decide_eq_true c1
  have cz := c2
  rw [zip_all c1] at cz
  have cp := (Bool.and_eq_true_iff.mp (Bool.and_eq_true_iff.mp cz).1).1
  have hp : placeB n made spot = true := by
    have hm : (placeB n made spot && aimB n aim && fitsB spot aim) = true := hm
    exact (Bool.and_eq_true_iff.mp (Bool.and_eq_true_iff.mp hm).1).1
  obtain ⟨ks, rfl, p1, p2⟩ := places_keys cp
  obtain ⟨k, rfl, q1, q2, q3, q4⟩ := place_key hp
  show (decide ((ks.map encM ++ [encM k]).length = (aims ++ [aim]).length) && ((List.zip (ks.map encM ++ [encM k]) (aims ++ [aim])).all fun p => manB n made p.1 p.2) && (ks.map encM ++ [encM k]).all (standB rs (ks.map encM ++ [encM k]))) = true
  rw [Bool.and_eq_true, Bool.and_eq_true]
  refine ⟨⟨decide_eq_true (by simp only [List.length_append, List.length_singleton]; omega), ?_⟩, ?_⟩
  · rw [List.zip_append c1, List.all_append, c2]
    simpa using hm
  · have em : ks.map encM ++ [encM k] = (ks ++ [k]).map encM := by rw [List.map_append]; rfl
    rw [em, List.all_map, List.all_eq_true]
    intro y hy
    show standB rs ((ks ++ [k]).map encM) (encM y) = true
    unfold standB
    rw [alike_enc, kc_app]
    rw [q2] at hr
    rw [q3, alike_enc] at ha
    have hk : isRodK k = true → k ∉ ks := fun z hmem => by
      have := hr z
      rw [List.any_eq_false] at this
      exact this (encM k) (List.mem_map.mpr ⟨k, hmem, rfl⟩) (by rw [eqv_encM]; simp)
    have k0 : k ∉ ks → kc ks k = 0 := fun z => by
      letI : BEq MKey := instBEqOfDecidableEq
      show ks.count k = 0
      exact List.count_eq_zero_of_not_mem z
    by_cases e : k = y
    · subst e
      rw [if_pos rfl, q2, q3]
      cases z1 : isRodK k with
      | true =>
        have := k0 (hk z1)
        rw [this]
        cases z2 : isAsK k with
        | true =>
          have := ha z2
          rw [k0 (hk z1)] at this
          simp
          omega
        | false => simp
      | false =>
        cases z2 : isAsK k with
        | true =>
          have := ha z2
          simp
          omega
        | false => simp
    · rw [if_neg e, Nat.add_zero]
      have hy : y ∈ ks := by
        rcases List.mem_append.mp hy with h | h
        · exact h
        · exact absurd (List.mem_singleton.mp h).symm e
      have := List.all_eq_true.mp c3 (encM y) (List.mem_map.mpr ⟨y, hy, rfl⟩)
      unfold standB at this
      rw [alike_enc] at this
      exact this
/-- what a spot may be -/
def PickOk (n : Int) (rs men : List PyData) (level rod least : Int) (spot : PyData) : Prop :=
  spot = .tuple [.str "grass"] ∨ spot = .tuple [.str "lost"] ∨ (spot = .tuple [.str "rod", .int rod, .int level] ∧ least ≤ level ∧ level ≤ n - 1 + least ∧ (men.any fun y => PyData.eqv y spot) = false) ∨
    (spot = .tuple [.str "aside", .int level] ∧ 0 < level ∧ alikeN men spot < roomAt rs (.int level))
def pickR (pit : PyData) (made : Int) (men : List PyData) (kind level rod least : Int) : Ds :=
  [none, some pit, some (.int made), none, some (.list men), none, none, some (.int kind), some (.int level), some (.int rod), some (.tuple [.str "grass"]), some (.int least), none, none]
def tPick (K : PySem.W.Frag) : TS := fun D σ H => ∃ (Z : Addr → Prop) (n : Int) (b : Bool) (rs : List Int) (made : Int) (men : List PyData) (kind level rod least : Int), PitOk n rs ∧ 0 ≤ level ∧ level ≤ n ∧ Zt Z H ∧ Agr K Z H σ (pickR (pitT n b rs) made men kind level rod least) ∧
  ∀ spot v H', Same H H' → Dq K Z H' spot v → PickOk n (rs.map .int) men level rod least spot → D.nx (σ.set 10 (some v)) H'
theorem shal_rod (i j : Int) : shal (.tuple [.str "rod", .int i, .int j]) = true := by unfold shal; simp [PyData.depth, PyData.depthAll]
abbrev fT1 : Ds → Option Bool := (bAnd (fB (f2 (hII fun i j => .bool (decide (i < j))) (fVar 7) (fC (.int 4)))) (bAnd (fB (fChain (hII fun i j => .bool (decide (i ≤ j))) (hII fun i j => .bool (decide (i ≤ j))) (fVar 11) (fVar 8) (f2 (hII fun i j => .int (i + j)) (f2 (hII fun i j => .int (i - j)) (f2 hIx (fVar 1) (fC (.int 0))) (fC (.int 1))) (fVar 11)))) (fB (f2 (hIn true) (fTup (fCons (fC (.str "rod")) (fCons (fVar 9) (fCons (fVar 8) fNil)))) (fVar 4)))))
abbrev fT2 : Ds → Option Bool := (bAnd (fB (f2 (hII fun i j => .bool (decide (j < i))) (fVar 8) (fC (.int 0)))) (fB (f2 (hII fun i j => .bool (decide (i < j))) (f1 hLen (fLc (fSeq (fVar 4)) (fun d ρ => ρ.set 13 (some d)) (fB (f2 hEq (fVar 13) (fTup (fCons (fC (.str "aside")) (fCons (fVar 8) fNil))))) (fVar 13) [13])) (f2 hIx (f2 hIx (fVar 1) (fC (.int 2))) (fVar 8)))))
abbrev fT3 : Ds → Option Bool := (fB (f2 hEq (fVar 7) (fC (.int 5))))
abbrev fE1 : F := (fTup (fCons (fC (.str "rod")) (fCons (fVar 9) (fCons (fVar 8) fNil))))
abbrev fE2 : F := (fTup (fCons (fC (.str "aside")) (fCons (fVar 8) fNil)))
abbrev fE3 : F := (fTup (fCons (fC (.str "lost")) fNil))
theorem pick_read {K : PySem.W.Frag} {D : Ends} {σ : L2.St} {H : Hp} (h : tPick K D σ H) : tIfS (tDT K fT1) (tAsg (tD K fE1) (gName 10)) (tIfS (tDT K fT2) (tAsg (tD K fE2) (gName 10)) (tIfS (tDT K fT3) (tAsg (tD K fE3) (gName 10)) tNext)) D σ H := by
  obtain ⟨Z, n, b, rs, made, men, kind, level, rod, least, hp, l0, l1, hz, hg, k⟩ := h
  have hpd := pitD_T (b := b) hp
  obtain ⟨h0, ⟨r2, h2, hix⟩, n0, n1, hl, hr⟩ := pit_parts hpd
  obtain ⟨q, q1, _, q2⟩ := room_int (l := level) hl hr l0 l1
  have q3 := hix _ _ q1
  rw [show ((level.toNat : Nat) : Int) = level by omega] at q3
  have e1 : fT1 (pickR (pitT n b rs) made men kind level rod least) = some (decide (kind < 4) && ((decide (least ≤ level) && decide (level ≤ n - 1 + least)) && !(men.any fun y => PyData.eqv y (.tuple [.str "rod", .int rod, .int level])))) := by
    refine bAnd_v rfl fun _ => bAnd_v (fB_v (chain_v rfl rfl ?_)) fun _ => fB_v ((f2_v (d := .tuple [.str "rod", .int rod, .int level]) (e := .list men) rfl rfl).trans ?_)
    · exact add_e (sub_e ((f2_v rfl rfl).trans h0) rfl) rfl
    · show (if (shal (.tuple [.str "rod", .int rod, .int level]) || shal (.list men)) = true then some (PyData.bool ((men.any fun y => PyData.eqv y (.tuple [.str "rod", .int rod, .int level])) != true)) else none) = _
      rw [if_pos (by rw [shal_rod]; rfl)]
      cases (men.any fun y => PyData.eqv y (.tuple [.str "rod", .int rod, .int level])) <;> rfl
  have e2 : fT2 (pickR (pitT n b rs) made men kind level rod least) = some (decide (0 < level) && decide (alikeN men (.tuple [.str "aside", .int level]) < roomAt (rs.map .int) (.int level))) := by
    refine bAnd_v rfl fun _ => fB_v ((f2_v (d := .int (alikeN men (.tuple [.str "aside", .int level]))) (e := .int q) ((f1_v (fLc_filter (ds := men) (p := fun d => PyData.eqv d (.tuple [.str "aside", .int level])) (h := id) rfl (fun d _ => ?_) (fun d _ => rfl))).trans ?_) ((f2_v ((f2_v rfl rfl).trans h2) rfl).trans q3)).trans ?_)
    · refine fB_v ((f2_v (d := d) (e := .tuple [.str "aside", .int level]) rfl rfl).trans ?_)
      rw [hEq_v (by rw [aside_shal, Bool.or_true])]
    · show some (PyData.int ((men.filter fun d => PyData.eqv d (.tuple [.str "aside", .int level])).map id).length) = _
      rw [List.map_id, ← List.countP_eq_length_filter]
      rfl
    · show some (PyData.bool (decide (alikeN men (.tuple [.str "aside", .int level]) < q))) = _
      rw [q2]
  have e3 : fT3 (pickR (pitT n b rs) made men kind level rod least) = some (kind == 5) := by
    refine fB_v ((f2_v (d := .int kind) (e := .int 5) rfl rfl).trans ?_)
    rw [hEq_v (by rw [shal_int]; rfl), eqv_ii]
  refine ⟨Z, _, _, hz, hg, e1, fun H1 s1 => ?_⟩
  cases c1 : (decide (kind < 4) && ((decide (least ≤ level) && decide (level ≤ n - 1 + least)) && !(men.any fun y => PyData.eqv y (.tuple [.str "rod", .int rod, .int level])))) with
  | true =>
    refine iteT ?_
    refine ⟨Z, _, .tuple [.str "rod", .int rod, .int level], hz.same s1, hg.same s1, rfl, fun v H2 s2 hv => ?_⟩
    refine k _ v H2 (s1.trans s2) hv (.inr (.inr (.inl ⟨rfl, ?_⟩)))
    simp only [Bool.and_eq_true, decide_eq_true_eq, Bool.not_eq_true'] at c1
    exact ⟨c1.2.1.1, c1.2.1.2, c1.2.2⟩
  | false =>
    refine iteF ?_
    refine ⟨Z, _, _, hz.same s1, hg.same s1, e2, fun H2 s2 => ?_⟩
    cases c2 : (decide (0 < level) && decide (alikeN men (.tuple [.str "aside", .int level]) < roomAt (rs.map .int) (.int level))) with
    | true =>
      refine iteT ?_
      refine ⟨Z, _, .tuple [.str "aside", .int level], (hz.same s1).same s2, (hg.same s1).same s2, rfl, fun v H3 s3 hv => ?_⟩
      refine k _ v H3 ((s1.trans s2).trans s3) hv (.inr (.inr (.inr ⟨rfl, ?_⟩)))
      simp only [Bool.and_eq_true, decide_eq_true_eq] at c2
      exact c2
    | false =>
      refine iteF ?_
      refine ⟨Z, _, _, (hz.same s1).same s2, (hg.same s1).same s2, e3, fun H3 s3 => ?_⟩
      have s13 := (s1.trans s2).trans s3
      cases c3 : kind == 5 with
      | true =>
        refine iteT ?_
        refine ⟨Z, _, .tuple [.str "lost"], hz.same s13, hg.same s13, rfl, fun v H4 s4 hv => ?_⟩
        exact k _ v H4 (s13.trans s4) hv (.inr (.inl rfl))
      | false =>
        refine iteF ?_
        obtain ⟨v, ev, hv⟩ := (hg.same s13).get 10 (.tuple [.str "grass"]) rfl
        have es : σ.set 10 (some v) = σ := by
          obtain ⟨hi, e⟩ := List.getElem?_eq_some_iff.mp ev
          exact List.ext_getElem? fun j => by
            by_cases hj : 10 = j
            · subst hj
              rw [List.getElem?_set_self hi, ev]
            · rw [List.getElem?_set_ne hj]
        have := k _ v H3 s13 hv (.inl rfl)
        rw [es] at this
        exact this
end Cr
namespace Cr
open PySem PySem.Spec PyProof.Rows L2

/-! ### a drawn crowd -/
def spCrowd (K : PySem.W.Frag) : Sp := fun vs H Q _ => ∃ (U : Addr) (m : Int) (vp : V) (n : Int) (b : Bool) (rs : List Int) (made : Int) (many : Int), vs = [.ref U, vp, .int made, .int many] ∧ Urn H U m ∧ m ≤ 1000 ∧ PitOk n rs ∧ 1 ≤ many ∧ many ≤ 5 ∧
  Dq K (fun x => x = U) H (pitT n b rs) vp ∧ ∀ (v : V) (H' : Hp) (men aims : List PyData), SameX (fun x => x = U) H H' → Urn H' U (m + 100) → ((men.length : Nat) : Int) = many → crowdB n (rs.map .int) made (.tuple [.tuple men, .tuple aims]) = true →
    Dq K (fun x => x = U) H' (.tuple [.tuple men, .tuple aims]) v → Q v H'
section
variable {K : PySem.W.Frag} {Z : Addr → Prop} {H H' : Hp}
theorem agr_ns : ∀ (σ : L2.St), Agr K Z H σ (List.replicate σ.length none)
  | [] => agr_nil
  | _ :: σ => agr_none (agr_ns σ)
theorem Agr.also {σ : L2.St} {ρ : Ds} {d : PyData} {v : V} (g : Agr K Z H σ ρ) (i : Nat) (e : σ[i]? = some (some v)) (h : Dq K Z H d v) : Agr K Z H σ (ρ.set i (some d)) := by
  have es : σ.set i (some v) = σ := by
    obtain ⟨hi, e2⟩ := List.getElem?_eq_some_iff.mp e
    exact List.ext_getElem? fun j => by
      by_cases hj : i = j
      · subst hj
        rw [List.getElem?_set_self hi, e]
      · rw [List.getElem?_set_ne hj]
  have := g.put i h
  rw [es] at this
  exact this
theorem dqL_keys {Z' : Addr → Prop} : ∀ {k : MKey} {xs : List V}, DqL K Z H (k.map encK) xs → DqL K Z' H (k.map encK) xs
  | [], _, h => h
  | a :: k, _, ⟨x, r, e, h1, h2⟩ => ⟨x, r, e, by cases a <;> exact h1, dqL_keys h2⟩
theorem dq_key {Z' : Addr → Prop} {k : MKey} {v : V} (h : Dq K Z H (encM k) v) : Dq K Z' H (encM k) v := by
  obtain ⟨a, xs, e, h1, h2⟩ := h
  exact ⟨a, xs, e, h1, dqL_keys h2⟩
theorem pick_key {n : Int} {rs men : List PyData} {level rod least : Int} {spot : PyData} (h : PickOk n rs men level rod least spot) : ∃ k, spot = encM k := by
  rcases h with h | h | h | h
  · exact ⟨[.inr "grass"], h⟩
  · exact ⟨[.inr "lost"], h⟩
  · exact ⟨[.inr "rod", .inl rod, .inl level], h.1⟩
  · exact ⟨[.inr "aside", .inl level], h.1⟩
/-- the lists that grow, the urn, the pit -/
abbrev Z3 (U M G : Addr) : Addr → Prop := fun x => (x = U ∨ x = M) ∨ x = G
structure Ok3 (K : PySem.W.Frag) (U M G : Addr) (H0 : Hp) (pit : PyData) (vp : V) (men : List PyData) (ms : List V) (aims : List PyData) (as : List V) (m : Int) (H : Hp) : Prop where
  sx : SameX (fun x => x = U) H0 H
  urn : Urn H U m
  hM : H M = some (.lst ms)
  hG : H G = some (.lst as)
  dm : DqL K (Z3 U M G) H men ms
  da : DqL K (Z3 U M G) H aims as
  dp : Dq K (Z3 U M G) H pit vp
section
variable {U M G : Addr} {H0 : Hp} {pit : PyData} {vp : V} {men : List PyData} {ms : List V} {aims : List PyData} {as : List V} {m m' : Int}
theorem Ok3.zl (o : Ok3 K U M G H0 pit vp men ms aims as m H) : Zl (Z3 U M G) H := fun a h => by
  rcases h with (h | h) | h
  · exact urn_zl o.urn a h
  · exact ⟨_, by rw [h]; exact o.hM⟩
  · exact ⟨_, by rw [h]; exact o.hG⟩
theorem Ok3.same (o : Ok3 K U M G H0 pit vp men ms aims as m H) (s : Same H H') : Ok3 K U M G H0 pit vp men ms aims as m H' :=
  ⟨o.sx.trans (Same.sx s), o.urn.same s, s _ _ o.hM, s _ _ o.hG, o.dm.same s, o.da.same s, o.dp.same s⟩
theorem Ok3.car (o : Ok3 K U M G H0 pit vp men ms aims as m H) (x : SameX (fun x => x = U) H H') : Car K (Z3 U M G) (Z3 U M G) H H' :=
  car_sx (fun b o n e => x b o (fun q => n (.inl (.inl q))) e) o.zl
theorem Ok3.took (o : Ok3 K U M G H0 pit vp men ms aims as m H) (x : SameX (fun x => x = U) H H') (u : Urn H' U m') (hMU : M ≠ U) (hGU : G ≠ U) : Ok3 K U M G H0 pit vp men ms aims as m' H' :=
  ⟨o.sx.trans x, u, x _ _ hMU o.hM, x _ _ hGU o.hG, DqL.car (o.car x) _ _ o.dm, DqL.car (o.car x) _ _ o.da, Dq.car (o.car x) _ _ o.dp⟩
end
theorem crowd_nil {n made : Int} {rs : List PyData} : crowdB n rs made (.tuple [.tuple [], .tuple []]) = true := rfl
/-- a spot that was picked, an aim that goes with it -/
theorem pick_ok {n made : Int} {rs men aims : List PyData} {level rod least : Int} {spot aim : PyData} (hp : PickOk n rs men level rod least spot) (hl : level ≤ n) (r0 : 0 ≤ rod) (r1 : rod < 2) (el : least = if (!(rod == made % 2)) = true then 1 else 0)
    (hc : crowdB n rs made (.tuple [.tuple men, .tuple aims]) = true) (ha : aimB n aim = true) (hL : PyData.eqv spot dLost = true → isNone aim = true) (hR : isS "rod" (headD spot) = true → isNone aim = false) :
    crowdB n rs made (.tuple [.tuple (men ++ [spot]), .tuple (aims ++ [aim])]) = true := by
  have fit : fitsB spot aim = true := by
    unfold fitsB
    cases e : PyData.eqv spot dLost with
    | true => rw [if_pos rfl]; exact hL e
    | false =>
      rw [if_neg Bool.false_ne_true]
      cases e2 : isS "rod" (headD spot) with
      | true => rw [hR e2]; rfl
      | false => rfl
  have man : placeB n made spot = true → manB n made spot aim = true := fun e => by
    show (placeB n made spot && aimB n aim && fitsB spot aim) = true
    rw [e, ha, fit]; rfl
  have m2 := Int.emod_two_eq made
  rcases hp with h | h | ⟨h, q1, q2, q3⟩ | ⟨h, q1, q2⟩
  · subst h
    refine crowd_add hc (man (by show (PyData.eqv dGrass dGrass || PyData.eqv dLost dGrass) = true; decide +kernel)) (fun e => ?_) (fun e => ?_)
    · rw [show isS "rod" (headD (.tuple [.str "grass"])) = (("grass" : Str) == ("rod" : Str)) from eqv_ss _ _, n_gr] at e; cases e
    · rw [show isS "aside" (headD (.tuple [.str "grass"])) = (("grass" : Str) == ("aside" : Str)) from eqv_ss _ _, n_ga] at e; cases e
  · subst h
    refine crowd_add hc (man (by show (PyData.eqv dGrass dLost || PyData.eqv dLost dLost) = true; decide +kernel)) (fun e => ?_) (fun e => ?_)
    · rw [show isS "rod" (headD (.tuple [.str "lost"])) = (("lost" : Str) == ("rod" : Str)) from eqv_ss _ _, n_lr] at e; cases e
    · rw [show isS "aside" (headD (.tuple [.str "lost"])) = (("lost" : Str) == ("aside" : Str)) from eqv_ss _ _, n_la] at e; cases e
  · subst h
    refine crowd_add hc (man ?_) (fun _ => q3) (fun e => ?_)
    · show (isS "rod" (.str "rod") && inB 0 1 (.int rod) && inB (leastD made (.int rod)) (n - 1 + leastD made (.int rod)) (.int level)) = true
      have e1 : leastD made (.int rod) = least := by
        unfold leastD
        rw [eqv_ii, el]
        by_cases c : rod = made % 2
        · rw [if_neg (by simp; omega), if_neg (by simp [c])]
        · rw [if_pos (by simp; omega), if_pos (by simp [c])]
      rw [e1]
      have e2 : isS "rod" (.str "rod") = true := (eqv_ss _ _).trans (beq_self_eq_true _)
      rw [e2]
      have : inB 0 1 (.int rod) = true := by simp [inB]; omega
      rw [this]
      simp [inB]
      omega
    · rw [show isS "aside" (headD (.tuple [.str "rod", .int rod, .int level])) = (("rod" : Str) == ("aside" : Str)) from eqv_ss _ _, n_ra] at e; cases e
  · subst h
    refine crowd_add hc (man ?_) (fun e => ?_) (fun e => ?_)
    · show (isS "aside" (.str "aside") && inB 1 n (.int level)) = true
      have e2 : isS "aside" (.str "aside") = true := (eqv_ss _ _).trans (beq_self_eq_true _)
      rw [e2]
      simp [inB]
      omega
    · rw [show isS "rod" (headD (.tuple [.str "aside", .int level])) = (("aside" : Str) == ("rod" : Str)) from eqv_ss _ _, n_ar] at e; cases e
    · show alikeN men (.tuple [.str "aside", .int level]) + 1 ≤ roomAt rs (.int level)
      omega
end
section
variable {P : Program} {w : World} {K : PySem.W.Frag} {mg : Str → Option Value} {base : Heap}
abbrev st_law_crowd : Stmt := topS 22
abbrev nsCrowd : List Str := ["_law_urn", "_law_pit_here", "_law_made", "_law_many", "_law_men", "_law_aims", "_law_k", "_law_kind", "_law_level", "_law_rod", "_law_spot", "_law_least", "_law_aim", "_law_own"]
theorem sc_law_crowd : FnScope ["_law_urn", "_law_pit_here", "_law_made", "_law_many", "_law_men", "_law_aims", "_law_k", "_law_kind", "_law_level", "_law_rod", "_law_spot", "_law_least", "_law_aim", "_law_own"] ["_law_urn", "_law_pit_here", "_law_made", "_law_many"] (defScope st_law_crowd) := ⟨rfl, rfl, rfl, by decide +kernel, rfl, by decide +kernel, by decide +kernel⟩
theorem ok_law_crowd {f : Addr} {fd : FuncData} (F : Fun K "_law_crowd" "_law_crowd" st_law_crowd f fd) (T : Txt K mg) (D : DefOk P w K mg base "_law_take" 1 spTake) : FnOk P w K mg base CX0 2 f fd ["_law_urn", "_law_pit_here", "_law_made", "_law_many"] (spCrowd K) := by
  refine F.ok sc_law_crowd (fun vs H Q E h => ?_) (fun cdv A outer s H vs Q E hr h => ?_)
  · obtain ⟨U, m, vp, n, b, rs, made, many, rfl, _⟩ := h
    rfl
  · obtain ⟨U, m, vp, n, b, rs, made, many, rfl, hu, hm, hp, y0, y1, hvp, k⟩ := h
    refine ⟨_, pss_cons (ps_par (i := 4) (j := 5) rfl sc_law_crowd.nd rfl rfl (by decide) rfl rfl (pa_cons (pe_lst pa_nil) (pa_cons (pe_lst pa_nil) pa_nil)) (by rfl))
      (pss_cons (ps_for PassesOwn.never rfl (pi_range1 rfl T.tRange (pa_cons (pv 3) pa_nil)) (pg_name (i := 6) sc_law_crowd.nd rfl (Or.inl rfl))
        (pss_cons (ps_asg (pe_tup (pa_cons (pe_dT D hr (by rfl) (pa_cons (pv 0) (pa_cons pe_int pa_nil))) (pa_cons (pe_dT D hr (by rfl) (pa_cons (pv 0) (pa_cons (de_op opd_add (de_ix (de_var (pv 1)) de_int) de_int) pa_nil))) (pa_cons (pe_dT D hr (by rfl) (pa_cons (pv 0) (pa_cons pe_int pa_nil))) pa_nil))))
            (pg_tup rfl (pgs_cons (pg_name (i := 7) sc_law_crowd.nd rfl (Or.inl rfl)) (pgs_cons (pg_name (i := 8) sc_law_crowd.nd rfl (Or.inr rfl)) (pgs_cons (pg_name (i := 9) sc_law_crowd.nd rfl (Or.inl rfl)) pgs_nil)))))
        (pss_cons (ps_set (i := 10) sc_law_crowd.nd rfl (Or.inl rfl) (de_tup (da_cons de_str da_nil)))
        (pss_cons (ps_set (i := 11) sc_law_crowd.nd rfl (Or.inl rfl) (de_t1 cd_int (by rfl) T.tInt PyProof.Rows.boot_int (de_cmp (opd_ne hr.units) (de_var (pv 9)) (de_op opd_mod (de_t1 cd_int (by rfl) T.tInt PyProof.Rows.boot_int (de_var (pv 2))) de_int) (nomark _))))
        (pss_cons (ps_weak (ps_if (dw_and (dt_cmp opd_lt (de_var (pv 7)) de_int (nomark _)) (dw_and (dt_chain2 opd_le opd_le (de_var (pv 11)) (de_var (pv 8)) (de_op opd_add (de_op opd_sub (de_ix (de_var (pv 1)) de_int) de_int) (de_var (pv 11)))) (dw_and1 (dt_cmp (opd_notin hr.units) (de_tup (da_cons de_str (da_cons (de_var (pv 9)) (da_cons (de_var (pv 8)) da_nil)))) (de_var (pv 4)) (by rfl))))).pt
            (pss_one (ps_set (i := 10) sc_law_crowd.nd rfl (Or.inl rfl) (de_tup (da_cons de_str (da_cons (de_var (pv 9)) (da_cons (de_var (pv 8)) da_nil))))))
            (pss_one (ps_if (dw_and (dt_cmp opd_gt (de_var (pv 8)) de_int (nomark _)) (dw_and1 (dt_cmp opd_lt (de_b1 cd_len (by rfl) T.nLen PySem.boot_len (de_lc tgt_name (by rfl) sc_law_crowd.nd (pi_seq (de_var (pv 4))) (blkOk_by (own := [("_law_own", 13)]) (by show blkC ["_law_urn", "_law_pit_here", "_law_made", "_law_many", "_law_men", "_law_aims", "_law_k", "_law_kind", "_law_level", "_law_rod", "_law_spot", "_law_least", "_law_aim", "_law_own"] (defScope st_law_crowd) _ _ = true; decide +kernel)) (fun _ _ _ _ _ => (pg_name (i := 13) sc_law_crowd.nd (by rfl) (Or.inl (by rfl)))) (fun _ _ _ _ _ => (pts_one (dt_cmp (opd_eq hr.units) (de_var (pv 13)) (de_tup (da_cons de_str (da_cons (de_var (pv 8)) da_nil))) (nomark _)))) (fun _ _ _ _ _ => (de_var (pv 13))))) (de_ix (de_ix (de_var (pv 1)) de_int) (de_var (pv 8))) (nomark _)))).pt
              (pss_one (ps_set (i := 10) sc_law_crowd.nd rfl (Or.inl rfl) (de_tup (da_cons de_str (da_cons (de_var (pv 8)) da_nil)))))
              (pss_one (ps_if (dt_cmp (opd_eq hr.units) (de_var (pv 7)) de_int (nomark _))
                (pss_one (ps_set (i := 10) sc_law_crowd.nd rfl (Or.inl rfl) (de_tup (da_cons de_str da_nil)))) pss_nil))))) fun D σ H h => pick_read h)
        (pss_cons (ps_set (i := 12) sc_law_crowd.nd rfl (Or.inl rfl) (pe_tupN (pa_cons (pe_dT D hr (by rfl) (pa_cons (pv 0) (pa_cons (de_op opd_add (de_ix (de_var (pv 1)) de_int) de_int) pa_nil)))
            (pa_cons (pe_callB (call_max2 rfl) rfl T.nMax PyProof.Rows.boot_max (pa_cons pe_int (pa_cons (pe_op op_add (pe_op op_sub (pv 2) pe_int) (pe_dT D hr (by rfl) (pa_cons (pv 0) (pa_cons pe_int pa_nil)))) pa_nil))) pa_nil))))
        (pss_cons (ps_expr (pe_bm PySem.F.plainAttrs_list PySem.F.slot_list_append PySem.F.type_list_append mt_append (pv 4) (pa_cons (pv 10) pa_nil)))
        (pss_one (ps_expr (pe_bm PySem.F.plainAttrs_list PySem.F.slot_list_append PySem.F.type_list_append mt_append (pv 5) (pa_cons (pe_ifExp (pw_or (dt_cmp (opd_eq hr.units) (de_var (pv 10)) (de_tup (da_cons de_str da_nil)) (nomark _)) (pw_or1 (pw_and (dt_cmp (opd_ne hr.units) (de_ix (de_var (pv 10)) de_int) de_str (nomark _)) (pw_and1 (pt_cmpR op_eq (pe_dT D hr (by rfl) (pa_cons (pv 0) (pa_cons pe_int pa_nil))) pe_int (nomark _)))).pt)).pt
            pe_non (pv 12)) pa_nil)))))))))))
      (pss_one (ps_ret (pe_tupN (pa_cons (pe_callTy cd_tuple rfl T.tTuple PyProof.Rows.boot_tuple (pa_cons (pv 4) pa_nil)) (pa_cons (pe_callTy cd_tuple rfl T.tTuple PyProof.Rows.boot_tuple (pa_cons (pv 5) pa_nil)) pa_nil)))))), ?_⟩
    -- the two lists
    refine ⟨Nat.zero_le _, fun M hM => ⟨Nat.zero_le _, fun G hG => ⟨_, _, rfl, ?_⟩⟩⟩
    have nMU := urn_ne hu hM
    have hu1 : Urn (upd H M (.lst [])) U m := urn_upd hu nMU
    have nGU := urn_ne hu1 hG
    have nGM : G ≠ M := fun e => by rw [e, upd_same] at hG; cases hG
    have hG0 : H G = none := by rw [upd_ne nGM] at hG; exact hG
    have ok0 : Ok3 K U M G H (pitT n b rs) vp [] [] [] [] m (upd (upd H M (.lst [])) G (.lst [])) :=
      ⟨Same.sx ((same_upd hM).trans (same_upd hG)), urn_upd hu1 nGU, by rw [upd_ne nGM.symm]; exact upd_same, upd_same, rfl, rfl, Dq.car (car_add (same_upd hG) hG) _ _ (Dq.car (car_add (same_upd hM) hM) _ _ hvp)⟩
    refine ⟨_, rfl, many, rfl, by omega, by omega, ?_⟩
    refine for_range (fun i σ H' => ∃ (x6 x7 x8 x9 x10 x11 x12 x13 : Option V) (men : List PyData) (ms : List V) (aims : List PyData) (as : List V), σ = [some (.ref U), some vp, some (.int made), some (.int many), some (.ref M), some (.ref G), x6, x7, x8, x9, x10, x11, x12, x13] ∧
        Ok3 K U M G H (pitT n b rs) vp men ms aims as (m + 6 * (i : Nat)) H' ∧ men.length = i ∧ aims.length = i ∧ crowdB n (rs.map .int) made (.tuple [.tuple men, .tuple aims]) = true)
      ⟨none, none, none, none, none, none, none, none, [], [], [], [], rfl, by simpa using ok0, rfl, rfl, rfl⟩ ?_ ?_
    · rintro i σ H3 hi ⟨x6, x7, x8, x9, x10, x11, x12, x13, men, ms, aims, as, rfl, o3, lm, la, hc⟩
      have hi5 : i < 5 := by omega
      have hpd := pitD_T (b := b) hp
      obtain ⟨h0, _⟩ := pit_parts hpd
      have lms := o3.dm.length
      have las := o3.da.length
      -- kind, level, rod
      refine ⟨_, rfl, U, 6, _, rfl, o3.urn, by omega, by omega, by omega, fun kind H4 k0 k1 x4 u4 => ?_⟩
      have o4 := o3.took x4 u4 nMU nGU
      refine ⟨_, rfl, Z3 U M G, _, .int (n + 1), o4.zl.zt, (agr_ns _).also 1 rfl o4.dp, add_e ((f2_v rfl rfl).trans h0) rfl, fun v H5 s5 hv => ?_⟩
      cases hv
      have o5 := o4.same s5
      have hlo := hp.lo
      have hhi := hp.hi
      refine ⟨U, n + 1, _, rfl, o5.urn, by omega, by omega, by omega, fun level H6 l0 l1 x6' u6 => ?_⟩
      have o6 := o5.took x6' u6 nMU nGU
      refine ⟨_, rfl, U, 2, _, rfl, o6.urn, by omega, by omega, by omega, fun rod H7 r0 r1 x7' u7 => ?_⟩
      have o7 := o6.took x7' u7 nMU nGU
      refine ⟨by show 3 ≤ sizeLine; rw [sizeLine_eq]; omega, fun T1 hT => ?_⟩
      refine ⟨T1, _, rfl, SqT.of upd_same, rfl, _, _, rfl, _, _, rfl, _, _, rfl, rfl, ?_⟩
      have o8 := o7.same (same_upd (o := .tup [V.int kind, .int level, .int rod]) hT)
      generalize upd H7 T1 (.tup [V.int kind, .int level, .int rod]) = H8 at o8 ⊢
      -- spot, least
      refine ⟨Z3 U M G, _, .tuple [.str "grass"], o8.zl.zt, agr_ns _, rfl, fun vg H9 s9 hg => ?_⟩
      have o9 := o8.same s9
      refine ⟨Z3 U M G, _, .int (if (!(rod == made % 2)) = true then 1 else 0), o9.zl.zt, ((agr_ns _).also 2 rfl (show Dq K (Z3 U M G) H9 (.int made) (.int made) from rfl)).also 9 rfl (show Dq K (Z3 U M G) H9 (.int rod) (.int rod) from rfl), ?_, fun v H10 s10 hv => ?_⟩
      · refine (f1_v (d := .bool (!(rod == made % 2))) ((f2_v (d := .int rod) (e := .int (made % 2)) rfl (mod_e (int_e rfl) rfl (by decide))).trans ?_)).trans ?_
        · rw [hNe_v (by rw [shal_int]; rfl), eqv_ii]
        · show some (PyData.int (if (!(rod == made % 2)) = true then 1 else 0)) = _
          rfl
      cases hv
      have o10 := o9.same s10
      generalize eL : (if (!(rod == made % 2)) = true then (1 : Int) else 0) = least
      -- which spot
      have sub : ∀ a, (fun x => x = U ∨ x = G) a → Z3 U M G a := fun a h => h.elim (fun e => .inl (.inl e)) fun e => .inr e
      refine ⟨fun x => x = U ∨ x = G, n, b, rs, made, men, kind, level, rod, least, hp, l0, by omega, fun a h => o10.zl.zt a (sub a h),
        agr_none (agr_some (Dq.car (car_sub sub) _ _ o10.dp) (agr_some rfl (agr_none (agr_some ⟨M, ms, rfl, o10.hM, fun h => h.elim nMU (fun e => nGM e.symm), DqL.car (car_sub sub) _ _ o10.dm⟩ (agr_none (agr_none (agr_some rfl (agr_some rfl (agr_some rfl (agr_some (Dq.car (car_sub sub) _ _ (hg.same s10)) (agr_some rfl (agr_none (agr_none agr_nil))))))))))))),
        fun spot vs H11 s11 hs pick => ?_⟩
      have o11 := o10.same s11
      obtain ⟨key, ek⟩ := pick_key pick
      have hs3 : Dq K (Z3 U M G) H11 spot vs := by rw [ek] at hs ⊢; exact dq_key hs
      -- the aim
      refine ⟨_, rfl, Z3 U M G, _, .int (n + 1), o11.zl.zt, (agr_ns _).also 1 rfl o11.dp, add_e ((f2_v rfl rfl).trans h0) rfl, fun v H12 s12 hv => ?_⟩
      cases hv
      have o12 := o11.same s12
      refine ⟨U, n + 1, _, rfl, o12.urn, by omega, by omega, by omega, fun a H13 a0 a1 x13' u13 => ?_⟩
      have o13 := o12.took x13' u13 nMU nGU
      refine ⟨_, rfl, _, _, rfl, rfl, _, rfl, U, 5, _, rfl, o13.urn, by omega, by omega, by omega, fun c H14 c0 c1 x14 u14 => ?_⟩
      have o14 := o13.took x14 u14 nMU nGU
      refine ⟨_, _, rfl, rfl, _, _, rfl, ?_⟩
      refine ⟨by show 2 ≤ sizeLine; rw [sizeLine_eq]; omega, fun p o hpn hd => ?_⟩
      generalize eB : (if made - 2 + c > 0 then made - 2 + c else 0) = bb
      have bb0 : 0 ≤ bb := by rw [← eB]; split <;> omega
      have s15 := same_upd (o := .frz o (.tup [V.int a, .int bb])) hpn
      have o15 := o14.same s15
      have haim : Dq K (Z3 U M G) (upd H14 p (.frz o (.tup [V.int a, .int bb]))) (.tuple [.int a, .int bb]) (.ref p) := ⟨p, _, rfl, tpn_new hd, ⟨_, _, rfl, rfl, ⟨_, _, rfl, rfl, rfl⟩⟩⟩
      have hs15 : Dq K (Z3 U M G) (upd H14 p (.frz o (.tup [V.int a, .int bb]))) spot vs := Dq.same (Dq.car (o13.car x14) _ _ (Dq.car (o12.car x13') _ _ (hs3.same s12))) s15
      generalize upd H14 p (.frz o (.tup [V.int a, .int bb])) = H15 at o15 haim hs15 ⊢
      -- men.append(spot)
      refine ⟨_, rfl, .inl ⟨rfl, _, SqL.of o15.hM⟩, _, rfl, M, ms, vs, rfl, rfl, o15.hM, by rw [sizeLine_eq]; omega, ?_⟩
      have cm : Car K (Z3 U M G) (Z3 U M G) H15 (upd H15 M (.lst (ms ++ [vs]))) := car_mut o15.hM (.inl (.inr rfl))
      have o16 : Ok3 K U M G H (pitT n b rs) vp (men ++ [spot]) (ms ++ [vs]) aims as (m + 6 * (i : Nat) + 5) (upd H15 M (.lst (ms ++ [vs]))) :=
        ⟨fun x o nx e => by rw [upd_ne (ne_of_none e hM)]; exact o15.sx x o nx e, (urn_upd o15.urn nMU).mono (by omega), upd_same, by rw [upd_ne nGM]; exact o15.hG, (DqL.car cm _ _ o15.dm).app (DqL.one (Dq.car cm _ _ hs15)), DqL.car cm _ _ o15.da, Dq.car cm _ _ o15.dp⟩
      have haim := Dq.car cm _ _ haim
      have hs16 := Dq.car cm _ _ hs15
      clear hs15 cm
      generalize upd H15 M (.lst (ms ++ [vs])) = H16 at o16 haim hs16 ⊢
      -- aims.append(..)
      refine ⟨_, rfl, .inl ⟨rfl, _, SqL.of o16.hG⟩, ?_⟩
      have fin : ∀ (ad : PyData) (va : V) (H17 : Hp), Ok3 K U M G H (pitT n b rs) vp (men ++ [spot]) (ms ++ [vs]) aims as (m + 6 * ((i + 1 : Nat) : Int)) H17 → Dq K (Z3 U M G) H17 ad va → aimB n ad = true → (PyData.eqv spot dLost = true → isNone ad = true) → (isS "rod" (headD spot) = true → isNone ad = false) →
          rAppend (.ref G) [va] H17 fun _ H1 => ∃ (w6 w7 w8 w9 w10 w11 w12 w13 : Option V) (men : List PyData) (ms : List V) (aims : List PyData) (as : List V), [some (.ref U), some vp, some (.int made), some (.int many), some (.ref M), some (.ref G), some (.int (0 + (i : Nat))), some (.int kind), some (.int level), some (.int rod), some vs, some (.int least), some (.ref p), x13] = [some (.ref U), some vp, some (.int made), some (.int many), some (.ref M), some (.ref G), w6, w7, w8, w9, w10, w11, w12, w13] ∧
            Ok3 K U M G H (pitT n b rs) vp men ms aims as (m + 6 * ((i + 1 : Nat) : Int)) H1 ∧ men.length = i + 1 ∧ aims.length = i + 1 ∧ crowdB n (rs.map .int) made (.tuple [.tuple men, .tuple aims]) = true := by
        intro ad va H17 o17 had h1 h2 h3
        have ca : Car K (Z3 U M G) (Z3 U M G) H17 (upd H17 G (.lst (as ++ [va]))) := car_mut o17.hG (.inr rfl)
        refine ⟨G, as, va, rfl, rfl, o17.hG, by rw [sizeLine_eq]; omega, ?_⟩
        refine ⟨_, _, _, _, _, _, _, _, _, _, aims ++ [ad], as ++ [va], rfl, ⟨fun x o nx e => by rw [upd_ne (ne_of_none e hG0)]; exact o17.sx x o nx e, urn_upd o17.urn nGU, by rw [upd_ne nGM.symm]; exact o17.hM, upd_same, DqL.car ca _ _ o17.dm, (DqL.car ca _ _ o17.da).app (DqL.one (Dq.car ca _ _ had)), Dq.car ca _ _ o17.dp⟩, ?_, ?_, ?_⟩
        · rw [List.length_append, lm]; rfl
        · rw [List.length_append, la]; rfl
        · exact pick_ok pick (by omega) r0 r1 eL.symm hc h1 h2 h3
      have e1 : ∀ (ρ : Ds) (hρ : fVar 10 ρ = some spot), fB (f2 hEq (fVar 10) (fTup (fCons (fC (.str "lost")) fNil))) ρ = some (PyData.eqv spot dLost) := fun ρ hρ => by
        refine fB_v ((f2_v (d := spot) (e := dLost) hρ rfl).trans ?_)
        exact hEq_v (by rw [show shal dLost = true from shal_lost, Bool.or_true])
      have e2 : ∀ (ρ : Ds) (hρ : fVar 10 ρ = some spot), fB (f2 hNe (f2 hIx (fVar 10) (fC (.int 0))) (fC (.str "rod"))) ρ = some (!isS "rod" (headD spot)) := fun ρ hρ => by
        have hh : hIx spot (.int 0) = some (headD spot) := by
          rcases pick with h | h | h | h
          · rw [h]; exact ixt0 _ _
          · rw [h]; exact ixt0 _ _
          · rw [h.1]; exact ixt0 _ _
          · rw [h.1]; exact ixt0 _ _
        refine fB_v ((f2_v (d := headD spot) (e := .str "rod") ((f2_v hρ rfl).trans hh) rfl).trans ?_)
        rw [hNe_v (by rw [shal_str, Bool.or_true])]
        rfl
      have aimY : aimB n (.tuple [.int a, .int bb]) = true := by
        show (inB 0 n (.int a) && geB 0 (.int bb)) = true
        simp [inB, geB]
        omega
      refine ⟨Z3 U M G, _, _, o16.zl.zt, (agr_ns _).also 10 rfl hs16, e1 _ rfl, fun H17 s17 => ?_⟩
      have o17 := o16.same s17
      cases cl : PyData.eqv spot dLost with
      | true =>
        refine iteT ?_
        refine iteT ?_
        refine fin .none .non H17 ⟨o17.sx, o17.urn.mono (by omega), o17.hM, o17.hG, o17.dm, o17.da, o17.dp⟩ rfl rfl (fun _ => rfl) (fun h => ?_)
        exfalso
        rcases pick with h4 | h4 | h4 | h4
        · rw [h4, show isS "rod" (headD (.tuple [.str "grass"])) = (("grass" : Str) == ("rod" : Str)) from eqv_ss _ _, n_gr] at h; cases h
        · rw [h4, show isS "rod" (headD (.tuple [.str "lost"])) = (("lost" : Str) == ("rod" : Str)) from eqv_ss _ _, n_lr] at h; cases h
        · rw [h4.1] at cl
          unfold dLost at cl
          rw [eqv_tt, eqv_cc, eqv_cn, Bool.and_false] at cl
          cases cl
        · rw [h4.1, show isS "rod" (headD (.tuple [.str "aside", .int level])) = (("aside" : Str) == ("rod" : Str)) from eqv_ss _ _, n_ar] at h; cases h
      | false =>
        refine iteF ?_
        refine ⟨Z3 U M G, _, _, o17.zl.zt, (agr_ns _).also 10 rfl (hs16.same s17), e2 _ rfl, fun H18 s18 => ?_⟩
        have o18 := o17.same s18
        have haim8 := (haim.same s17).same s18
        cases cr : isS "rod" (headD spot) with
        | true =>
          refine iteF ?_
          refine iteF ?_
          refine ⟨_, rfl, ?_⟩
          exact fin _ _ H18 ⟨o18.sx, o18.urn.mono (by omega), o18.hM, o18.hG, o18.dm, o18.da, o18.dp⟩ haim8 aimY (fun h => by rw [cl] at h; cases h) (fun _ => rfl)
        | false =>
          refine iteT ?_
          refine ⟨_, rfl, U, 3, _, rfl, o18.urn, by omega, by omega, by omega, fun z H19 z0 z1 x19 u19 => ?_⟩
          have o19 := o18.took x19 u19 nMU nGU
          have haim9 := Dq.car (o18.car x19) _ _ haim8
          refine ⟨rfl, _, rfl, ?_⟩
          by_cases hz : (V.int z = V.int 0)
          · rw [decide_eq_true hz]
            refine iteT ?_
            exact fin .none .non H19 ⟨o19.sx, o19.urn.mono (by omega), o19.hM, o19.hG, o19.dm, o19.da, o19.dp⟩ rfl rfl (fun h => by rw [cl] at h; cases h) (fun h => by rw [cr] at h; cases h)
          · rw [decide_eq_false hz]
            refine iteF ?_
            refine ⟨_, rfl, ?_⟩
            exact fin _ _ H19 ⟨o19.sx, o19.urn.mono (by omega), o19.hM, o19.hG, o19.dm, o19.da, o19.dp⟩ haim9 aimY (fun h => by rw [cl] at h; cases h) (fun h => by rw [cr] at h; cases h)
    · rintro σ H3 ⟨x6, x7, x8, x9, x10, x11, x12, x13, men, ms, aims, as, rfl, o3, lm, la, hc⟩
      have sub : ∀ a, (fun x => x = U) a → Z3 U M G a := fun a h => .inl (.inl h)
      refine ⟨_, rfl, fun x => x = U, _, .list men, _, rfl, (urn_zl o3.urn).zt, ⟨M, ms, rfl, o3.hM, nMU, DqL.car (car_sub sub) _ _ o3.dm⟩, rfl, fun u H4 s4 hu4 => ?_⟩
      have o4 := o3.same s4
      refine ⟨_, rfl, fun x => x = U, _, .list aims, _, rfl, (urn_zl o4.urn).zt, ⟨G, as, rfl, o4.hG, nGU, DqL.car (car_sub sub) _ _ o4.da⟩, rfl, fun u2 H5 s5 hu5 => ?_⟩
      refine ⟨by show 2 ≤ sizeLine; rw [sizeLine_eq]; omega, fun p o hpn hd => ?_⟩
      have s6 := same_upd (o := .frz o (.tup [u, u2])) hpn
      refine k _ _ men aims ((o4.sx.trans (Same.sx s5)).trans (Same.sx s6)) (((o4.urn.same s5).same s6).mono (by omega)) (by rw [lm]; omega) hc ?_
      exact ⟨p, _, rfl, tpn_new hd, ⟨_, _, rfl, (hu4.same s5).same s6, ⟨_, _, rfl, hu5.same s6, rfl⟩⟩⟩
end
end Cr
namespace Cr
open PySem PySem.Spec PyProof.Rows L2

/-! ### _law_right -/
abbrev st_law_right : Stmt := topS 26
theorem sc_law_right : FnScope ["_law_urn", "_law_pit_here", "_law_made", "_law_crowd_here", "_law_men", "_law_aims", "_law_k", "_law_spots", "_law_things", "_law_goals", "_law_far", "_law_own"] ["_law_urn"] (defScope st_law_right) := ⟨rfl, rfl, rfl, by decide +kernel, rfl, by decide +kernel, by decide +kernel⟩
abbrev g_right : Ds → Option Out := (sSeq (sSet 7 (fLst (fCons (fTup (fCons (fC (.str "rod")) (fCons (fC (.int 2)) (fCons (fC (.int 1)) fNil)))) (fCons (fTup (fCons (fC (.str "rod")) (fCons (fC (.int 0)) (fCons (f2 hIx (fVar 1) (fC (.int 0))) fNil)))) (fCons (fTup (fCons (fC (.str "rod")) (fCons (fC (.int 1)) (fCons (fC (.int 0)) fNil)))) (fCons (fTup (fCons (fC (.str "rod")) (fCons (fC (.int 0)) (fCons (f1 hNeg (fC (.int 1))) fNil)))) (fCons (fTup (fCons (fC (.str "rod")) (fCons (fC (.int 1)) (fCons (f2 hIx (fVar 1) (fC (.int 0))) fNil)))) (fCons (fTup (fCons (fC (.str "aside")) (fCons (f2 (hII fun i j => .int (i + j)) (f2 hIx (fVar 1) (fC (.int 0))) (fC (.int 1))) fNil))) (fCons (fTup (fCons (fC (.str "aside")) (fCons (fC (.int 0)) fNil))) (fCons (fTup (fCons (fC (.str "grass")) (fCons (fC (.int 1)) fNil))) (fCons (fTup (fCons (fC (.str "lost")) (fCons (fC (.int 1)) fNil))) (fCons (fTup (fCons (fC (.str "lost")) fNil)) (fCons (fTup fNil) (fCons (fC .none) (fCons (fC (.str "grass")) (fCons (fTup (fCons (fC (.str "rod")) (fCons (fC (.int 0)) fNil))) (fCons (fTup (fCons (fC (.str "rod")) (fCons (fC (.bool true)) (fCons (fC (.int 1)) fNil)))) (fCons (fTup (fCons (fC (.str "rod")) (fCons (fC (.int 0)) (fCons (fC (.bool true)) fNil)))) (fCons (fTup (fCons (fC (.str "aside")) (fCons (fC (.bool true)) fNil))) (fCons (fC (.int 4)) (fCons (fLst (fCons (fC (.str "grass")) fNil)) (fCons (fTup (fCons (fC (.str "grass")) fNil)) (fCons (fTup (fCons (fC (.str "aside")) (fCons (fC (.int 1)) fNil))) (fCons (fTup (fCons (fC (.str "aside")) (fCons (f2 hIx (fVar 1) (fC (.int 0))) fNil))) (fCons (f2 hIx (fVar 4) (fC (.int 0))) fNil)))))))))))))))))))))))))
    (sSeq (sSet 8 (fLc (fSeq (fVar 7)) (fun d ρ => ρ.set 11 (some d)) bYes (fTup (fCons (f2 hCatT (f2 hCatT (fCut (fVar 4) fNoPart (fPart (fVar 6))) (fTup (fCons (fVar 11) fNil))) (fCut (fVar 4) (fPart (f2 (hII fun i j => .int (i + j)) (fVar 6) (fC (.int 1)))) fNoPart)) (fCons (fVar 5) fNil))) [11]))
    (sSeq (sSet 9 (fLst (fCons (fC .none) (fCons (fTup (fCons (f2 (hII fun i j => .int (i + j)) (f2 hIx (fVar 1) (fC (.int 0))) (fC (.int 1))) (fCons (fC (.int 0)) fNil))) (fCons (fTup (fCons (fC (.int 0)) (fCons (f1 hNeg (fC (.int 1))) fNil))) (fCons (fTup (fCons (fC (.int 0)) fNil)) (fCons (fLst (fCons (fC (.int 0)) (fCons (fC (.int 0)) fNil))) (fCons (fC (.int 5)) (fCons (fC (.bool true)) (fCons (fTup (fCons (fC (.int 0)) (fCons (fC (.bool false)) fNil))) (fCons (fTup (fCons (fC (.int 0)) (fCons (fC (.int 0)) (fCons (fC (.int 0)) fNil)))) (fCons (fTup (fCons (f2 hIx (fVar 1) (fC (.int 0))) (fCons (f2 hPow (fC (.int 10)) (fC (.int 6))) fNil))) (fCons (fTup (fCons (fC (.int 0)) (fCons (fC (.int 0)) fNil))) fNil)))))))))))))
    (sSeq (sSet 8 (f2 hCatL (fVar 8) (fLc (fSeq (fVar 9)) (fun d ρ => ρ.set 11 (some d)) bYes (fTup (fCons (fVar 4) (fCons (f2 hCatT (f2 hCatT (fCut (fVar 5) fNoPart (fPart (fVar 6))) (fTup (fCons (fVar 11) fNil))) (fCut (fVar 5) (fPart (f2 (hII fun i j => .int (i + j)) (fVar 6) (fC (.int 1)))) fNoPart)) fNil))) [11])))
    (sSeq (sSet 8 (f2 hCatL (fVar 8) (fLst (fCons (fVar 3) (fCons (fCall (p_law_lists 3) (fCons (fVar 3) fNil)) (fCons (f1 hList (fVar 3)) (fCons (fTup (fCons (fVar 4) (fCons (fCut (fVar 5) (fPart (fC (.int 1))) fNoPart) fNil))) (fCons (fTup (fCons (fCut (fVar 4) (fPart (fC (.int 1))) fNoPart) (fCons (fCut (fVar 5) (fPart (fC (.int 1))) fNoPart) fNil))) (fCons (f2 hCatT (fVar 3) (fTup (fCons (fTup fNil) fNil))) (fCons (fTup (fCons (fVar 4) fNil)) (fCons (fTup (fCons (fVar 4) (fCons (f1 hList (fVar 5)) fNil))) (fCons (fC .none) (fCons (fTup fNil) (fCons (fC (.int 3)) (fCons (fTup (fCons (fVar 5) (fCons (fVar 4) fNil))) fNil)))))))))))))))
    (sSeq (sFor (fSeq (fTup (fCons (fVar 2) (fCons (f2 (hII fun i j => .int (i + j)) (fVar 2) (fC (.int 1))) (fCons (f2 (hII fun i j => .int (i + j)) (fVar 2) (f2 hPow (fC (.int 10)) (fC (.int 6)))) fNil))))) (fun d ρ => ρ.set 10 (some d)) (sIf (bNot (fB (fCall (p_law_same 2) (fCons (fLc (fSeq (fVar 8)) (fun d ρ => ρ.set 11 (some d)) bYes (fCall p_is_crowd (fCons (fVar 11) (fCons (fVar 1) (fCons (fVar 10) fNil)))) [11]) (fCons (fLc (fSeq (fVar 8)) (fun d ρ => ρ.set 11 (some d)) bYes (fCall p_law_fits (fCons (fVar 11) (fCons (fVar 1) (fCons (fVar 10) fNil)))) [11]) fNil))))) (sRet (fC (.bool false))) sNil))
    (sRet (f2 hIsB (fCall p_is_crowd (fCons (fVar 3) (fCons (fCall (p_law_lists 3) (fCons (fVar 1) fNil)) (fCons (fVar 2) fNil)))) (fC (.bool true))))))))))
def spRight (K : PySem.W.Frag) : Sp := fun vs H Q _ => ∃ (U : Addr) (m : Int), vs = [.ref U] ∧ Urn H U m ∧ m ≤ 100 ∧ ∀ H', Q (.bl true) H'
/-- what stands when all is drawn -/
def DrawnOk (n : Int) (rs : List Int) (made : Int) (men aims : List PyData) (k : Int) : Prop := PitOk n rs ∧ 1 ≤ men.length ∧ men.length ≤ 5 ∧ 0 ≤ k ∧ k < 5 ∧ crowdB n (rs.map .int) made (.tuple [.tuple men, .tuple aims]) = true
def rightR (n : Int) (b : Bool) (rs : List Int) (made : Int) (men aims : List PyData) (k : Int) : Ds := [none, some (pitT n b rs), some (.int made), some (.tuple [.tuple men, .tuple aims]), some (.tuple men), some (.tuple aims), some (.int k), none, none, none, none, none]
section
variable {P : Program} {w : World} {K : PySem.W.Frag} {mg : Str → Option Value} {base : Heap}
theorem ok_law_right {f : Addr} {fd : FuncData} (F : Fun K "_law_right" "_law_right" st_law_right f fd) (T : Txt K mg) (D : DefOk P w K mg base "_law_take" 1 spTake) (DP : DefOk P w K mg base "_law_pit" 2 (spPit K)) (DC : DefOk P w K mg base "_law_crowd" 2 (spCrowd K))
    (D_is_crowd : DefOk P w K mg base "is_crowd" 4 (spD K 3 p_is_crowd)) (D_law_fits : DefOk P w K mg base "_law_fits" 3 (spD K 3 p_law_fits)) (D_law_same : DefOk P w K mg base "_law_same" 4 (spD K 2 (p_law_same 2))) (D_law_lists : DefOk P w K mg base "_law_lists" 5 (spD K 1 (p_law_lists 3)))
    (hG : ∀ n b rs made men aims k, DrawnOk n rs made men aims k → g_right (rightR n b rs made men aims k) = some (.rt (.bool true))) : FnOk P w K mg base CX0 6 f fd ["_law_urn"] (spRight K) := by
  refine F.ok sc_law_right (fun vs H Q E h => ?_) (fun cdv A outer s H vs Q E hr h => ?_)
  · obtain ⟨U, m, rfl, _⟩ := h
    rfl
  · obtain ⟨U, m, rfl, hu, hm, kQ⟩ := h
    have hr1 : Room 1 _ := hr.mono (by decide)
    have hr2 : Room 2 _ := hr.mono (by decide)
    refine ⟨_, pss_cons (ps_asg (pe_tup (pa_cons (pe_dT DP hr2 (by rfl) (pa_cons (pv 0) (pa_cons pe_int (pa_cons pe_int pa_nil)))) (pa_cons (pe_dT D hr1 (by rfl) (pa_cons (pv 0) (pa_cons pe_int pa_nil))) pa_nil)))
        (pg_tup rfl (pgs_cons (pg_name (i := 1) sc_law_right.nd rfl (Or.inr rfl)) (pgs_cons (pg_name (i := 2) sc_law_right.nd rfl (Or.inl rfl)) pgs_nil))))
      (pss_cons (ps_set (i := 3) sc_law_right.nd rfl (Or.inl rfl) (pe_dT DC hr2 (by rfl) (pa_cons (pv 0) (pa_cons (pv 1) (pa_cons (pv 2) (pa_cons (pe_op op_add pe_int (pe_dT D hr1 (by rfl) (pa_cons (pv 0) (pa_cons pe_int pa_nil)))) pa_nil))))))
      (pss_cons (ps_asg (pv 3) (pg_tup rfl (pgs_cons (pg_name (i := 4) sc_law_right.nd rfl (Or.inr rfl)) (pgs_cons (pg_name (i := 5) sc_law_right.nd rfl (Or.inr rfl)) pgs_nil))))
      (pss_cons (ps_set (i := 6) sc_law_right.nd rfl (Or.inr rfl) (pe_dT D hr1 (by rfl) (pa_cons (pv 0) (pa_cons (de_b1 cd_len (by rfl) T.nLen PySem.boot_len (de_var (pv 4))) pa_nil))))
      (dss_cons (ds_set (i := 7) sc_law_right.nd (by rfl) (Or.inl (by rfl)) (de_lst (da_cons (de_tup (da_cons de_str (da_cons de_int (da_cons de_int da_nil)))) (da_cons (de_tup (da_cons de_str (da_cons de_int (da_cons (de_ix (de_var (pv 1)) de_int) da_nil)))) (da_cons (de_tup (da_cons de_str (da_cons de_int (da_cons de_int da_nil)))) (da_cons (de_tup (da_cons de_str (da_cons de_int (da_cons (de_neg de_int) da_nil)))) (da_cons (de_tup (da_cons de_str (da_cons de_int (da_cons (de_ix (de_var (pv 1)) de_int) da_nil)))) (da_cons (de_tup (da_cons de_str (da_cons (de_op opd_add (de_ix (de_var (pv 1)) de_int) de_int) da_nil))) (da_cons (de_tup (da_cons de_str (da_cons de_int da_nil))) (da_cons (de_tup (da_cons de_str (da_cons de_int da_nil))) (da_cons (de_tup (da_cons de_str (da_cons de_int da_nil))) (da_cons (de_tup (da_cons de_str da_nil)) (da_cons (de_tup da_nil) (da_cons de_non (da_cons de_str (da_cons (de_tup (da_cons de_str (da_cons de_int da_nil))) (da_cons (de_tup (da_cons de_str (da_cons de_bl (da_cons de_int da_nil)))) (da_cons (de_tup (da_cons de_str (da_cons de_int (da_cons de_bl da_nil)))) (da_cons (de_tup (da_cons de_str (da_cons de_bl da_nil))) (da_cons de_int (da_cons (de_lst (da_cons de_str da_nil)) (da_cons (de_tup (da_cons de_str da_nil)) (da_cons (de_tup (da_cons de_str (da_cons de_int da_nil))) (da_cons (de_tup (da_cons de_str (da_cons (de_ix (de_var (pv 1)) de_int) da_nil))) (da_cons (de_ix (de_var (pv 4)) de_int) da_nil)))))))))))))))))))))))))
      (dss_cons (ds_setLc (i := 8) tgt_name (by rfl) sc_law_right.nd (by rfl) (by rfl) (by rfl) (pi_seq (de_var (pv 7))) (blkOk_by (own := [("_law_own", 11)]) (by show blkC ["_law_urn", "_law_pit_here", "_law_made", "_law_crowd_here", "_law_men", "_law_aims", "_law_k", "_law_spots", "_law_things", "_law_goals", "_law_far", "_law_own"] (defScope st_law_right) _ _ = true; decide +kernel)) (fun _ _ _ _ _ => (pg_name (i := 11) sc_law_right.nd (by rfl) (Or.inl (by rfl)))) (fun _ _ _ _ _ => dts_nil) (fun _ _ _ _ _ => (de_tup (da_cons (de_op opd_catt (de_op opd_catt (de_cut (de_var (pv 4)) do_none (do_some (de_var (pv 6)))) (de_tup (da_cons (de_var (pv 11)) da_nil))) (de_cut (de_var (pv 4)) (do_some (de_op opd_add (de_var (pv 6)) de_int)) do_none)) (da_cons (de_var (pv 5)) da_nil)))))
      (dss_cons (ds_set (i := 9) sc_law_right.nd (by rfl) (Or.inl (by rfl)) (de_lst (da_cons de_non (da_cons (de_tup (da_cons (de_op opd_add (de_ix (de_var (pv 1)) de_int) de_int) (da_cons de_int da_nil))) (da_cons (de_tup (da_cons de_int (da_cons (de_neg de_int) da_nil))) (da_cons (de_tup (da_cons de_int da_nil)) (da_cons (de_lst (da_cons de_int (da_cons de_int da_nil))) (da_cons de_int (da_cons de_bl (da_cons (de_tup (da_cons de_int (da_cons de_bl da_nil))) (da_cons (de_tup (da_cons de_int (da_cons de_int (da_cons de_int da_nil)))) (da_cons (de_tup (da_cons (de_ix (de_var (pv 1)) de_int) (da_cons (de_op opd_pow de_int de_int) da_nil))) (da_cons (de_tup (da_cons de_int (da_cons de_int da_nil))) da_nil)))))))))))))
      (dss_cons (ds_set (i := 8) sc_law_right.nd (by rfl) (Or.inl (by rfl)) (de_op opd_catl (de_var (pv 8)) (de_lc tgt_name (by rfl) sc_law_right.nd (pi_seq (de_var (pv 9))) (blkOk_by (own := [("_law_own", 11)]) (by show blkC ["_law_urn", "_law_pit_here", "_law_made", "_law_crowd_here", "_law_men", "_law_aims", "_law_k", "_law_spots", "_law_things", "_law_goals", "_law_far", "_law_own"] (defScope st_law_right) _ _ = true; decide +kernel)) (fun _ _ _ _ _ => (pg_name (i := 11) sc_law_right.nd (by rfl) (Or.inl (by rfl)))) (fun _ _ _ _ _ => dts_nil) (fun _ _ _ _ _ => (de_tup (da_cons (de_var (pv 4)) (da_cons (de_op opd_catt (de_op opd_catt (de_cut (de_var (pv 5)) do_none (do_some (de_var (pv 6)))) (de_tup (da_cons (de_var (pv 11)) da_nil))) (de_cut (de_var (pv 5)) (do_some (de_op opd_add (de_var (pv 6)) de_int)) do_none)) da_nil)))))))
      (dss_cons (ds_set (i := 8) sc_law_right.nd (by rfl) (Or.inl (by rfl)) (de_op opd_catl (de_var (pv 8)) (de_lst (da_cons (de_var (pv 3)) (da_cons (de_call D_law_lists (hr.mono (show 5 ≤ 5 by decide)) (by rfl) (da_cons (de_var (pv 3)) da_nil)) (da_cons (de_t1 cd_list (by rfl) T.tList PyProof.Rows.boot_list (de_var (pv 3))) (da_cons (de_tup (da_cons (de_var (pv 4)) (da_cons (de_cut (de_var (pv 5)) (do_some de_int) do_none) da_nil))) (da_cons (de_tup (da_cons (de_cut (de_var (pv 4)) (do_some de_int) do_none) (da_cons (de_cut (de_var (pv 5)) (do_some de_int) do_none) da_nil))) (da_cons (de_op opd_catt (de_var (pv 3)) (de_tup (da_cons (de_tup da_nil) da_nil))) (da_cons (de_tup (da_cons (de_var (pv 4)) da_nil)) (da_cons (de_tup (da_cons (de_var (pv 4)) (da_cons (de_t1 cd_list (by rfl) T.tList PyProof.Rows.boot_list (de_var (pv 5))) da_nil))) (da_cons de_non (da_cons (de_tup da_nil) (da_cons de_int (da_cons (de_tup (da_cons (de_var (pv 5)) (da_cons (de_var (pv 4)) da_nil))) da_nil)))))))))))))))
      (dss_cons (ds_for tgt_name PassesOwn.never (by rfl) (pi_seq (de_tup (da_cons (de_var (pv 2)) (da_cons (de_op opd_add (de_var (pv 2)) de_int) (da_cons (de_op opd_add (de_var (pv 2)) (de_op opd_pow de_int de_int)) da_nil))))) (pg_name (i := 10) sc_law_right.nd (by rfl) (Or.inr (by rfl)))
      (dss_one (ds_if (dt_not (dt_val (de_call D_law_same (hr.mono (show 4 ≤ 5 by decide)) (by rfl) (da_cons (de_lc tgt_name (by rfl) sc_law_right.nd (pi_seq (de_var (pv 8))) (blkOk_by (own := [("_law_own", 11)]) (by show blkC ["_law_urn", "_law_pit_here", "_law_made", "_law_crowd_here", "_law_men", "_law_aims", "_law_k", "_law_spots", "_law_things", "_law_goals", "_law_far", "_law_own"] (defScope st_law_right) _ _ = true; decide +kernel)) (fun _ _ _ _ _ => (pg_name (i := 11) sc_law_right.nd (by rfl) (Or.inl (by rfl)))) (fun _ _ _ _ _ => dts_nil) (fun _ _ _ _ _ => (de_call D_is_crowd (hr.mono (show 4 ≤ 5 by decide)) (by rfl) (da_cons (de_var (pv 11)) (da_cons (de_var (pv 1)) (da_cons (de_var (pv 10)) da_nil)))))) (da_cons (de_lc tgt_name (by rfl) sc_law_right.nd (pi_seq (de_var (pv 8))) (blkOk_by (own := [("_law_own", 11)]) (by show blkC ["_law_urn", "_law_pit_here", "_law_made", "_law_crowd_here", "_law_men", "_law_aims", "_law_k", "_law_spots", "_law_things", "_law_goals", "_law_far", "_law_own"] (defScope st_law_right) _ _ = true; decide +kernel)) (fun _ _ _ _ _ => (pg_name (i := 11) sc_law_right.nd (by rfl) (Or.inl (by rfl)))) (fun _ _ _ _ _ => dts_nil) (fun _ _ _ _ _ => (de_call D_law_fits (hr.mono (show 3 ≤ 5 by decide)) (by rfl) (da_cons (de_var (pv 11)) (da_cons (de_var (pv 1)) (da_cons (de_var (pv 10)) da_nil)))))) da_nil)))))
      (dss_one (ds_ret de_bl))
      dss_nil)))
      (dss_one (ds_ret (de_cmp opd_isb (de_call D_is_crowd (hr.mono (show 4 ≤ 5 by decide)) (by rfl) (da_cons (de_var (pv 3)) (da_cons (de_call D_law_lists (hr.mono (show 5 ≤ 5 by decide)) (by rfl) (da_cons (de_var (pv 1)) da_nil)) (da_cons (de_var (pv 2)) da_nil)))) de_bl (nomark _))))))))))))), ?_⟩
    refine ⟨_, rfl, U, m, rfl, hu, by omega, fun vp H1 n b rs x1 u1 n2 n6 hl hn hvp => ?_⟩
    have hp : PitOk n rs := ⟨n2, n6, hl, hn⟩
    refine ⟨_, rfl, U, 9, _, rfl, u1, by omega, by omega, by omega, fun made H2 m0 m1 x2 u2 => ?_⟩
    have hvp2 := Dq.car (car_sx x2 (urn_zl u1)) _ _ hvp
    refine ⟨by show 2 ≤ sizeLine; rw [sizeLine_eq]; omega, fun T1 hT => ⟨T1, _, rfl, SqT.of upd_same, rfl, _, _, rfl, _, _, rfl, rfl, ?_⟩⟩
    have s3 := same_upd (o := .tup [vp, V.int made]) hT
    have hvp3 := hvp2.same s3
    have u3 := u2.same s3
    generalize upd H2 T1 (.tup [vp, V.int made]) = H3 at hvp3 u3 ⊢
    refine ⟨_, rfl, _, rfl, _, rfl, _, rfl, U, 5, _, rfl, u3, by omega, by omega, by omega, fun r H4 r0 r1 x4 u4 => ⟨_, _, rfl, rfl, ?_⟩⟩
    have hvp4 := Dq.car (car_sx x4 (urn_zl u3)) _ _ hvp3
    refine ⟨U, _, vp, n, b, rs, made, 1 + r, rfl, u4, by omega, hp, by omega, by omega, hvp4, fun vc H5 men aims x5 u5 lm hc hv => ?_⟩
    have hvp5 := Dq.car (car_sx x5 (urn_zl u4)) _ _ hvp4
    obtain ⟨a, xs, rfl, h1, x, xr, rfl, hmn, y, yr, rfl, han, hnil⟩ := id hv
    cases (show _ = _ from hnil)
    refine ⟨_, rfl, a, [x, y], rfl, h1.1, rfl, x, [y], rfl, y, [], rfl, rfl, ?_⟩
    refine ⟨_, rfl, fun x => x = U, _, .int men.length, (urn_zl u5).zt, (agr_ns _).also 4 rfl hmn, rfl, fun v H6 s6 hv6 => ?_⟩
    cases hv6
    have u6 := u5.same s6
    refine ⟨U, men.length, _, rfl, u6, by omega, by omega, by omega, fun k H7 k0 k1 x7 u7 => ?_⟩
    have c7 := car_sx (K := K) x7 (urn_zl u6)
    have tr : ∀ {d : PyData} {v : V}, Dq K (fun x => x = U) H5 d v → Dq K (fun x => x = U) H7 d v := fun {d v} h => Dq.car c7 _ _ (h.same s6)
    refine ⟨fun x => x = U, rightR n b rs made men aims k, .rt (.bool true), (urn_zl u7).zt, agr_none (agr_some (tr hvp5) (agr_some rfl (agr_some (tr hv) (agr_some (tr hmn) (agr_some (tr han) (agr_some rfl (agr_none (agr_none (agr_none (agr_none (agr_none agr_nil))))))))))),
      hG _ _ _ _ _ _ _ ⟨hp, by omega, by omega, k0, by omega, hc⟩, fun ρ' e => (by cases e), fun d e v H' s' hv' => ?_⟩
    cases e
    cases hv'
    exact kQ H'
end
end Cr
namespace Cr
open PySem PySem.Spec PyProof.Rows L2

/-! ### what _law_right computes from what was drawn -/
section
variable {ρ : Ds} {f g : F} {ga : Ds → Option (List PyData)} {n : Nat} {p : PyData → Bool}
theorem evL_nil : ∃ ds, fNil ρ = some ds ∧ ds.length = 0 ∧ ds.all p = true := ⟨[], rfl, rfl, rfl⟩
theorem evL_cons (h : ∃ d, f ρ = some d ∧ p d = true) (h2 : ∃ ds, ga ρ = some ds ∧ ds.length = n ∧ ds.all p = true) : ∃ ds, fCons f ga ρ = some ds ∧ ds.length = n + 1 ∧ ds.all p = true := by
  obtain ⟨d, e, q⟩ := h
  obtain ⟨ds, e2, l, q2⟩ := h2
  exact ⟨d :: ds, fCons_v e e2, by rw [List.length_cons, l], by rw [List.all_cons, q, q2]; rfl⟩
theorem cutD_le (ds : List PyData) (lo hi : Option Int) : (cutD ds lo hi).length ≤ ds.length := by
  unfold cutD
  rw [List.length_take, List.length_drop]
  omega
theorem cat_e {a b : List PyData} (h : f ρ = some (.tuple a)) (h2 : g ρ = some (.tuple b)) (l1 : a.length ≤ 1000) (l2 : b.length ≤ 1000) : f2 hCatT f g ρ = some (.tuple (a ++ b)) := (f2_v h h2).trans (if_pos ⟨l1, l2⟩)
theorem catl_e {a b : List PyData} (h : f ρ = some (.list a)) (h2 : g ρ = some (.list b)) (l1 : a.length ≤ 1000) (l2 : b.length ≤ 1000) : f2 hCatL f g ρ = some (.list (a ++ b)) := (f2_v h h2).trans (if_pos ⟨l1, l2⟩)
def swapD (xs : List PyData) (k : Int) (own : PyData) : List PyData := (cutD xs none (some k) ++ [own]) ++ cutD xs (some (k + 1)) none
theorem swap_len (xs : List PyData) (k : Int) (own : PyData) : (swapD xs k own).length ≤ 2 * xs.length + 1 := by
  unfold swapD
  have h1 := cutD_le xs none (some k)
  have h2 := cutD_le xs (some (k + 1)) none
  simp only [List.length_append, List.length_singleton]
  omega
theorem swap_e {xs : List PyData} {k : Int} {own : PyData} {v : Nat} (h : fVar v ρ = some (.tuple xs)) (hk : fVar 6 ρ = some (.int k)) (ho : fVar 11 ρ = some own) (hl : xs.length ≤ 5) :
    f2 hCatT (f2 hCatT (fCut (fVar v) fNoPart (fPart (fVar 6))) (fTup (fCons (fVar 11) fNil))) (fCut (fVar v) (fPart (f2 (hII fun i j => .int (i + j)) (fVar 6) (fC (.int 1)))) fNoPart) ρ = some (.tuple (swapD xs k own)) := by
  have c1 : fCut (fVar v) fNoPart (fPart (fVar 6)) ρ = some (.tuple (cutD xs none (some k))) := by
    unfold fCut fPart
    rw [h, hk]; rfl
  have c2 : fCut (fVar v) (fPart (f2 (hII fun i j => .int (i + j)) (fVar 6) (fC (.int 1)))) fNoPart ρ = some (.tuple (cutD xs (some (k + 1)) none)) := by
    unfold fCut fPart
    rw [h, add_e hk (show fC (.int 1) ρ = some (.int 1) from rfl)]; rfl
  have h1 := cutD_le xs none (some k)
  have h2 := cutD_le xs (some (k + 1)) none
  exact cat_e (cat_e c1 (fTup_v (fCons_v ho (show fNil ρ = some [] from rfl))) (by omega) (by simp)) c2 (by simp only [List.length_append, List.length_singleton]; omega) (by omega)
end
theorem mapO_ok {α β : Type} {f : α → Option β} : ∀ {ds : List α}, (∀ d ∈ ds, ∃ r, f d = some r) → ∃ rs, mapO f ds = some rs
  | [], _ => ⟨[], rfl⟩
  | d :: ds, h => by
    obtain ⟨r, e⟩ := h d List.mem_cons_self
    obtain ⟨rs, e2⟩ := mapO_ok (ds := ds) fun x hx => h x (List.mem_cons_of_mem _ hx)
    refine ⟨r :: rs, ?_⟩
    show (f d).bind (fun y => (mapO f ds).bind fun ys => some (y :: ys)) = _
    rw [e, e2]; rfl
theorem depth_mem : ∀ {ds : List PyData} {d : PyData}, d ∈ ds → d.depth ≤ PyData.depthAll ds
  | x :: ds, d, h => by
    simp only [PyData.depthAll]
    rcases List.mem_cons.mp h with e | h
    · rw [e]; omega
    · have := depth_mem h; omega
theorem depthAll_le {n : Nat} : ∀ {ds : List PyData}, (∀ d ∈ ds, d.depth ≤ n) → PyData.depthAll ds ≤ n
  | [], _ => by simp [PyData.depthAll]
  | x :: ds, h => by
    simp only [PyData.depthAll]
    have h1 := h x List.mem_cons_self
    have h2 := depthAll_le (ds := ds) fun y hy => h y (List.mem_cons_of_mem _ hy)
    omega
theorem lists_ok : ∀ (n : Nat) (d : PyData), d.depth ≤ n → ∃ r, listsD n d = some r
  | 0, .tuple ds, h => by simp [PyData.depth] at h
  | 0, .list ds, h => by simp [PyData.depth] at h
  | n + 1, .tuple ds, h => by
    simp only [PyData.depth] at h
    obtain ⟨rs, e⟩ := mapO_ok (f := listsD n) (ds := ds) fun d hd => lists_ok n d (by have := depth_mem hd; omega)
    exact ⟨.list rs, by unfold listsD; rw [e]; rfl⟩
  | n + 1, .list ds, h => by
    simp only [PyData.depth] at h
    obtain ⟨rs, e⟩ := mapO_ok (f := listsD n) (ds := ds) fun d hd => lists_ok n d (by have := depth_mem hd; omega)
    exact ⟨.list rs, by unfold listsD; rw [e]; rfl⟩
  | 0, .none, _ => ⟨_, rfl⟩
  | 0, .bool _, _ => ⟨_, rfl⟩
  | 0, .int _, _ => ⟨_, rfl⟩
  | 0, .str _, _ => ⟨_, rfl⟩
  | 0, .dict _, _ => ⟨_, rfl⟩
  | n + 1, .none, _ => ⟨_, rfl⟩
  | n + 1, .bool _, _ => ⟨_, rfl⟩
  | n + 1, .int _, _ => ⟨_, rfl⟩
  | n + 1, .str _, _ => ⟨_, rfl⟩
  | n + 1, .dict _, _ => ⟨_, rfl⟩
theorem lists_tup {n : Nat} {ds : List PyData} (h : PyData.depthAll ds ≤ n) : ∃ rs, listsD (n + 1) (.tuple ds) = some (.list rs) := by
  obtain ⟨rs, e⟩ := mapO_ok (f := listsD n) (ds := ds) fun d hd => lists_ok n d (by have := depth_mem hd; omega)
  exact ⟨rs, by unfold listsD; rw [e]; rfl⟩
theorem depth_keys0 (k : MKey) : PyData.depthAll (k.map encK) ≤ 0 := depthAll_le fun d hd => by
  obtain ⟨x, _, rfl⟩ := List.mem_map.mp hd
  cases x <;> simp [encK, PyData.depth]
theorem place_depth {n made : Int} {d : PyData} (h : placeB n made d = true) : d.depth ≤ 1 := by
  obtain ⟨k, rfl, _⟩ := place_key h
  have := depth_keys0 k
  unfold encM
  simp only [PyData.depth]
  omega
theorem aim_depth {n : Int} {d : PyData} (h : aimB n d = true) : d.depth ≤ 1 := by
  cases d with
  | none => simp [PyData.depth]
  | tuple ds =>
    rcases ds with _ | ⟨a, _ | ⟨x, _ | ⟨y, r⟩⟩⟩
    · cases h
    · cases h
    · have h : (inB 0 n a && geB 0 x) = true := h
      obtain ⟨h1, h2⟩ := Bool.and_eq_true_iff.mp h
      obtain ⟨i, rfl, _⟩ := inB_eq h1
      cases x <;> first | (simp [PyData.depth, PyData.depthAll]; done) | (cases h2)
    · cases h
  | _ => cases h
theorem crowd_parts {n made : Int} {rs men aims : List PyData} (hc : crowdB n rs made (.tuple [.tuple men, .tuple aims]) = true) : men.length = aims.length ∧ (∀ d ∈ men, placeB n made d = true) ∧ ∀ d ∈ aims, aimB n d = true := by
  have hc : (decide (men.length = aims.length) && ((List.zip men aims).all fun p => manB n made p.1 p.2) && men.all (standB rs men)) = true := hc
  obtain ⟨hc1, c3⟩ := Bool.and_eq_true_iff.mp hc
  obtain ⟨c1, c2⟩ := Bool.and_eq_true_iff.mp hc1
  have c1 := of_decide_eq_true c1
  rw [zip_all c1] at c2
  obtain ⟨q1, q2⟩ := Bool.and_eq_true_iff.mp (Bool.and_eq_true_iff.mp c2).1
  exact ⟨c1, List.all_eq_true.mp q1, List.all_eq_true.mp q2⟩
theorem lists_crowd {n made : Int} {rs men aims : List PyData} (hc : crowdB n rs made (.tuple [.tuple men, .tuple aims]) = true) : ∃ ls, p_law_lists 3 [.tuple [.tuple men, .tuple aims]] = some (.list ls) := by
  obtain ⟨_, h1, h2⟩ := crowd_parts hc
  have d1 := depthAll_le (n := 1) fun d hd => place_depth (h1 d hd)
  have d2 := depthAll_le (n := 1) fun d hd => aim_depth (h2 d hd)
  exact lists_tup (n := 2) (by simp only [PyData.depthAll, PyData.depth]; omega)
theorem lists_ints : ∀ rs : List Int, mapO (listsD 1) (rs.map PyData.int) = some (rs.map PyData.int)
  | [] => rfl
  | r :: rs => by
    show (some (PyData.int r)).bind (fun y => (mapO (listsD 1) (rs.map PyData.int)).bind fun ys => some (y :: ys)) = _
    rw [lists_ints rs]; rfl
theorem lists_pit (n : Int) (b : Bool) (rs : List Int) : p_law_lists 3 [pitT n b rs] = some (.list [.int n, .bool b, .list (rs.map .int)]) := by
  have e : listsD 2 (.tuple (rs.map .int)) = some (.list (rs.map .int)) := by
    show (mapO (listsD 1) (rs.map PyData.int)).map PyData.list = _
    rw [lists_ints]; rfl
  show (mapO (listsD 2) [.int n, .bool b, .tuple (rs.map .int)]).map PyData.list = _
  show ((some (PyData.int n)).bind fun y => ((some (PyData.bool b)).bind fun y2 => ((listsD 2 (.tuple (rs.map .int))).bind fun y3 => (some []).bind fun ys => some (y3 :: ys)).bind fun ys => some (y2 :: ys)).bind fun ys => some (y :: ys)).map PyData.list = _
  rw [e]; rfl
theorem bt_all {α : Type} (q : α → Bool) : ∀ l : List α, (List.zip (l.map fun d => PyData.bool (q d)) (l.map fun d => PyData.bool (q d))).all (fun p => btEq 1 p.1 p.2) = true
  | [] => rfl
  | d :: l => by
    rw [List.map_cons, List.zip_cons_cons, List.all_cons, bt_all q l]
    show ((q d == q d) && true) = true
    rw [beq_self_eq_true]; rfl
theorem bt_self {α : Type} (q : α → Bool) (l : List α) : btEq 2 (.list (l.map fun d => .bool (q d))) (.list (l.map fun d => .bool (q d))) = true := by
  show (decide (_ = _) && (List.zip (l.map fun d => PyData.bool (q d)) (l.map fun d => PyData.bool (q d))).all fun p => btEq 1 p.1 p.2) = true
  rw [bt_all]
  simp
abbrev gTurn : Ds → Option Out := (sIf (bNot (fB (fCall (p_law_same 2) (fCons (fLc (fSeq (fVar 8)) (fun d ρ => ρ.set 11 (some d)) bYes (fCall p_is_crowd (fCons (fVar 11) (fCons (fVar 1) (fCons (fVar 10) fNil)))) [11]) (fCons (fLc (fSeq (fVar 8)) (fun d ρ => ρ.set 11 (some d)) bYes (fCall p_law_fits (fCons (fVar 11) (fCons (fVar 1) (fCons (fVar 10) fNil)))) [11]) fNil))))) (sRet (fC (.bool false))) sNil)
theorem far_turn {n : Int} {b : Bool} {rs : List Int} {things : List PyData} {far : Int} {y0 y2 y3 y4 y5 y6 y7 y9 y11 : Option PyData} (hp : PitOk n rs) (few : things.all fewB = true) :
    gTurn [y0, some (pitT n b rs), y2, y3, y4, y5, y6, y7, some (.list things), y9, some (.int far), y11] = some (.nx [y0, some (pitT n b rs), y2, y3, y4, y5, y6, y7, some (.list things), y9, some (.int far), y11]) := by
  have e : ∀ d ∈ things, p_is_crowd [d, pitT n b rs, .int far] = some (.bool (crowdB n (rs.map .int) far d)) := fun d hd => by
    show (pitD (pitT n b rs)).bind (fun p => if fewB d = true then some (PyData.bool (crowdB p.1 p.2 far d)) else none) = _
    rw [pitD_T hp, Option.bind_some, if_pos (List.all_eq_true.mp few d hd)]
  have e1 := fLc_map (f := fSeq (fVar 8)) (u := fun d ρ => ρ.set 11 (some d)) (k := fCall p_is_crowd (fCons (fVar 11) (fCons (fVar 1) (fCons (fVar 10) fNil)))) (vs := [11]) (ρ := [y0, some (pitT n b rs), y2, y3, y4, y5, y6, y7, some (.list things), y9, some (.int far), y11]) (ds := things) (h := fun d => .bool (crowdB n (rs.map .int) far d)) rfl (fun d hd => e d hd)
  have e2 := fLc_map (f := fSeq (fVar 8)) (u := fun d ρ => ρ.set 11 (some d)) (k := fCall p_law_fits (fCons (fVar 11) (fCons (fVar 1) (fCons (fVar 10) fNil)))) (vs := [11]) (ρ := [y0, some (pitT n b rs), y2, y3, y4, y5, y6, y7, some (.list things), y9, some (.int far), y11]) (ds := things) (h := fun d => .bool (crowdB n (rs.map .int) far d)) rfl (fun d hd => e d hd)
  have e3 := fCall_v (G := p_law_same 2) (fCons_v e1 (fCons_v e2 (show fNil _ = some [] from rfl)))
  refine (sIf_f (bNot_v (x := true) (fB_v (e3.trans ?_)))).trans rfl
  exact if_pos (bt_self _ _)
theorem right_is {n : Int} {b : Bool} {rs : List Int} {made : Int} {men aims : List PyData} {k : Int} (h : DrawnOk n rs made men aims k) : g_right (rightR n b rs made men aims k) = some (.rt (.bool true)) := by
  obtain ⟨hp, m1, m5, k0, k5, hc⟩ := h
  obtain ⟨hl, _, _⟩ := crowd_parts hc
  obtain ⟨ls, hls⟩ := lists_crowd hc
  obtain ⟨m0, mr, rfl⟩ : ∃ m0 mr, men = m0 :: mr := by
    cases men with
    | nil => simp at m1
    | cons a r => exact ⟨a, r, rfl⟩
  have fewM : fewB (.tuple [.tuple (m0 :: mr), .tuple aims]) = true := decide_eq_true (by omega)
  -- the spots
  obtain ⟨spots, e1, l1, _⟩ : ∃ ds, (fCons (fTup (fCons (fC (.str "rod")) (fCons (fC (.int 2)) (fCons (fC (.int 1)) fNil)))) (fCons (fTup (fCons (fC (.str "rod")) (fCons (fC (.int 0)) (fCons (f2 hIx (fVar 1) (fC (.int 0))) fNil)))) (fCons (fTup (fCons (fC (.str "rod")) (fCons (fC (.int 1)) (fCons (fC (.int 0)) fNil)))) (fCons (fTup (fCons (fC (.str "rod")) (fCons (fC (.int 0)) (fCons (f1 hNeg (fC (.int 1))) fNil)))) (fCons (fTup (fCons (fC (.str "rod")) (fCons (fC (.int 1)) (fCons (f2 hIx (fVar 1) (fC (.int 0))) fNil)))) (fCons (fTup (fCons (fC (.str "aside")) (fCons (f2 (hII fun i j => .int (i + j)) (f2 hIx (fVar 1) (fC (.int 0))) (fC (.int 1))) fNil))) (fCons (fTup (fCons (fC (.str "aside")) (fCons (fC (.int 0)) fNil))) (fCons (fTup (fCons (fC (.str "grass")) (fCons (fC (.int 1)) fNil))) (fCons (fTup (fCons (fC (.str "lost")) (fCons (fC (.int 1)) fNil))) (fCons (fTup (fCons (fC (.str "lost")) fNil)) (fCons (fTup fNil) (fCons (fC .none) (fCons (fC (.str "grass")) (fCons (fTup (fCons (fC (.str "rod")) (fCons (fC (.int 0)) fNil))) (fCons (fTup (fCons (fC (.str "rod")) (fCons (fC (.bool true)) (fCons (fC (.int 1)) fNil)))) (fCons (fTup (fCons (fC (.str "rod")) (fCons (fC (.int 0)) (fCons (fC (.bool true)) fNil)))) (fCons (fTup (fCons (fC (.str "aside")) (fCons (fC (.bool true)) fNil))) (fCons (fC (.int 4)) (fCons (fLst (fCons (fC (.str "grass")) fNil)) (fCons (fTup (fCons (fC (.str "grass")) fNil)) (fCons (fTup (fCons (fC (.str "aside")) (fCons (fC (.int 1)) fNil))) (fCons (fTup (fCons (fC (.str "aside")) (fCons (f2 hIx (fVar 1) (fC (.int 0))) fNil))) (fCons (f2 hIx (fVar 4) (fC (.int 0))) fNil))))))))))))))))))))))) (rightR n b rs made (m0 :: mr) aims k) = some ds ∧ ds.length = 23 ∧ ds.all (fun _ => true) = true := by
    iterate 22 refine evL_cons ⟨_, rfl, rfl⟩ ?_
    exact evL_cons ⟨m0, (f2_v rfl rfl).trans (ixt0 _ _), rfl⟩ evL_nil
  refine (sSeq_nx (sSet_v (fLst_v e1))).trans ?_
  -- the crowd with one spot changed
  have e2 := fLc_map (f := fSeq (fVar 7)) (u := fun d ρ => ρ.set 11 (some d)) (k := fTup (fCons (f2 hCatT (f2 hCatT (fCut (fVar 4) fNoPart (fPart (fVar 6))) (fTup (fCons (fVar 11) fNil))) (fCut (fVar 4) (fPart (f2 (hII fun i j => .int (i + j)) (fVar 6) (fC (.int 1)))) fNoPart)) (fCons (fVar 5) fNil))) (vs := [11])
    (ρ := [none, some (pitT n b rs), some (.int made), some (.tuple [.tuple (m0 :: mr), .tuple aims]), some (.tuple (m0 :: mr)), some (.tuple aims), some (.int k), some (.list spots), none, none, none, none]) (ds := spots) (h := fun own => .tuple [.tuple (swapD (m0 :: mr) k own), .tuple aims]) rfl
    (fun d _ => fTup_v (fCons_v (swap_e (xs := m0 :: mr) rfl rfl rfl m5) rfl))
  refine (sSeq_nx (sSet_v e2)).trans ?_
  -- the goals
  obtain ⟨goals, e3, l3, _⟩ : ∃ ds, (fCons (fC .none) (fCons (fTup (fCons (f2 (hII fun i j => .int (i + j)) (f2 hIx (fVar 1) (fC (.int 0))) (fC (.int 1))) (fCons (fC (.int 0)) fNil))) (fCons (fTup (fCons (fC (.int 0)) (fCons (f1 hNeg (fC (.int 1))) fNil))) (fCons (fTup (fCons (fC (.int 0)) fNil)) (fCons (fLst (fCons (fC (.int 0)) (fCons (fC (.int 0)) fNil))) (fCons (fC (.int 5)) (fCons (fC (.bool true)) (fCons (fTup (fCons (fC (.int 0)) (fCons (fC (.bool false)) fNil))) (fCons (fTup (fCons (fC (.int 0)) (fCons (fC (.int 0)) (fCons (fC (.int 0)) fNil)))) (fCons (fTup (fCons (f2 hIx (fVar 1) (fC (.int 0))) (fCons (f2 hPow (fC (.int 10)) (fC (.int 6))) fNil))) (fCons (fTup (fCons (fC (.int 0)) (fCons (fC (.int 0)) fNil))) fNil))))))))))) [none, some (pitT n b rs), some (.int made), some (.tuple [.tuple (m0 :: mr), .tuple aims]), some (.tuple (m0 :: mr)), some (.tuple aims), some (.int k), some (.list spots), some (.list (spots.map fun own => .tuple [.tuple (swapD (m0 :: mr) k own), .tuple aims])), none, none, none] = some ds ∧ ds.length = 11 ∧ ds.all (fun _ => true) = true := by
    iterate 11 refine evL_cons ⟨_, rfl, rfl⟩ ?_
    exact evL_nil
  refine (sSeq_nx (sSet_v (fLst_v e3))).trans ?_
  have e4 := fLc_map (f := fSeq (fVar 9)) (u := fun d ρ => ρ.set 11 (some d)) (k := fTup (fCons (fVar 4) (fCons (f2 hCatT (f2 hCatT (fCut (fVar 5) fNoPart (fPart (fVar 6))) (fTup (fCons (fVar 11) fNil))) (fCut (fVar 5) (fPart (f2 (hII fun i j => .int (i + j)) (fVar 6) (fC (.int 1)))) fNoPart)) fNil))) (vs := [11])
    (ρ := [none, some (pitT n b rs), some (.int made), some (.tuple [.tuple (m0 :: mr), .tuple aims]), some (.tuple (m0 :: mr)), some (.tuple aims), some (.int k), some (.list spots), some (.list (spots.map fun own => .tuple [.tuple (swapD (m0 :: mr) k own), .tuple aims])), some (.list goals), none, none]) (ds := goals) (h := fun own => .tuple [.tuple (m0 :: mr), .tuple (swapD aims k own)]) rfl
    (fun d _ => fTup_v (fCons_v rfl (fCons_v (swap_e (xs := aims) rfl rfl rfl (by omega)) rfl)))
  have e5 := catl_e (f := fVar 8) (ρ := [none, some (pitT n b rs), some (.int made), some (.tuple [.tuple (m0 :: mr), .tuple aims]), some (.tuple (m0 :: mr)), some (.tuple aims), some (.int k), some (.list spots), some (.list (spots.map fun own => .tuple [.tuple (swapD (m0 :: mr) k own), .tuple aims])), some (.list goals), none, none]) rfl e4 (by rw [List.length_map]; omega) (by rw [List.length_map]; omega)
  refine (sSeq_nx (sSet_v e5)).trans ?_
  have f5 : (spots.map (fun own => PyData.tuple [.tuple (swapD (m0 :: mr) k own), .tuple aims]) ++ goals.map fun own => PyData.tuple [.tuple (m0 :: mr), .tuple (swapD aims k own)]).all fewB = true := by
    rw [List.all_append, Bool.and_eq_true]
    refine ⟨List.all_eq_true.mpr fun d hd => ?_, List.all_eq_true.mpr fun d hd => ?_⟩
    · obtain ⟨own, _, rfl⟩ := List.mem_map.mp hd
      exact decide_eq_true (by have := swap_len (m0 :: mr) k own; omega)
    · obtain ⟨own, _, rfl⟩ := List.mem_map.mp hd
      exact decide_eq_true (by omega)
  have l5 : (spots.map (fun own => PyData.tuple [.tuple (swapD (m0 :: mr) k own), .tuple aims]) ++ goals.map fun own => PyData.tuple [.tuple (m0 :: mr), .tuple (swapD aims k own)]).length = 34 := by
    rw [List.length_append, List.length_map, List.length_map, l1, l3]
  generalize (spots.map (fun own => PyData.tuple [.tuple (swapD (m0 :: mr) k own), .tuple aims]) ++ goals.map fun own => PyData.tuple [.tuple (m0 :: mr), .tuple (swapD aims k own)]) = some1 at f5 l5 ⊢
  -- the rest
  obtain ⟨lasts, e6, l6, f6⟩ : ∃ ds, (fCons (fVar 3) (fCons (fCall (p_law_lists 3) (fCons (fVar 3) fNil)) (fCons (f1 hList (fVar 3)) (fCons (fTup (fCons (fVar 4) (fCons (fCut (fVar 5) (fPart (fC (.int 1))) fNoPart) fNil))) (fCons (fTup (fCons (fCut (fVar 4) (fPart (fC (.int 1))) fNoPart) (fCons (fCut (fVar 5) (fPart (fC (.int 1))) fNoPart) fNil))) (fCons (f2 hCatT (fVar 3) (fTup (fCons (fTup fNil) fNil))) (fCons (fTup (fCons (fVar 4) fNil)) (fCons (fTup (fCons (fVar 4) (fCons (f1 hList (fVar 5)) fNil))) (fCons (fC .none) (fCons (fTup fNil) (fCons (fC (.int 3)) (fCons (fTup (fCons (fVar 5) (fCons (fVar 4) fNil))) fNil)))))))))))) [none, some (pitT n b rs), some (.int made), some (.tuple [.tuple (m0 :: mr), .tuple aims]), some (.tuple (m0 :: mr)), some (.tuple aims), some (.int k), some (.list spots), some (.list some1), some (.list goals), none, none] = some ds ∧ ds.length = 12 ∧ ds.all fewB = true := by
    refine evL_cons ⟨_, rfl, fewM⟩ ?_
    refine evL_cons ⟨.list ls, fCall_v (fCons_v rfl rfl) |>.trans hls, rfl⟩ ?_
    refine evL_cons ⟨_, rfl, rfl⟩ ?_
    refine evL_cons ⟨.tuple [.tuple (m0 :: mr), .tuple (cutD aims (some 1) none)], rfl, decide_eq_true (by omega)⟩ ?_
    refine evL_cons ⟨.tuple [.tuple (cutD (m0 :: mr) (some 1) none), .tuple (cutD aims (some 1) none)], rfl, decide_eq_true (by have := cutD_le (m0 :: mr) (some 1) none; omega)⟩ ?_
    refine evL_cons ⟨.tuple [.tuple (m0 :: mr), .tuple aims, .tuple []], rfl, rfl⟩ ?_
    refine evL_cons ⟨.tuple [.tuple (m0 :: mr)], rfl, rfl⟩ ?_
    refine evL_cons ⟨.tuple [.tuple (m0 :: mr), .list aims], rfl, decide_eq_true (by omega)⟩ ?_
    refine evL_cons ⟨_, rfl, rfl⟩ ?_
    refine evL_cons ⟨_, rfl, rfl⟩ ?_
    refine evL_cons ⟨_, rfl, rfl⟩ ?_
    refine evL_cons ⟨.tuple [.tuple aims, .tuple (m0 :: mr)], rfl, decide_eq_true (by omega)⟩ ?_
    exact evL_nil
  have e7 := catl_e (f := fVar 8) (ρ := [none, some (pitT n b rs), some (.int made), some (.tuple [.tuple (m0 :: mr), .tuple aims]), some (.tuple (m0 :: mr)), some (.tuple aims), some (.int k), some (.list spots), some (.list some1), some (.list goals), none, none]) rfl (fLst_v e6) (by omega) (by omega)
  refine (sSeq_nx (sSet_v e7)).trans ?_
  have f7 : (some1 ++ lasts).all fewB = true := by rw [List.all_append, f5, f6]; rfl
  generalize some1 ++ lasts = things at f7 ⊢
  -- three times
  have e8 : ∃ x : Int, sFor (fSeq (fTup (fCons (fVar 2) (fCons (f2 (hII fun i j => .int (i + j)) (fVar 2) (fC (.int 1))) (fCons (f2 (hII fun i j => .int (i + j)) (fVar 2) (f2 hPow (fC (.int 10)) (fC (.int 6)))) fNil))))) (fun d ρ => ρ.set 10 (some d)) gTurn [none, some (pitT n b rs), some (.int made), some (.tuple [.tuple (m0 :: mr), .tuple aims]), some (.tuple (m0 :: mr)), some (.tuple aims), some (.int k), some (.list spots), some (.list things), some (.list goals), none, none] =
      some (.nx [none, some (pitT n b rs), some (.int made), some (.tuple [.tuple (m0 :: mr), .tuple aims]), some (.tuple (m0 :: mr)), some (.tuple aims), some (.int k), some (.list spots), some (.list things), some (.list goals), some (.int x), none]) := by
    refine ⟨made + 10 ^ 6, ?_⟩
    have t := fun far y => far_turn (n := n) (b := b) (rs := rs) (things := things) (far := far) (y0 := none) (y2 := some (.int made)) (y3 := some (.tuple [.tuple (m0 :: mr), .tuple aims])) (y4 := some (.tuple (m0 :: mr))) (y5 := some (.tuple aims)) (y6 := some (.int k)) (y7 := some (.list spots)) (y9 := some (.list goals)) (y11 := y) hp f7
    show (gTurn [none, some (pitT n b rs), some (.int made), some (.tuple [.tuple (m0 :: mr), .tuple aims]), some (.tuple (m0 :: mr)), some (.tuple aims), some (.int k), some (.list spots), some (.list things), some (.list goals), some (.int made), none]).bind _ = _
    rw [t made none, Option.bind_some]
    show (gTurn [none, some (pitT n b rs), some (.int made), some (.tuple [.tuple (m0 :: mr), .tuple aims]), some (.tuple (m0 :: mr)), some (.tuple aims), some (.int k), some (.list spots), some (.list things), some (.list goals), some (.int (made + 1)), none]).bind _ = _
    rw [t (made + 1) none, Option.bind_some]
    show (gTurn [none, some (pitT n b rs), some (.int made), some (.tuple [.tuple (m0 :: mr), .tuple aims]), some (.tuple (m0 :: mr)), some (.tuple aims), some (.int k), some (.list spots), some (.list things), some (.list goals), some (.int (made + 10 ^ 6)), none]).bind _ = _
    rw [t (made + 10 ^ 6) none, Option.bind_some]
    rfl
  obtain ⟨x, e8⟩ := e8
  refine (sSeq_nx e8).trans ?_
  refine sRet_v ?_
  have p2 : pitD (.list [.int n, .bool b, .list (rs.map .int)]) = some (n, rs.map .int) := pitD_T (b := b) hp
  have e9 : fCall p_is_crowd (fCons (fVar 3) (fCons (fCall (p_law_lists 3) (fCons (fVar 1) fNil)) (fCons (fVar 2) fNil))) [none, some (pitT n b rs), some (.int made), some (.tuple [.tuple (m0 :: mr), .tuple aims]), some (.tuple (m0 :: mr)), some (.tuple aims), some (.int k), some (.list spots), some (.list things), some (.list goals), some (.int x), none] = some (.bool true) := by
    refine (fCall_v (fCons_v rfl (fCons_v ((fCall_v (fCons_v rfl rfl)).trans (lists_pit n b rs)) (fCons_v rfl rfl)))).trans ?_
    show (pitD (.list [.int n, .bool b, .list (rs.map .int)])).bind (fun p => if fewB (.tuple [.tuple (m0 :: mr), .tuple aims]) = true then some (PyData.bool (crowdB p.1 p.2 made (.tuple [.tuple (m0 :: mr), .tuple aims]))) else none) = _
    rw [p2, Option.bind_some, if_pos fewM, hc]
  exact (f2_v e9 rfl).trans rfl
end Cr
namespace Cr
open PySem PySem.Spec PyProof.Rows L2

/-! ### law -/
def spLaw (K : PySem.W.Frag) : Sp := fun vs H Q _ => ∃ (a : Addr) (ns : List Int), vs = [.ref a] ∧ SqL K H a (ns.map V.int) ∧ ns.length ≤ 63 ∧ ∀ H', Q (.bl true) H'
abbrev st_law : Stmt := topS 28
theorem sc_law : FnScope ["_law_script"] ["_law_script"] (defScope st_law) := ⟨rfl, rfl, rfl, by decide +kernel, rfl, by decide +kernel, by decide +kernel⟩
section
variable {P : Program} {w : World} {K : PySem.W.Frag} {mg : Str → Option Value} {base : Heap}
theorem ok_law {f : Addr} {fd : FuncData} (F : Fun K "law" "law" st_law f fd) (DH : DefOk P w K mg base "_law_by_hand_right" 5 (spD K 0 p_law_by_hand_right)) (DR : DefOk P w K mg base "_law_right" 6 (spRight K)) (DB : DefOk P w K mg base "_law_box" 1 (spD K 2 p_law_box)) (DC : DefOk P w K mg base "_law_cells" 1 (spCells K)) :
    FnOk P w K mg base CX0 7 f fd ["_law_script"] (spLaw K) := by
  refine F.ok sc_law (fun vs H Q E h => ?_) (fun cdv A outer s H vs Q E hr h => ?_)
  · obtain ⟨a, ns, rfl, _⟩ := h
    rfl
  · obtain ⟨a, ns, rfl, hS, hn, k⟩ := h
    have hr5 : Room 5 _ := hr.mono (by decide)
    have hr1 : Room 1 _ := hr.mono (by decide)
    refine ⟨_, pss_one (ps_ret (pe_and (de_call0 DH hr5 (by rfl)) (pe_one (pe_dT DR hr (by rfl) (pa_cons (pe_dT DB hr1 (by rfl) (pa_cons (pe_dT DC hr1 (by rfl) (pa_cons (pv 0) (pa_cons pe_int pa_nil))) (pa_cons pe_int pa_nil))) pa_nil))))), ?_⟩
    refine ⟨fun _ => False, _, .bool true, fun a h => h.elim, agr_ns _, rfl, fun v H1 s1 hv => ⟨true, hv, iteT ?_⟩⟩
    refine ⟨_, rfl, a, ns, rfl, sqL_same s1 hS, hn, fun L H2 r s2 hL h2 => ?_⟩
    refine ⟨fun _ => False, [.list [.int r], .int 0], _, fun a h => h.elim, ⟨_, _, rfl, ⟨L, _, rfl, h2, id, ⟨_, _, rfl, rfl, rfl⟩⟩, ⟨_, _, rfl, rfl, rfl⟩⟩, rfl, rfl, fun v H3 s3 hv => ?_⟩
    obtain ⟨U, xs, rfl, hU, _, x1, r1, rfl, q1, x2, r2, rfl, q2, x3, r3, rfl, q3, q4⟩ := hv
    cases (show _ = _ from q1)
    cases (show _ = _ from q2)
    cases (show _ = _ from q3)
    cases (show _ = _ from q4)
    exact ⟨U, 0, rfl, ⟨_, _, 0, hU, Int.le_refl _, Int.le_refl _⟩, by decide, fun H' => k H'⟩
end

/-! ### what the top has written, the head -/
theorem kTup {K : PySem.W.Frag} {mg : Str → Option Value} {x y : Str} {a : Addr} {t : Tok} {n : Nat} {sl : Array (Option Value)} (h1 : mg x = some (.ref a)) (h2 : K.lookup a = some ⟨.type "tuple", Option.none, .seq #[.str y t] n, sl⟩) : GlobD K mg x (.tuple [.str y]) :=
  ⟨.ref a, .ref a, h1, rfl, fun Z H => ⟨a, [.str y], rfl, ⟨.inr ⟨_, _, _, h2, rfl, rfl, by show 1 ≤ sizeLine; rw [sizeLine_eq]; omega, .cons ⟨t, rfl⟩ .nil⟩, .inr ⟨_, h2, rfl⟩⟩, ⟨_, _, rfl, rfl, rfl⟩⟩⟩
theorem all_mk {l : PySem.W.OpenLaw} {w : World} {K : PySem.W.Frag} {h : Heap} {mg : Str → Option Value} {fa : Addr} (X : K.In h) (G : h.Ns mainGlobals mg) (hfa : mg "law" = some (.ref fa))
    {f1 : Addr} {od1 an1 : Option Addr} {sl1 : Array (Option Value)} {oc1 kV1 dc1 pm1 cd1 ct1 : Value}
    {f2 : Addr} {od2 an2 : Option Addr} {sl2 : Array (Option Value)} {oc2 kV2 dc2 pm2 cd2 ct2 : Value}
    {f3 : Addr} {od3 an3 : Option Addr} {sl3 : Array (Option Value)} {oc3 kV3 dc3 pm3 cd3 ct3 : Value}
    {f4 : Addr} {od4 an4 : Option Addr} {sl4 : Array (Option Value)} {oc4 kV4 dc4 pm4 cd4 ct4 : Value}
    {f5 : Addr} {od5 an5 : Option Addr} {sl5 : Array (Option Value)} {oc5 kV5 dc5 pm5 cd5 ct5 : Value}
    {f6 : Addr} {od6 an6 : Option Addr} {sl6 : Array (Option Value)} {oc6 kV6 dc6 pm6 cd6 ct6 : Value}
    {f7 : Addr} {od7 an7 : Option Addr} {sl7 : Array (Option Value)} {oc7 kV7 dc7 pm7 cd7 ct7 : Value}
    {f8 : Addr} {od8 an8 : Option Addr} {sl8 : Array (Option Value)} {oc8 kV8 dc8 pm8 cd8 ct8 : Value}
    {f9 : Addr} {od9 an9 : Option Addr} {sl9 : Array (Option Value)} {oc9 kV9 dc9 pm9 cd9 ct9 : Value}
    {f10 : Addr} {od10 an10 : Option Addr} {sl10 : Array (Option Value)} {oc10 kV10 dc10 pm10 cd10 ct10 : Value}
    {f11 : Addr} {od11 an11 : Option Addr} {sl11 : Array (Option Value)} {oc11 kV11 dc11 pm11 cd11 ct11 : Value}
    {f12 : Addr} {od12 an12 : Option Addr} {sl12 : Array (Option Value)} {oc12 kV12 dc12 pm12 cd12 ct12 : Value}
    {f13 : Addr} {od13 an13 : Option Addr} {sl13 : Array (Option Value)} {oc13 kV13 dc13 pm13 cd13 ct13 : Value}
    {f14 : Addr} {od14 an14 : Option Addr} {sl14 : Array (Option Value)} {oc14 kV14 dc14 pm14 cd14 ct14 : Value}
    {f15 : Addr} {od15 an15 : Option Addr} {sl15 : Array (Option Value)} {oc15 kV15 dc15 pm15 cd15 ct15 : Value}
    {f16 : Addr} {od16 an16 : Option Addr} {sl16 : Array (Option Value)} {oc16 kV16 dc16 pm16 cd16 ct16 : Value}
    {f17 : Addr} {od17 an17 : Option Addr} {sl17 : Array (Option Value)} {oc17 kV17 dc17 pm17 cd17 ct17 : Value}
    {f18 : Addr} {od18 an18 : Option Addr} {sl18 : Array (Option Value)} {oc18 kV18 dc18 pm18 cd18 ct18 : Value}
    {f19 : Addr} {od19 an19 : Option Addr} {sl19 : Array (Option Value)} {oc19 kV19 dc19 pm19 cd19 ct19 : Value}
    {f20 : Addr} {od20 an20 : Option Addr} {sl20 : Array (Option Value)} {oc20 kV20 dc20 pm20 cd20 ct20 : Value}
    {f21 : Addr} {od21 an21 : Option Addr} {sl21 : Array (Option Value)} {oc21 kV21 dc21 pm21 cd21 ct21 : Value}
    {ag : Addr} {tg : Tok} {ng : Nat} {sg : Array (Option Value)}
    {ao : Addr} {to : Tok} {no : Nat} {so : Array (Option Value)}
    {tr ta : Tok}
    (a1 : PySem.W.nsIn K mainGlobals "is_number" = some (some (.ref f1))) (l1 : K.lookup f1 = some ⟨oc1, od1, .func (PySem.W.fnOf "is_number" "is_number" (defArgs st_is_number) (defBody st_is_number) (defScope st_is_number) .none kV1 dc1 pm1 an1 cd1 ct1), sl1⟩) (c1 : PySem.W.codeIn K cd1 "is_number" = true) (k1 : PySem.W.keepIn K (.ref f1) = true)
    (a2 : PySem.W.nsIn K mainGlobals "is_tuple_of" = some (some (.ref f2))) (l2 : K.lookup f2 = some ⟨oc2, od2, .func (PySem.W.fnOf "is_tuple_of" "is_tuple_of" (defArgs st_is_tuple_of) (defBody st_is_tuple_of) (defScope st_is_tuple_of) .none kV2 dc2 pm2 an2 cd2 ct2), sl2⟩) (c2 : PySem.W.codeIn K cd2 "is_tuple_of" = true) (k2 : PySem.W.keepIn K (.ref f2) = true)
    (a3 : PySem.W.nsIn K mainGlobals "rising_rod" = some (some (.ref f3))) (l3 : K.lookup f3 = some ⟨oc3, od3, .func (PySem.W.fnOf "rising_rod" "rising_rod" (defArgs st_rising_rod) (defBody st_rising_rod) (defScope st_rising_rod) .none kV3 dc3 pm3 an3 cd3 ct3), sl3⟩) (c3 : PySem.W.codeIn K cd3 "rising_rod" = true) (k3 : PySem.W.keepIn K (.ref f3) = true)
    (a4 : PySem.W.nsIn K mainGlobals "is_from" = some (some (.ref f4))) (l4 : K.lookup f4 = some ⟨oc4, od4, .func (PySem.W.fnOf "is_from" "is_from" (defArgs st_is_from) (defBody st_is_from) (defScope st_is_from) .none kV4 dc4 pm4 an4 cd4 ct4), sl4⟩) (c4 : PySem.W.codeIn K cd4 "is_from" = true) (k4 : PySem.W.keepIn K (.ref f4) = true)
    (a5 : PySem.W.nsIn K mainGlobals "is_place" = some (some (.ref f5))) (l5 : K.lookup f5 = some ⟨oc5, od5, .func (PySem.W.fnOf "is_place" "is_place" (defArgs st_is_place) (defBody st_is_place) (defScope st_is_place) .none kV5 dc5 pm5 an5 cd5 ct5), sl5⟩) (c5 : PySem.W.codeIn K cd5 "is_place" = true) (k5 : PySem.W.keepIn K (.ref f5) = true)
    (a6 : PySem.W.nsIn K mainGlobals "is_aim" = some (some (.ref f6))) (l6 : K.lookup f6 = some ⟨oc6, od6, .func (PySem.W.fnOf "is_aim" "is_aim" (defArgs st_is_aim) (defBody st_is_aim) (defScope st_is_aim) .none kV6 dc6 pm6 an6 cd6 ct6), sl6⟩) (c6 : PySem.W.codeIn K cd6 "is_aim" = true) (k6 : PySem.W.keepIn K (.ref f6) = true)
    (a7 : PySem.W.nsIn K mainGlobals "fits_aim" = some (some (.ref f7))) (l7 : K.lookup f7 = some ⟨oc7, od7, .func (PySem.W.fnOf "fits_aim" "fits_aim" (defArgs st_fits_aim) (defBody st_fits_aim) (defScope st_fits_aim) .none kV7 dc7 pm7 an7 cd7 ct7), sl7⟩) (c7 : PySem.W.codeIn K cd7 "fits_aim" = true) (k7 : PySem.W.keepIn K (.ref f7) = true)
    (a8 : PySem.W.nsIn K mainGlobals "is_crowd" = some (some (.ref f8))) (l8 : K.lookup f8 = some ⟨oc8, od8, .func (PySem.W.fnOf "is_crowd" "is_crowd" (defArgs st_is_crowd) (defBody st_is_crowd) (defScope st_is_crowd) .none kV8 dc8 pm8 an8 cd8 ct8), sl8⟩) (c8 : PySem.W.codeIn K cd8 "is_crowd" = true) (k8 : PySem.W.keepIn K (.ref f8) = true)
    (a9 : PySem.W.nsIn K mainGlobals "_law_box" = some (some (.ref f9))) (l9 : K.lookup f9 = some ⟨oc9, od9, .func (PySem.W.fnOf "_law_box" "_law_box" (defArgs st_law_box) (defBody st_law_box) (defScope st_law_box) .none kV9 dc9 pm9 an9 cd9 ct9), sl9⟩) (c9 : PySem.W.codeIn K cd9 "_law_box" = true) (k9 : PySem.W.keepIn K (.ref f9) = true)
    (a10 : PySem.W.nsIn K mainGlobals "_law_take" = some (some (.ref f10))) (l10 : K.lookup f10 = some ⟨oc10, od10, .func (PySem.W.fnOf "_law_take" "_law_take" (defArgs st_law_take) (defBody st_law_take) (defScope st_law_take) .none kV10 dc10 pm10 an10 cd10 ct10), sl10⟩) (c10 : PySem.W.codeIn K cd10 "_law_take" = true) (k10 : PySem.W.keepIn K (.ref f10) = true)
    (a11 : PySem.W.nsIn K mainGlobals "_law_cells" = some (some (.ref f11))) (l11 : K.lookup f11 = some ⟨oc11, od11, .func (PySem.W.fnOf "_law_cells" "_law_cells" (defArgs st_law_cells) (defBody st_law_cells) (defScope st_law_cells) .none kV11 dc11 pm11 an11 cd11 ct11), sl11⟩) (c11 : PySem.W.codeIn K cd11 "_law_cells" = true) (k11 : PySem.W.keepIn K (.ref f11) = true)
    (a12 : PySem.W.nsIn K mainGlobals "_law_lists" = some (some (.ref f12))) (l12 : K.lookup f12 = some ⟨oc12, od12, .func (PySem.W.fnOf "_law_lists" "_law_lists" (defArgs st_law_lists) (defBody st_law_lists) (defScope st_law_lists) .none kV12 dc12 pm12 an12 cd12 ct12), sl12⟩) (c12 : PySem.W.codeIn K cd12 "_law_lists" = true) (k12 : PySem.W.keepIn K (.ref f12) = true)
    (a13 : PySem.W.nsIn K mainGlobals "_law_same" = some (some (.ref f13))) (l13 : K.lookup f13 = some ⟨oc13, od13, .func (PySem.W.fnOf "_law_same" "_law_same" (defArgs st_law_same) (defBody st_law_same) (defScope st_law_same) .none kV13 dc13 pm13 an13 cd13 ct13), sl13⟩) (c13 : PySem.W.codeIn K cd13 "_law_same" = true) (k13 : PySem.W.keepIn K (.ref f13) = true)
    (a14 : PySem.W.nsIn K mainGlobals "_law_pit" = some (some (.ref f14))) (l14 : K.lookup f14 = some ⟨oc14, od14, .func (PySem.W.fnOf "_law_pit" "_law_pit" (defArgs st_law_pit) (defBody st_law_pit) (defScope st_law_pit) .none kV14 dc14 pm14 an14 cd14 ct14), sl14⟩) (c14 : PySem.W.codeIn K cd14 "_law_pit" = true) (k14 : PySem.W.keepIn K (.ref f14) = true)
    (a15 : PySem.W.nsIn K mainGlobals "_law_crowd" = some (some (.ref f15))) (l15 : K.lookup f15 = some ⟨oc15, od15, .func (PySem.W.fnOf "_law_crowd" "_law_crowd" (defArgs st_law_crowd) (defBody st_law_crowd) (defScope st_law_crowd) .none kV15 dc15 pm15 an15 cd15 ct15), sl15⟩) (c15 : PySem.W.codeIn K cd15 "_law_crowd" = true) (k15 : PySem.W.keepIn K (.ref f15) = true)
    (a16 : PySem.W.nsIn K mainGlobals "_law_is_number" = some (some (.ref f16))) (l16 : K.lookup f16 = some ⟨oc16, od16, .func (PySem.W.fnOf "_law_is_number" "_law_is_number" (defArgs st_law_is_number) (defBody st_law_is_number) (defScope st_law_is_number) .none kV16 dc16 pm16 an16 cd16 ct16), sl16⟩) (c16 : PySem.W.codeIn K cd16 "_law_is_number" = true) (k16 : PySem.W.keepIn K (.ref f16) = true)
    (a17 : PySem.W.nsIn K mainGlobals "_law_fits_man" = some (some (.ref f17))) (l17 : K.lookup f17 = some ⟨oc17, od17, .func (PySem.W.fnOf "_law_fits_man" "_law_fits_man" (defArgs st_law_fits_man) (defBody st_law_fits_man) (defScope st_law_fits_man) .none kV17 dc17 pm17 an17 cd17 ct17), sl17⟩) (c17 : PySem.W.codeIn K cd17 "_law_fits_man" = true) (k17 : PySem.W.keepIn K (.ref f17) = true)
    (a18 : PySem.W.nsIn K mainGlobals "_law_fits" = some (some (.ref f18))) (l18 : K.lookup f18 = some ⟨oc18, od18, .func (PySem.W.fnOf "_law_fits" "_law_fits" (defArgs st_law_fits) (defBody st_law_fits) (defScope st_law_fits) .none kV18 dc18 pm18 an18 cd18 ct18), sl18⟩) (c18 : PySem.W.codeIn K cd18 "_law_fits" = true) (k18 : PySem.W.keepIn K (.ref f18) = true)
    (a19 : PySem.W.nsIn K mainGlobals "_law_right" = some (some (.ref f19))) (l19 : K.lookup f19 = some ⟨oc19, od19, .func (PySem.W.fnOf "_law_right" "_law_right" (defArgs st_law_right) (defBody st_law_right) (defScope st_law_right) .none kV19 dc19 pm19 an19 cd19 ct19), sl19⟩) (c19 : PySem.W.codeIn K cd19 "_law_right" = true) (k19 : PySem.W.keepIn K (.ref f19) = true)
    (a20 : PySem.W.nsIn K mainGlobals "_law_by_hand_right" = some (some (.ref f20))) (l20 : K.lookup f20 = some ⟨oc20, od20, .func (PySem.W.fnOf "_law_by_hand_right" "_law_by_hand_right" (defArgs st_law_by_hand_right) (defBody st_law_by_hand_right) (defScope st_law_by_hand_right) .none kV20 dc20 pm20 an20 cd20 ct20), sl20⟩) (c20 : PySem.W.codeIn K cd20 "_law_by_hand_right" = true) (k20 : PySem.W.keepIn K (.ref f20) = true)
    (a21 : PySem.W.nsIn K mainGlobals "law" = some (some (.ref f21))) (l21 : K.lookup f21 = some ⟨oc21, od21, .func (PySem.W.fnOf "law" "law" (defArgs st_law) (defBody st_law) (defScope st_law) .none kV21 dc21 pm21 an21 cd21 ct21), sl21⟩) (c21 : PySem.W.codeIn K cd21 "law" = true) (k21 : PySem.W.keepIn K (.ref f21) = true)
    (g1 : PySem.W.nsIn K mainGlobals "GRASS" = some (some (.ref ag))) (g2 : K.lookup ag = some ⟨.type "tuple", Option.none, .seq #[.str "grass" tg] ng, sg⟩)
    (o1 : PySem.W.nsIn K mainGlobals "LOST" = some (some (.ref ao))) (o2 : K.lookup ao = some ⟨.type "tuple", Option.none, .seq #[.str "lost" to] no, so⟩)
    (r1 : PySem.W.nsIn K mainGlobals "ROD" = some (some (.str "rod" tr))) (s1 : PySem.W.nsIn K mainGlobals "ASIDE" = some (some (.str "aside" ta)))
    (z_isinstance : PySem.W.nsIn K mainGlobals "isinstance" = some none)
    (z_len : PySem.W.nsIn K mainGlobals "len" = some none)
    (z_all : PySem.W.nsIn K mainGlobals "all" = some none)
    (z_abs : PySem.W.nsIn K mainGlobals "abs" = some none)
    (z_max : PySem.W.nsIn K mainGlobals "max" = some none)
    (z_int : PySem.W.nsIn K mainGlobals "int" = some none)
    (z_bool : PySem.W.nsIn K mainGlobals "bool" = some none)
    (z_tuple : PySem.W.nsIn K mainGlobals "tuple" = some none)
    (z_list : PySem.W.nsIn K mainGlobals "list" = some none)
    (z_str : PySem.W.nsIn K mainGlobals "str" = some none)
    (z_set : PySem.W.nsIn K mainGlobals "set" = some none)
    (z_zip : PySem.W.nsIn K mainGlobals "zip" = some none)
    (z_range : PySem.W.nsIn K mainGlobals "range" = some none)
    (z_enumerate : PySem.W.nsIn K mainGlobals "enumerate" = some none) :
    ∃ fd : FuncData, (∀ (s : Shared) (v : Value), BindsTo s fd ⟨[v], []⟩ [("_law_script", v)]) ∧ ∀ base : Heap, K.In base → base.Ns mainGlobals mg → FnOk l.prog w K mg base CX0 7 fa fd ["_law_script"] (spLaw K) := by
  have e := hfa.symm.trans (PySem.W.mg_of X G a21)
  cases e
  have T : Txt K mg := {
    aside := ⟨.str "aside", _, PySem.W.mg_of X G s1, ⟨ta, rfl⟩, fun _ _ => rfl⟩
    grass := kTup (PySem.W.mg_of X G g1) g2
    lost := kTup (PySem.W.mg_of X G o1) o2
    rod := ⟨.str "rod", _, PySem.W.mg_of X G r1, ⟨tr, rfl⟩, fun _ _ => rfl⟩
    nIsi := PySem.W.mg_none_of X G z_isinstance
    nLen := PySem.W.mg_none_of X G z_len
    nAll := PySem.W.mg_none_of X G z_all
    nAbs := PySem.W.mg_none_of X G z_abs
    nMax := PySem.W.mg_none_of X G z_max
    tInt := PySem.W.mg_none_of X G z_int
    tBool := PySem.W.mg_none_of X G z_bool
    tTuple := PySem.W.mg_none_of X G z_tuple
    tList := PySem.W.mg_none_of X G z_list
    tStr := PySem.W.mg_none_of X G z_str
    tSet := PySem.W.mg_none_of X G z_set
    tZip := PySem.W.mg_none_of X G z_zip
    tRange := PySem.W.mg_none_of X G z_range
    tEnum := PySem.W.mg_none_of X G z_enumerate
  }
  have F1 := fun_mk (st := st_is_number) l1 c1 k1
  have b1 := F1.binds (ps := ["thing"]) fun _ _ _ _ _ _ us hl => match us, hl with | [_], _ => rfl
  have F2 := fun_mk (st := st_is_tuple_of) l2 c2 k2
  have b2 := F2.binds (ps := ["thing", "many"]) fun _ _ _ _ _ _ us hl => match us, hl with | [_, _], _ => rfl
  have F3 := fun_mk (st := st_rising_rod) l3 c3 k3
  have b3 := F3.binds (ps := ["made"]) fun _ _ _ _ _ _ us hl => match us, hl with | [_], _ => rfl
  have F4 := fun_mk (st := st_is_from) l4 c4 k4
  have b4 := F4.binds (ps := ["thing", "least", "most"]) fun _ _ _ _ _ _ us hl => match us, hl with | [_, _, _], _ => rfl
  have F5 := fun_mk (st := st_is_place) l5 c5 k5
  have b5 := F5.binds (ps := ["thing", "shaft", "made"]) fun _ _ _ _ _ _ us hl => match us, hl with | [_, _, _], _ => rfl
  have F6 := fun_mk (st := st_is_aim) l6 c6 k6
  have b6 := F6.binds (ps := ["thing", "shaft"]) fun _ _ _ _ _ _ us hl => match us, hl with | [_, _], _ => rfl
  have F7 := fun_mk (st := st_fits_aim) l7 c7 k7
  have b7 := F7.binds (ps := ["place", "aim"]) fun _ _ _ _ _ _ us hl => match us, hl with | [_, _], _ => rfl
  have F8 := fun_mk (st := st_is_crowd) l8 c8 k8
  have b8 := F8.binds (ps := ["thing", "shaft", "made"]) fun _ _ _ _ _ _ us hl => match us, hl with | [_, _, _], _ => rfl
  have F9 := fun_mk (st := st_law_box) l9 c9 k9
  have b9 := F9.binds (ps := ["_law_script", "_law_k"]) fun _ _ _ _ _ _ us hl => match us, hl with | [_, _], _ => rfl
  have F10 := fun_mk (st := st_law_take) l10 c10 k10
  have b10 := F10.binds (ps := ["_law_urn", "_law_low_so"]) fun _ _ _ _ _ _ us hl => match us, hl with | [_, _], _ => rfl
  have F11 := fun_mk (st := st_law_cells) l11 c11 k11
  have b11 := F11.binds (ps := ["_law_script", "_law_top"]) fun _ _ _ _ _ _ us hl => match us, hl with | [_, _], _ => rfl
  have F12 := fun_mk (st := st_law_lists) l12 c12 k12
  have b12 := F12.binds (ps := ["_law_matter"]) fun _ _ _ _ _ _ us hl => match us, hl with | [_], _ => rfl
  have F13 := fun_mk (st := st_law_same) l13 c13 k13
  have b13 := F13.binds (ps := ["_law_got", "_law_goal"]) fun _ _ _ _ _ _ us hl => match us, hl with | [_, _], _ => rfl
  have F14 := fun_mk (st := st_law_pit) l14 c14 k14
  have b14 := F14.binds (ps := ["_law_urn", "_law_least", "_law_most"]) fun _ _ _ _ _ _ us hl => match us, hl with | [_, _, _], _ => rfl
  have F15 := fun_mk (st := st_law_crowd) l15 c15 k15
  have b15 := F15.binds (ps := ["_law_urn", "_law_pit_here", "_law_made", "_law_many"]) fun _ _ _ _ _ _ us hl => match us, hl with | [_, _, _, _], _ => rfl
  have F16 := fun_mk (st := st_law_is_number) l16 c16 k16
  have b16 := F16.binds (ps := ["_law_own"]) fun _ _ _ _ _ _ us hl => match us, hl with | [_], _ => rfl
  have F17 := fun_mk (st := st_law_fits_man) l17 c17 k17
  have b17 := F17.binds (ps := ["_law_spot", "_law_aim", "_law_pit_here", "_law_made"]) fun _ _ _ _ _ _ us hl => match us, hl with | [_, _, _, _], _ => rfl
  have F18 := fun_mk (st := st_law_fits) l18 c18 k18
  have b18 := F18.binds (ps := ["_law_thing", "_law_pit_here", "_law_made"]) fun _ _ _ _ _ _ us hl => match us, hl with | [_, _, _], _ => rfl
  have F19 := fun_mk (st := st_law_right) l19 c19 k19
  have b19 := F19.binds (ps := ["_law_urn"]) fun _ _ _ _ _ _ us hl => match us, hl with | [_], _ => rfl
  have F20 := fun_mk (st := st_law_by_hand_right) l20 c20 k20
  have b20 := F20.binds (ps := []) fun _ _ _ _ _ _ us hl => match us, hl with | [], _ => rfl
  have F21 := fun_mk (st := st_law) l21 c21 k21
  refine ⟨PySem.W.fnOf "law" "law" (defArgs st_law) (defBody st_law) (defScope st_law) .none kV21 dc21 pm21 an21 cd21 ct21, fun s v => .of_eq rfl, fun base _ _ => ?_⟩
  have D_is_number : DefOk l.prog w K mg base "is_number" 1 (spD K 1 p_is_number) := ⟨⟨f1, _, _, (ok_is_number F1 T  hG_is_number), PySem.W.mg_of X G a1, k1, b1⟩⟩
  have D_is_tuple_of : DefOk l.prog w K mg base "is_tuple_of" 1 (spD K 2 p_is_tuple_of) := ⟨⟨f2, _, _, (ok_is_tuple_of F2 T  hG_is_tuple_of), PySem.W.mg_of X G a2, k2, b2⟩⟩
  have D_rising_rod : DefOk l.prog w K mg base "rising_rod" 1 (spD K 1 p_rising_rod) := ⟨⟨f3, _, _, (ok_rising_rod F3 T  hG_rising_rod), PySem.W.mg_of X G a3, k3, b3⟩⟩
  have D_is_from : DefOk l.prog w K mg base "is_from" 2 (spD K 3 p_is_from) := ⟨⟨f4, _, _, (ok_is_from F4 T D_is_number hG_is_from), PySem.W.mg_of X G a4, k4, b4⟩⟩
  have D_is_place : DefOk l.prog w K mg base "is_place" 3 (spD K 3 p_is_place) := ⟨⟨f5, _, _, (ok_is_place F5 T D_is_tuple_of D_is_from D_rising_rod hG_is_place), PySem.W.mg_of X G a5, k5, b5⟩⟩
  have D_is_aim : DefOk l.prog w K mg base "is_aim" 3 (spD K 2 p_is_aim) := ⟨⟨f6, _, _, (ok_is_aim F6 T D_is_tuple_of D_is_from hG_is_aim), PySem.W.mg_of X G a6, k6, b6⟩⟩
  have D_fits_aim : DefOk l.prog w K mg base "fits_aim" 1 (spD K 2 p_fits_aim) := ⟨⟨f7, _, _, (ok_fits_aim F7 T  hG_fits_aim), PySem.W.mg_of X G a7, k7, b7⟩⟩
  have D_is_crowd : DefOk l.prog w K mg base "is_crowd" 4 (spD K 3 p_is_crowd) := ⟨⟨f8, _, _, (ok_is_crowd F8 T D_is_tuple_of D_is_place D_is_aim D_fits_aim hG_is_crowd), PySem.W.mg_of X G a8, k8, b8⟩⟩
  have D_law_is_number : DefOk l.prog w K mg base "_law_is_number" 1 (spD K 1 p_law_is_number) := ⟨⟨f16, _, _, (ok_law_is_number F16 T  hG_law_is_number), PySem.W.mg_of X G a16, k16, b16⟩⟩
  have D_law_fits_man : DefOk l.prog w K mg base "_law_fits_man" 2 (spD K 4 p_law_fits_man) := ⟨⟨f17, _, _, (ok_law_fits_man F17 T D_law_is_number hG_law_fits_man), PySem.W.mg_of X G a17, k17, b17⟩⟩
  have D_law_fits : DefOk l.prog w K mg base "_law_fits" 3 (spD K 3 p_law_fits) := ⟨⟨f18, _, _, (ok_law_fits F18 T D_law_fits_man hG_law_fits), PySem.W.mg_of X G a18, k18, b18⟩⟩
  have D_law_box : DefOk l.prog w K mg base "_law_box" 1 (spD K 2 p_law_box) := ⟨⟨f9, _, _, (ok_law_box F9 T  hG_law_box), PySem.W.mg_of X G a9, k9, b9⟩⟩
  have L1 : DefOk l.prog w K mg base "_law_lists" 1 (spD K 1 fun _ => Option.none) := ⟨⟨f12, _, _, (def_none F12 sc_law_lists), PySem.W.mg_of X G a12, k12, b12⟩⟩
  have L2 : DefOk l.prog w K mg base "_law_lists" 2 (spD K 1 (p_law_lists 0)) := ⟨⟨f12, _, _, (ok_law_lists F12 T L1 hG_law_lists0), PySem.W.mg_of X G a12, k12, b12⟩⟩
  have L3 : DefOk l.prog w K mg base "_law_lists" 3 (spD K 1 (p_law_lists 1)) := ⟨⟨f12, _, _, (ok_law_lists F12 T L2 (hG_law_lists 0)), PySem.W.mg_of X G a12, k12, b12⟩⟩
  have L4 : DefOk l.prog w K mg base "_law_lists" 4 (spD K 1 (p_law_lists 2)) := ⟨⟨f12, _, _, (ok_law_lists F12 T L3 (hG_law_lists 1)), PySem.W.mg_of X G a12, k12, b12⟩⟩
  have D_law_lists : DefOk l.prog w K mg base "_law_lists" 5 (spD K 1 (p_law_lists 3)) := ⟨⟨f12, _, _, (ok_law_lists F12 T L4 (hG_law_lists 2)), PySem.W.mg_of X G a12, k12, b12⟩⟩
  have S1 : DefOk l.prog w K mg base "_law_same" 1 (spD K 2 fun _ => Option.none) := ⟨⟨f13, _, _, (def_none F13 sc_law_same), PySem.W.mg_of X G a13, k13, b13⟩⟩
  have S2 : DefOk l.prog w K mg base "_law_same" 2 (spD K 2 (p_law_same 0)) := ⟨⟨f13, _, _, (ok_law_same F13 T S1 hG_law_same0), PySem.W.mg_of X G a13, k13, b13⟩⟩
  have S3 : DefOk l.prog w K mg base "_law_same" 3 (spD K 2 (p_law_same 1)) := ⟨⟨f13, _, _, (ok_law_same F13 T S2 (hG_law_same 0)), PySem.W.mg_of X G a13, k13, b13⟩⟩
  have D_law_same : DefOk l.prog w K mg base "_law_same" 4 (spD K 2 (p_law_same 2)) := ⟨⟨f13, _, _, (ok_law_same F13 T S3 (hG_law_same 1)), PySem.W.mg_of X G a13, k13, b13⟩⟩
  have D_law_by_hand_right : DefOk l.prog w K mg base "_law_by_hand_right" 5 (spD K 0 p_law_by_hand_right) := ⟨⟨f20, _, _, (ok_law_by_hand_right F20 T D_law_same D_is_crowd hG_law_by_hand_right), PySem.W.mg_of X G a20, k20, b20⟩⟩
  have D_take : DefOk l.prog w K mg base "_law_take" 1 spTake := ⟨⟨f10, _, _, (ok_law_take F10 T), PySem.W.mg_of X G a10, k10, b10⟩⟩
  have D_cells : DefOk l.prog w K mg base "_law_cells" 1 (spCells K) := ⟨⟨f11, _, _, (ok_law_cells F11 T), PySem.W.mg_of X G a11, k11, b11⟩⟩
  have D_pit : DefOk l.prog w K mg base "_law_pit" 2 (spPit K) := ⟨⟨f14, _, _, (ok_law_pit F14 T D_take), PySem.W.mg_of X G a14, k14, b14⟩⟩
  have D_crowd : DefOk l.prog w K mg base "_law_crowd" 2 (spCrowd K) := ⟨⟨f15, _, _, (ok_law_crowd F15 T D_take), PySem.W.mg_of X G a15, k15, b15⟩⟩
  have D_right : DefOk l.prog w K mg base "_law_right" 6 (spRight K) := ⟨⟨f19, _, _, (ok_law_right F19 T D_take D_pit D_crowd D_is_crowd D_law_fits D_law_same D_law_lists fun _ _ _ _ _ _ _ h => right_is h), PySem.W.mg_of X G a19, k19, b19⟩⟩
  exact ok_law F21 D_law_by_hand_right D_right D_law_box D_cells
theorem walk {l : PySem.W.OpenLaw} {q : Program} {loose : List Str} {XP : (Str → Option Value) → Heap → Prop} {YP : World → Heap → Prop} {d : DefRec} {K : Params → PySem.W.Frag} (hn : l.most = some 63) (hdf : d.params.defaults = [])
    (hY : ∀ (w : World) (h : Heap), YP w h → (K w.params).In h)
    (F : ∀ (w : World) (mg : Str → Option Value) (fa : Addr) (h : Heap), (K w.params).In h → h.Ns mainGlobals mg → mg d.name = some (.ref fa) →
      ∃ fd : FuncData, (∀ (s : Shared) (u : Value), BindsTo s fd ⟨[u], []⟩ [("_law_script", u)]) ∧ ∀ base : Heap, (K w.params).In base → base.Ns mainGlobals mg → FnOk l.prog w (K w.params) mg base CX0 7 fa fd ["_law_script"] (spLaw (K w.params))) :
    PySem.W.WalkO q loose XP YP l.row.toRowW d [] (fun f vs => PySem.call f vs) :=
  L2.walk_of (n := 63) (k := 7) (x := "_law_script") (CX := fun _ => CX0) (sp := fun w => spLaw (K w.params)) hn (by decide) hdf ⟨rfl, by decide, by decide⟩ hY F (fun _ _ a ns hl _ hS => ⟨a, ns, rfl, hS, hl, fun _ => rfl⟩) fun _ _ _ _ _ z => z
end Cr

open PySem PySem.W PyProof.Rows in
set_option maxRecDepth 100000 in
set_option maxHeartbeats 0 in
theorem PySem.Challenge.cw_manrods_k27_whole_things_that_are_crowds_holds : PySem.Challenge.rw_manrods_k27_whole_things_that_are_crowds.Holds := by
  w_on; o_law; k_head; (case hw => w_witness2)
  k_fill
  refine Cr.walk (l := PySem.Challenge.rw_manrods_k27_whole_things_that_are_crowds) rfl rfl (fun w h Y => PySem.W.kIn_of Y) ?F
  case F =>
    intro w mg fa h KX G hmg
    refine' Cr.all_mk KX G hmg ?a1 ?l1 ?c1 ?k1 ?a2 ?l2 ?c2 ?k2 ?a3 ?l3 ?c3 ?k3 ?a4 ?l4 ?c4 ?k4 ?a5 ?l5 ?c5 ?k5 ?a6 ?l6 ?c6 ?k6 ?a7 ?l7 ?c7 ?k7 ?a8 ?l8 ?c8 ?k8 ?a9 ?l9 ?c9 ?k9 ?a10 ?l10 ?c10 ?k10 ?a11 ?l11 ?c11 ?k11 ?a12 ?l12 ?c12 ?k12 ?a13 ?l13 ?c13 ?k13 ?a14 ?l14 ?c14 ?k14 ?a15 ?l15 ?c15 ?k15 ?a16 ?l16 ?c16 ?k16 ?a17 ?l17 ?c17 ?k17 ?a18 ?l18 ?c18 ?k18 ?a19 ?l19 ?c19 ?k19 ?a20 ?l20 ?c20 ?k20 ?a21 ?l21 ?c21 ?k21 ?g1 ?g2 ?o1 ?o2 ?r1 ?s1 ?z_isinstance ?z_len ?z_all ?z_abs ?z_max ?z_int ?z_bool ?z_tuple ?z_list ?z_str ?z_set ?z_zip ?z_range ?z_enumerate
    (case a1 => k_is)
    (case l1 => k_is)
    (case c1 => k_is)
    (case k1 => k_is)
    (case a2 => k_is)
    (case l2 => k_is)
    (case c2 => k_is)
    (case k2 => k_is)
    (case a3 => k_is)
    (case l3 => k_is)
    (case c3 => k_is)
    (case k3 => k_is)
    (case a4 => k_is)
    (case l4 => k_is)
    (case c4 => k_is)
    (case k4 => k_is)
    (case a5 => k_is)
    (case l5 => k_is)
    (case c5 => k_is)
    (case k5 => k_is)
    (case a6 => k_is)
    (case l6 => k_is)
    (case c6 => k_is)
    (case k6 => k_is)
    (case a7 => k_is)
    (case l7 => k_is)
    (case c7 => k_is)
    (case k7 => k_is)
    (case a8 => k_is)
    (case l8 => k_is)
    (case c8 => k_is)
    (case k8 => k_is)
    (case a9 => k_is)
    (case l9 => k_is)
    (case c9 => k_is)
    (case k9 => k_is)
    (case a10 => k_is)
    (case l10 => k_is)
    (case c10 => k_is)
    (case k10 => k_is)
    (case a11 => k_is)
    (case l11 => k_is)
    (case c11 => k_is)
    (case k11 => k_is)
    (case a12 => k_is)
    (case l12 => k_is)
    (case c12 => k_is)
    (case k12 => k_is)
    (case a13 => k_is)
    (case l13 => k_is)
    (case c13 => k_is)
    (case k13 => k_is)
    (case a14 => k_is)
    (case l14 => k_is)
    (case c14 => k_is)
    (case k14 => k_is)
    (case a15 => k_is)
    (case l15 => k_is)
    (case c15 => k_is)
    (case k15 => k_is)
    (case a16 => k_is)
    (case l16 => k_is)
    (case c16 => k_is)
    (case k16 => k_is)
    (case a17 => k_is)
    (case l17 => k_is)
    (case c17 => k_is)
    (case k17 => k_is)
    (case a18 => k_is)
    (case l18 => k_is)
    (case c18 => k_is)
    (case k18 => k_is)
    (case a19 => k_is)
    (case l19 => k_is)
    (case c19 => k_is)
    (case k19 => k_is)
    (case a20 => k_is)
    (case l20 => k_is)
    (case c20 => k_is)
    (case k20 => k_is)
    (case a21 => k_is)
    (case l21 => k_is)
    (case c21 => k_is)
    (case k21 => k_is)
    (case g1 => k_is)
    (case g2 => k_is)
    (case o1 => k_is)
    (case o2 => k_is)
    (case r1 => k_is)
    (case s1 => k_is)
    (case z_isinstance => k_is)
    (case z_len => k_is)
    (case z_all => k_is)
    (case z_abs => k_is)
    (case z_max => k_is)
    (case z_int => k_is)
    (case z_bool => k_is)
    (case z_tuple => k_is)
    (case z_list => k_is)
    (case z_str => k_is)
    (case z_set => k_is)
    (case z_zip => k_is)
    (case z_range => k_is)
    (case z_enumerate => k_is)
