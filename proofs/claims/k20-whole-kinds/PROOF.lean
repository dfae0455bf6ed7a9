import PyProof.Rows.All
import Wide.All
import OpenK.AllK
import Wide.FinOn
import HandS.ForMost
import HandS.Deep
import HandS.IsInst
import HandS.Walk
import HandS.TupAny
import HandS.Star
import HandS.Defaults
import HandS.ExcField
import HandS.HeadHook3
import HandS.HeadEnd
import HandS.Head2
import KE.KSuper
import KE.KExcSuper
import PyProof.DictUpdate
import KE.KDictPairs
import KE.GoesMore
import HandS.More
import HandS.ExcInit
import HandS.Exc
import HandS.ExcOwn
import PyProof.ReprRoads
import PyProof.ReprLen
import PySem.Challenge.RW_bykindalone_k20_whole_kinds_and_first_wr
set_option Elab.async false
set_option linter.all false
set_option maxRecDepth 100000
set_option maxHeartbeats 0
/-! K1: data beside the heap: values told as PyData, worlds, judgements without heaps. -/
namespace Kq
open PySem PySem.Spec PyProof.Rows L2

/-! ### heaps -/
/-- all but what stands in u is kept -/
def Mv (u : List Addr) (H H' : Hp) : Prop := ∀ a o, a ∉ u → H a = some o → H' a = some o
theorem Mv.refl {u : List Addr} {H : Hp} : Mv u H H := fun _ _ _ h => h
theorem Mv.trans {u : List Addr} {H H1 H2 : Hp} (a : Mv u H H1) (b : Mv u H1 H2) : Mv u H H2 := fun c o h q => b c o h (a c o h q)
theorem Mv.new {u : List Addr} {H : Hp} {p : Addr} {o : HO} (h : H p = none) : Mv u H (upd H p o) := fun a _ _ e => by
  rw [upd_ne (ne_of_none e h)]
  exact e
theorem Mv.in_ {u : List Addr} {H : Hp} {p : Addr} {o : HO} (h : p ∈ u) : Mv u H (upd H p o) := fun a _ n e => by
  rw [upd_ne (fun z => by subst z; exact n h)]
  exact e
theorem Mv.fresh {u : List Addr} {H H' : Hp} {p : Addr} (m : Mv u H H') (n : p ∉ u) (h : H' p = none) : H p = none := by
  cases q : H p with
  | none => rfl
  | some o =>
    rw [m p o n q] at h
    cases h
theorem same_new {H : Hp} {p : Addr} (h : H p = none) (o : HO) : Same H (upd H p o) := fun b u q => by
  rw [upd_ne (ne_of_none q h)]
  exact q
theorem Same.mv {u : List Addr} {H H' : Hp} (e : Same H H') : Mv u H H' := fun a o _ h => e a o h

mutual
/-- the value v is the datum d; its lists stand outside of u -/
inductive Dv (K : PySem.W.Frag) (u : List Addr) (H : Hp) : V → PyData → Prop
  | non : Dv K u H .non .none
  | bl (b : Bool) : Dv K u H (.bl b) (.bool b)
  | int (i : Int) : Dv K u H (.int i) (.int i)
  | str (x : Str) : Dv K u H (.str x) (.str x)
  | lst {a : Addr} {xs : List V} {ds : List PyData} : a ∉ u → H a = some (.lst xs) → DvA K u H xs ds → Dv K u H (.ref a) (.list ds)
  | tup {a : Addr} {xs : List V} {ds : List PyData} : SqT K H a xs → DvA K u H xs ds → Dv K u H (.ref a) (.tuple ds)
inductive DvA (K : PySem.W.Frag) (u : List Addr) (H : Hp) : List V → List PyData → Prop
  | nil : DvA K u H [] []
  | cons {v : V} {vs : List V} {d : PyData} {ds : List PyData} : Dv K u H v d → DvA K u H vs ds → DvA K u H (v :: vs) (d :: ds)
end

section
variable {K : PySem.W.Frag} {u : List Addr} {H H' : Hp}
theorem Dv.dp {v : V} {d : PyData} (h : Dv K u H v d) : Dp K H v d :=
  Dv.rec (motive_1 := fun v d _ => Dp K H v d) (motive_2 := fun vs ds _ => DpAll K H vs ds)
    .non (fun b => .bl b) (fun i => .int i) (fun x => .str x) (fun _ e _ ih => .lst (SqL.of e) ih) (fun e _ ih => .tup e ih) .nil (fun _ _ a b => .cons a b) h
theorem DvA.dp {vs : List V} {ds : List PyData} (h : DvA K u H vs ds) : DpAll K H vs ds :=
  DvA.rec (motive_1 := fun v d _ => Dp K H v d) (motive_2 := fun vs ds _ => DpAll K H vs ds)
    .non (fun b => .bl b) (fun i => .int i) (fun x => .str x) (fun _ e _ ih => .lst (SqL.of e) ih) (fun e _ ih => .tup e ih) .nil (fun _ _ a b => .cons a b) h
theorem sqt_mv {a : Addr} {xs : List V} (m : Mv u H H') (mu : ∀ b ∈ u, Mut (H b)) (h : SqT K H a xs) : SqT K H' a xs := by
  rcases h with (h | ⟨o, h⟩) | h
  · exact .inl (.inl (m a _ (fun z => by have := mu a z; rw [h] at this; exact this) h))
  · exact .inl (.inr ⟨o, m a _ (fun z => by have := mu a z; rw [h] at this; exact this) h⟩)
  · exact .inr h
theorem Dv.mv {v : V} {d : PyData} (m : Mv u H H') (mu : ∀ b ∈ u, Mut (H b)) (h : Dv K u H v d) : Dv K u H' v d :=
  Dv.rec (motive_1 := fun v d _ => Dv K u H' v d) (motive_2 := fun vs ds _ => DvA K u H' vs ds)
    .non (fun b => .bl b) (fun i => .int i) (fun x => .str x) (fun n e _ ih => .lst n (m _ _ n e) ih) (fun e _ ih => .tup (sqt_mv m mu e) ih) .nil (fun _ _ a b => .cons a b) h
theorem DvA.mv {vs : List V} {ds : List PyData} (m : Mv u H H') (mu : ∀ b ∈ u, Mut (H b)) (h : DvA K u H vs ds) : DvA K u H' vs ds :=
  DvA.rec (motive_1 := fun v d _ => Dv K u H' v d) (motive_2 := fun vs ds _ => DvA K u H' vs ds)
    .non (fun b => .bl b) (fun i => .int i) (fun x => .str x) (fun n e _ ih => .lst n (m _ _ n e) ih) (fun e _ ih => .tup (sqt_mv m mu e) ih) .nil (fun _ _ a b => .cons a b) h
/-- another u: the lists that stand in the data are outside of the new one, too -/
theorem Dv.out {u' : List Addr} {v : V} {d : PyData} (hn : ∀ a xs, a ∉ u → H a = some (.lst xs) → a ∉ u') (h : Dv K u H v d) : Dv K u' H v d :=
  Dv.rec (motive_1 := fun v d _ => Dv K u' H v d) (motive_2 := fun vs ds _ => DvA K u' H vs ds)
    .non (fun b => .bl b) (fun i => .int i) (fun x => .str x) (fun n e _ ih => .lst (hn _ _ n e) e ih) (fun e _ ih => .tup e ih) .nil (fun _ _ a b => .cons a b) h
theorem DvA.length : ∀ {vs : List V} {ds : List PyData}, DvA K u H vs ds → vs.length = ds.length
  | _, _, .nil => rfl
  | _, _, .cons _ t => congrArg (· + 1) t.length
theorem DvA.get : ∀ {vs : List V} {ds : List PyData} {i : Nat} {d : PyData}, DvA K u H vs ds → ds[i]? = some d → ∃ v, vs[i]? = some v ∧ Dv K u H v d
  | _, _, _, _, .nil, e => by simp at e
  | _, _, 0, _, .cons h _, e => by simp at e; subst e; exact ⟨_, rfl, h⟩
  | _, _, i + 1, d, .cons _ t, e => by
    obtain ⟨v, h1, h2⟩ := t.get (i := i) (d := d) (by simpa using e)
    exact ⟨v, by simpa using h1, h2⟩
theorem DvA.get' : ∀ {vs : List V} {ds : List PyData} {i : Nat} {v : V}, DvA K u H vs ds → vs[i]? = some v → ∃ d, ds[i]? = some d ∧ Dv K u H v d
  | _, _, _, _, .nil, e => by simp at e
  | _, _, 0, _, .cons h _, e => by simp at e; subst e; exact ⟨_, rfl, h⟩
  | _, _, i + 1, v, .cons _ t, e => by
    obtain ⟨d, h1, h2⟩ := t.get' (i := i) (v := v) (by simpa using e)
    exact ⟨d, by simpa using h1, h2⟩
theorem DvA.append : ∀ {vs ws : List V} {ds es : List PyData}, DvA K u H vs ds → DvA K u H ws es → DvA K u H (vs ++ ws) (ds ++ es)
  | _, _, _, _, .nil, s => s
  | _, _, _, _, .cons h t, s => .cons h (t.append s)
theorem DvA.drop : ∀ {vs : List V} {ds : List PyData} (n : Nat), DvA K u H vs ds → DvA K u H (vs.drop n) (ds.drop n)
  | _, _, 0, h => h
  | _, _, _ + 1, .nil => .nil
  | _, _, n + 1, .cons _ t => t.drop n
theorem DvA.take : ∀ {vs : List V} {ds : List PyData} (n : Nat), DvA K u H vs ds → DvA K u H (vs.take n) (ds.take n)
  | _, _, 0, _ => .nil
  | _, _, _ + 1, .nil => .nil
  | _, _, n + 1, .cons h t => .cons h (t.take n)
theorem DvA.ints : ∀ {vs : List V} {ns : List Int}, DvA K u H vs (ns.map .int) → vs = ns.map .int
  | _, [], .nil => rfl
  | _, n :: ns, .cons (.int _) t => congrArg _ t.ints
theorem DvA.bls : ∀ {vs : List V} {ns : List Bool}, DvA K u H vs (ns.map .bool) → vs = ns.map .bl
  | _, [], .nil => rfl
  | _, n :: ns, .cons (.bl _) t => congrArg _ t.bls
end

/-! ### slots: data, or objects that change -/
/-- any other value, told by a relation that stays while all outside of u is kept -/
structure Sx where
  R : PySem.W.Frag → List Addr → Hp → V → Prop
  mv : ∀ (K : PySem.W.Frag) (u : List Addr) (H H' : Hp) (v : V), Mv u H H' → (∀ b ∈ u, Mut (H b)) → R K u H v → R K u H' v
inductive Sv where
  | d (x : PyData)
  | o (a : Addr)
  | c (m : List (Str × PyData))
  | x (r : Sx)
/-- a dict's entries: texts, data -/
inductive CtA (K : PySem.W.Frag) (u : List Addr) (H : Hp) : List (Key × V) → List (Str × PyData) → Prop
  | nil : CtA K u H [] []
  | cons {x : Str} {v : V} {d : PyData} {kvs : List (Key × V)} {m : List (Str × PyData)} : Dv K u H v d → CtA K u H kvs m → CtA K u H ((Sum.inr x, v) :: kvs) ((x, d) :: m)
def SvOk (K : PySem.W.Frag) (u : List Addr) (H : Hp) (v : V) : Sv → Prop
  | .d x => Dv K u H v x
  | .o a => v = .ref a
  | .c m => ∃ a kvs, v = .ref a ∧ a ∉ u ∧ H a = some (.dK kvs) ∧ CtA K u H kvs m
  | .x r => r.R K u H v
theorem CtA.mv {K : PySem.W.Frag} {u : List Addr} {H H' : Hp} (m : Mv u H H') (mu : ∀ b ∈ u, Mut (H b)) {kvs : List (Key × V)} {c : List (Str × PyData)} (h : CtA K u H kvs c) : CtA K u H' kvs c := by
  induction h with
  | nil => exact .nil
  | cons h _ ih => exact .cons (h.mv m mu) ih
theorem Dv.sv {K : PySem.W.Frag} {u : List Addr} {H : Hp} {v : V} {d : PyData} (h : Dv K u H v d) : SvOk K u H v (.d d) := h
inductive SvA (K : PySem.W.Frag) (u : List Addr) (H : Hp) : List V → List Sv → Prop
  | nil : SvA K u H [] []
  | cons {v : V} {vs : List V} {x : Sv} {xs : List Sv} : SvOk K u H v x → SvA K u H vs xs → SvA K u H (v :: vs) (x :: xs)
def undD : Sv → Option PyData
  | .d x => some x
  | _ => none
def unAll : List Sv → Option (List PyData)
  | [] => some []
  | .d x :: r => (unAll r).map (x :: ·)
  | _ :: _ => none
section
variable {K : PySem.W.Frag} {u : List Addr} {H H' : Hp}
theorem SvOk.mv {v : V} {x : Sv} (m : Mv u H H') (mu : ∀ b ∈ u, Mut (H b)) (h : SvOk K u H v x) : SvOk K u H' v x := by
  cases x with
  | d x => exact Dv.mv m mu h
  | o a => exact h
  | c x =>
    obtain ⟨a, kvs, e, n, ha, hc⟩ := h
    exact ⟨a, kvs, e, n, m _ _ n ha, hc.mv m mu⟩
  | x r => exact r.mv _ _ _ _ _ m mu h
theorem SvA.mv {vs : List V} {xs : List Sv} (m : Mv u H H') (mu : ∀ b ∈ u, Mut (H b)) (h : SvA K u H vs xs) : SvA K u H' vs xs := by
  induction h with
  | nil => exact .nil
  | cons h _ ih => exact .cons (h.mv m mu) ih
theorem SvA.length {vs : List V} {xs : List Sv} (h : SvA K u H vs xs) : vs.length = xs.length := by
  induction h with
  | nil => rfl
  | cons _ _ ih => rw [List.length_cons, List.length_cons, ih]
theorem unAll_map : ∀ ds : List PyData, unAll (ds.map .d) = some ds
  | [] => rfl
  | d :: ds => by
    show (unAll (ds.map .d)).map (d :: ·) = _
    rw [unAll_map ds]
    rfl
theorem SvA.data : ∀ {vs : List V} {xs : List Sv} {ds : List PyData}, SvA K u H vs xs → unAll xs = some ds → DvA K u H vs ds
  | _, _, _, .nil, e => by
    cases e
    exact .nil
  | _, _, ds, .cons (x := x) (xs := xs) h t, e => by
    cases x with
    | o a => cases e
    | c a => cases e
    | x a => cases e
    | d y =>
      have e' : (unAll xs).map (y :: ·) = some ds := e
      cases q : unAll xs with
      | none =>
        rw [q] at e'
        cases e'
      | some r =>
        rw [q] at e'
        have e2 : y :: r = ds := Option.some.inj e'
        rw [← e2]
        exact .cons h (t.data q)
theorem SvA.append : ∀ {vs ws : List V} {xs ys : List Sv}, SvA K u H vs xs → SvA K u H ws ys → SvA K u H (vs ++ ws) (xs ++ ys)
  | _, _, _, _, .nil, s => s
  | _, _, _, _, .cons h t, s => .cons h (t.append s)
theorem DvA.sv : ∀ {vs : List V} {ds : List PyData}, DvA K u H vs ds → SvA K u H vs (ds.map .d)
  | _, _, .nil => .nil
  | _, _, .cons h t => .cons h t.sv
end
abbrev De := List (Option Sv)
structure Sg (K : PySem.W.Frag) (u : List Addr) (H : Hp) (σ : L2.St) (δ : De) : Prop where
  len : σ.length = δ.length
  at_ : ∀ (i : Nat) (x : Sv), δ[i]? = some (some x) → ∃ v, σ[i]? = some (some v) ∧ SvOk K u H v x
def wipeD (δ : De) : List Nat → De
  | [] => δ
  | v :: vs => (wipeD δ vs).set v none
section
variable {K : PySem.W.Frag} {u : List Addr} {H H' : Hp} {σ : L2.St} {δ : De}
theorem Sg.mv (m : Mv u H H') (mu : ∀ b ∈ u, Mut (H b)) (h : Sg K u H σ δ) : Sg K u H' σ δ :=
  ⟨h.len, fun i x e => let ⟨v, h1, h2⟩ := h.at_ i x e; ⟨v, h1, h2.mv m mu⟩⟩
theorem Sg.set {i : Nat} {v : V} {x : Sv} (h : Sg K u H σ δ) (hx : SvOk K u H v x) : Sg K u H (σ.set i (some v)) (δ.set i (some x)) := by
  refine ⟨by rw [List.length_set, List.length_set, h.len], fun j y e => ?_⟩
  by_cases hj : i = j
  · subst hj
    by_cases hl : i < δ.length
    · rw [List.getElem?_set_self hl] at e
      cases e
      exact ⟨v, List.getElem?_set_self (by rw [h.len]; exact hl), hx⟩
    · rw [List.getElem?_eq_none (by rw [List.length_set]; omega)] at e
      cases e
  · rw [List.getElem?_set_ne hj] at e
    obtain ⟨w, h1, h2⟩ := h.at_ j y e
    exact ⟨w, by rw [List.getElem?_set_ne hj]; exact h1, h2⟩
theorem Sg.unset {i : Nat} (h : Sg K u H σ δ) : Sg K u H (σ.set i none) (δ.set i none) := by
  refine ⟨by rw [List.length_set, List.length_set, h.len], fun j y e => ?_⟩
  by_cases hj : i = j
  · subst hj
    by_cases hl : i < δ.length
    · rw [List.getElem?_set_self hl] at e
      cases e
    · rw [List.getElem?_eq_none (by rw [List.length_set]; omega)] at e
      cases e
  · rw [List.getElem?_set_ne hj] at e
    obtain ⟨w, h1, h2⟩ := h.at_ j y e
    exact ⟨w, by rw [List.getElem?_set_ne hj]; exact h1, h2⟩
theorem Sg.wipe (h : Sg K u H σ δ) : ∀ vs : List Nat, Sg K u H (L2.wipe σ vs) (wipeD δ vs)
  | [] => h
  | v :: vs => by
    unfold L2.wipe wipeD
    exact (h.wipe vs).unset
/-- less is known -/
theorem Sg.weak {δ' : De} (h : Sg K u H σ δ) (hl : δ'.length = δ.length) (w : ∀ (i : Nat) x, δ'[i]? = some (some x) → δ[i]? = some (some x)) : Sg K u H σ δ' :=
  ⟨h.len.trans hl.symm, fun i x e => h.at_ i x (w i x e)⟩
end

/-! ### worlds: objects that change, and what holds of them -/
structure Wd where
  u : List Addr
  St : Type
  I : St → Hp → Prop
  mono : ∀ s H H', I s H → (∀ a ∈ u, H' a = H a) → (∀ a xs, Rd H a (.tup xs) → Rd H' a (.tup xs)) → I s H'
  mu : ∀ s H, I s H → ∀ a ∈ u, Mut (H a)
theorem Wd.fresh (W : Wd) {s : W.St} {H : Hp} (h : W.I s H) {p : Addr} (n : H p = none) : p ∉ W.u := fun z => by
  have := W.mu s H h p z
  rw [n] at this
  exact this

theorem Wd.same (W : Wd) {s : W.St} {H H' : Hp} (h : W.I s H) (e : Same H H') : W.I s H' := by
  refine W.mono s H H' h (fun a ha => ?_) (fun a xs q => ?_)
  · have z := W.mu s H h a ha
    cases q : H a with
    | none =>
      rw [q] at z
      exact z.elim
    | some o => exact e a o q
  · rcases q with q | ⟨o, q⟩
    · exact .inl (e _ _ q)
    · exact .inr ⟨o, e _ _ q⟩
theorem Wd.new (W : Wd) {s : W.St} {H : Hp} (h : W.I s H) {p : Addr} {o : HO} (n : H p = none) : W.I s (upd H p o) := W.same h (same_new n o)
/-- a list outside of u is written -/
theorem Wd.put (W : Wd) {s : W.St} {H : Hp} (h : W.I s H) {p : Addr} {xs ys : List V} (n : p ∉ W.u) (hp : H p = some (.lst xs)) : W.I s (upd H p (.lst ys)) := by
  refine W.mono s H _ h (fun a ha => ?_) (fun a xs q => ?_)
  · rw [upd_ne (fun z => by subst z; exact n ha)]
  · have np : a ≠ p := fun z => by
      subst z
      rcases q with q | ⟨o, q⟩
      · rw [hp] at q
        cases q
      · rw [hp] at q
        cases q
    rcases q with q | ⟨o, q⟩
    · exact .inl (by rw [upd_ne np]; exact q)
    · exact .inr ⟨o, by rw [upd_ne np]; exact q⟩

/-! ### the weakest readings -/
def wE (X : Cx) (e : Expr) : TE := fun σ H Q => ∀ pins s, Inv X pins σ H s → wpAny (model X.prog X.w) X.A (eval e X.env) (EP X pins σ Q) X.xe s
theorem wE_pe {X : Cx} {e : Expr} : PE X e (wE X e) := ⟨fun pins s _ _ _ I h => h pins s I⟩
theorem pe_w {X : Cx} {e : Expr} {te : TE} (h : PE X e te) {σ : L2.St} {H : Hp} {Q : VK} (q : te σ H Q) : wE X e σ H Q := fun pins s I => h.run pins s σ H Q I q
def wT (X : Cx) (e : Expr) : TT := fun σ H Q => ∀ pins s, Inv X pins σ H s → wpAny (model X.prog X.w) X.A (isTrue e X.env (eval e X.env)) (TP X pins σ Q) X.xe s
theorem wT_pt {X : Cx} {e : Expr} : PT X e (wT X e) := ⟨fun pins s _ _ _ I h => h pins s I⟩
theorem pt_w {X : Cx} {e : Expr} {te : TT} (h : PT X e te) {σ : L2.St} {H : Hp} {Q : Bool → Hp → Prop} (q : te σ H Q) : wT X e σ H Q := fun pins s I => h.run pins s σ H Q I q
def wW (X : Cx) (e : Expr) : TT := fun σ H Q => ∀ whole pins s, Inv X pins σ H s → wpAny (model X.prog X.w) X.A (isTrue e X.env whole) (TP X pins σ Q) X.xe s
theorem wW_pw {X : Cx} {e : Expr} : PW X e (wW X e) := ⟨fun wh pins s _ _ _ I h => h wh pins s I⟩
theorem pw_w {X : Cx} {e : Expr} {te : TT} (h : PW X e te) {σ : L2.St} {H : Hp} {Q : Bool → Hp → Prop} (q : te σ H Q) : wW X e σ H Q := fun wh pins s I => h.run wh pins s σ H Q I q
def wA (X : Cx) (es : List Expr) : TA := fun σ H Q => ∀ pos pins s, Inv X pins σ H s → wpAny (model X.prog X.w) X.A (spliced (backTo pos (starEach es X.env))) (AP X pins σ Q) X.xe s
theorem wA_pa {X : Cx} {es : List Expr} : PA X es (wA X es) := ⟨fun pos pins s _ _ _ I h => h pos pins s I⟩
theorem pa_w {X : Cx} {es : List Expr} {ta : TA} (h : PA X es ta) {σ : L2.St} {H : Hp} {Q : List V → Hp → Prop} (q : ta σ H Q) : wA X es σ H Q := fun pos pins s I => h.run pos pins s σ H Q I q
def wS (X : Cx) (st : Stmt) : TS := fun D σ H => ∀ pins s, Inv X pins σ H s → wpAny (model X.prog X.w) X.A (exec st X.env) (SP X pins D) X.xe s
theorem wS_ps {X : Cx} {st : Stmt} : PS X st (wS X st) := ⟨fun pins s _ _ _ I h => h pins s I⟩
theorem ps_w {X : Cx} {st : Stmt} {t : TS} (h : PS X st t) {D : Ends} {σ : L2.St} {H : Hp} (q : t D σ H) : wS X st D σ H := fun pins s I => h.run pins s σ H D I q
def wSs (X : Cx) (st : List Stmt) : TS := fun D σ H => ∀ pins s, Inv X pins σ H s → wpAny (model X.prog X.w) X.A (execs st X.env) (SP X pins D) X.xe s
theorem wSs_pss {X : Cx} {st : List Stmt} : PSs X st (wSs X st) := ⟨fun pins s _ _ _ I h => h pins s I⟩
theorem pss_w {X : Cx} {st : List Stmt} {t : TS} (h : PSs X st t) {D : Ends} {σ : L2.St} {H : Hp} (q : t D σ H) : wSs X st D σ H := fun pins s I => h.run pins s σ H D I q
def wG (X : Cx) (tg : Expr) : TG := fun v σ H Q => ∀ pins s u, Inv X pins σ H s → RelV v u → wpAny (model X.prog X.w) X.A (assign tg X.env u) (fun _ s' => ∃ σ' H', Inv X pins σ' H' s' ∧ Q σ' H') X.xe s
theorem wG_pg {X : Cx} {tg : Expr} : PG X tg (wG X tg) := ⟨fun pins s _ _ _ u _ I r h => h pins s u I r⟩
theorem pg_w {X : Cx} {tg : Expr} {g : TG} (h : PG X tg g) {v : V} {σ : L2.St} {H : Hp} {Q : L2.St → Hp → Prop} (q : g v σ H Q) : wG X tg v σ H Q := fun pins s u I r => h.run pins s σ H v u Q I r q
def wO (X : Cx) (f : Value → Value → Sem Value) : R2 := fun x y H Q => ∀ pins s σ v u, Inv X pins σ H s → RelV x v → RelV y u → wpAny (model X.prog X.w) X.A (f v u) (EP X pins σ Q) X.xe s
theorem wO_op {X : Cx} {f : Value → Value → Sem Value} : OpR X f (wO X f) := fun pins s σ _ _ _ v u _ I rx ry h => h pins s σ v u I rx ry
theorem op_w {X : Cx} {f : Value → Value → Sem Value} {r : R2} (h : OpR X f r) {x y : V} {H : Hp} {Q : VK} (q : r x y H Q) : wO X f x y H Q := fun pins s σ v u I rx ry => h pins s σ H x y v u Q I rx ry q
def wI (X : Cx) : R2 := fun x y H Q => ∀ value slice pins s σ v u, Inv X pins σ H s → RelV x v → RelV y u → subscripted slice false v u = operate [v, u] (getItem v u) → wpAny (model X.prog X.w) X.A (subscriptTail value slice v u) (EP X pins σ Q) X.xe s
theorem wI_ix {X : Cx} : IxR X (wI X) := fun value slice pins s σ _ _ _ v u _ I rx ry h hs => h value slice pins s σ v u I rx ry hs
theorem ix_w {X : Cx} {r : R2} (h : IxR X r) {x y : V} {H : Hp} {Q : VK} (q : r x y H Q) : wI X x y H Q := fun value slice pins s σ v u I rx ry hs => h value slice pins s σ H x y v u Q I rx ry q hs
def wC (X : Cx) (f : Value) : List V → Hp → VK → Prop := fun xs H Q => ∀ pins s σ us, Inv X pins σ H s → Vals xs us → wpAny (model X.prog X.w) X.A (call f us) (EP X pins σ Q) X.xe s
theorem wC_call {X : Cx} {f : Value} : CallR X f (wC X f) := fun pins s σ _ _ us _ I r h => h pins s σ us I r
theorem call_w {X : Cx} {f : Value} {r : List V → Hp → VK → Prop} (h : CallR X f r) {xs : List V} {H : Hp} {Q : VK} (q : r xs H Q) : wC X f xs H Q := fun pins s σ us I rv => h pins s σ H xs us Q I rv q
def wP (X : Cx) (e : Option Expr) : TO := fun σ H Q => ∀ pins s, Inv X pins σ H s → wpAny (model X.prog X.w) X.A (evalPart e X.env) (fun u s' => ∃ o H', Inv X pins σ H' s' ∧ IsPart u o ∧ Q o H') X.xe s
theorem wP_po {X : Cx} {e : Option Expr} : PO X e (wP X e) := ⟨fun pins s _ _ _ I h => h pins s I⟩

/-! ### the judgements -/
structure ED (X : Cx) (W : Wd) (e : Expr) (s : W.St) (δ : De) (Q : W.St → Sv → Prop) : Prop where
  mk ::
  run : ∀ (σ : L2.St) (H : Hp) (R : VK), W.I s H → Sg X.K W.u H σ δ → (∀ v H' s' x, Mv W.u H H' → W.I s' H' → SvOk X.K W.u H' v x → Q s' x → R v H') → wE X e σ H R
instance {X : Cx} {W : Wd} {e : Expr} {s : W.St} {δ : De} {Q : W.St → Sv → Prop} : CoeFun (ED X W e s δ Q) fun _ => ∀ (σ : L2.St) (H : Hp) (R : VK), W.I s H → Sg X.K W.u H σ δ → (∀ v H' s' x, Mv W.u H H' → W.I s' H' → SvOk X.K W.u H' v x → Q s' x → R v H') → wE X e σ H R := ⟨ED.run⟩
structure TD (X : Cx) (W : Wd) (e : Expr) (s : W.St) (δ : De) (Q : W.St → Bool → Prop) : Prop where
  mk ::
  run : ∀ (σ : L2.St) (H : Hp) (R : Bool → Hp → Prop), W.I s H → Sg X.K W.u H σ δ → (∀ b H' s', Mv W.u H H' → W.I s' H' → Q s' b → R b H') → wT X e σ H R
instance {X : Cx} {W : Wd} {e : Expr} {s : W.St} {δ : De} {Q : W.St → Bool → Prop} : CoeFun (TD X W e s δ Q) fun _ => ∀ (σ : L2.St) (H : Hp) (R : Bool → Hp → Prop), W.I s H → Sg X.K W.u H σ δ → (∀ b H' s', Mv W.u H H' → W.I s' H' → Q s' b → R b H') → wT X e σ H R := ⟨TD.run⟩
structure WD (X : Cx) (W : Wd) (e : Expr) (s : W.St) (δ : De) (Q : W.St → Bool → Prop) : Prop where
  mk ::
  run : ∀ (σ : L2.St) (H : Hp) (R : Bool → Hp → Prop), W.I s H → Sg X.K W.u H σ δ → (∀ b H' s', Mv W.u H H' → W.I s' H' → Q s' b → R b H') → wW X e σ H R
instance {X : Cx} {W : Wd} {e : Expr} {s : W.St} {δ : De} {Q : W.St → Bool → Prop} : CoeFun (WD X W e s δ Q) fun _ => ∀ (σ : L2.St) (H : Hp) (R : Bool → Hp → Prop), W.I s H → Sg X.K W.u H σ δ → (∀ b H' s', Mv W.u H H' → W.I s' H' → Q s' b → R b H') → wW X e σ H R := ⟨WD.run⟩
structure AD (X : Cx) (W : Wd) (es : List Expr) (s : W.St) (δ : De) (Q : W.St → List Sv → Prop) : Prop where
  mk ::
  run : ∀ (σ : L2.St) (H : Hp) (R : List V → Hp → Prop), W.I s H → Sg X.K W.u H σ δ → (∀ vs H' s' xs, Mv W.u H H' → W.I s' H' → SvA X.K W.u H' vs xs → Q s' xs → R vs H') → wA X es σ H R
instance {X : Cx} {W : Wd} {es : List Expr} {s : W.St} {δ : De} {Q : W.St → List Sv → Prop} : CoeFun (AD X W es s δ Q) fun _ => ∀ (σ : L2.St) (H : Hp) (R : List V → Hp → Prop), W.I s H → Sg X.K W.u H σ δ → (∀ vs H' s' xs, Mv W.u H H' → W.I s' H' → SvA X.K W.u H' vs xs → Q s' xs → R vs H') → wA X es σ H R := ⟨AD.run⟩
/-- an operation on data -/
structure OD (X : Cx) (W : Wd) (f : Value → Value → Sem Value) (x y : Sv) (s : W.St) (Q : W.St → Sv → Prop) : Prop where
  mk ::
  run : ∀ (v w : V) (H : Hp) (R : VK), W.I s H → SvOk X.K W.u H v x → SvOk X.K W.u H w y → (∀ v H' s' x, Mv W.u H H' → W.I s' H' → SvOk X.K W.u H' v x → Q s' x → R v H') → wO X f v w H R
instance {X : Cx} {W : Wd} {f : Value → Value → Sem Value} {x y : Sv} {s : W.St} {Q : W.St → Sv → Prop} : CoeFun (OD X W f x y s Q) fun _ => ∀ (v w : V) (H : Hp) (R : VK), W.I s H → SvOk X.K W.u H v x → SvOk X.K W.u H w y → (∀ v H' s' x, Mv W.u H H' → W.I s' H' → SvOk X.K W.u H' v x → Q s' x → R v H') → wO X f v w H R := ⟨OD.run⟩
structure ID (X : Cx) (W : Wd) (x y : Sv) (s : W.St) (Q : W.St → Sv → Prop) : Prop where
  mk ::
  run : ∀ (v w : V) (H : Hp) (R : VK), W.I s H → SvOk X.K W.u H v x → SvOk X.K W.u H w y → (∀ v H' s' x, Mv W.u H H' → W.I s' H' → SvOk X.K W.u H' v x → Q s' x → R v H') → wI X v w H R
instance {X : Cx} {W : Wd} {x y : Sv} {s : W.St} {Q : W.St → Sv → Prop} : CoeFun (ID X W x y s Q) fun _ => ∀ (v w : V) (H : Hp) (R : VK), W.I s H → SvOk X.K W.u H v x → SvOk X.K W.u H w y → (∀ v H' s' x, Mv W.u H H' → W.I s' H' → SvOk X.K W.u H' v x → Q s' x → R v H') → wI X v w H R := ⟨ID.run⟩
structure CD (X : Cx) (W : Wd) (f : Value) (xs : List Sv) (s : W.St) (Q : W.St → Sv → Prop) : Prop where
  mk ::
  run : ∀ (vs : List V) (H : Hp) (R : VK), W.I s H → SvA X.K W.u H vs xs → (∀ v H' s' x, Mv W.u H H' → W.I s' H' → SvOk X.K W.u H' v x → Q s' x → R v H') → wC X f vs H R
instance {X : Cx} {W : Wd} {f : Value} {xs : List Sv} {s : W.St} {Q : W.St → Sv → Prop} : CoeFun (CD X W f xs s Q) fun _ => ∀ (vs : List V) (H : Hp) (R : VK), W.I s H → SvA X.K W.u H vs xs → (∀ v H' s' x, Mv W.u H H' → W.I s' H' → SvOk X.K W.u H' v x → Q s' x → R v H') → wC X f vs H R := ⟨CD.run⟩
/-- statements: N behind them, R at a return -/
structure SDs (X : Cx) (W : Wd) (sts : List Stmt) (s : W.St) (δ : De) (N : W.St → De → Prop) (R : W.St → Sv → Prop) : Prop where
  mk ::
  run : ∀ (σ : L2.St) (H : Hp) (D : Ends), W.I s H → Sg X.K W.u H σ δ → (∀ σ' H' s' δ', Mv W.u H H' → W.I s' H' → Sg X.K W.u H' σ' δ' → N s' δ' → D.nx σ' H') → (∀ v H' s' x, Mv W.u H H' → W.I s' H' → SvOk X.K W.u H' v x → R s' x → D.rt v H') → wSs X sts D σ H
instance {X : Cx} {W : Wd} {sts : List Stmt} {s : W.St} {δ : De} {N : W.St → De → Prop} {R : W.St → Sv → Prop} : CoeFun (SDs X W sts s δ N R) fun _ => ∀ (σ : L2.St) (H : Hp) (D : Ends), W.I s H → Sg X.K W.u H σ δ → (∀ σ' H' s' δ', Mv W.u H H' → W.I s' H' → Sg X.K W.u H' σ' δ' → N s' δ' → D.nx σ' H') → (∀ v H' s' x, Mv W.u H H' → W.I s' H' → SvOk X.K W.u H' v x → R s' x → D.rt v H') → wSs X sts D σ H := ⟨SDs.run⟩
structure SD (X : Cx) (W : Wd) (st : Stmt) (s : W.St) (δ : De) (N : W.St → De → Prop) (R : W.St → Sv → Prop) : Prop where
  mk ::
  run : ∀ (σ : L2.St) (H : Hp) (D : Ends), W.I s H → Sg X.K W.u H σ δ → (∀ σ' H' s' δ', Mv W.u H H' → W.I s' H' → Sg X.K W.u H' σ' δ' → N s' δ' → D.nx σ' H') → (∀ v H' s' x, Mv W.u H H' → W.I s' H' → SvOk X.K W.u H' v x → R s' x → D.rt v H') → wS X st D σ H
instance {X : Cx} {W : Wd} {st : Stmt} {s : W.St} {δ : De} {N : W.St → De → Prop} {R : W.St → Sv → Prop} : CoeFun (SD X W st s δ N R) fun _ => ∀ (σ : L2.St) (H : Hp) (D : Ends), W.I s H → Sg X.K W.u H σ δ → (∀ σ' H' s' δ', Mv W.u H H' → W.I s' H' → Sg X.K W.u H' σ' δ' → N s' δ' → D.nx σ' H') → (∀ v H' s' x, Mv W.u H H' → W.I s' H' → SvOk X.K W.u H' v x → R s' x → D.rt v H') → wS X st D σ H := ⟨SD.run⟩
/-- a target takes a datum -/
structure GD (X : Cx) (W : Wd) (tg : Expr) (x : Sv) (s : W.St) (δ : De) (N : W.St → De → Prop) : Prop where
  mk ::
  run : ∀ (v : V) (σ : L2.St) (H : Hp) (R : L2.St → Hp → Prop), W.I s H → Sg X.K W.u H σ δ → SvOk X.K W.u H v x → (∀ σ' H' s' δ', Mv W.u H H' → W.I s' H' → Sg X.K W.u H' σ' δ' → N s' δ' → R σ' H') → wG X tg v σ H R
instance {X : Cx} {W : Wd} {tg : Expr} {x : Sv} {s : W.St} {δ : De} {N : W.St → De → Prop} : CoeFun (GD X W tg x s δ N) fun _ => ∀ (v : V) (σ : L2.St) (H : Hp) (R : L2.St → Hp → Prop), W.I s H → Sg X.K W.u H σ δ → SvOk X.K W.u H v x → (∀ σ' H' s' δ', Mv W.u H H' → W.I s' H' → Sg X.K W.u H' σ' δ' → N s' δ' → R σ' H') → wG X tg v σ H R := ⟨GD.run⟩
end Kq
/-! K2: the rules of the judgements: names, displays, operators, tests, subscripts, calls. -/
namespace Kq
open PySem PySem.Spec PyProof.Rows L2
section
variable {X : Cx} {W : Wd} {s : W.St} {δ : De} {Q : W.St → Sv → Prop} {P : W.St → Bool → Prop} {e a b c : Expr} {es : List Expr} {pos : Pos}

theorem ed_imp {Q' : W.St → Sv → Prop} (h : ED X W e s δ Q) (k : ∀ s x, Q s x → Q' s x) : ED X W e s δ Q' := .mk fun σ H R hI hS hR => h σ H R hI hS fun v H' s' x m i o q => hR v H' s' x m i o (k s' x q)
theorem td_imp {P' : W.St → Bool → Prop} (h : TD X W e s δ P) (k : ∀ s x, P s x → P' s x) : TD X W e s δ P' := .mk fun σ H R hI hS hR => h σ H R hI hS fun v H' s' m i q => hR v H' s' m i (k s' v q)
theorem ad_imp {A A' : W.St → List Sv → Prop} (h : AD X W es s δ A) (k : ∀ s x, A s x → A' s x) : AD X W es s δ A' := .mk fun σ H R hI hS hR => h σ H R hI hS fun v H' s' x m i o q => hR v H' s' x m i o (k s' x q)

/-! ### names, constants -/
theorem ed_var (i : Nat) {x : Str} {y : Sv} (hN : X.N[i]? = some x) (hv : Vis X.env.scope x) (hδ : δ[i]? = some (some y)) (q : Q s y) (hd : (x == ("__debug__" : Str)) = false := by decide) (hcd : (x == ("__classdict__" : Str)) = false := by decide) :
    ED X W (.Name x pos) s δ Q := .mk fun σ H R hI hS hR => by
  obtain ⟨v, h1, h2⟩ := hS.at_ i y hδ
  exact pe_w (pe_var (i := i) hN hv hd hcd) ⟨v, h1, hR v H s y Mv.refl hI h2 q⟩
theorem ed_int {i j} (q : Q s (.d (.int i))) : ED X W (.Constant (.int i) j pos) s δ Q := .mk fun σ H R hI hS hR => pe_w pe_int (hR _ H s _ Mv.refl hI (Dv.int i).sv q)
theorem ed_str {x j} (q : Q s (.d (.str x))) : ED X W (.Constant (.str x) j pos) s δ Q := .mk fun σ H R hI hS hR => pe_w pe_str (hR _ H s _ Mv.refl hI (Dv.str x).sv q)
theorem ed_bl {b j} (q : Q s (.d (.bool b))) : ED X W (.Constant (.bool b) j pos) s δ Q := .mk fun σ H R hI hS hR => pe_w pe_bl (hR _ H s _ Mv.refl hI (Dv.bl b).sv q)
theorem ed_non {j} (q : Q s (.d .none)) : ED X W (.Constant .none j pos) s δ Q := .mk fun σ H R hI hS hR => pe_w pe_non (hR _ H s _ Mv.refl hI Dv.non.sv q)
/-- a constant of the module -/
theorem ed_glob {x : Str} {v : V} {u : Value} {y : PyData} (hg : Gl X x) (hm : X.mg x = some u) (r : RelV v u) (hy : ∀ u H, Dv X.K u H v y) (q : Q s (.d y)) (hd : (x == ("__debug__" : Str)) = false := by decide) : ED X W (.Name x pos) s δ Q :=
  .mk fun σ H R hI hS hR => pe_w (pe_glob hg hm r hd) (hR _ H s _ Mv.refl hI (hy _ _).sv q)

/-! ### lists of arguments, displays -/
theorem ad_nil {A : W.St → List Sv → Prop} (q : A s []) : AD X W [] s δ A := .mk fun σ H R hI hS hR => pa_w pa_nil (hR [] H s [] Mv.refl hI .nil q)
theorem ad_cons {A : W.St → List Sv → Prop} (h : ED X W e s δ fun s' x => AD X W es s' δ fun s'' xs => A s'' (x :: xs)) (hs : starEach (e :: es) X.env = (false, eval e X.env) :: starEach es X.env := by rfl) : AD X W (e :: es) s δ A :=
  .mk fun σ H R hI hS hR => pa_w (pa_cons wE_pe wA_pa hs) (h σ H _ hI hS fun v H1 s1 x m1 i1 o1 q1 =>
    q1 σ H1 _ i1 (hS.mv m1 (W.mu _ _ hI)) fun vs H2 s2 xs m2 i2 o2 q2 => hR _ H2 s2 _ (m1.trans m2) i2 (.cons (o1.mv m2 (W.mu _ _ i1)) o2) q2)
theorem ad_star {A : W.St → List Sv → Prop} {p : Pos} (h : ED X W e s δ fun s' x => ∃ ds, x = .d (.tuple ds) ∧ AD X W es s' δ fun s'' xs => A s'' (ds.map .d ++ xs))
    (hs : starEach (.Starred e p :: es) X.env = (true, eval e X.env) :: starEach es X.env := by rfl) : AD X W (.Starred e p :: es) s δ A :=
  .mk fun σ H R hI hS hR => pa_w (StX.pa_star wE_pe wA_pa hs) (h σ H _ hI hS fun v H1 s1 x m1 i1 o1 q1 => by
    obtain ⟨ds, rfl, q1⟩ := q1
    cases o1 with
    | tup ht ha =>
      refine ⟨_, _, rfl, .inl ht, q1 σ H1 _ i1 (hS.mv m1 (W.mu _ _ hI)) fun vs H2 s2 xs m2 i2 o2 q2 => ?_⟩
      exact hR _ H2 s2 _ (m1.trans m2) i2 ((ha.mv m2 (W.mu _ _ i1)).sv.append o2) q2)
theorem ed_tup {k} (h : AD X W es s δ fun s' xs => ∃ ds, unAll xs = some ds ∧ ds.length ≤ sizeLine ∧ Q s' (.d (.tuple ds))) : ED X W (.Tuple es k pos) s δ Q :=
  .mk fun σ H R hI hS hR => pe_w (pe_tup wA_pa) (h σ H _ hI hS fun vs H1 s1 xs m1 i1 o1 q1 => by
    obtain ⟨ds, hd, hz, q1⟩ := q1
    have hA := o1.data hd
    refine ⟨by rw [hA.length]; exact hz, fun p hp => ?_⟩
    exact hR _ _ s1 _ (m1.trans (Mv.new hp)) (W.new i1 hp) (Dv.tup (SqT.of upd_same) (hA.mv (Mv.new hp) (W.mu _ _ i1))).sv q1)
theorem ed_lst (h : AD X W es s δ fun s' xs => ∃ ds, unAll xs = some ds ∧ ds.length ≤ sizeLine ∧ Q s' (.d (.list ds))) : ED X W (.List es pos) s δ Q :=
  .mk fun σ H R hI hS hR => pe_w (pe_lst wA_pa) (h σ H _ hI hS fun vs H1 s1 xs m1 i1 o1 q1 => by
    obtain ⟨ds, hd, hz, q1⟩ := q1
    have hA := o1.data hd
    refine ⟨by rw [hA.length]; exact hz, fun p hp => ?_⟩
    exact hR _ _ s1 _ (m1.trans (Mv.new hp)) (W.new i1 hp) (Dv.lst (W.fresh i1 hp) upd_same (hA.mv (Mv.new hp) (W.mu _ _ i1))).sv q1)

/-! ### operators -/
theorem two {f : V → V → Hp → VK → Prop} {O : Sv → Sv → W.St → Prop} {R : VK} {σ : L2.St} {H : Hp} (hI : W.I s H) (hS : Sg X.K W.u H σ δ)
    (h : ED X W a s δ fun s1 x => ED X W b s1 δ fun s2 y => O x y s2)
    (k : ∀ v w x y H2 s2, Mv W.u H H2 → W.I s2 H2 → SvOk X.K W.u H2 v x → SvOk X.K W.u H2 w y → O x y s2 → f v w H2 R) : wE X a σ H fun v H1 => wE X b σ H1 fun w H2 => f v w H2 R :=
  h σ H _ hI hS fun v H1 s1 x m1 i1 o1 q1 => q1 σ H1 _ i1 (hS.mv m1 (W.mu _ _ hI)) fun w H2 s2 y m2 i2 o2 q2 => k v w x y H2 s2 (m1.trans m2) i2 (o1.mv m2 (W.mu _ _ i1)) o2 q2
theorem ed_bin {op : Operator} (h : ED X W a s δ fun s1 x => ED X W b s1 δ fun s2 y => OD X W (binaryOp op) x y s2 Q) : ED X W (.BinOp a op b pos) s δ Q :=
  .mk fun σ H R hI hS hR => pe_w (pe_op wO_op wE_pe wE_pe) (two hI hS h fun v w x y H2 s2 m2 i2 o1 o2 q => q v w H2 R i2 o1 o2 fun z H3 s3 t m3 i3 o3 q3 => hR z H3 s3 t (m2.trans m3) i3 o3 q3)
theorem ed_cmp {op : CmpOp} (h : ED X W a s δ fun s1 x => ED X W b s1 δ fun s2 y => OD X W (compareOp op) x y s2 Q) (hm : behindInMarks op b = false) : ED X W (.Compare a [op] [b] pos) s δ Q :=
  .mk fun σ H R hI hS hR => pe_w (pe_cmpR wO_op wE_pe wE_pe hm) (two hI hS h fun v w x y H2 s2 m2 i2 o1 o2 q => q v w H2 R i2 o1 o2 fun z H3 s3 t m3 i3 o3 q3 => hR z H3 s3 t (m2.trans m3) i3 o3 q3)
theorem td_cmp {op : CmpOp} (h : ED X W a s δ fun s1 x => ED X W b s1 δ fun s2 y => OD X W (compareOp op) x y s2 fun s3 z => ∃ c, z = .d (.bool c) ∧ P s3 c) (hm : behindInMarks op b = false) : TD X W (.Compare a [op] [b] pos) s δ P :=
  .mk fun σ H R hI hS hR => pt_w (pt_cmpR wO_op wE_pe wE_pe hm) (two (f := fun v w H2 R => wO X (compareOp op) v w H2 R) hI hS h fun v w x y H2 s2 m2 i2 o1 o2 q => q v w H2 _ i2 o1 o2 fun z H3 s3 t m3 i3 o3 q3 => by
    obtain ⟨c, rfl, q3⟩ := q3
    cases o3
    exact ⟨c, rfl, hR c H3 s3 (m2.trans m3) i3 q3⟩)
theorem td_chain {op op' : CmpOp} (h : ED X W a s δ fun s1 x => ED X W b s1 δ fun s2 y => OD X W (compareOp op) x y s2 fun s3 z => ∃ k, z = .d (.bool k) ∧
      if k = true then ED X W c s3 δ fun s4 w => OD X W (compareOp op') y w s4 fun s5 z => ∃ c, z = .d (.bool c) ∧ P s5 c else P s3 false)
    (hm : lastMarks [op, op'] [b, c] = false := by with_unfolding_all rfl) : TD X W (.Compare a [op, op'] [b, c] pos) s δ P :=
  .mk fun σ H R hI hS hR => pt_w (pt_chain wO_op wO_op wE_pe wE_pe wE_pe hm) (by
    refine h σ H _ hI hS fun v H1 s1 x m1 i1 o1 q1 => ?_
    refine q1 σ H1 _ i1 (hS.mv m1 (W.mu _ _ hI)) fun w H2 s2 y m2 i2 o2 q2 => ?_
    refine q2 v w H2 _ i2 (o1.mv m2 (W.mu _ _ i1)) o2 fun z H3 s3 t m3 i3 o3 q3 => ?_
    obtain ⟨k, rfl, q3⟩ := q3
    cases o3
    refine ⟨k, rfl, ?_⟩
    have m13 : Mv W.u H H3 := (m1.trans m2).trans m3
    cases k with
    | false => exact ⟨false, rfl, hR false H3 s3 m13 i3 q3⟩
    | true =>
      refine (ED.run q3) σ H3 _ i3 (hS.mv m13 (W.mu _ _ hI)) fun w' H4 s4 y' m4 i4 o4 q4 => ?_
      refine q4 w w' H4 _ i4 ((o2.mv m3 (W.mu _ _ i2)).mv m4 (W.mu _ _ i3)) o4 fun z H5 s5 t m5 i5 o5 q5 => ?_
      obtain ⟨c, rfl, q5⟩ := q5
      cases o5
      exact ⟨c, rfl, hR c H5 s5 ((m13.trans m4).trans m5) i5 q5⟩)
theorem ed_un {op : UnaryOp} {f : PyData → PyData → Prop} {r : V → Hp → VK → Prop} (hr : UnR X (unaryOp op) r) (h : ED X W a s δ fun s1 x => ∃ y z, x = .d y ∧ Q s1 (.d z) ∧ ∀ v H R, SvOk X.K W.u H v (.d y) → (∀ w, SvOk X.K W.u H w (.d z) → R w H) → r v H R) : ED X W (.UnaryOp op a pos) s δ Q :=
  .mk fun σ H R hI hS hR => pe_w (pe_un hr wE_pe) (h σ H _ hI hS fun v H1 s1 x m1 i1 o1 q1 => by
    obtain ⟨y, z, rfl, q, k⟩ := q1
    exact k v H1 R o1 fun w o => hR w H1 s1 _ m1 i1 o q)

/-! ### tests -/
theorem td_val (h : ED X W e s δ fun s' x => ∃ c, x = .d (.bool c) ∧ P s' c) (he : ∀ whole, isTrue e X.env whole = (do let v ← whole; standAt e.pos; holding [v] (truthy v)) := by intro _; rfl) : TD X W e s δ P :=
  .mk fun σ H R hI hS hR => pt_w (pt_val wE_pe he) (h σ H _ hI hS fun v H1 s1 x m1 i1 o1 q1 => by
    obtain ⟨c, rfl, q1⟩ := q1
    cases o1
    exact ⟨c, rfl, hR c H1 s1 m1 i1 q1⟩)
theorem td_not (h : TD X W a s δ fun s' c => P s' (!c)) : TD X W (.UnaryOp .Not a pos) s δ P := .mk fun σ H R hI hS hR => pt_w (pt_not wT_pt) (h σ H _ hI hS fun c H1 s1 m1 i1 q1 => hR _ H1 s1 m1 i1 q1)
theorem td_w {op : BoolOp} (h : WD X W (.BoolOp op es pos) s δ P) : TD X W (.BoolOp op es pos) s δ P := .mk fun σ H R hI hS hR => pt_w (PW.pt wW_pw) (h σ H R hI hS hR)
theorem wd_and1 (h : TD X W a s δ P) : WD X W (.BoolOp .And [a] pos) s δ P := .mk fun σ H R hI hS hR => pw_w (pw_and1 wT_pt) (h σ H R hI hS hR)
theorem wd_or1 (h : TD X W a s δ P) : WD X W (.BoolOp .Or [a] pos) s δ P := .mk fun σ H R hI hS hR => pw_w (pw_or1 wT_pt) (h σ H R hI hS hR)
theorem wd_and (h : TD X W a s δ fun s' k => if k = true then WD X W (.BoolOp .And (b :: es) pos) s' δ P else P s' false) : WD X W (.BoolOp .And (a :: b :: es) pos) s δ P :=
  .mk fun σ H R hI hS hR => pw_w (pw_and wT_pt wW_pw) (h σ H _ hI hS fun k H1 s1 m1 i1 q1 => by
    cases k with
    | true => exact (WD.run q1) σ H1 _ i1 (hS.mv m1 (W.mu _ _ hI)) fun c H2 s2 m2 i2 q2 => hR c H2 s2 (m1.trans m2) i2 q2
    | false => exact hR false H1 s1 m1 i1 q1)
theorem wd_or (h : TD X W a s δ fun s' k => if k = true then P s' true else WD X W (.BoolOp .Or (b :: es) pos) s' δ P) : WD X W (.BoolOp .Or (a :: b :: es) pos) s δ P :=
  .mk fun σ H R hI hS hR => pw_w (pw_or wT_pt wW_pw) (h σ H _ hI hS fun k H1 s1 m1 i1 q1 => by
    cases k with
    | false => exact (WD.run q1) σ H1 _ i1 (hS.mv m1 (W.mu _ _ hI)) fun c H2 s2 m2 i2 q2 => hR c H2 s2 (m1.trans m2) i2 q2
    | true => exact hR true H1 s1 m1 i1 q1)
/-- and, or as values -/
theorem ed_one {op : BoolOp} (h : ED X W a s δ Q) : ED X W (.BoolOp op [a] pos) s δ Q := .mk fun σ H R hI hS hR => pe_w (pe_one wE_pe) (h σ H R hI hS hR)
theorem ed_and (h : ED X W a s δ fun s' x => ∃ k, x = .d (.bool k) ∧ if k = true then ED X W (.BoolOp .And (b :: es) pos) s' δ Q else Q s' (.d (.bool false))) : ED X W (.BoolOp .And (a :: b :: es) pos) s δ Q :=
  .mk fun σ H R hI hS hR => pe_w (pe_and wE_pe wE_pe) (h σ H _ hI hS fun v H1 s1 x m1 i1 o1 q1 => by
    obtain ⟨k, rfl, q1⟩ := q1
    cases o1
    refine ⟨k, rfl, ?_⟩
    cases k with
    | true => exact (ED.run q1) σ H1 _ i1 (hS.mv m1 (W.mu _ _ hI)) fun c H2 s2 x m2 i2 o2 q2 => hR c H2 s2 x (m1.trans m2) i2 o2 q2
    | false => exact hR _ H1 s1 _ m1 i1 (Dv.bl false).sv q1)
theorem ed_or (h : ED X W a s δ fun s' x => ∃ k, x = .d (.bool k) ∧ if k = true then Q s' (.d (.bool true)) else ED X W (.BoolOp .Or (b :: es) pos) s' δ Q) : ED X W (.BoolOp .Or (a :: b :: es) pos) s δ Q :=
  .mk fun σ H R hI hS hR => pe_w (pe_or wE_pe wE_pe) (h σ H _ hI hS fun v H1 s1 x m1 i1 o1 q1 => by
    obtain ⟨k, rfl, q1⟩ := q1
    cases o1
    refine ⟨k, rfl, ?_⟩
    cases k with
    | false => exact (ED.run q1) σ H1 _ i1 (hS.mv m1 (W.mu _ _ hI)) fun c H2 s2 x m2 i2 o2 q2 => hR c H2 s2 x (m1.trans m2) i2 o2 q2
    | true => exact hR _ H1 s1 _ m1 i1 (Dv.bl true).sv q1)
theorem ed_notV (h : ED X W a s δ fun s' x => ∃ k, x = .d (.bool k) ∧ Q s' (.d (.bool (!k)))) : ED X W (.UnaryOp .Not a pos) s δ Q :=
  .mk fun σ H R hI hS hR => pe_w (pe_not wE_pe) (h σ H _ hI hS fun v H1 s1 x m1 i1 o1 q1 => by
    obtain ⟨k, rfl, q1⟩ := q1
    cases o1
    exact ⟨k, rfl, hR _ H1 s1 _ m1 i1 (Dv.bl _).sv q1⟩)
theorem ed_if (h : TD X W c s δ fun s' k => if k = true then ED X W a s' δ Q else ED X W b s' δ Q) : ED X W (.IfExp c a b pos) s δ Q :=
  .mk fun σ H R hI hS hR => pe_w (pe_ifExp wT_pt wE_pe wE_pe) (h σ H _ hI hS fun k H1 s1 m1 i1 q1 => by
    cases k with
    | true => exact (ED.run q1) σ H1 _ i1 (hS.mv m1 (W.mu _ _ hI)) fun v H2 s2 x m2 i2 o2 q2 => hR v H2 s2 x (m1.trans m2) i2 o2 q2
    | false => exact (ED.run q1) σ H1 _ i1 (hS.mv m1 (W.mu _ _ hI)) fun v H2 s2 x m2 i2 o2 q2 => hR v H2 s2 x (m1.trans m2) i2 o2 q2)

/-! ### subscripts, slices -/
theorem ed_ix (h : ED X W a s δ fun s1 x => ED X W b s1 δ fun s2 y => ID X W x y s2 Q) (hs : PlainIx b := by exact fun _ _ => rfl) : ED X W (.Subscript a b pos) s δ Q :=
  .mk fun σ H R hI hS hR => pe_w (pe_ix wI_ix wE_pe wE_pe hs) (two hI hS h fun v w x y H2 s2 m2 i2 o1 o2 q => q v w H2 R i2 o1 o2 fun z H3 s3 t m3 i3 o3 q3 => hR z H3 s3 t (m2.trans m3) i3 o3 q3)
theorem atI_get {α β : Type} {xs : List α} {ys : List β} {i : Int} {y : β} (hl : xs.length = ys.length) (h : atI ys i = some y) : ∃ j : Nat, ys[j]? = some y ∧ ∀ x, xs[j]? = some x → atI xs i = some x := by
  unfold atI at h ⊢
  rw [← hl] at h
  cases q : ixN xs.length i with
  | none =>
    rw [q] at h
    cases h
  | some j =>
    rw [q] at h
    exact ⟨j, h, fun x e => e⟩
theorem id_tup {ds : List PyData} {i : Int} {d : PyData} (h : atI ds i = some d) (q : Q s (.d d)) : ID X W (.d (.tuple ds)) (.d (.int i)) s Q := .mk fun v w H R hI o1 o2 hR => by
  cases o1 with
  | tup ht ha =>
    cases o2
    obtain ⟨j, h1, h2⟩ := atI_get ha.length h
    obtain ⟨x, h3, h4⟩ := ha.get h1
    exact ix_w ix_tup ⟨_, _, i, x, rfl, rfl, ht, h2 x h3, hR x H s _ Mv.refl hI h4.sv q⟩
theorem id_lst {ds : List PyData} {i : Int} {d : PyData} (h : atI ds i = some d) (q : Q s (.d d)) : ID X W (.d (.list ds)) (.d (.int i)) s Q := .mk fun v w H R hI o1 o2 hR => by
  cases o1 with
  | lst hn ht ha =>
    cases o2
    obtain ⟨j, h1, h2⟩ := atI_get ha.length h
    obtain ⟨x, h3, h4⟩ := ha.get h1
    exact ix_w ix_list ⟨_, _, i, x, rfl, rfl, SqL.of ht, h2 x h3, hR x H s _ Mv.refl hI h4.sv q⟩
theorem id_str {z : Str} {i : Int} {c : Nat} (hz : z.length ≤ sizeLine) (h : atI z.cps.toList i = some c) (q : Q s (.d (.str ⟨#[c]⟩))) : ID X W (.d (.str z)) (.d (.int i)) s Q := .mk fun v w H R hI o1 o2 hR => by
  cases o1
  cases o2
  exact ix_w ix_str ⟨z, i, c, rfl, rfl, hz, h, hR _ H s _ Mv.refl hI (Dv.str _).sv q⟩
/-- a part of a slice -/
structure PD (X : Cx) (W : Wd) (e : Option Expr) (s : W.St) (δ : De) (Q : W.St → Option Int → Prop) : Prop where
  mk ::
  run : ∀ (σ : L2.St) (H : Hp) (R : Option Int → Hp → Prop), W.I s H → Sg X.K W.u H σ δ → (∀ o H' s', Mv W.u H H' → W.I s' H' → Q s' o → R o H') → wP X e σ H R
instance {X : Cx} {W : Wd} {e : Option Expr} {s : W.St} {δ : De} {Q : W.St → Option Int → Prop} : CoeFun (PD X W e s δ Q) fun _ => ∀ (σ : L2.St) (H : Hp) (R : Option Int → Hp → Prop), W.I s H → Sg X.K W.u H σ δ → (∀ o H' s', Mv W.u H H' → W.I s' H' → Q s' o → R o H') → wP X e σ H R := ⟨PD.run⟩
theorem po_w {X : Cx} {e : Option Expr} {t : TO} (h : PO X e t) {σ : L2.St} {H : Hp} {Q : Option Int → Hp → Prop} (q : t σ H Q) : wP X e σ H Q := fun pins s I => h.run pins s σ H Q I q
theorem pd_none {O : W.St → Option Int → Prop} (q : O s none) : PD X W none s δ O := .mk fun σ H R hI hS hR => po_w po_none (hR none H s Mv.refl hI q)
theorem pd_some {O : W.St → Option Int → Prop} (h : ED X W e s δ fun s' x => ∃ i, x = .d (.int i) ∧ O s' (some i)) : PD X W (some e) s δ O :=
  .mk fun σ H R hI hS hR => po_w (po_some wE_pe) (h σ H _ hI hS fun v H1 s1 x m1 i1 o1 q1 => by
    obtain ⟨i, rfl, q1⟩ := q1
    cases o1
    exact ⟨i, rfl, hR _ H1 s1 m1 i1 q1⟩)
def cutD (xs : List PyData) (lo hi : Option Int) : List PyData := (xs.drop (HT.sIx xs.length 0 lo)).take (HT.sIx xs.length xs.length hi - HT.sIx xs.length 0 lo)
theorem DvA.cut {K : PySem.W.Frag} {u : List Addr} {H : Hp} {vs : List V} {ds : List PyData} (h : DvA K u H vs ds) (lo hi : Option Int) : DvA K u H (cutV vs lo hi) (cutD ds lo hi) := by
  unfold cutV cutD
  rw [h.length]
  exact (h.drop _).take _
theorem cutD_whole {ds : List PyData} {lo hi : Option Int} (h : HT.sIx ds.length 0 lo = 0 ∧ HT.sIx ds.length ds.length hi = ds.length) : cutD ds lo hi = ds := by
  unfold cutD
  rw [h.1, h.2]
  simp
theorem ed_sliceT {lo hi : Option Expr} {p2 : Pos} (h : ED X W e s δ fun s1 x => PD X W lo s1 δ fun s2 l => PD X W hi s2 δ fun s3 u => ∃ ds, x = .d (.tuple ds) ∧ Q s3 (.d (.tuple (cutD ds l u)))) : ED X W (.Subscript e (.Slice lo hi none p2) pos) s δ Q :=
  .mk fun σ H R hI hS hR => pe_w (pe_slice sl_tupA wE_pe wP_po wP_po) (h σ H _ hI hS fun v H1 s1 x m1 i1 o1 q1 =>
    q1 σ H1 _ i1 (hS.mv m1 (W.mu _ _ hI)) fun l H2 s2 m2 i2 q2 => q2 σ H2 _ i2 (hS.mv (m1.trans m2) (W.mu _ _ hI)) fun u H3 s3 m3 i3 q3 => by
      obtain ⟨ds, rfl, q3⟩ := q3
      have o3 := (o1.mv m2 (W.mu _ _ i1)).mv m3 (W.mu _ _ i2)
      have m := (m1.trans m2).trans m3
      cases o3 with
      | tup ht ha =>
        refine ⟨_, _, rfl, ht, fun hw => ?_, fun hw p hp => ?_⟩
        · rw [ha.length] at hw
          rw [cutD_whole hw] at q3
          exact hR _ H3 s3 _ m i3 (Dv.tup ht ha).sv q3
        · exact hR _ _ s3 _ (m.trans (Mv.new hp)) (W.new i3 hp) (Dv.tup (SqT.of upd_same) ((ha.cut l u).mv (Mv.new hp) (W.mu _ _ i3))).sv q3)
end
end Kq
/-! K3: operators and built-in functions on data. -/
namespace Kq
open PySem PySem.Spec PyProof.Rows L2
section
variable {X : Cx} {W : Wd} {s : W.St} {Q : W.St → Sv → Prop}

/-! ### operators -/
theorem od_val {f : Value → Value → Sem Value} {r : R2} (ho : OpR X f r) {x y z : PyData} (q : Q s (.d z))
    (k : ∀ v w H R, W.I s H → Dv X.K W.u H v x → Dv X.K W.u H w y → (∀ t, Dv X.K W.u H t z → R t H) → r v w H R) : OD X W f (.d x) (.d y) s Q :=
  .mk fun v w H R hI o1 o2 hR => op_w ho (k v w H R hI o1 o2 fun t o => hR t H s _ Mv.refl hI o.sv q)
theorem od_add {i j : Int} (q : Q s (.d (.int (i + j)))) : OD X W (binaryOp .Add) (.d (.int i)) (.d (.int j)) s Q := od_val op_add q fun v w H R hI o1 o2 k => by
  cases o1; cases o2; exact ⟨i, j, rfl, rfl, k _ (.int _)⟩
theorem od_sub {i j : Int} (q : Q s (.d (.int (i - j)))) : OD X W (binaryOp .Sub) (.d (.int i)) (.d (.int j)) s Q := od_val op_sub q fun v w H R hI o1 o2 k => by
  cases o1; cases o2; exact ⟨i, j, rfl, rfl, k _ (.int _)⟩
theorem od_mul {i j : Int} (hc : CMul i j) (q : Q s (.d (.int (i * j)))) : OD X W (binaryOp .Mult) (.d (.int i)) (.d (.int j)) s Q := od_val op_mul q fun v w H R hI o1 o2 k => by
  cases o1; cases o2; exact ⟨i, j, rfl, rfl, hc, k _ (.int _)⟩
theorem od_fdiv {i j : Int} (hc : CDiv i j) (q : Q s (.d (.int (i / j)))) : OD X W (binaryOp .FloorDiv) (.d (.int i)) (.d (.int j)) s Q := od_val op_fdiv q fun v w H R hI o1 o2 k => by
  cases o1; cases o2; exact ⟨i, j, rfl, rfl, hc, k _ (.int _)⟩
theorem od_mod {i j : Int} (hc : 0 < j) (q : Q s (.d (.int (i % j)))) : OD X W (binaryOp .Mod) (.d (.int i)) (.d (.int j)) s Q := od_val op_mod q fun v w H R hI o1 o2 k => by
  cases o1; cases o2; exact ⟨i, j, rfl, rfl, hc, k _ (.int _)⟩
theorem od_lt {i j : Int} (q : Q s (.d (.bool (decide (i < j))))) : OD X W (compareOp .Lt) (.d (.int i)) (.d (.int j)) s Q := od_val op_lt q fun v w H R hI o1 o2 k => by
  cases o1; cases o2; exact ⟨i, j, rfl, rfl, k _ (.bl _)⟩
theorem od_le {i j : Int} (q : Q s (.d (.bool (decide (i ≤ j))))) : OD X W (compareOp .LtE) (.d (.int i)) (.d (.int j)) s Q := od_val op_le q fun v w H R hI o1 o2 k => by
  cases o1; cases o2; exact ⟨i, j, rfl, rfl, k _ (.bl _)⟩
theorem od_gt {i j : Int} (q : Q s (.d (.bool (decide (j < i))))) : OD X W (compareOp .Gt) (.d (.int i)) (.d (.int j)) s Q := od_val op_gt q fun v w H R hI o1 o2 k => by
  cases o1; cases o2; exact ⟨i, j, rfl, rfl, k _ (.bl _)⟩
theorem od_ge {i j : Int} (q : Q s (.d (.bool (decide (j ≤ i))))) : OD X W (compareOp .GtE) (.d (.int i)) (.d (.int j)) s Q := od_val op_ge q fun v w H R hI o1 o2 k => by
  cases o1; cases o2; exact ⟨i, j, rfl, rfl, k _ (.bl _)⟩
theorem od_eq {d e : PyData} (hu : X.A.units + 64 < cLine) (hd : SeqAt.shaped d = true) (he : SeqAt.shaped e = true) (q : Q s (.d (.bool (PyData.eqv d e)))) : OD X W (compareOp .Eq) (.d d) (.d e) s Q :=
  od_val (op_eqD hu) q fun v w H R hI o1 o2 k => ⟨d, e, o1.dp, o2.dp, hd, he, k _ (.bl _)⟩
theorem od_ne {d e : PyData} (hu : X.A.units + 64 < cLine) (hd : SeqAt.shaped d = true) (he : SeqAt.shaped e = true) (q : Q s (.d (.bool (!PyData.eqv d e)))) : OD X W (compareOp .NotEq) (.d d) (.d e) s Q :=
  od_val (op_neD hu) q fun v w H R hI o1 o2 k => ⟨d, e, o1.dp, o2.dp, hd, he, k _ (.bl _)⟩
def rInT (K : PySem.W.Frag) : R2 := fun x y H Q => ∃ d ds, Dp K H x d ∧ Dp K H y (.tuple ds) ∧ SeqAt.shaped d = true ∧ SeqAt.shaped (.tuple ds) = true ∧ Q (.bl (ds.any fun z => PyData.eqv z d)) H
theorem op_inT (hu : X.A.units + 65 < cLine) : OpR X (compareOp .In) (rInT X.K) := by
  intro pins s σ H x y v u Q I rx ry h
  obtain ⟨d, ds, hd, he, sd, se, q⟩ := h
  obtain ⟨as, r1⟩ := Dp.reads I d x v hd rx
  obtain ⟨bs, r2⟩ := Dp.reads I (.tuple ds) y u he ry
  exact SeqAt.in_tuple_reads r2 r1 (SeqAt.canLay_of_shaped se) (SeqAt.canLay_of_shaped sd) (room_in_shaped sd hu) ⟨.bl _, H, I, rfl, q⟩
def rNotInT (K : PySem.W.Frag) : R2 := fun x y H Q => ∃ d ds, Dp K H x d ∧ Dp K H y (.tuple ds) ∧ SeqAt.shaped d = true ∧ SeqAt.shaped (.tuple ds) = true ∧ Q (.bl (!ds.any fun z => PyData.eqv z d)) H
theorem op_notInT (hu : X.A.units + 65 < cLine) : OpR X (compareOp .NotIn) (rNotInT X.K) := by
  intro pins s σ H x y v u Q I rx ry h
  obtain ⟨d, ds, hd, he, sd, se, q⟩ := h
  obtain ⟨as, r1⟩ := Dp.reads I d x v hd rx
  obtain ⟨bs, r2⟩ := Dp.reads I (.tuple ds) y u he ry
  exact SeqAt.notIn_tuple_reads r2 r1 (SeqAt.canLay_of_shaped se) (SeqAt.canLay_of_shaped sd) (room_in_shaped sd hu) ⟨.bl _, H, I, rfl, q⟩
theorem od_inT {d : PyData} {ds : List PyData} (hu : X.A.units + 65 < cLine) (hd : SeqAt.shaped d = true) (he : SeqAt.shaped (.tuple ds) = true) (q : Q s (.d (.bool (ds.any fun z => PyData.eqv z d)))) : OD X W (compareOp .In) (.d d) (.d (.tuple ds)) s Q :=
  od_val (op_inT hu) q fun v w H R hI o1 o2 k => ⟨d, ds, o1.dp, o2.dp, hd, he, k _ (.bl _)⟩
theorem od_notInT {d : PyData} {ds : List PyData} (hu : X.A.units + 65 < cLine) (hd : SeqAt.shaped d = true) (he : SeqAt.shaped (.tuple ds) = true) (q : Q s (.d (.bool (!ds.any fun z => PyData.eqv z d)))) : OD X W (compareOp .NotIn) (.d d) (.d (.tuple ds)) s Q :=
  od_val (op_notInT hu) q fun v w H R hI o1 o2 k => ⟨d, ds, o1.dp, o2.dp, hd, he, k _ (.bl _)⟩
theorem od_inL {d : PyData} {ds : List PyData} (hu : X.A.units + 65 < cLine) (hd : SeqAt.shaped d = true) (he : SeqAt.shaped (.list ds) = true) (q : Q s (.d (.bool (ds.any fun z => PyData.eqv z d)))) : OD X W (compareOp .In) (.d d) (.d (.list ds)) s Q :=
  od_val (op_inD hu) q fun v w H R hI o1 o2 k => ⟨d, ds, o1.dp, o2.dp, hd, he, k _ (.bl _)⟩
theorem od_notInL {d : PyData} {ds : List PyData} (hu : X.A.units + 65 < cLine) (hd : SeqAt.shaped d = true) (he : SeqAt.shaped (.list ds) = true) (q : Q s (.d (.bool (!ds.any fun z => PyData.eqv z d)))) : OD X W (compareOp .NotIn) (.d d) (.d (.list ds)) s Q :=
  od_val (op_notInD hu) q fun v w H R hI o1 o2 k => ⟨d, ds, o1.dp, o2.dp, hd, he, k _ (.bl _)⟩
theorem od_inS {c : Nat} {z : Str} (q : Q s (.d (.bool (decide (c ∈ z.cps.toList))))) : OD X W (compareOp .In) (.d (.str ⟨#[c]⟩)) (.d (.str z)) s Q :=
  od_val op_in_sign q fun v w H R hI o1 o2 k => by cases o1; cases o2; exact ⟨c, z, rfl, rfl, k _ (.bl _)⟩
theorem od_isN {x : PyData} (q : Q s (.d (.bool (match x with | .none => true | _ => false)))) : OD X W (compareOp .Is) (.d x) (.d .none) s Q :=
  .mk fun v w H R hI o1 o2 hR => op_w op_isN (by
    have o1 : Dv X.K W.u H v x := o1
    have o2 : Dv X.K W.u H w .none := o2
    cases o2
    refine ⟨rfl, hR _ H s _ Mv.refl hI (Dv.bl _).sv ?_⟩
    cases o1 <;> exact q)
theorem od_notN {x : PyData} (q : Q s (.d (.bool (match x with | .none => false | _ => true)))) : OD X W (compareOp .IsNot) (.d x) (.d .none) s Q :=
  .mk fun v w H R hI o1 o2 hR => op_w op_notN (by
    have o1 : Dv X.K W.u H v x := o1
    have o2 : Dv X.K W.u H w .none := o2
    cases o2
    refine ⟨rfl, hR _ H s _ Mv.refl hI (Dv.bl _).sv ?_⟩
    cases o1 <;> exact q)
theorem od_addS {x y : Str} (hz : x.length + y.length ≤ sizeLine) (q : Q s (.d (.str (x ++ y)))) : OD X W (binaryOp .Add) (.d (.str x)) (.d (.str y)) s Q :=
  od_val op_add_str q fun v w H R hI o1 o2 k => by cases o1; cases o2; exact ⟨x, y, rfl, rfl, hz, k _ (.str _)⟩
theorem od_catL {ds es : List PyData} (hz : ds.length + es.length ≤ sizeLine) (q : Q s (.d (.list (ds ++ es)))) : OD X W (binaryOp .Add) (.d (.list ds)) (.d (.list es)) s Q :=
  .mk fun v w H R hI o1 o2 hR => op_w op_cat (by
    cases o1 with
    | lst n1 e1 a1 =>
      cases o2 with
      | lst n2 e2 a2 =>
        refine ⟨_, _, _, _, rfl, rfl, e1, e2, by rw [a1.length, a2.length]; exact hz, fun p hp => ?_⟩
        exact hR _ _ s _ (Mv.new hp) (W.new hI hp) (Dv.lst (W.fresh hI hp) upd_same ((a1.append a2).mv (Mv.new hp) (W.mu _ _ hI))).sv q)
theorem od_catT {ds es : List PyData} (hz : ds.length + es.length ≤ sizeLine) (q : Q s (.d (.tuple (ds ++ es)))) : OD X W (binaryOp .Add) (.d (.tuple ds)) (.d (.tuple es)) s Q :=
  .mk fun v w H R hI o1 o2 hR => op_w op_catA (by
    cases o1 with
    | tup e1 a1 =>
      cases o2 with
      | tup e2 a2 =>
        refine ⟨_, _, _, _, rfl, rfl, e1, e2, by rw [a1.length, a2.length]; exact hz, fun hx => ?_, fun hx hy => ?_, fun hx hy p hp => ?_⟩
        · subst hx
          cases a1
          exact hR _ H s _ Mv.refl hI (Dv.tup e2 a2).sv q
        · subst hy
          cases a2
          rw [List.append_nil] at q
          exact hR _ H s _ Mv.refl hI (Dv.tup e1 a1).sv q
        · exact hR _ _ s _ (Mv.new hp) (W.new hI hp) (Dv.tup (SqT.of upd_same) ((a1.append a2).mv (Mv.new hp) (W.mu _ _ hI))).sv q)

/-! ### calls of built-in functions on data -/
theorem cd_val {f : Value} {r : List V → Hp → VK → Prop} (ho : CallR X f r) {xs : List Sv} {z : PyData} (q : Q s (.d z))
    (k : ∀ vs H R, W.I s H → SvA X.K W.u H vs xs → (∀ t, Dv X.K W.u H t z → R t H) → r vs H R) : CD X W f xs s Q :=
  .mk fun vs H R hI o hR => call_w ho (k vs H R hI o fun t o => hR t H s _ Mv.refl hI o.sv q)
theorem SvA.one {K : PySem.W.Frag} {u : List Addr} {H : Hp} {vs : List V} {x : Sv} (h : SvA K u H vs [x]) : ∃ v, vs = [v] ∧ SvOk K u H v x := by
  cases h with
  | cons h t => cases t; exact ⟨_, rfl, h⟩
theorem SvA.two {K : PySem.W.Frag} {u : List Addr} {H : Hp} {vs : List V} {x y : Sv} (h : SvA K u H vs [x, y]) : ∃ v w, vs = [v, w] ∧ SvOk K u H v x ∧ SvOk K u H w y := by
  cases h with
  | cons h t =>
    obtain ⟨w, rfl, h2⟩ := t.one
    exact ⟨_, w, rfl, h, h2⟩
theorem cd_lenL {ds : List PyData} (q : Q s (.d (.int ds.length))) : CD X W (.builtin "len") [.d (.list ds)] s Q := cd_val call_len_seq q fun vs H R hI o k => by
  obtain ⟨v, rfl, oo⟩ := o.one
  cases oo with
  | lst n e a => exact ⟨_, _, rfl, .inl (SqL.of e), by rw [a.length]; exact k _ (.int _)⟩
theorem cd_lenT {ds : List PyData} (q : Q s (.d (.int ds.length))) : CD X W (.builtin "len") [.d (.tuple ds)] s Q := cd_val call_len_seq q fun vs H R hI o k => by
  obtain ⟨v, rfl, oo⟩ := o.one
  cases oo with
  | tup e a => exact ⟨_, _, rfl, .inr e, by rw [a.length]; exact k _ (.int _)⟩
theorem cd_lenS {z : Str} (hz : z.length ≤ sizeLine) (q : Q s (.d (.int z.length))) : CD X W (.builtin "len") [.d (.str z)] s Q := cd_val call_len_str q fun vs H R hI o k => by
  obtain ⟨v, rfl, oo⟩ := o.one
  cases oo
  exact ⟨z, rfl, hz, k _ (.int _)⟩
theorem cd_max {ns : List Int} (h0 : 0 < ns.length) (q : ∀ m, m ∈ ns → (∀ y ∈ ns, y ≤ m) → Q s (.d (.int m))) (hc : X.calm = true := by rfl) : CD X W (.builtin "max") [.d (.list (ns.map .int))] s Q :=
  .mk fun vs H R hI o hR => call_w (cr_max hc) (by
    obtain ⟨v, rfl, oo⟩ := o.one
    cases oo with
    | lst n e a =>
      have ea := a.ints
      subst ea
      exact ⟨_, ns, rfl, SqL.of e, h0, fun m hm hy => hR _ H s _ Mv.refl hI (Dv.int m).sv (q m hm hy)⟩)
theorem cd_max2 {i j : Int} (q : Q s (.d (.int (if j > i then j else i)))) (hc : X.calm = true := by rfl) : CD X W (.builtin "max") [.d (.int i), .d (.int j)] s Q := cd_val (call_max2 hc) q fun vs H R hI o k => by
  obtain ⟨v, w, rfl, o1, o2⟩ := o.two
  cases o1; cases o2
  exact ⟨i, j, rfl, k _ (.int _)⟩
theorem cd_min2 {i j : Int} (q : Q s (.d (.int (if j < i then j else i)))) (hc : X.calm = true := by rfl) : CD X W (.builtin "min") [.d (.int i), .d (.int j)] s Q := cd_val (call_min2 hc) q fun vs H R hI o k => by
  obtain ⟨v, w, rfl, o1, o2⟩ := o.two
  cases o1; cases o2
  exact ⟨i, j, rfl, k _ (.int _)⟩
theorem cd_sum {ns : List Int} (q : Q s (.d (.int ns.sum))) (hc : X.calm = true := by rfl) : CD X W (.builtin "sum") [.d (.list (ns.map .int))] s Q := cd_val (cr_sum hc) q fun vs H R hI o k => by
  obtain ⟨v, rfl, oo⟩ := o.one
  cases oo with
  | lst n e a =>
    have ea := a.ints
    subst ea
    exact ⟨_, ns, rfl, SqL.of e, k _ (.int _)⟩
theorem cd_all {bs : List Bool} (q : Q s (.d (.bool (bs.all id)))) (hc : X.calm = true := by rfl) : CD X W (.builtin "all") [.d (.list (bs.map .bool))] s Q := cd_val (cr_all hc) q fun vs H R hI o k => by
  obtain ⟨v, rfl, oo⟩ := o.one
  cases oo with
  | lst n e a =>
    have ea := a.bls
    subst ea
    exact ⟨_, bs, rfl, SqL.of e, k _ (.bl _)⟩
theorem cd_abs {i : Int} (q : Q s (.d (.int (if i < 0 then -i else i)))) : CD X W (.builtin "abs") [.d (.int i)] s Q := cd_val call_abs q fun vs H R hI o k => by
  obtain ⟨v, rfl, oo⟩ := o.one
  cases oo
  exact ⟨i, rfl, k _ (.int _)⟩
theorem cd_int {i : Int} (q : Q s (.d (.int i))) : CD X W (.type "int") [.d (.int i)] s Q := cd_val call_int1 q fun vs H R hI o k => by
  obtain ⟨v, rfl, oo⟩ := o.one
  cases oo
  exact .inl ⟨i, rfl, k _ (.int _)⟩
theorem cd_str {i : Int} (hz : i.natAbs.log2 < 1920) (q : Q s (.d (.str (toString i)))) : CD X W (.type "str") [.d (.int i)] s Q := cd_val call_str_int q fun vs H R hI o k => by
  obtain ⟨v, rfl, oo⟩ := o.one
  cases oo
  exact ⟨i, rfl, hz, k _ (.str _)⟩
theorem cd_tupleL {ds : List PyData} (q : Q s (.d (.tuple ds))) : CD X W (.type "tuple") [.d (.list ds)] s Q := .mk fun vs H R hI o hR => call_w call_tuple_of (by
  obtain ⟨v, rfl, oo⟩ := o.one
  cases oo with
  | lst n e a => exact ⟨_, _, rfl, .inl ⟨SqL.of e, fun l hl => hR _ _ s _ (Mv.new hl) (W.new hI hl) (Dv.tup (SqT.of upd_same) (a.mv (Mv.new hl) (W.mu _ _ hI))).sv q⟩⟩)
/-- the built-in class of a datum -/
def tyD : PyData → String
  | .none => "NoneType"
  | .bool _ => "bool"
  | .int _ => "int"
  | .str _ => "str"
  | .list _ => "list"
  | .tuple _ => "tuple"
  | .dict _ => "dict"
theorem tyX_of {H : Hp} {v : V} {d : PyData} (h : Dv X.K W.u H v d) : TyX X.K H v (.type (tyD d)) := by
  cases h with
  | non => exact .base .non
  | bl b => exact .base (.bl b)
  | int i => exact .base (.int i)
  | str x => exact .base (.str x)
  | lst n e a => exact .base (.lst e)
  | tup e a =>
    rcases e with (e | ⟨o, e⟩) | ⟨o, its, n, e, c, _⟩
    · exact .base (.tup e)
    · exact .fTuple e
    · exact .kTuple e c
theorem cd_isi {d : PyData} {n : String} {b : Bool} (hk : PySem.W.kitOne X.K (.type (tyD d)) (.type n) = some b) (q : Q s (.d (.bool b))) :
    ∀ (vs : List V) (H : Hp) (R : VK), W.I s H → (∃ v, vs = [v, .ty n] ∧ Dv X.K W.u H v d) → (∀ v H' s' x, Mv W.u H H' → W.I s' H' → SvOk X.K W.u H' v x → Q s' x → R v H') → wC X (.builtin "isinstance") vs H R := fun vs H R hI o hR => by
  obtain ⟨v, rfl, o⟩ := o
  exact call_w call_isi ⟨v, .ty n, _, _, b, rfl, .ty n, tyX_of o, hk, hR _ H s _ Mv.refl hI (Dv.bl b).sv q⟩
end
end Kq
/-! K4: calls, statements, what is walked, comprehensions, a def's rule. -/
namespace Kq
open PySem PySem.Spec PyProof.Rows L2

/-! ### a def's promise on data: the weakest wish of its arguments -/
abbrev FT := ∀ W : Wd, W.St → List Sv → (W.St → Sv → Prop) → Prop
def spD (K : PySem.W.Frag) (F : FT) : Sp := fun vs H Q _ => ∃ (W : Wd) (s : W.St) (xs : List Sv) (QQ : W.St → Sv → Prop), W.I s H ∧ SvA K W.u H vs xs ∧ F W s xs QQ ∧ ∀ v H' s' x, Mv W.u H H' → W.I s' H' → SvOk K W.u H' v x → QQ s' x → Q v H'
structure Fc (P : Program) (w : World) (K : PySem.W.Frag) (mg : Str → Option Value) (base : Heap) (k : Nat) (x : Str) (dfl : List PyData) (F : FT) : Prop where
  ex : ∃ f fd ps dvs ds, FnOk P w K mg base CX0 k f fd ps (spD K F) ∧ mg x = some (.ref f) ∧ PySem.W.keepIn K (.ref f) = true ∧ Binds K fd ps ds ∧ Vals dvs ds ∧ ∀ u H, DvA K u H dvs dfl
abbrev FcX (X : Cx) := Fc X.prog X.w X.K X.mg X.base
theorem Fc.mono {P : Program} {w : World} {K : PySem.W.Frag} {mg : Str → Option Value} {base : Heap} {j k : Nat} {x : Str} {dfl : List PyData} {F : FT} (C : Fc P w K mg base j x dfl F) (h : j ≤ k) : Fc P w K mg base k x dfl F := by
  obtain ⟨f, fd, ps, dvs, ds, h1, h2⟩ := C.ex
  exact ⟨f, fd, ps, dvs, ds, h1.mono h, h2⟩
theorem Fc.imp {P : Program} {w : World} {K : PySem.W.Frag} {mg : Str → Option Value} {base : Heap} {k : Nat} {x : Str} {dfl : List PyData} {F F' : FT} (C : Fc P w K mg base k x dfl F) (h : ∀ W s xs Q, F' W s xs Q → F W s xs Q) : Fc P w K mg base k x dfl F' := by
  obtain ⟨f, fd, ps, dvs, ds, h1, h2⟩ := C.ex
  refine ⟨f, fd, ps, dvs, ds, h1.imp fun vs H Q E q => ?_, h2⟩
  obtain ⟨W, s, xs, QQ, a, b, c, d⟩ := q
  exact ⟨W, s, xs, QQ, a, b, h W s xs QQ c, d⟩
section
variable {X : Cx} {W : Wd} {s : W.St} {δ : De} {Q : W.St → Sv → Prop} {P : W.St → Bool → Prop} {e a b c : Expr} {es : List Expr} {p pos : Pos}

/-! ### calls -/
theorem ed_callB {x : Str} {id : String} (hg : Gl X x) (hm : X.mg x = none) (hv : bootBuiltins x = some (.builtin id)) (h : AD X W (e :: es) s δ fun s' xs => CD X W (.builtin id) xs s' Q) (hn : x ≠ "__name__" := by decide) (hdb : (x == ("__debug__" : Str)) = false := by decide)
    (he : starEach (e :: es) X.env = (false, eval e X.env) :: starEach es X.env := by rfl) (hpl : (backTo pos (starEach es X.env)).any (·.1) = false := by rfl) : ED X W (.Call (.Name x p) (e :: es) [] pos) s δ Q :=
  .mk fun σ H R hI hS hR => pe_w (pe_callB wC_call hg hm hv wA_pa hn hdb he hpl) (h σ H _ hI hS fun vs H1 s1 xs m1 i1 o1 q1 => q1 vs H1 _ i1 o1 fun v H2 s2 x m2 i2 o2 q2 => hR v H2 s2 x (m1.trans m2) i2 o2 q2)
theorem ed_callTy {x : Str} {T : String} (hg : Gl X x) (hm : X.mg x = none) (hv : bootBuiltins x = some (.type T)) (h : AD X W (e :: es) s δ fun s' xs => CD X W (.type T) xs s' Q) (hn : x ≠ "__name__" := by decide) (hdb : (x == ("__debug__" : Str)) = false := by decide)
    (he : starEach (e :: es) X.env = (false, eval e X.env) :: starEach es X.env := by rfl) (hpl : (backTo pos (starEach es X.env)).any (·.1) = false := by rfl) : ED X W (.Call (.Name x p) (e :: es) [] pos) s δ Q :=
  .mk fun σ H R hI hS hR => pe_w (pe_callTy wC_call hg hm hv wA_pa hn hdb he hpl) (h σ H _ hI hS fun vs H1 s1 xs m1 i1 o1 q1 => q1 vs H1 _ i1 o1 fun v H2 s2 x m2 i2 o2 q2 => hR v H2 s2 x (m1.trans m2) i2 o2 q2)
/-- isinstance(e, T) -/
theorem ed_isi {T : Str} {n : String} {p2 : Pos} (hg : Gl X "isinstance") (hm : X.mg "isinstance" = none) (hgT : Gl X T) (hmT : X.mg T = none) (hvT : bootBuiltins T = some (.type n))
    (h : ED X W e s δ fun s' x => ∃ d, x = .d d ∧ ∃ b, kitB (tyD d) n = some b ∧ Q s' (.d (.bool b))) (hn : T ≠ "__name__" := by decide) (hdb : (T == ("__debug__" : Str)) = false := by decide)
    (hs1 : starEach [e, .Name T p2] X.env = (false, eval e X.env) :: starEach [.Name T p2] X.env := by rfl) : ED X W (.Call (.Name "isinstance" p) [e, .Name T p2] [] pos) s δ Q :=
  .mk fun σ H R hI hS hR => pe_w (pe_callB (id := "isinstance") wC_call hg hm (by decide +kernel) (pa_cons wE_pe (pa_cons (pe_bltn (v := .ty n) hgT hmT hvT rfl hn hdb) pa_nil) hs1) (by decide) (by decide) hs1) (h σ H _ hI hS fun v H1 s1 x m1 i1 o1 q1 => by
    obtain ⟨d, rfl, b, hk, q1⟩ := q1
    exact cd_isi (X := X) (W := W) (s := s1) (Q := Q) (kit_ty hk) q1 _ H1 _ i1 ⟨v, rfl, o1⟩ fun v H2 s2 x m2 i2 o2 q2 => hR v H2 s2 x (m1.trans m2) i2 o2 q2)
/-- a def of the program -/
theorem ed_call {x : Str} {k : Nat} {dfl : List PyData} {F : FT} (C : FcX X k x dfl F) (hr : Room k X.A) (hg : Gl X x) (h : AD X W (e :: es) s δ fun s' xs => F W s' (xs ++ dfl.map .d) Q) (hdb : (x == ("__debug__" : Str)) = false := by decide)
    (he : starEach (e :: es) X.env = (false, eval e X.env) :: starEach es X.env := by rfl) (hpl : (backTo pos (starEach es X.env)).any (·.1) = false := by rfl) : ED X W (.Call (.Name x p) (e :: es) [] pos) s δ Q := .mk fun σ H R hI hS hR => by
  obtain ⟨f, fd, ps, dvs, ds, h1, h2, h3, h4, h5, h6⟩ := C.ex
  refine pe_w (pe_call (E := E0) h1 hr hg h2 h3 h4 h5 pass0 wA_pa hdb he hpl) (h σ H _ hI hS fun vs H1 s1 xs m1 i1 o1 q1 => ?_)
  exact ⟨W, s1, _, Q, i1, o1.append (h6 _ _).sv, q1, fun v H2 s2 x m2 i2 o2 q2 => hR v H2 s2 x (m1.trans m2) i2 o2 q2⟩
theorem ed_call0 {x : Str} {k : Nat} {dfl : List PyData} {F : FT} (C : FcX X k x dfl F) (hr : Room k X.A) (hg : Gl X x) (h : F W s (dfl.map .d) Q) (hdb : (x == ("__debug__" : Str)) = false := by decide) : ED X W (.Call (.Name x p) [] [] pos) s δ Q := .mk fun σ H R hI hS hR => by
  obtain ⟨f, fd, ps, dvs, ds, h1, h2, h3, h4, h5, h6⟩ := C.ex
  refine pe_w (pe_call0 (E := E0) h1 hr hg h2 h3 h4 h5 pass0 hdb) ?_
  exact ⟨W, s, _, Q, hI, (h6 _ _).sv, h, hR⟩

/-! ### targets -/
theorem gd_name (i : Nat) {x : Str} {y : Sv} {N : W.St → De → Prop} (hN : X.N.Nodup) (hi : X.N[i]? = some x) (hx : Loc X.env.scope x) (q : N s (δ.set i (some y)))
    (hf : X.fn x = true ∨ X.env.scope.names.lookup x = some .local := by first | exact .inl rfl | exact .inr rfl | assumption) : GD X W (.Name x pos) y s δ N := .mk fun v σ H R hI hS o hR =>
  pg_w (pg_name (i := i) hN hi hx hf) (hR _ H s _ Mv.refl hI (hS.set o) q)
/-- a pair -/
theorem gd_two (i j : Nat) {x y : Str} {k : Nat} {p1 p2 : Pos} {d1 d2 : PyData} {N : W.St → De → Prop} (hN : X.N.Nodup) (hi : X.N[i]? = some x) (hj : X.N[j]? = some y) (hx : Loc X.env.scope x) (hy : Loc X.env.scope y) (q : N s ((δ.set i (some (.d d1))).set j (some (.d d2))))
    (hf : X.fn x = true ∨ X.env.scope.names.lookup x = some .local := by first | exact .inl rfl | exact .inr rfl | assumption) (hf2 : X.fn y = true ∨ X.env.scope.names.lookup y = some .local := by first | exact .inl rfl | exact .inr rfl | assumption)
    (hc : X.calm = true := by rfl) (hn : (assignEach [.Name x p1, .Name y p2] X.env).length = 2 := by rfl) (hst : (assignEach [.Name x p1, .Name y p2] X.env).findIdx? (·.1) = none := by rfl)
    (hs1 : (assignEach [.Name x p1, .Name y p2] X.env).map (·.2) = assign (.Name x p1) X.env :: (assignEach [.Name y p2] X.env).map (·.2) := by rfl) (hs2 : (assignEach [.Name y p2] X.env).map (·.2) = assign (.Name y p2) X.env :: (assignEach [] X.env).map (·.2) := by rfl) :
    GD X W (.Tuple [.Name x p1, .Name y p2] k pos) (.d (.tuple [d1, d2])) s δ N := .mk fun v σ H R hI hS o hR =>
  pg_w (pg_tup hc (pgs_cons (pg_name (i := i) hN hi hx hf) (pgs_cons (pg_name (i := j) hN hj hy hf2) pgs_nil hs2) hs1) hn hst) (by
    cases o with
    | tup e a =>
      cases a with
      | cons a1 a =>
        cases a with
        | cons a2 a =>
          cases a
          exact ⟨_, _, rfl, e, rfl, _, _, rfl, _, _, rfl, rfl, hR _ H s _ Mv.refl hI ((hS.set a1.sv).set a2.sv) q⟩)

/-! ### statements -/
variable {st : Stmt} {sts : List Stmt} {N : W.St → De → Prop} {R : W.St → Sv → Prop}
theorem sds_nil (q : N s δ) : SDs X W [] s δ N R := .mk fun σ H D hI hS hN hR => pss_w pss_nil (hN σ H s δ Mv.refl hI hS q)
theorem sds_cons (h : SD X W st s δ (fun s' δ' => SDs X W sts s' δ' N R) R) : SDs X W (st :: sts) s δ N R := .mk fun σ H D hI hS hN hR => pss_w (pss_cons wS_ps wSs_pss)
  (h σ H { D with nx := wSs X sts D } hI hS (fun σ' H' s' δ' m i g q => q σ' H' D i g (fun σ2 H2 s2 δ2 m2 i2 g2 q2 => hN σ2 H2 s2 δ2 (m.trans m2) i2 g2 q2) fun v H2 s2 x m2 i2 o2 q2 => hR v H2 s2 x (m.trans m2) i2 o2 q2) hR)
theorem sds_imp {N' : W.St → De → Prop} (h : SDs X W sts s δ N R) (k : ∀ s δ, N s δ → N' s δ) : SDs X W sts s δ N' R := .mk fun σ H D hI hS hN hR => h σ H D hI hS (fun σ' H' s' δ' m i g q => hN σ' H' s' δ' m i g (k s' δ' q)) hR
theorem sd_ret (h : ED X W e s δ R) : SD X W (.Return (some e) pos) s δ N R := .mk fun σ H D hI hS hN hR => ps_w (ps_ret wE_pe) (h σ H _ hI hS fun v H1 s1 x m1 i1 o1 q1 => hR v H1 s1 x m1 i1 o1 q1)
theorem sd_expr (h : ED X W e s δ fun s' _ => N s' δ) (hs : swapsWith e none pos.line X.env = pure false := by rfl) : SD X W (.Expr e pos) s δ N R :=
  .mk fun σ H D hI hS hN hR => ps_w (ps_expr wE_pe hs) (h σ H _ hI hS fun v H1 s1 x m1 i1 o1 q1 => hN σ H1 s1 δ m1 i1 (hS.mv m1 (W.mu _ _ hI)) q1)
theorem sd_if {t u : List Stmt} (h : TD X W c s δ fun s' k => if k = true then SDs X W t s' δ N R else SDs X W u s' δ N R) : SD X W (.If c t u pos) s δ N R :=
  .mk fun σ H D hI hS hN hR => ps_w (ps_if wT_pt wSs_pss wSs_pss) (h σ H _ hI hS fun k H1 s1 m1 i1 q1 => by
    have g := hS.mv m1 (W.mu _ _ hI)
    cases k with
    | true => exact (SDs.run q1) σ H1 D i1 g (fun σ2 H2 s2 δ2 m2 i2 g2 q2 => hN σ2 H2 s2 δ2 (m1.trans m2) i2 g2 q2) fun v H2 s2 x m2 i2 o2 q2 => hR v H2 s2 x (m1.trans m2) i2 o2 q2
    | false => exact (SDs.run q1) σ H1 D i1 g (fun σ2 H2 s2 δ2 m2 i2 g2 q2 => hN σ2 H2 s2 δ2 (m1.trans m2) i2 g2 q2) fun v H2 s2 x m2 i2 o2 q2 => hR v H2 s2 x (m1.trans m2) i2 o2 q2)
theorem sd_asg {tg : Expr} (h : ED X W e s δ fun s' x => GD X W tg x s' δ N) (hs : swapsWithSole [tg] e pos.line X.env = pure false := by rfl) (hw : swappedStores [tg] e X.env = pure none := by rfl) (h1 : (assignEach [tg] X.env).map (·.2) = [assign tg X.env] := by rfl) :
    SD X W (.Assign [tg] e pos) s δ N R := .mk fun σ H D hI hS hN hR => ps_w (ps_asg wE_pe wG_pg hs hw h1) (h σ H _ hI hS fun v H1 s1 x m1 i1 o1 q1 =>
      q1 v σ H1 _ i1 (hS.mv m1 (W.mu _ _ hI)) o1 fun σ2 H2 s2 δ2 m2 i2 g2 q2 => hN σ2 H2 s2 δ2 (m1.trans m2) i2 g2 q2)
/-- name = e -/
theorem sd_set (i : Nat) {x : Str} {p' : Pos} (hN : X.N.Nodup) (hi : X.N[i]? = some x) (hx : Loc X.env.scope x) (h : ED X W e s δ fun s' y => N s' (δ.set i (some y))) (hs : swapsWith e (some (.Name x p')) pos.line X.env = pure false := by rfl)
    (hf : X.fn x = true ∨ X.env.scope.names.lookup x = some .local := by first | exact .inl rfl | exact .inr rfl | assumption) : SD X W (.Assign [.Name x p'] e pos) s δ N R :=
  .mk fun σ H D hI hS hN' hR => ps_w (ps_set (i := i) hN hi hx wE_pe hs hf) (h σ H _ hI hS fun v H1 s1 y m1 i1 o1 q1 => hN' _ H1 s1 _ m1 i1 ((hS.mv m1 (W.mu _ _ hI)).set o1) q1)
/-- a, b = x, y -/
theorem sd_par (i j : Nat) {x y : Str} {px py pt : Pos} {kt k2 : Nat} {pt2 : Pos} (hN : X.N.Nodup) (hi : X.N[i]? = some x) (hj : X.N[j]? = some y) (hij : i ≠ j)
    (hx : X.env.scope.names.lookup x = some .local) (hy : X.env.scope.names.lookup y = some .local) (h : ED X W a s δ fun s1 u => ED X W b s1 δ fun s2 w => N s2 ((δ.set i (some u)).set j (some w)))
    (hw : swappedStores [.Tuple [.Name x px, .Name y py] kt pt] (.Tuple [a, b] k2 pt2) X.env = pure (some [x, y])) (hc : X.calm = true := by rfl)
    (hs : swapsWithSole [.Tuple [.Name x px, .Name y py] kt pt] (.Tuple [a, b] k2 pt2) pos.line X.env = pure false := by rfl)
    (hs1 : starEach [a, b] X.env = (false, eval a X.env) :: starEach [b] X.env := by rfl) (hs2 : starEach [b] X.env = (false, eval b X.env) :: starEach [] X.env := by rfl) :
    SD X W (.Assign [.Tuple [.Name x px, .Name y py] kt pt] (.Tuple [a, b] k2 pt2) pos) s δ N R :=
  .mk fun σ H D hI hS hN' hR => ps_w (ps_par hc hN hi hj hij hx hy (pa_cons wE_pe (pa_cons wE_pe pa_nil hs2) hs1) hw hs) (h σ H _ hI hS fun v H1 s1 u m1 i1 o1 q1 =>
    q1 σ H1 _ i1 (hS.mv m1 (W.mu _ _ hI)) fun w H2 s2 y m2 i2 o2 q2 => ⟨v, w, rfl, hN' _ H2 s2 _ (m1.trans m2) i2 (((hS.mv (m1.trans m2) (W.mu _ _ hI)).set (o1.mv m2 (W.mu _ _ i1))).set o2) q2⟩)
theorem sd_never (h : False) : SD X W st s δ N R := h.elim

/-! ### what is walked -/
/-- from H on it gives the data ds in turn -/
structure JOk (X : Cx) (W : Wd) (J : It) (ds : List PyData) (H0 : Hp) : Prop where
  go : ∀ (i : Nat) (H : Hp), Mv W.u H0 H → i < ds.length → J.go i H
  stop : ∀ H : Hp, Mv W.u H0 H → J.stop ds.length H
  yld : ∀ (i : Nat) (H : Hp) (v : V) (H' : Hp), Mv W.u H0 H → (∀ b ∈ W.u, Mut (H b)) → i < ds.length → J.yld i H v H' → ∃ d, ds[i]? = some d ∧ Same H H' ∧ Dv X.K W.u H' v d
def wJ (X : Cx) (tg iter : Expr) : TI := fun σ H R => ∀ pins s, Inv X pins σ H s → wpAny (model X.prog X.w) X.A (eval iter X.env) (fun v s1 => wpAny (model X.prog X.w) X.A (pyIter v) (PIE X pins σ tg R) X.xe s1) X.xe s
theorem wJ_pi {tg iter : Expr} : PI X tg iter (wJ X tg iter) := ⟨fun pins s _ _ _ I h => h pins s I⟩
theorem pi_w {tg iter : Expr} {wi : TI} (h : PI X tg iter wi) {σ : L2.St} {H : Hp} {R : It → Hp → Prop} (q : wi σ H R) : wJ X tg iter σ H R := fun pins s I => h.run pins s σ H R I q
structure JD (X : Cx) (W : Wd) (tg iter : Expr) (s : W.St) (δ : De) (O : W.St → List PyData → Prop) : Prop where
  mk ::
  run : ∀ (σ : L2.St) (H : Hp) (R : It → Hp → Prop), W.I s H → Sg X.K W.u H σ δ → (∀ J H' s' ds, Mv W.u H H' → W.I s' H' → JOk X W J ds H' → O s' ds → R J H') → wJ X tg iter σ H R
instance {X : Cx} {W : Wd} {tg iter : Expr} {s : W.St} {δ : De} {O : W.St → List PyData → Prop} : CoeFun (JD X W tg iter s δ O) fun _ => ∀ (σ : L2.St) (H : Hp) (R : It → Hp → Prop), W.I s H → Sg X.K W.u H σ δ → (∀ J H' s' ds, Mv W.u H H' → W.I s' H' → JOk X W J ds H' → O s' ds → R J H') → wJ X tg iter σ H R := ⟨JD.run⟩
variable {tg : Expr} {O : W.St → List PyData → Prop}
theorem jd_list (h : ED X W e s δ fun s' x => ∃ ds, x = .d (.list ds) ∧ O s' ds) : JD X W tg e s δ O := .mk fun σ H R hI hS hR => pi_w (pi_list wE_pe) (h σ H _ hI hS fun v H1 s1 x m1 i1 o1 q1 => by
  obtain ⟨ds, rfl, q1⟩ := q1
  cases o1 with
  | @lst ad xs _ n1 e1 a1 =>
    refine ⟨_, rfl, ⟨_, SqL.of e1⟩, hR _ H1 s1 ds m1 i1 ⟨fun i H m hi => ?_, fun H m => ?_, fun i H v H' m mu hi y => ?_⟩ q1⟩
    · have q : SqL X.K H ad xs := SqL.of (m _ _ n1 e1)
      rw [← a1.length] at hi
      exact ⟨xs, xs[i], q, by simp [hi]⟩
    · exact ⟨xs, SqL.of (m _ _ n1 e1), by rw [a1.length]; exact Nat.le_refl _⟩
    · obtain ⟨rfl, hy⟩ := y
      obtain ⟨d, h1, h2⟩ := a1.get' (hy xs (SqL.of (m _ _ n1 e1)))
      exact ⟨d, h1, Same.refl _, h2.mv m (W.mu _ _ i1)⟩)
theorem jd_tup (h : ED X W e s δ fun s' x => ∃ ds, x = .d (.tuple ds) ∧ O s' ds) : JD X W tg e s δ O := .mk fun σ H R hI hS hR => pi_w (pi_tup wE_pe) (h σ H _ hI hS fun v H1 s1 x m1 i1 o1 q1 => by
  obtain ⟨ds, rfl, q1⟩ := q1
  cases o1 with
  | @tup ad xs _ e1 a1 =>
    have up : ∀ H, Mv W.u H1 H → SqT X.K H ad xs := fun H m => sqt_mv m (W.mu _ _ i1) e1
    refine ⟨_, rfl, ⟨_, e1⟩, hR _ H1 s1 ds m1 i1 ⟨fun i H m hi => ?_, fun H m => ?_, fun i H v H' m mu hi y => ?_⟩ q1⟩
    · rw [← a1.length] at hi
      exact ⟨xs, xs[i], up H m, by simp [hi]⟩
    · exact ⟨xs, up H m, by rw [a1.length]; exact Nat.le_refl _⟩
    · obtain ⟨rfl, hy⟩ := y
      obtain ⟨d, h1, h2⟩ := a1.get' (hy xs (up _ m))
      exact ⟨d, h1, Same.refl _, h2.mv m (W.mu _ _ i1)⟩)
/-- a text, sign by sign -/
def signs (z : Str) : List PyData := z.cps.toList.map fun c => .str ⟨#[c]⟩
theorem jd_str (h : ED X W e s δ fun s' x => ∃ z, x = .d (.str z) ∧ O s' (signs z)) : JD X W tg e s δ O := .mk fun σ H R hI hS hR => pi_w (pi_str wE_pe) (h σ H _ hI hS fun v H1 s1 x m1 i1 o1 q1 => by
  obtain ⟨z, rfl, q1⟩ := q1
  cases o1
  have hl : (signs z).length = z.cps.size := by unfold signs; rw [List.length_map, Array.length_toList]
  refine ⟨z, rfl, hR _ H1 s1 _ m1 i1 ⟨fun i H m hi => ?_, fun H m => ?_, fun i H v H' m mu hi y => ?_⟩ q1⟩
  · show i < z.cps.size
    rw [← hl]
    exact hi
  · show z.cps.size ≤ _
    rw [hl]
    exact Nat.le_refl _
  · obtain ⟨rfl, c, hc, rfl⟩ := y
    refine ⟨_, ?_, Same.refl _, .str _⟩
    unfold signs
    rw [List.getElem?_map, Array.getElem?_toList, hc]
    rfl)
def rangeD (n : Nat) : List PyData := (List.range n).map fun (i : Nat) => PyData.int (i : Int)
theorem jd_range (hg : Gl X "range") (hm : X.mg "range" = none) (h : ED X W e s δ fun s' x => ∃ n : Int, x = .d (.int n) ∧ -(2 ^ 62) ≤ n ∧ n < 2 ^ 62 ∧ O s' (rangeD n.toNat)) (hs : starEach [e] X.env = [(false, eval e X.env)] := by rfl) (hs2 : starEach [e] X.env = (false, eval e X.env) :: starEach [] X.env := by rfl) :
    JD X W tg (.Call (.Name "range" p) [e] [] pos) s δ O := .mk fun σ H R hI hS hR => pi_w (pi_range1 hg hm (pa_cons wE_pe pa_nil hs2) hs) (h σ H _ hI hS fun v H1 s1 x m1 i1 o1 q1 => by
  obtain ⟨n, rfl, h1, h2, q1⟩ := q1
  cases o1
  have hl : (rangeD n.toNat).length = n.toNat := by unfold rangeD; rw [List.length_map, List.length_range]
  refine ⟨n, rfl, h1, h2, hR _ H1 s1 _ m1 i1 ⟨fun i H m hi => ?_, fun H m => ?_, fun i H v H' m mu hi y => ?_⟩ q1⟩
  · show i < n.toNat
    rw [← hl]
    exact hi
  · show n.toNat ≤ _
    rw [hl]
    exact Nat.le_refl _
  · obtain ⟨rfl, rfl⟩ := y
    refine ⟨.int (0 + (i : Int)), ?_, Same.refl _, .int _⟩
    rw [hl] at hi
    unfold rangeD
    rw [List.getElem?_map, List.getElem?_range hi, Int.zero_add]
    rfl)

/-! ### loops -/
theorem sd_for {iter : Expr} {body : List Stmt} (hj : JD X W tg iter s δ fun s1 ds => ∃ Pv : Nat → W.St → De → Prop, Pv 0 s1 δ ∧
      (∀ i d s2 δ2, ds[i]? = some d → Pv i s2 δ2 → GD X W tg (.d d) s2 δ2 fun s3 δ3 => SDs X W body s3 δ3 (Pv (i + 1)) R) ∧ ∀ s2 δ2, Pv ds.length s2 δ2 → N s2 δ2)
    (hp : PassesOwn (model X.prog X.w) X.A X.env X.xe := by exact PassesOwn.never) (hc : X.calm = true := by rfl) (hs : ∀ x, foldedSetIterable iter X.env x = pure x := by intro _; rfl) : SD X W (.For tg iter body [] pos) s δ N R :=
  .mk fun σ H D hI hS hN hR => ps_w (ps_for hp hc wJ_pi wG_pg wSs_pss hs) (hj σ H _ hI hS fun J H1 s1 ds m1 i1 j1 q1 => by
    obtain ⟨Pv, h0, hstep, hd⟩ := q1
    refine ⟨fun i m σ' H' => m = ds.length - i ∧ i ≤ ds.length ∧ ∃ s' δ', Mv W.u H1 H' ∧ W.I s' H' ∧ Sg X.K W.u H' σ' δ' ∧ Pv i s' δ', ⟨ds.length, by simp, Nat.zero_le _, s1, δ, Mv.refl, i1, hS.mv m1 (W.mu _ _ hI), h0⟩, ?_⟩
    rintro i m σ' H' ⟨rfl, hi, s', δ', m', i', g', p'⟩
    by_cases hlt : i < ds.length
    · refine .inr ⟨j1.go i H' m' hlt, fun σ2 H2 => ∃ s2 δ2, Mv W.u H1 H2 ∧ W.I s2 H2 ∧ Sg X.K W.u H2 σ2 δ2 ∧ Pv (i + 1) s2 δ2, fun σ2 H2 h2 => ⟨ds.length - (i + 1), by omega, rfl, hlt, h2⟩, fun v H2 y => ?_⟩
      obtain ⟨d, hd1, hd2, hd3⟩ := j1.yld i H' v H2 m' (W.mu _ _ i') hlt y
      have m2 : Mv W.u H1 H2 := m'.trans (Same.mv hd2)
      refine hstep i d s' δ' hd1 p' v σ' H2 _ (W.same i' hd2) (g'.mv (Same.mv hd2) (W.mu _ _ i')) hd3.sv fun σ3 H3 s3 δ3 m3 i3 g3 q3 => ?_
      have m13 := m2.trans m3
      refine q3 σ3 H3 _ i3 g3 (fun σ4 H4 s4 δ4 m4 i4 g4 q4 => ⟨s4, δ4, m13.trans m4, i4, g4, q4⟩) fun v H4 s4 x m4 i4 o4 q4 => ?_
      exact hR v H4 s4 x ((m1.trans m13).trans m4) i4 o4 q4
    · have e : i = ds.length := by omega
      subst e
      exact .inl ⟨j1.stop H' m', hN σ' H' s' δ' (m1.trans m') i' g' (hd s' δ' p')⟩)
end

/-! ### a def -/
def startD (N : List Str) (xs : List Sv) : De := xs.map some ++ List.replicate (N.length - xs.length) none
theorem SvA.begin {K : PySem.W.Frag} {u : List Addr} {H : Hp} {N : List Str} {vs : List V} {xs : List Sv} (h : SvA K u H vs xs) : Sg K u H (L2.start N vs) (startD N xs) := by
  unfold L2.start startD
  refine ⟨by rw [List.length_append, List.length_append, List.length_map, List.length_map, List.length_replicate, List.length_replicate, h.length], fun i x e => ?_⟩
  have key : ∀ {vs : List V} {xs : List Sv}, SvA K u H vs xs → ∀ (i : Nat) (x : Sv), (xs.map some)[i]? = some (some x) → ∃ v, (vs.map some)[i]? = some (some v) ∧ SvOk K u H v x := by
    intro vs xs h
    induction h with
    | nil => intro i x e; simp at e
    | cons h t ih =>
      intro i x e
      cases i with
      | zero => simp at e; subst e; exact ⟨_, rfl, h⟩
      | succ i => exact ih i x (by simpa using e)
  by_cases hi : i < xs.length
  · rw [List.getElem?_append_left (by simpa using hi)] at e
    obtain ⟨v, h1, h2⟩ := key h i x e
    exact ⟨v, by rw [List.getElem?_append_left (by rw [List.length_map, h.length]; exact hi)]; exact h1, h2⟩
  · rw [List.getElem?_append_right (by simpa using hi), List.getElem?_replicate] at e
    split at e <;> cases e
/-- THE RULE for a def -/
theorem fn_D {P : Program} {w : World} {K : PySem.W.Frag} {mg : Str → Option Value} {base : Heap} {x qual : Str} {params : Arguments} {body : List Stmt} {scope : Scope} {dvs : List V} {kws : List (Str × V)} {f : Addr} {fd : FuncData} {N ps : List Str} {k : Nat} {F : FT}
    (Fu : FunD K x qual params body scope dvs kws f fd) (S : FnScope N ps scope) (len : ∀ W s xs Q, F W s xs Q → xs.length = ps.length)
    (hbody : ∀ (cdv : Value) (A : Around) (outer : List Env) (s : Shared) (H : Hp) (E : XK), Room k (A.deeper (envOfC qual scope s.heap.objs.size f cdv)) → ∀ (W : Wd) (t : W.St) (xs : List Sv) (Q : W.St → Sv → Prop), F W t xs Q →
      SDs (cxOf CX0 P w K mg base N qual scope f cdv A outer s H E).nox W body t (startD N xs) (fun t' _ => Q t' (.d .none)) Q) : FnOk P w K mg base CX0 (k + 1) f fd ps (spD K F) := by
  refine Fu.ok S (fun vs H Q E h => ?_) (fun cdv A outer s H vs Q E hr h => ?_)
  · obtain ⟨W, t, xs, QQ, hI, hA, hF, _⟩ := h
    rw [hA.length]
    exact len W t xs QQ hF
  · obtain ⟨W, t, xs, QQ, hI, hA, hF, hQ⟩ := h
    refine ⟨_, PSs.nox wSs_pss, hbody cdv A outer s H E hr W t xs QQ hF (L2.start N vs) H _ hI hA.begin (fun σ' H' t' δ' m i g q => hQ _ H' t' _ m i Dv.non.sv q) hQ⟩
end Kq
/-! K5: list comprehensions on data. -/
namespace Kq
open PySem PySem.Spec PyProof.Rows L2

theorem wipe_get (σ : L2.St) (j : Nat) : ∀ vs : List Nat, (L2.wipe σ vs)[j]? = if j ∈ vs ∧ j < σ.length then some none else σ[j]?
  | [] => by simp [L2.wipe]
  | v :: vs => by
    unfold L2.wipe
    by_cases h : v = j
    · subst h
      by_cases hl : v < σ.length
      · rw [List.getElem?_set_self (by rw [wipe_length]; exact hl), if_pos ⟨List.mem_cons_self, hl⟩]
      · rw [List.getElem?_eq_none (by rw [List.length_set, wipe_length]; omega), if_neg (fun z => hl z.2), List.getElem?_eq_none (by omega)]
    · rw [List.getElem?_set_ne h, wipe_get σ j vs]
      simp only [List.mem_cons, Ne.symm h, false_or]
theorem wipe_set {σ : L2.St} {vs : List Nat} {i : Nat} {y : Option V} (h : i ∈ vs) : L2.wipe ((L2.wipe σ vs).set i y) vs = L2.wipe σ vs := by
  refine List.ext_getElem? fun j => ?_
  rw [wipe_get, wipe_get, List.length_set, wipe_length]
  by_cases hj : j ∈ vs ∧ j < σ.length
  · rw [if_pos hj, if_pos hj]
  · rw [if_neg hj, if_neg hj]
    by_cases e : i = j
    · subst e
      have hl : ¬ i < σ.length := fun z => hj ⟨h, z⟩
      rw [List.getElem?_eq_none (by rw [List.length_set, wipe_length]; omega), List.getElem?_eq_none (by omega)]
    · rw [List.getElem?_set_ne e, wipe_get, if_neg hj]
theorem wipe_set2 {σ : L2.St} {vs : List Nat} {i j : Nat} {y z : Option V} (h : i ∈ vs) (h2 : j ∈ vs) : L2.wipe (((L2.wipe σ vs).set i y).set j z) vs = L2.wipe σ vs := by
  refine List.ext_getElem? fun l => ?_
  rw [wipe_get, wipe_get, List.length_set, List.length_set, wipe_length]
  by_cases hj : l ∈ vs ∧ l < σ.length
  · rw [if_pos hj, if_pos hj]
  · rw [if_neg hj, if_neg hj]
    by_cases e : j = l
    · subst e
      have hl : ¬ j < σ.length := fun z => hj ⟨h2, z⟩
      rw [List.getElem?_eq_none (by rw [List.length_set, List.length_set, wipe_length]; omega), List.getElem?_eq_none (by omega)]
    · rw [List.getElem?_set_ne e]
      by_cases e : i = l
      · subst e
        have hl : ¬ i < σ.length := fun z => hj ⟨h, z⟩
        rw [List.getElem?_eq_none (by rw [List.length_set, wipe_length]; omega), List.getElem?_eq_none (by omega)]
      · rw [List.getElem?_set_ne e, wipe_get, if_neg hj]

mutual
/-- no list stands in it -/
def noL : PyData → Bool
  | .list _ => false
  | .tuple xs => noLs xs
  | .dict _ => false
  | .none | .bool _ | .int _ | .str _ => true
def noLs : List PyData → Bool
  | [] => true
  | x :: xs => noL x && noLs xs
end
theorem Dv.tups {K : PySem.W.Frag} {u u' : List Addr} {H H' : Hp} (k : ∀ a xs, Rd H a (.tup xs) → Rd H' a (.tup xs)) {v : V} {d : PyData} (h : Dv K u H v d) : noL d = true → Dv K u' H' v d :=
  Dv.rec (motive_1 := fun v d _ => noL d = true → Dv K u' H' v d) (motive_2 := fun vs ds _ => noLs ds = true → DvA K u' H' vs ds)
    (fun _ => .non) (fun b _ => .bl b) (fun i _ => .int i) (fun x _ => .str x) (fun _ _ _ _ z => by simp [noL] at z) (fun e _ ih z => .tup (e.elim (fun e => .inl (k _ _ e)) .inr) (ih (by simpa [noL] using z)))
    (fun _ => .nil) (fun _ _ a b z => by
      simp only [noLs, Bool.and_eq_true] at z
      exact .cons (a z.1) (b z.2)) h
theorem DvA.tups {K : PySem.W.Frag} {u u' : List Addr} {H H' : Hp} (k : ∀ a xs, Rd H a (.tup xs) → Rd H' a (.tup xs)) {vs : List V} {ds : List PyData} (h : DvA K u H vs ds) : noLs ds = true → DvA K u' H' vs ds :=
  DvA.rec (motive_1 := fun v d _ => noL d = true → Dv K u' H' v d) (motive_2 := fun vs ds _ => noLs ds = true → DvA K u' H' vs ds)
    (fun _ => .non) (fun b _ => .bl b) (fun i _ => .int i) (fun x _ => .str x) (fun _ _ _ _ z => by simp [noL] at z) (fun e _ ih z => .tup (e.elim (fun e => .inl (k _ _ e)) .inr) (ih (by simpa [noL] using z)))
    (fun _ => .nil) (fun _ _ a b z => by
      simp only [noLs, Bool.and_eq_true] at z
      exact .cons (a z.1) (b z.2)) h
theorem noLs_append : ∀ {ds es : List PyData}, noLs ds = true → noLs es = true → noLs (ds ++ es) = true
  | [], _, _, h => h
  | d :: ds, es, h, k => by
    simp only [noLs, Bool.and_eq_true] at h
    show (noL d && noLs (ds ++ es)) = true
    rw [h.1, noLs_append h.2 k]
    rfl
theorem rd_put {H : Hp} {p : Addr} {xs ys : List V} (hp : H p = some (.lst xs)) (a : Addr) (zs : List V) (q : Rd H a (.tup zs)) : Rd (upd H p (.lst ys)) a (.tup zs) := by
  have np : a ≠ p := fun z => by
    subst z
    rcases q with q | ⟨o, q⟩ <;> (rw [hp] at q; cases q)
  rcases q with q | ⟨o, q⟩
  · exact .inl (by rw [upd_ne np]; exact q)
  · exact .inr ⟨o, by rw [upd_ne np]; exact q⟩
/-- a comprehension's block -/
structure BlkP where
  s : Shared
  H : Hp
  C : Addr
  cl : List (Str × Addr)
  fp : List Addr
abbrev bk (X : Cx) (scope : Scope) (p : BlkP) : Cx := X.blk p.s p.H scope (compEnvC scope p.cl p.C X.env) p.fp
def wIf (X : Cx) (ifs : List Expr) : TT := fun σ H Q => ∀ pins s, Inv X pins σ H s →
  wpAny (model X.prog X.w) X.A (forIn ifs true fun c r => if r = true then do let ok ← isTrue c X.env (eval c X.env); pure (ForInStep.yield ok) else pure (ForInStep.yield r)) (TP X pins σ Q) X.xe s
theorem wIf_pts {X : Cx} {ifs : List Expr} : PTs X ifs (wIf X ifs) := ⟨fun pins s _ _ _ I h => h pins s I⟩
theorem pts_w {X : Cx} {ifs : List Expr} {t : TT} (h : PTs X ifs t) {σ : L2.St} {H : Hp} {Q : Bool → Hp → Prop} (q : t σ H Q) : wIf X ifs σ H Q := fun pins s I => h.run pins s σ H Q I q
structure FD (X : Cx) (W : Wd) (ifs : List Expr) (s : W.St) (δ : De) (P : W.St → Bool → Prop) : Prop where
  mk ::
  run : ∀ (σ : L2.St) (H : Hp) (R : Bool → Hp → Prop), W.I s H → Sg X.K W.u H σ δ → (∀ b H' s', Mv W.u H H' → W.I s' H' → P s' b → R b H') → wIf X ifs σ H R
instance {X : Cx} {W : Wd} {ifs : List Expr} {s : W.St} {δ : De} {P : W.St → Bool → Prop} : CoeFun (FD X W ifs s δ P) fun _ => ∀ (σ : L2.St) (H : Hp) (R : Bool → Hp → Prop), W.I s H → Sg X.K W.u H σ δ → (∀ b H' s', Mv W.u H H' → W.I s' H' → P s' b → R b H') → wIf X ifs σ H R := ⟨FD.run⟩
section
variable {X : Cx} {W : Wd} {s : W.St} {δ : De} {Q : W.St → Sv → Prop} {P : W.St → Bool → Prop}
theorem fd_nil (q : P s true) : FD X W [] s δ P := .mk fun σ H R hI hS hR => pts_w pts_nil (hR true H s Mv.refl hI q)
theorem fd_one {c : Expr} (h : TD X W c s δ P) : FD X W [c] s δ P := .mk fun σ H R hI hS hR => pts_w (pts_one wT_pt) (h σ H R hI hS hR)

/-- what one turn does with a datum: the slots of the target, the tests, the element -/
def Turn1 (X : Cx) (W : Wd) (scope : Scope) (ifs : List Expr) (elt : Expr) (δ' : De) (s2 : W.St) (acc : List PyData) (Nx : W.St → List PyData → Prop) : Prop :=
  ∀ p : BlkP, FD (bk X scope p) W ifs s2 δ' fun s4 b => if b = true then ∀ p' : BlkP, ED (bk X scope p') W elt s4 δ' fun s5 y => ∃ dy, y = .d dy ∧ noL dy = true ∧ Nx s5 (acc ++ [dy]) else Nx s4 acc

variable {elt tg iter : Expr} {ifs : List Expr} {scope : Scope} {own : List (Str × Nat)} {pos : Pos}
/-- the reading, for any target -/
theorem lc_read {gd : PyData → W.St → De → (De → Prop) → Prop} {R : VK} {σ : L2.St} {H : Hp}
    (hgd : ∀ (d : PyData) (s2 : W.St) (v : V) (H2 : Hp) (σ2 : L2.St) (k : De → Prop) (Rk : L2.St → Hp → Prop), W.I s2 H2 → Sg X.K W.u H2 (L2.wipe σ2 (own.map (·.2))) (wipeD δ (own.map (·.2))) → Dv X.K W.u H2 v d → gd d s2 (wipeD δ (own.map (·.2))) k →
      (∀ σ3 δ3, Sg X.K W.u H2 σ3 δ3 → k δ3 → L2.wipe σ3 (own.map (·.2)) = L2.wipe σ2 (own.map (·.2)) → Rk σ3 H2) → ∀ p : BlkP, wG (bk X scope p) tg v (L2.wipe σ2 (own.map (·.2))) H2 Rk)
    (hI : W.I s H) (hS : Sg X.K W.u H σ δ)
    (hj : JD X W tg iter s δ fun s1 ds => ds.length ≤ sizeLine ∧ ∃ Pv : Nat → W.St → List PyData → Prop, Pv 0 s1 [] ∧
      (∀ i d s2 acc, ds[i]? = some d → acc.length ≤ i → Pv i s2 acc → gd d s2 (wipeD δ (own.map (·.2))) fun δ3 => Turn1 X W scope ifs elt δ3 s2 acc (Pv (i + 1))) ∧ ∀ s2 acc, acc.length ≤ ds.length → Pv ds.length s2 acc → Q s2 (.d (.list acc)))
    (hR : ∀ v H' s' x, Mv W.u H H' → W.I s' H' → SvOk X.K W.u H' v x → Q s' x → R v H') :
    tLc (wJ X tg iter) (fun v σ H Q => ∀ p : BlkP, wG (bk X scope p) tg v σ H Q) (fun σ H Q => ∀ p : BlkP, wIf (bk X scope p) ifs σ H Q) (fun σ H Q => ∀ p : BlkP, wE (bk X scope p) elt σ H Q) (own.map (·.2)) σ H R := by
  refine hj σ H _ hI hS fun J H1 s1 ds m1 i1 j1 q1 => ?_
  obtain ⟨hz, Pv, h0, hstep, hd⟩ := q1
  refine fun Dl hD => ?_
  have nD : Dl ∉ W.u := W.fresh i1 hD
  refine ⟨fun i m H' => m = ds.length - i ∧ i ≤ ds.length ∧ ∃ s' vs acc, Mv W.u H1 H' ∧ W.I s' H' ∧ H' Dl = some (.lst vs) ∧ DvA X.K W.u H' vs acc ∧ acc.length ≤ i ∧ noLs acc = true ∧ Pv i s' acc,
    ⟨ds.length, by simp, Nat.zero_le _, s1, [], [], Mv.new hD, W.new i1 hD, upd_same, .nil, Nat.le_refl _, rfl, h0⟩, ?_⟩
  rintro i m H' ⟨rfl, hi, s', vs, acc, m', i', hDl, ha, hl, hno, p'⟩
  have m01 := m1.trans m'
  by_cases hlt : i < ds.length
  · refine .inr ⟨j1.go i H' m' hlt, fun H2 => ∃ s2 vs acc, Mv W.u H1 H2 ∧ W.I s2 H2 ∧ H2 Dl = some (.lst vs) ∧ DvA X.K W.u H2 vs acc ∧ acc.length ≤ i + 1 ∧ noLs acc = true ∧ Pv (i + 1) s2 acc, fun H2 h2 => ⟨ds.length - (i + 1), by omega, rfl, hlt, h2⟩, fun v H2 y => ?_⟩
    obtain ⟨d, hd1, hd2, hd3⟩ := j1.yld i H' v H2 m' (W.mu _ _ i') hlt y
    have i2 : W.I s' H2 := W.same i' hd2
    have m2 : Mv W.u H1 H2 := m'.trans (Same.mv hd2)
    have hD2 : H2 Dl = some (.lst vs) := hd2 _ _ hDl
    have ha2 : DvA X.K W.u H2 vs acc := ha.mv (Same.mv hd2) (W.mu _ _ i')
    have g2 : Sg X.K W.u H2 (L2.wipe σ (own.map (·.2))) (wipeD δ (own.map (·.2))) := (hS.mv (m1.trans m2) (W.mu _ _ hI)).wipe _
    refine fun p0 => hgd d s' v H2 σ _ _ i2 g2 hd3 (hstep i d s' acc hd1 hl p') (fun σ3 δ3 g3 t3 hw => ⟨hw, fun p => ?_⟩) p0
    refine t3 p σ3 H2 _ i2 g3 fun b H4 s4 m4 i4 q4 => ?_
    have m24 := m2.trans m4
    have hD4 : H4 Dl = some (.lst vs) := m4 _ _ nD hD2
    have ha4 := ha2.mv m4 (W.mu _ _ i2)
    cases b with
    | false => exact ⟨s4, vs, acc, m24, i4, hD4, ha4, by omega, hno, q4⟩
    | true =>
      refine fun p => q4 p σ3 H4 _ i4 (g3.mv m4 (W.mu _ _ i2)) fun w H5 s5 y m5 i5 o5 q5 => ?_
      obtain ⟨dy, rfl, hny, q5⟩ := q5
      have m25 := m24.trans m5
      have hD5 : H5 Dl = some (.lst vs) := m5 _ _ nD hD4
      have ha5 := ha4.mv m5 (W.mu _ _ i4)
      have o5 : Dv X.K W.u H5 w dy := o5
      -- the new list is written: all else is kept, it is in none of the data
      refine ⟨vs, hD5, by rw [ha5.length]; omega, s5, vs ++ [w], acc ++ [dy], fun a o na e => ?_, W.put i5 nD hD5, upd_same, ?_, by rw [List.length_append, List.length_singleton]; omega, noLs_append hno (by show (noL dy && true) = true; rw [hny]; rfl), q5⟩
      · have ne : a ≠ Dl := ne_of_none e hD
        rw [upd_ne ne]
        exact m25 a o na e
      · exact (ha5.append (.cons o5 .nil)).tups (fun a zs q => rd_put hD5 a zs q) (noLs_append hno (by show (noL dy && true) = true; rw [hny]; rfl))
  · have e : i = ds.length := by omega
    subst e
    exact .inl ⟨j1.stop H' m', hR _ H' s' _ m01 i' (Dv.lst nD hDl ha).sv (hd s' acc hl p')⟩
/-- the target is a name -/
theorem ed_lc1 (i : Nat) {x : Str} {p2 : Pos} (hN : X.N.Nodup) (hi : X.N[i]? = some x) (ok : BlkOk X.N X.env.scope scope own) (hm : i ∈ own.map (·.2)) (hx : ∀ p : BlkP, Loc (bk X scope p).env.scope x)
    (hj : JD X W (.Name x p2) iter s δ fun s1 ds => ds.length ≤ sizeLine ∧ ∃ Pv : Nat → W.St → List PyData → Prop, Pv 0 s1 [] ∧
      (∀ j d s2 acc, ds[j]? = some d → acc.length ≤ j → Pv j s2 acc → Turn1 X W scope ifs elt ((wipeD δ (own.map (·.2))).set i (some (.d d))) s2 acc (Pv (j + 1))) ∧ ∀ s2 acc, acc.length ≤ ds.length → Pv ds.length s2 acc → Q s2 (.d (.list acc)))
    (hf : ∀ p : BlkP, (bk X scope p).fn x = true ∨ (bk X scope p).env.scope.names.lookup x = some .local := by intro _; first | exact .inl rfl | exact .inr rfl) (hc : X.calm = true := by rfl) (hs : ∀ x, foldedSetIterable iter X.env x = pure x := by intro _; rfl) :
    ED X W (.ListComp elt [⟨.Name x p2, iter, ifs, 0⟩] scope pos) s δ Q := .mk fun σ H R hI hS hR =>
  pe_w (pe_lc (own := own) hc hN wJ_pi ok (fun s0 H0 C cl fp => ⟨fun pins t _ _ _ u _ I r h => h ⟨s0, H0, C, cl, fp⟩ pins t u I r⟩) (fun s0 H0 C cl fp => ⟨fun pins t _ _ _ I h => h ⟨s0, H0, C, cl, fp⟩ pins t I⟩) (fun s0 H0 C cl fp => ⟨fun pins t _ _ _ I h => h ⟨s0, H0, C, cl, fp⟩ pins t I⟩) hs)
    (lc_read (gd := fun d s2 δ2 k => k (δ2.set i (some (.d d)))) (fun d s2 v H2 σ2 k Rk i2 g2 o2 hk hr p => pg_w (pg_name (X := bk X scope p) (i := i) hN hi (hx p) (hf p)) (hr _ _ (g2.set o2.sv) hk (wipe_set hm))) hI hS hj hR)
/-- the target is a pair of names -/
theorem ed_lc2 (i j : Nat) {x y : Str} {p1 p2 p3 : Pos} {kk : Nat} (hN : X.N.Nodup) (hi : X.N[i]? = some x) (hj' : X.N[j]? = some y) (ok : BlkOk X.N X.env.scope scope own) (hm : i ∈ own.map (·.2)) (hm2 : j ∈ own.map (·.2)) (hx : ∀ p : BlkP, Loc (bk X scope p).env.scope x) (hy : ∀ p : BlkP, Loc (bk X scope p).env.scope y)
    (hj : JD X W (.Tuple [.Name x p1, .Name y p2] kk p3) iter s δ fun s1 ds => ds.length ≤ sizeLine ∧ ∃ Pv : Nat → W.St → List PyData → Prop, Pv 0 s1 [] ∧
      (∀ l d s2 acc, ds[l]? = some d → acc.length ≤ l → Pv l s2 acc → ∃ d1 d2, d = .tuple [d1, d2] ∧ Turn1 X W scope ifs elt (((wipeD δ (own.map (·.2))).set i (some (.d d1))).set j (some (.d d2))) s2 acc (Pv (l + 1))) ∧ ∀ s2 acc, acc.length ≤ ds.length → Pv ds.length s2 acc → Q s2 (.d (.list acc)))
    (hs1 : ∀ p : BlkP, (assignEach [.Name x p1, .Name y p2] (bk X scope p).env).map (·.2) = assign (.Name x p1) (bk X scope p).env :: (assignEach [.Name y p2] (bk X scope p).env).map (·.2) := by intro _; rfl) (hs2 : ∀ p : BlkP, (assignEach [.Name y p2] (bk X scope p).env).map (·.2) = assign (.Name y p2) (bk X scope p).env :: (assignEach [] (bk X scope p).env).map (·.2) := by intro _; rfl)
    (hn : ∀ p : BlkP, (assignEach [.Name x p1, .Name y p2] (bk X scope p).env).length = 2 := by intro _; rfl) (hst : ∀ p : BlkP, (assignEach [.Name x p1, .Name y p2] (bk X scope p).env).findIdx? (·.1) = none := by intro _; rfl)
    (hf : ∀ p : BlkP, (bk X scope p).fn x = true ∨ (bk X scope p).env.scope.names.lookup x = some .local := by intro _; first | exact .inl rfl | exact .inr rfl) (hf2 : ∀ p : BlkP, (bk X scope p).fn y = true ∨ (bk X scope p).env.scope.names.lookup y = some .local := by intro _; first | exact .inl rfl | exact .inr rfl) (hc : X.calm = true := by rfl) (hs : ∀ x, foldedSetIterable iter X.env x = pure x := by intro _; rfl) :
    ED X W (.ListComp elt [⟨.Tuple [.Name x p1, .Name y p2] kk p3, iter, ifs, 0⟩] scope pos) s δ Q := .mk fun σ H R hI hS hR =>
  pe_w (pe_lc (own := own) hc hN wJ_pi ok (fun s0 H0 C cl fp => ⟨fun pins t _ _ _ u _ I r h => h ⟨s0, H0, C, cl, fp⟩ pins t u I r⟩) (fun s0 H0 C cl fp => ⟨fun pins t _ _ _ I h => h ⟨s0, H0, C, cl, fp⟩ pins t I⟩) (fun s0 H0 C cl fp => ⟨fun pins t _ _ _ I h => h ⟨s0, H0, C, cl, fp⟩ pins t I⟩) hs)
    (lc_read (gd := fun d s2 δ2 k => ∃ d1 d2, d = .tuple [d1, d2] ∧ k ((δ2.set i (some (.d d1))).set j (some (.d d2)))) (fun d s2 v H2 σ2 k Rk i2 g2 o2 hk hr p => by
      obtain ⟨d1, d2, rfl, hk⟩ := hk
      refine pg_w (pg_tup (X := bk X scope p) hc (pgs_cons (pg_name (i := i) hN hi (hx p) (hf p)) (pgs_cons (pg_name (i := j) hN hj' (hy p) (hf2 p)) pgs_nil (hs2 p)) (hs1 p)) (hn p) (hst p)) ?_
      cases o2 with
      | tup e a =>
        cases a with
        | cons a1 a =>
          cases a with
          | cons a2 a =>
            cases a
            exact ⟨_, _, rfl, e, rfl, _, _, rfl, _, _, rfl, rfl, hr _ _ ((g2.set a1.sv).set a2.sv) hk (wipe_set2 hm hm2)⟩) hI hS hj hR)
/-- name = [..] on one line -/
theorem sd_lc1 (l i : Nat) {y x : Str} {py p2 spos : Pos} {N : W.St → De → Prop} {R : W.St → Sv → Prop} (hN : X.N.Nodup) (hl : X.N[l]? = some y) (hyl : X.env.scope.names.lookup y = some .local) (hi : X.N[i]? = some x) (ok : BlkOk X.N X.env.scope scope own) (hm : i ∈ own.map (·.2)) (hx : ∀ p : BlkP, Loc (bk X scope p).env.scope x)
    (hsw : swapsWith (.ListComp elt [⟨.Name x p2, iter, ifs, 0⟩] scope pos) (some (.Name y py)) spos.line X.env = pure true)
    (hj : JD X W (.Name x p2) iter s δ fun s1 ds => ds.length ≤ sizeLine ∧ ∃ Pv : Nat → W.St → List PyData → Prop, Pv 0 s1 [] ∧
      (∀ j d s2 acc, ds[j]? = some d → acc.length ≤ j → Pv j s2 acc → Turn1 X W scope ifs elt ((wipeD δ (own.map (·.2))).set i (some (.d d))) s2 acc (Pv (j + 1))) ∧ ∀ s2 acc, acc.length ≤ ds.length → Pv ds.length s2 acc → N s2 (δ.set l (some (.d (.list acc)))))
    (hf : ∀ p : BlkP, (bk X scope p).fn x = true ∨ (bk X scope p).env.scope.names.lookup x = some .local := by intro _; first | exact .inl rfl | exact .inr rfl) (hc : X.calm = true := by rfl) (hs : ∀ x, foldedSetIterable iter X.env x = pure x := by intro _; rfl) :
    SD X W (.Assign [.Name y py] (.ListComp elt [⟨.Name x p2, iter, ifs, 0⟩] scope pos) spos) s δ N R := .mk fun σ H D hI hS hN' hR =>
  ps_w (ps_setLc (i := l) (own := own) hc hN hl hyl hsw wJ_pi ok (fun s0 H0 C cl fp => ⟨fun pins t _ _ _ u _ I r h => h ⟨s0, H0, C, cl, fp⟩ pins t u I r⟩) (fun s0 H0 C cl fp => ⟨fun pins t _ _ _ I h => h ⟨s0, H0, C, cl, fp⟩ pins t I⟩) (fun s0 H0 C cl fp => ⟨fun pins t _ _ _ I h => h ⟨s0, H0, C, cl, fp⟩ pins t I⟩) hs)
    (lc_read (Q := fun s2 z => ∃ acc, z = .d (.list acc) ∧ N s2 (δ.set l (some (.d (.list acc))))) (gd := fun d s2 δ2 k => k (δ2.set i (some (.d d)))) (fun d s2 v H2 σ2 k Rk i2 g2 o2 hk hr p => pg_w (pg_name (X := bk X scope p) (i := i) hN hi (hx p) (hf p)) (hr _ _ (g2.set o2.sv) hk (wipe_set hm))) hI hS
      (.mk fun σ H R hI hS hR => hj σ H R hI hS fun J H' s' ds m i j q => hR J H' s' ds m i j (by
        obtain ⟨q1, Pv, q2, q3, q4⟩ := q
        exact ⟨q1, Pv, q2, q3, fun s2 acc h1 h2 => ⟨acc, rfl, q4 s2 acc h1 h2⟩⟩)) fun v H' s' z m i o q => by
        obtain ⟨acc, rfl, q⟩ := q
        exact hN' _ H' s' _ m i ((hS.mv m (W.mu _ _ hI)).set o) q)
theorem sd_lc2 (l i j : Nat) {yy x y : Str} {py p1 p2 p3 spos : Pos} {kk : Nat} {N : W.St → De → Prop} {R : W.St → Sv → Prop} (hN : X.N.Nodup) (hl : X.N[l]? = some yy) (hyl : X.env.scope.names.lookup yy = some .local) (hi : X.N[i]? = some x) (hj' : X.N[j]? = some y) (ok : BlkOk X.N X.env.scope scope own) (hm : i ∈ own.map (·.2)) (hm2 : j ∈ own.map (·.2)) (hx : ∀ p : BlkP, Loc (bk X scope p).env.scope x) (hy : ∀ p : BlkP, Loc (bk X scope p).env.scope y)
    (hsw : swapsWith (.ListComp elt [⟨.Tuple [.Name x p1, .Name y p2] kk p3, iter, ifs, 0⟩] scope pos) (some (.Name yy py)) spos.line X.env = pure true)
    (hj : JD X W (.Tuple [.Name x p1, .Name y p2] kk p3) iter s δ fun s1 ds => ds.length ≤ sizeLine ∧ ∃ Pv : Nat → W.St → List PyData → Prop, Pv 0 s1 [] ∧
      (∀ l d s2 acc, ds[l]? = some d → acc.length ≤ l → Pv l s2 acc → ∃ d1 d2, d = .tuple [d1, d2] ∧ Turn1 X W scope ifs elt (((wipeD δ (own.map (·.2))).set i (some (.d d1))).set j (some (.d d2))) s2 acc (Pv (l + 1))) ∧ ∀ s2 acc, acc.length ≤ ds.length → Pv ds.length s2 acc → N s2 (δ.set l (some (.d (.list acc)))))
    (hs1 : ∀ p : BlkP, (assignEach [.Name x p1, .Name y p2] (bk X scope p).env).map (·.2) = assign (.Name x p1) (bk X scope p).env :: (assignEach [.Name y p2] (bk X scope p).env).map (·.2) := by intro _; rfl) (hs2 : ∀ p : BlkP, (assignEach [.Name y p2] (bk X scope p).env).map (·.2) = assign (.Name y p2) (bk X scope p).env :: (assignEach [] (bk X scope p).env).map (·.2) := by intro _; rfl)
    (hn : ∀ p : BlkP, (assignEach [.Name x p1, .Name y p2] (bk X scope p).env).length = 2 := by intro _; rfl) (hst : ∀ p : BlkP, (assignEach [.Name x p1, .Name y p2] (bk X scope p).env).findIdx? (·.1) = none := by intro _; rfl)
    (hf : ∀ p : BlkP, (bk X scope p).fn x = true ∨ (bk X scope p).env.scope.names.lookup x = some .local := by intro _; first | exact .inl rfl | exact .inr rfl) (hf2 : ∀ p : BlkP, (bk X scope p).fn y = true ∨ (bk X scope p).env.scope.names.lookup y = some .local := by intro _; first | exact .inl rfl | exact .inr rfl) (hc : X.calm = true := by rfl) (hs : ∀ x, foldedSetIterable iter X.env x = pure x := by intro _; rfl) :
    SD X W (.Assign [.Name yy py] (.ListComp elt [⟨.Tuple [.Name x p1, .Name y p2] kk p3, iter, ifs, 0⟩] scope pos) spos) s δ N R := .mk fun σ H D hI hS hN' hR =>
  ps_w (ps_setLc (i := l) (own := own) hc hN hl hyl hsw wJ_pi ok (fun s0 H0 C cl fp => ⟨fun pins t _ _ _ u _ I r h => h ⟨s0, H0, C, cl, fp⟩ pins t u I r⟩) (fun s0 H0 C cl fp => ⟨fun pins t _ _ _ I h => h ⟨s0, H0, C, cl, fp⟩ pins t I⟩) (fun s0 H0 C cl fp => ⟨fun pins t _ _ _ I h => h ⟨s0, H0, C, cl, fp⟩ pins t I⟩) hs)
    (lc_read (Q := fun s2 z => ∃ acc, z = .d (.list acc) ∧ N s2 (δ.set l (some (.d (.list acc))))) (gd := fun d s2 δ2 k => ∃ d1 d2, d = .tuple [d1, d2] ∧ k ((δ2.set i (some (.d d1))).set j (some (.d d2)))) (fun d s2 v H2 σ2 k Rk i2 g2 o2 hk hr p => by
      obtain ⟨d1, d2, rfl, hk⟩ := hk
      refine pg_w (pg_tup (X := bk X scope p) hc (pgs_cons (pg_name (i := i) hN hi (hx p) (hf p)) (pgs_cons (pg_name (i := j) hN hj' (hy p) (hf2 p)) pgs_nil (hs2 p)) (hs1 p)) (hn p) (hst p)) ?_
      cases o2 with
      | tup e a =>
        cases a with
        | cons a1 a =>
          cases a with
          | cons a2 a =>
            cases a
            exact ⟨_, _, rfl, e, rfl, _, _, rfl, _, _, rfl, rfl, hr _ _ ((g2.set a1.sv).set a2.sv) hk (wipe_set2 hm hm2)⟩) hI hS
      (.mk fun σ H R hI hS hR => hj σ H R hI hS fun J H' s' ds m i j q => hR J H' s' ds m i j (by
        obtain ⟨q1, Pv, q2, q3, q4⟩ := q
        exact ⟨q1, Pv, q2, q3, fun s2 acc h1 h2 => ⟨acc, rfl, q4 s2 acc h1 h2⟩⟩)) fun v H' s' z m i o q => by
        obtain ⟨acc, rfl, q⟩ := q
        exact hN' _ H' s' _ m i ((hS.mv m (W.mu _ _ hI)).set o) q)
end
end Kq
/-! F0: the text by places (printed by wip/gen/scopes.py). -/
namespace Kq
open PySem PySem.Spec PyProof.Rows L2
def topS (i : Nat) : Stmt := PySem.Challenge.pw_bykindalone_k20_whole_kinds_and_first_wr.main.body.getD i (.Pass ⟨0, 0, 0, 0⟩)

abbrev s_is_whole : Stmt := topS 6
abbrev n_is_whole : List Str := ["value"]
abbrev p_is_whole : List Str := ["value"]
theorem sc_is_whole : FnScope n_is_whole p_is_whole (defScope s_is_whole) := ⟨rfl, rfl, rfl, by decide +kernel, rfl, by decide +kernel, by decide +kernel⟩
abbrev s_is_variable : Stmt := topS 14
abbrev n_is_variable : List Str := ["value"]
abbrev p_is_variable : List Str := ["value"]
theorem sc_is_variable : FnScope n_is_variable p_is_variable (defScope s_is_variable) := ⟨rfl, rfl, rfl, by decide +kernel, rfl, by decide +kernel, by decide +kernel⟩
abbrev s_is_kinded : Stmt := topS 15
abbrev n_is_kinded : List Str := ["value", "deep", "each"]
abbrev p_is_kinded : List Str := ["value", "deep"]
theorem sc_is_kinded : FnScope n_is_kinded p_is_kinded (defScope s_is_kinded) := ⟨rfl, rfl, rfl, by decide +kernel, rfl, by decide +kernel, by decide +kernel⟩
abbrev s_is_named : Stmt := topS 24
abbrev n_is_named : List Str := ["value", "sign"]
abbrev p_is_named : List Str := ["value"]
theorem sc_is_named : FnScope n_is_named p_is_named (defScope s_is_named) := ⟨rfl, rfl, rfl, by decide +kernel, rfl, by decide +kernel, by decide +kernel⟩
abbrev s_is_element : Stmt := topS 25
abbrev n_is_element : List Str := ["sign", "value", "kind_deep"]
abbrev p_is_element : List Str := ["sign", "value", "kind_deep"]
theorem sc_is_element : FnScope n_is_element p_is_element (defScope s_is_element) := ⟨rfl, rfl, rfl, by decide +kernel, rfl, by decide +kernel, by decide +kernel⟩
abbrev s_wrong_by : Stmt := topS 26
abbrev n_wrong_by : List Str := ["value", "deep", "kind_deep", "index", "sign", "part", "found"]
abbrev p_wrong_by : List Str := ["value", "deep", "kind_deep"]
theorem sc_wrong_by : FnScope n_wrong_by p_wrong_by (defScope s_wrong_by) := ⟨rfl, rfl, rfl, by decide +kernel, rfl, by decide +kernel, by decide +kernel⟩
abbrev s_wrong_in_term : Stmt := topS 27
abbrev n_wrong_in_term : List Str := ["value"]
abbrev p_wrong_in_term : List Str := ["value"]
theorem sc_wrong_in_term : FnScope n_wrong_in_term p_wrong_in_term (defScope s_wrong_in_term) := ⟨rfl, rfl, rfl, by decide +kernel, rfl, by decide +kernel, by decide +kernel⟩
abbrev s_subterms : Stmt := topS 28
abbrev n_subterms : List Str := ["term", "index", "sign"]
abbrev p_subterms : List Str := ["term"]
theorem sc_subterms : FnScope n_subterms p_subterms (defScope s_subterms) := ⟨rfl, rfl, rfl, by decide +kernel, rfl, by decide +kernel, by decide +kernel⟩
abbrev s_K_init : Stmt := inClass (topS 30) 0
abbrev n_K_init : List Str := ["self"]
abbrev p_K_init : List Str := ["self"]
theorem sc_K_init : FnScope n_K_init p_K_init (defScope s_K_init) := ⟨rfl, rfl, rfl, by decide +kernel, rfl, by decide +kernel, by decide +kernel⟩
abbrev s_K_fail : Stmt := inClass (topS 30) 1
abbrev n_K_fail : List Str := ["self", "path"]
abbrev p_K_fail : List Str := ["self", "path"]
theorem sc_K_fail : FnScope n_K_fail p_K_fail (defScope s_K_fail) := ⟨rfl, rfl, rfl, by decide +kernel, rfl, by decide +kernel, by decide +kernel⟩
abbrev s_K_kind : Stmt := inClass (topS 30) 2
abbrev n_K_kind : List Str := ["self", "context", "term", "path", "found"]
abbrev p_K_kind : List Str := ["self", "context", "term", "path"]
theorem sc_K_kind : FnScope n_K_kind p_K_kind (defScope s_K_kind) := ⟨rfl, rfl, rfl, by decide +kernel, rfl, by decide +kernel, by decide +kernel⟩
abbrev s_K_kind_here : Stmt := inClass (topS 30) 3
abbrev n_K_kind_here : List Str := ["self", "context", "term", "path", "kinds", "index", "part"]
abbrev p_K_kind_here : List Str := ["self", "context", "term", "path"]
theorem sc_K_kind_here : FnScope n_K_kind_here p_K_kind_here (defScope s_K_kind_here) := ⟨rfl, rfl, rfl, by decide +kernel, rfl, by decide +kernel, by decide +kernel⟩
abbrev s_K_binding : Stmt := inClass (topS 30) 4
abbrev n_K_binding : List Str := ["self", "context", "term", "path", "inner", "side", "one", "two"]
abbrev p_K_binding : List Str := ["self", "context", "term", "path"]
theorem sc_K_binding : FnScope n_K_binding p_K_binding (defScope s_K_binding) := ⟨rfl, rfl, rfl, by decide +kernel, rfl, by decide +kernel, by decide +kernel⟩
abbrev s_K_built : Stmt := inClass (topS 30) 5
abbrev n_K_built : List Str := ["self", "term", "kinds", "path"]
abbrev p_K_built : List Str := ["self", "term", "kinds", "path"]
theorem sc_K_built : FnScope n_K_built p_K_built (defScope s_K_built) := ⟨rfl, rfl, rfl, by decide +kernel, rfl, by decide +kernel, by decide +kernel⟩
abbrev s_K_reckoned : Stmt := inClass (topS 30) 6
abbrev n_K_reckoned : List Str := ["self", "term", "kinds", "path", "first", "bad", "at", "kind"]
abbrev p_K_reckoned : List Str := ["self", "term", "kinds", "path"]
theorem sc_K_reckoned : FnScope n_K_reckoned p_K_reckoned (defScope s_K_reckoned) := ⟨rfl, rfl, rfl, by decide +kernel, rfl, by decide +kernel, by decide +kernel⟩
abbrev s_K_rowed : Stmt := inClass (topS 30) 7
abbrev n_K_rowed : List Str := ["self", "term", "kinds", "path", "turn"]
abbrev p_K_rowed : List Str := ["self", "term", "kinds", "path"]
theorem sc_K_rowed : FnScope n_K_rowed p_K_rowed (defScope s_K_rowed) := ⟨rfl, rfl, rfl, by decide +kernel, rfl, by decide +kernel, by decide +kernel⟩
abbrev s_kinds_by : Stmt := topS 31
abbrev n_kinds_by : List Str := ["context", "term", "kinder"]
abbrev p_kinds_by : List Str := ["context", "term"]
theorem sc_kinds_by : FnScope n_kinds_by p_kinds_by (defScope s_kinds_by) := ⟨rfl, rfl, rfl, by decide +kernel, rfl, by decide +kernel, by decide +kernel⟩
abbrev s_kind_by : Stmt := topS 32
abbrev n_kind_by : List Str := ["context", "term", "kinds", "wrong"]
abbrev p_kind_by : List Str := ["context", "term"]
theorem sc_kind_by : FnScope n_kind_by p_kind_by (defScope s_kind_by) := ⟨rfl, rfl, rfl, by decide +kernel, rfl, by decide +kernel, by decide +kernel⟩
abbrev s_check_term : Stmt := topS 34
abbrev n_check_term : List Str := ["value", "found"]
abbrev p_check_term : List Str := ["value"]
theorem sc_check_term : FnScope n_check_term p_check_term (defScope s_check_term) := ⟨rfl, rfl, rfl, by decide +kernel, rfl, by decide +kernel, by decide +kernel⟩
abbrev s_check_context : Stmt := topS 37
abbrev n_check_context : List Str := ["value", "index", "each"]
abbrev p_check_context : List Str := ["value"]
theorem sc_check_context : FnScope n_check_context p_check_context (defScope s_check_context) := ⟨rfl, rfl, rfl, by decide +kernel, rfl, by decide +kernel, by decide +kernel⟩
abbrev s_checked_kind : Stmt := topS 38
abbrev n_checked_kind : List Str := ["context", "term", "kind", "wrong"]
abbrev p_checked_kind : List Str := ["context", "term"]
theorem sc_checked_kind : FnScope n_checked_kind p_checked_kind (defScope s_checked_kind) := ⟨rfl, rfl, rfl, by decide +kernel, rfl, by decide +kernel, by decide +kernel⟩
abbrev s_kind_of : Stmt := topS 39
abbrev n_kind_of : List Str := ["context", "term"]
abbrev p_kind_of : List Str := ["context", "term"]
theorem sc_kind_of : FnScope n_kind_of p_kind_of (defScope s_kind_of) := ⟨rfl, rfl, rfl, by decide +kernel, rfl, by decide +kernel, by decide +kernel⟩
abbrev s_law_urn : Stmt := topS 41
abbrev n_law_urn : List Str := ["_law_script", "_law_turn", "_law_own", "_law_seed", "_law_cell"]
abbrev p_law_urn : List Str := ["_law_script", "_law_turn"]
theorem sc_law_urn : FnScope n_law_urn p_law_urn (defScope s_law_urn) := ⟨rfl, rfl, rfl, by decide +kernel, rfl, by decide +kernel, by decide +kernel⟩
abbrev s_law_pull : Stmt := topS 42
abbrev n_law_pull : List Str := ["_law_urn_here", "_law_top", "_law_digit", "_law_seed"]
abbrev p_law_pull : List Str := ["_law_urn_here", "_law_top"]
theorem sc_law_pull : FnScope n_law_pull p_law_pull (defScope s_law_pull) := ⟨rfl, rfl, rfl, by decide +kernel, rfl, by decide +kernel, by decide +kernel⟩
abbrev s_law_one : Stmt := topS 43
abbrev n_law_one : List Str := ["_law_urn_here", "_law_some"]
abbrev p_law_one : List Str := ["_law_urn_here", "_law_some"]
theorem sc_law_one : FnScope n_law_one p_law_one (defScope s_law_one) := ⟨rfl, rfl, rfl, by decide +kernel, rfl, by decide +kernel, by decide +kernel⟩
abbrev s_law_is : Stmt := topS 44
abbrev n_law_is : List Str := ["_law_given", "_law_due"]
abbrev p_law_is : List Str := ["_law_given", "_law_due"]
theorem sc_law_is : FnScope n_law_is p_law_is (defScope s_law_is) := ⟨rfl, rfl, rfl, by decide +kernel, rfl, by decide +kernel, by decide +kernel⟩
abbrev s_law_truth : Stmt := topS 45
abbrev n_law_truth : List Str := []
abbrev p_law_truth : List Str := []
theorem sc_law_truth : FnScope n_law_truth p_law_truth (defScope s_law_truth) := ⟨rfl, rfl, rfl, by decide +kernel, rfl, by decide +kernel, by decide +kernel⟩
abbrev s_law_deep : Stmt := topS 46
abbrev n_law_deep : List Str := ["_law_kind", "_law_each"]
abbrev p_law_deep : List Str := ["_law_kind"]
theorem sc_law_deep : FnScope n_law_deep p_law_deep (defScope s_law_deep) := ⟨rfl, rfl, rfl, by decide +kernel, rfl, by decide +kernel, by decide +kernel⟩
abbrev s_law_data_kind : Stmt := topS 47
abbrev n_law_data_kind : List Str := ["_law_urn_here", "_law_left", "_law_way", "_law_first"]
abbrev p_law_data_kind : List Str := ["_law_urn_here", "_law_left"]
theorem sc_law_data_kind : FnScope n_law_data_kind p_law_data_kind (defScope s_law_data_kind) := ⟨rfl, rfl, rfl, by decide +kernel, rfl, by decide +kernel, by decide +kernel⟩
abbrev s_law_shape : Stmt := topS 48
abbrev n_law_shape : List Str := ["_law_word"]
abbrev p_law_shape : List Str := ["_law_word"]
theorem sc_law_shape : FnScope n_law_shape p_law_shape (defScope s_law_shape) := ⟨rfl, rfl, rfl, by decide +kernel, rfl, by decide +kernel, by decide +kernel⟩
abbrev s_law_inner : Stmt := topS 49
abbrev n_law_inner : List Str := ["_law_term_here", "_law_spots", "_law_k"]
abbrev p_law_inner : List Str := ["_law_term_here"]
theorem sc_law_inner : FnScope n_law_inner p_law_inner (defScope s_law_inner) := ⟨rfl, rfl, rfl, by decide +kernel, rfl, by decide +kernel, by decide +kernel⟩
abbrev s_law_sizes : Stmt := topS 50
abbrev n_law_sizes : List Str := ["_law_term_here", "_law_some", "_law_kinds", "_law_own", "_law_deep_here", "_law_deepest", "_law_each", "_law_bound_here", "_law_sort"]
abbrev p_law_sizes : List Str := ["_law_term_here"]
theorem sc_law_sizes : FnScope n_law_sizes p_law_sizes (defScope s_law_sizes) := ⟨rfl, rfl, rfl, by decide +kernel, rfl, by decide +kernel, by decide +kernel⟩
abbrev s_law_is_small : Stmt := topS 51
abbrev n_law_is_small : List Str := ["_law_term_here", "_law_most", "_law_deep_here", "_law_many", "_law_deepest", "_law_often"]
abbrev p_law_is_small : List Str := ["_law_term_here", "_law_most"]
theorem sc_law_is_small : FnScope n_law_is_small p_law_is_small (defScope s_law_is_small) := ⟨rfl, rfl, rfl, by decide +kernel, rfl, by decide +kernel, by decide +kernel⟩
abbrev s_law_free : Stmt := topS 52
abbrev n_law_free : List Str := ["_law_term_here", "_law_found", "_law_each", "_law_bound_here", "_law_name"]
abbrev p_law_free : List Str := ["_law_term_here"]
theorem sc_law_free : FnScope n_law_free p_law_free (defScope s_law_free) := ⟨rfl, rfl, rfl, by decide +kernel, rfl, by decide +kernel, by decide +kernel⟩
abbrev s_law_seen : Stmt := topS 53
abbrev n_law_seen : List Str := ["_law_context", "_law_name", "_law_found", "_law_each", "_law_kind"]
abbrev p_law_seen : List Str := ["_law_context", "_law_name"]
theorem sc_law_seen : FnScope n_law_seen p_law_seen (defScope s_law_seen) := ⟨rfl, rfl, rfl, by decide +kernel, rfl, by decide +kernel, by decide +kernel⟩
abbrev s_law_made_kind : Stmt := topS 54
abbrev n_law_made_kind : List Str := ["_law_term_here", "_law_kinds", "_law_word", "_law_num", "_law_one_here", "_law_two", "_law_spot"]
abbrev p_law_made_kind : List Str := ["_law_term_here", "_law_kinds"]
theorem sc_law_made_kind : FnScope n_law_made_kind p_law_made_kind (defScope s_law_made_kind) := ⟨rfl, rfl, rfl, by decide +kernel, rfl, by decide +kernel, by decide +kernel⟩
abbrev s_law_walk_case : Stmt := topS 55
abbrev n_law_walk_case : List Str := ["_law_term_here", "_law_context", "_law_kind", "_law_path", "_law_one_here", "_law_two"]
abbrev p_law_walk_case : List Str := ["_law_term_here", "_law_context"]
theorem sc_law_walk_case : FnScope n_law_walk_case p_law_walk_case (defScope s_law_walk_case) := ⟨rfl, rfl, rfl, by decide +kernel, rfl, by decide +kernel, by decide +kernel⟩
abbrev s_law_walk : Stmt := topS 56
abbrev n_law_walk : List Str := ["_law_term_here", "_law_context", "_law_kind", "_law_kinds", "_law_inner_here", "_law_at", "_law_sort", "_law_path"]
abbrev p_law_walk : List Str := ["_law_term_here", "_law_context"]
theorem sc_law_walk : FnScope n_law_walk p_law_walk (defScope s_law_walk) := ⟨rfl, rfl, rfl, by decide +kernel, rfl, by decide +kernel, by decide +kernel⟩
abbrev s_law_can : Stmt := topS 57
abbrev n_law_can : List Str := ["_law_kind", "_law_context", "_law_name", "_law_each"]
abbrev p_law_can : List Str := ["_law_kind", "_law_context"]
theorem sc_law_can : FnScope n_law_can p_law_can (defScope s_law_can) := ⟨rfl, rfl, rfl, by decide +kernel, rfl, by decide +kernel, by decide +kernel⟩
abbrev s_law_flat : Stmt := topS 58
abbrev n_law_flat : List Str := ["_law_urn_here", "_law_kind", "_law_context", "_law_names", "_law_inner_here", "_law_sides", "_law_first", "_law_name", "_law_each"]
abbrev p_law_flat : List Str := ["_law_urn_here", "_law_kind", "_law_context"]
theorem sc_law_flat : FnScope n_law_flat p_law_flat (defScope s_law_flat) := ⟨rfl, rfl, rfl, by decide +kernel, rfl, by decide +kernel, by decide +kernel⟩
abbrev s_law_named : Stmt := topS 59
abbrev n_law_named : List Str := ["_law_urn_here"]
abbrev p_law_named : List Str := ["_law_urn_here"]
theorem sc_law_named : FnScope n_law_named p_law_named (defScope s_law_named) := ⟨rfl, rfl, rfl, by decide +kernel, rfl, by decide +kernel, by decide +kernel⟩
abbrev s_law_bound : Stmt := topS 60
abbrev n_law_bound : List Str := ["_law_urn_here", "_law_kind", "_law_wish", "_law_context", "_law_name"]
abbrev p_law_bound : List Str := ["_law_urn_here", "_law_kind", "_law_wish", "_law_context"]
theorem sc_law_bound : FnScope n_law_bound p_law_bound (defScope s_law_bound) := ⟨rfl, rfl, rfl, by decide +kernel, rfl, by decide +kernel, by decide +kernel⟩
abbrev s_law_other_kind : Stmt := topS 61
abbrev n_law_other_kind : List Str := ["_law_urn_here", "_law_context", "_law_some", "_law_name", "_law_kind"]
abbrev p_law_other_kind : List Str := ["_law_urn_here", "_law_context"]
theorem sc_law_other_kind : FnScope n_law_other_kind p_law_other_kind (defScope s_law_other_kind) := ⟨rfl, rfl, rfl, by decide +kernel, rfl, by decide +kernel, by decide +kernel⟩
abbrev s_law_term : Stmt := topS 62
abbrev n_law_term : List Str := ["_law_urn_here", "_law_kind", "_law_context", "_law_left", "_law_way", "_law_names", "_law_name", "_law_each"]
abbrev p_law_term : List Str := ["_law_urn_here", "_law_kind", "_law_context", "_law_left"]
theorem sc_law_term : FnScope n_law_term p_law_term (defScope s_law_term) := ⟨rfl, rfl, rfl, by decide +kernel, rfl, by decide +kernel, by decide +kernel⟩
abbrev s_law_roundabout : Stmt := topS 63
abbrev n_law_roundabout : List Str := ["_law_urn_here", "_law_kind", "_law_context", "_law_left", "_law_way", "_law_other", "_law_name", "_law_inner_here", "_law_first", "_law_some", "_law_function", "_law_eithers", "_law_either", "_law_side", "_law_last", "_law_each", "_law_seen_here"]
abbrev p_law_roundabout : List Str := ["_law_urn_here", "_law_kind", "_law_context", "_law_left", "_law_way"]
theorem sc_law_roundabout : FnScope n_law_roundabout p_law_roundabout (defScope s_law_roundabout) := ⟨rfl, rfl, rfl, by decide +kernel, rfl, by decide +kernel, by decide +kernel⟩
abbrev s_law_fold : Stmt := topS 64
abbrev n_law_fold : List Str := ["_law_urn_here", "_law_kind", "_law_context", "_law_left", "_law_lists", "_law_row", "_law_inner_here", "_law_step", "_law_first", "_law_name", "_law_each"]
abbrev p_law_fold : List Str := ["_law_urn_here", "_law_kind", "_law_context", "_law_left"]
theorem sc_law_fold : FnScope n_law_fold p_law_fold (defScope s_law_fold) := ⟨rfl, rfl, rfl, by decide +kernel, rfl, by decide +kernel, by decide +kernel⟩
abbrev s_law_built : Stmt := topS 65
abbrev n_law_built : List Str := ["_law_urn_here", "_law_kind", "_law_context", "_law_left", "_law_way", "_law_first", "_law_sign", "_law_name", "_law_sides", "_law_each"]
abbrev p_law_built : List Str := ["_law_urn_here", "_law_kind", "_law_context", "_law_left"]
theorem sc_law_built : FnScope n_law_built p_law_built (defScope s_law_built) := ⟨rfl, rfl, rfl, by decide +kernel, rfl, by decide +kernel, by decide +kernel⟩
abbrev s_law_text : Stmt := topS 66
abbrev n_law_text : List Str := ["_law_urn_here", "_law_kind", "_law_context", "_law_many", "_law_turn", "_law_found"]
abbrev p_law_text : List Str := ["_law_urn_here", "_law_kind", "_law_context", "_law_many"]
theorem sc_law_text : FnScope n_law_text p_law_text (defScope s_law_text) := ⟨rfl, rfl, rfl, by decide +kernel, rfl, by decide +kernel, by decide +kernel⟩
abbrev s_law_argument_kind : Stmt := topS 67
abbrev n_law_argument_kind : List Str := ["_law_urn_here", "_law_deep_here", "_law_a", "_law_b", "_law_some"]
abbrev p_law_argument_kind : List Str := ["_law_urn_here", "_law_deep_here"]
theorem sc_law_argument_kind : FnScope n_law_argument_kind p_law_argument_kind (defScope s_law_argument_kind) := ⟨rfl, rfl, rfl, by decide +kernel, rfl, by decide +kernel, by decide +kernel⟩
abbrev s_law_other_part : Stmt := topS 68
abbrev n_law_other_part : List Str := ["_law_urn_here", "_law_part", "_law_context", "_law_way", "_law_kind", "_law_step"]
abbrev p_law_other_part : List Str := ["_law_urn_here", "_law_part", "_law_context"]
theorem sc_law_other_part : FnScope n_law_other_part p_law_other_part (defScope s_law_other_part) := ⟨rfl, rfl, rfl, by decide +kernel, rfl, by decide +kernel, by decide +kernel⟩
abbrev s_law_bent_term : Stmt := topS 69
abbrev n_law_bent_term : List Str := ["_law_urn_here", "_law_term_here", "_law_context", "_law_spots", "_law_at", "_law_k"]
abbrev p_law_bent_term : List Str := ["_law_urn_here", "_law_term_here", "_law_context"]
theorem sc_law_bent_term : FnScope n_law_bent_term p_law_bent_term (defScope s_law_bent_term) := ⟨rfl, rfl, rfl, by decide +kernel, rfl, by decide +kernel, by decide +kernel⟩
abbrev s_law_told_kind : Stmt := topS 70
abbrev n_law_told_kind : List Str := ["_law_context", "_law_term_here", "e"]
abbrev p_law_told_kind : List Str := ["_law_context", "_law_term_here"]
theorem sc_law_told_kind : FnScope n_law_told_kind p_law_told_kind (defScope s_law_told_kind) := ⟨rfl, rfl, rfl, by decide +kernel, rfl, by decide +kernel, by decide +kernel⟩
abbrev s_law_right : Stmt := topS 71
abbrev n_law_right : List Str := ["_law_urn_here", "_law_context", "_law_turn", "_law_wish", "_law_term_here", "_law_lap", "_law_kind", "_law_path", "_law_due"]
abbrev p_law_right : List Str := ["_law_urn_here"]
theorem sc_law_right : FnScope n_law_right p_law_right (defScope s_law_right) := ⟨rfl, rfl, rfl, by decide +kernel, rfl, by decide +kernel, by decide +kernel⟩
abbrev s_law : Stmt := topS 72
abbrev n_law : List Str := ["_law_script", "_law_turn"]
abbrev p_law : List Str := ["_law_script"]
theorem sc_law : FnScope n_law p_law (defScope s_law) := ⟨rfl, rfl, rfl, by decide +kernel, rfl, by decide +kernel, by decide +kernel⟩
end Kq
/-! M1: kinds and terms as data; the walk. -/
namespace Kq
open PySem
inductive Kd where
  | va | vb | unit | num
  | pair (a b : Kd) | either (a b : Kd) | list (a : Kd) | func (a b : Kd)
  deriving DecidableEq
def kD : Kd → PyData
  | .va => .tuple [.str "var", .str "a"]
  | .vb => .tuple [.str "var", .str "b"]
  | .unit => .tuple [.str "unit"]
  | .num => .tuple [.str "num"]
  | .pair a b => .tuple [.str "pair", kD a, kD b]
  | .either a b => .tuple [.str "either", kD a, kD b]
  | .list a => .tuple [.str "list", kD a]
  | .func a b => .tuple [.str "fun", kD a, kD b]
def Kd.word : Kd → Str
  | .va => "var" | .vb => "var" | .unit => "unit" | .num => "num" | .pair _ _ => "pair" | .either _ _ => "either" | .list _ => "list" | .func _ _ => "fun"
/-- what stands behind the word -/
def Kd.rest : Kd → List PyData
  | .va => [.str "a"] | .vb => [.str "b"] | .unit => [] | .num => [] | .pair a b => [kD a, kD b] | .either a b => [kD a, kD b] | .list a => [kD a] | .func a b => [kD a, kD b]
theorem kD_eq (k : Kd) : kD k = .tuple (.str k.word :: k.rest) := by cases k <;> rfl
def Kd.dp : Kd → Nat
  | .va => 1 | .vb => 1 | .unit => 1 | .num => 1
  | .pair a b => 1 + max a.dp b.dp | .either a b => 1 + max a.dp b.dp | .list a => 1 + a.dp | .func a b => 1 + max a.dp b.dp
theorem Kd.dp_pos (k : Kd) : 1 ≤ k.dp := by cases k <;> simp [Kd.dp]
theorem kD_depth : ∀ k : Kd, (kD k).depth = k.dp
  | .va => rfl
  | .vb => rfl
  | .unit => rfl
  | .num => rfl
  | .pair a b => by simp [kD, PyData.depth, PyData.depthAll, kD_depth a, kD_depth b, Kd.dp]; omega
  | .either a b => by simp [kD, PyData.depth, PyData.depthAll, kD_depth a, kD_depth b, Kd.dp]; omega
  | .list a => by simp [kD, PyData.depth, PyData.depthAll, kD_depth a, Kd.dp]; omega
  | .func a b => by simp [kD, PyData.depth, PyData.depthAll, kD_depth a, kD_depth b, Kd.dp]; omega
theorem lay_s (x : Str) (h : PyData.strOk x = true) : (PyData.str x).canLay0 = true := by simpa [PyData.canLay0] using h
theorem lay3 {x : Str} {a b : PyData} (h : PyData.strOk x = true) (ha : a.canLay0 = true) (hb : b.canLay0 = true) : (PyData.tuple [.str x, a, b]).canLay0 = true := by simp [PyData.canLay0, PyData.canLayAll0, h, ha, hb]
theorem lay2 {x : Str} {a : PyData} (h : PyData.strOk x = true) (ha : a.canLay0 = true) : (PyData.tuple [.str x, a]).canLay0 = true := by simp [PyData.canLay0, PyData.canLayAll0, h, ha]
theorem lay1 {x : Str} (h : PyData.strOk x = true) : (PyData.tuple [.str x]).canLay0 = true := by simp [PyData.canLay0, PyData.canLayAll0, h]
theorem kD_lay : ∀ k : Kd, (kD k).canLay0 = true
  | .va => lay2 (by decide +kernel) (lay_s _ (by decide +kernel))
  | .vb => lay2 (by decide +kernel) (lay_s _ (by decide +kernel))
  | .unit => lay1 (by decide +kernel)
  | .num => lay1 (by decide +kernel)
  | .pair a b => lay3 (by decide +kernel) (kD_lay a) (kD_lay b)
  | .either a b => lay3 (by decide +kernel) (kD_lay a) (kD_lay b)
  | .list a => lay2 (by decide +kernel) (kD_lay a)
  | .func a b => lay3 (by decide +kernel) (kD_lay a) (kD_lay b)
theorem kD_shaped {k : Kd} (h : k.dp ≤ 64) : SeqAt.shaped (kD k) = true := by
  unfold SeqAt.shaped
  rw [kD_lay, kD_depth]
  simpa using h
theorem eqv_str (x y : Str) : PyData.eqv (.str x) (.str y) = decide (x = y) := by
  simp [PyData.eqv]
  by_cases h : x = y <;> simp [h]
theorem eqv3 {x y : Str} {a b c d : PyData} : PyData.eqv (.tuple [.str x, a, b]) (.tuple [.str y, c, d]) = (decide (x = y) && (PyData.eqv a c && PyData.eqv b d)) := by
  rw [← eqv_str]; simp [PyData.eqv, PyData.eqvAll]
theorem eqv2 {x y : Str} {a c : PyData} : PyData.eqv (.tuple [.str x, a]) (.tuple [.str y, c]) = (decide (x = y) && PyData.eqv a c) := by
  rw [← eqv_str]; simp [PyData.eqv, PyData.eqvAll]
theorem eqv_ne {x y : Str} {xs ys : List PyData} (h : decide (x = y) = false) : PyData.eqv (.tuple (.str x :: xs)) (.tuple (.str y :: ys)) = false := by
  show PyData.eqvAll _ _ = _
  simp only [PyData.eqvAll, eqv_str, h, Bool.false_and]
theorem eqv_kD : ∀ a b : Kd, PyData.eqv (kD a) (kD b) = decide (a = b) := by
  intro a
  induction a with
  | va => intro b; cases b <;> first | (refine (eqv_ne ?_).trans ?_; decide +kernel; simp) | decide +kernel
  | vb => intro b; cases b <;> first | (refine (eqv_ne ?_).trans ?_; decide +kernel; simp) | decide +kernel
  | unit => intro b; cases b <;> first | (refine (eqv_ne ?_).trans ?_; decide +kernel; simp) | decide +kernel
  | num => intro b; cases b <;> first | (refine (eqv_ne ?_).trans ?_; decide +kernel; simp) | decide +kernel
  | pair a b iha ihb => intro c; cases c <;> first | (refine (eqv_ne ?_).trans ?_; decide +kernel; simp) | (refine eqv3.trans ?_; rw [iha, ihb]; simp)
  | either a b iha ihb => intro c; cases c <;> first | (refine (eqv_ne ?_).trans ?_; decide +kernel; simp) | (refine eqv3.trans ?_; rw [iha, ihb]; simp)
  | list a iha => intro c; cases c <;> first | (refine (eqv_ne ?_).trans ?_; decide +kernel; simp) | (refine eqv2.trans ?_; rw [iha]; simp)
  | func a b iha ihb => intro c; cases c <;> first | (refine (eqv_ne ?_).trans ?_; decide +kernel; simp) | (refine eqv3.trans ?_; rw [iha, ihb]; simp)
end Kq
/-! M2: contexts, terms, the walk, can. -/
namespace Kq
open PySem
abbrev Ctx := List (Str × Kd)
def pairK (p : Str × Kd) : PyData := .tuple [.str p.1, kD p.2]
def ctxD (Γ : Ctx) : PyData := .list (Γ.map pairK)
/-- the last one of that name -/
def look (Γ : Ctx) (x : Str) : Option Kd := ((Γ.filter fun p => decide (p.1 = x)).map (·.2)).getLast?
theorem look_snoc (Γ : Ctx) (x y : Str) (k : Kd) : look (Γ ++ [(y, k)]) x = if y = x then some k else look Γ x := by
  unfold look
  rw [List.filter_append, List.map_append]
  by_cases h : y = x
  · rw [List.filter_cons_of_pos (by simpa using h), if_pos h]
    simp
  · rw [List.filter_cons_of_neg (by simpa using h), if_neg h]
    simp
inductive Tm where
  | name (x : Str) | fn (x : Str) (k : Kd) (b : Tm) | call (f a : Tm) | lete (x : Str) (a b : Tm)
  | unit | number (i : Int) | plus (a b : Tm) | times (a b : Tm) | minus (a : Tm) | is (s : Str) (a b : Tm)
  | pair (a b : Tm) | first (a : Tm) | second (a : Tm) | left (a : Tm) (k : Kd) | right (k : Kd) (a : Tm)
  | case (s : Tm) (x : Str) (a : Tm) (y : Str) (b : Tm) | nil (k : Kd) | cons (a b : Tm) | fold (f a b : Tm)
def Tm.word : Tm → Str
  | .name _ => "name" | .fn _ _ _ => "fn" | .call _ _ => "call" | .lete _ _ _ => "let" | .unit => "unit" | .number _ => "number" | .plus _ _ => "plus" | .times _ _ => "times" | .minus _ => "minus" | .is _ _ _ => "is"
  | .pair _ _ => "pair" | .first _ => "first" | .second _ => "second" | .left _ _ => "left" | .right _ _ => "right" | .case _ _ _ _ _ => "case" | .nil _ => "nil" | .cons _ _ => "cons" | .fold _ _ _ => "fold"
def tD : Tm → PyData
  | .name x => .tuple [.str "name", .str x]
  | .fn x k b => .tuple [.str "fn", .str x, kD k, tD b]
  | .call f a => .tuple [.str "call", tD f, tD a]
  | .lete x a b => .tuple [.str "let", .str x, tD a, tD b]
  | .unit => .tuple [.str "unit"]
  | .number i => .tuple [.str "number", .int i]
  | .plus a b => .tuple [.str "plus", tD a, tD b]
  | .times a b => .tuple [.str "times", tD a, tD b]
  | .minus a => .tuple [.str "minus", tD a]
  | .is s a b => .tuple [.str "is", .str s, tD a, tD b]
  | .pair a b => .tuple [.str "pair", tD a, tD b]
  | .first a => .tuple [.str "first", tD a]
  | .second a => .tuple [.str "second", tD a]
  | .left a k => .tuple [.str "left", tD a, kD k]
  | .right k a => .tuple [.str "right", kD k, tD a]
  | .case s x a y b => .tuple [.str "case", tD s, .str x, tD a, .str y, tD b]
  | .nil k => .tuple [.str "nil", kD k]
  | .cons a b => .tuple [.str "cons", tD a, tD b]
  | .fold f a b => .tuple [.str "fold", tD f, tD a, tD b]
def Tm.rest : Tm → List PyData
  | .name x => [.str x] | .fn x k b => [.str x, kD k, tD b] | .call f a => [tD f, tD a] | .lete x a b => [.str x, tD a, tD b] | .unit => [] | .number i => [.int i] | .plus a b => [tD a, tD b] | .times a b => [tD a, tD b]
  | .minus a => [tD a] | .is s a b => [.str s, tD a, tD b] | .pair a b => [tD a, tD b] | .first a => [tD a] | .second a => [tD a] | .left a k => [tD a, kD k] | .right k a => [kD k, tD a]
  | .case s x a y b => [tD s, .str x, tD a, .str y, tD b] | .nil k => [kD k] | .cons a b => [tD a, tD b] | .fold f a b => [tD f, tD a, tD b]
theorem tD_eq (t : Tm) : tD t = .tuple (.str t.word :: t.rest) := by cases t <;> rfl
theorem kD_noL : ∀ k : Kd, True := fun _ => trivial
/-- the text of a term's sorts -/
def Tm.shape : Tm → Str
  | .name _ => "x" | .fn _ _ _ => "xkt" | .call _ _ => "tt" | .lete _ _ _ => "xtt" | .unit => "" | .number _ => "n" | .plus _ _ => "tt" | .times _ _ => "tt" | .minus _ => "t" | .is _ _ _ => "stt"
  | .pair _ _ => "tt" | .first _ => "t" | .second _ => "t" | .left _ _ => "tk" | .right _ _ => "kt" | .case _ _ _ _ _ => "txtxt" | .nil _ => "k" | .cons _ _ => "tt" | .fold _ _ _ => "ttt"
/-- what is made of the parts' kinds, or the place that is wrong -/
def truthK : Kd := .either .unit .unit
def Kd.isFun : Kd → Option (Kd × Kd) | .func a b => some (a, b) | _ => none
def Kd.isPair : Kd → Option (Kd × Kd) | .pair a b => some (a, b) | _ => none
def Kd.isEither : Kd → Option (Kd × Kd) | .either a b => some (a, b) | _ => none
def callK (f a : Kd) : Except Nat Kd := match f with
  | .func x y => if a = x then .ok y else .error 2
  | _ => .error 1
def numK (first : Nat) (a b : Kd) (r : Kd) : Except Nat Kd := if a ≠ .num then .error first else if b ≠ .num then .error (first + 1) else .ok r
def minusK (a : Kd) : Except Nat Kd := if a ≠ .num then .error 1 else .ok .num
def firstK (a : Kd) : Except Nat Kd := match a with | .pair x _ => .ok x | _ => .error 1
def secondK (a : Kd) : Except Nat Kd := match a with | .pair _ y => .ok y | _ => .error 1
def consK (a b : Kd) : Except Nat Kd := if b = .list a then .ok b else .error 2
def foldK (f a b : Kd) : Except Nat Kd := match f with
  | .func x (.func y z) => if y ≠ z then .error 1 else if a ≠ y then .error 2 else if b ≠ .list x then .error 3 else .ok y
  | _ => .error 1
abbrev Res := Except (List Nat) Kd
def at1 (n : Nat) (r : Res) (f : Kd → Res) : Res := match r with | .ok k => f k | .error p => .error (n :: p)
def fin (r : Except Nat Kd) : Res := match r with | .ok k => .ok k | .error n => .error [n]
def walk : Ctx → Tm → Res
  | Γ, .name x => match look Γ x with | some k => .ok k | none => .error []
  | Γ, .fn x k b => at1 3 (walk (Γ ++ [(x, k)]) b) fun r => .ok (.func k r)
  | Γ, .call f a => at1 1 (walk Γ f) fun kf => at1 2 (walk Γ a) fun ka => fin (callK kf ka)
  | Γ, .lete x a b => at1 2 (walk Γ a) fun ka => at1 3 (walk (Γ ++ [(x, ka)]) b) .ok
  | _, .unit => .ok .unit
  | _, .number _ => .ok .num
  | Γ, .plus a b => at1 1 (walk Γ a) fun ka => at1 2 (walk Γ b) fun kb => fin (numK 1 ka kb .num)
  | Γ, .times a b => at1 1 (walk Γ a) fun ka => at1 2 (walk Γ b) fun kb => fin (numK 1 ka kb .num)
  | Γ, .minus a => at1 1 (walk Γ a) fun ka => fin (minusK ka)
  | Γ, .is _ a b => at1 2 (walk Γ a) fun ka => at1 3 (walk Γ b) fun kb => fin (numK 2 ka kb truthK)
  | Γ, .pair a b => at1 1 (walk Γ a) fun ka => at1 2 (walk Γ b) fun kb => .ok (.pair ka kb)
  | Γ, .first a => at1 1 (walk Γ a) fun ka => fin (firstK ka)
  | Γ, .second a => at1 1 (walk Γ a) fun ka => fin (secondK ka)
  | Γ, .left a k => at1 1 (walk Γ a) fun ka => .ok (.either ka k)
  | Γ, .right k a => at1 2 (walk Γ a) fun ka => .ok (.either k ka)
  | Γ, .case s x a y b => at1 1 (walk Γ s) fun ks => match ks with
      | .either l r => at1 3 (walk (Γ ++ [(x, l)]) a) fun ka => at1 5 (walk (Γ ++ [(y, r)]) b) fun kb => if ka = kb then .ok ka else .error [5]
      | _ => .error [1]
  | _, .nil k => .ok (.list k)
  | Γ, .cons a b => at1 1 (walk Γ a) fun ka => at1 2 (walk Γ b) fun kb => fin (consK ka kb)
  | Γ, .fold f a b => at1 1 (walk Γ f) fun kf => at1 2 (walk Γ a) fun ka => at1 3 (walk Γ b) fun kb => fin (foldK kf ka kb)
/-- every kind that the walk meets is at most D deep -/
def ok1 (r : Res) (f : Kd → Prop) : Prop := match r with | .ok k => f k | .error _ => True
def Low (D : Nat) : Ctx → Tm → Prop
  | Γ, .name x => ok1 (walk Γ (.name x)) (·.dp ≤ D)
  | Γ, .fn x k b => k.dp ≤ D ∧ Low D (Γ ++ [(x, k)]) b ∧ ok1 (walk Γ (.fn x k b)) (·.dp ≤ D)
  | Γ, .call f a => Low D Γ f ∧ ok1 (walk Γ f) fun _ => Low D Γ a
  | Γ, .lete x a b => Low D Γ a ∧ ok1 (walk Γ a) fun ka => Low D (Γ ++ [(x, ka)]) b
  | _, .unit => True
  | _, .number _ => True
  | Γ, .plus a b => Low D Γ a ∧ ok1 (walk Γ a) fun _ => Low D Γ b
  | Γ, .times a b => Low D Γ a ∧ ok1 (walk Γ a) fun _ => Low D Γ b
  | Γ, .minus a => Low D Γ a
  | Γ, .is _ a b => Low D Γ a ∧ ok1 (walk Γ a) fun _ => Low D Γ b
  | Γ, .pair a b => (Low D Γ a ∧ ok1 (walk Γ a) fun _ => Low D Γ b) ∧ ok1 (walk Γ (.pair a b)) (·.dp ≤ D)
  | Γ, .first a => Low D Γ a
  | Γ, .second a => Low D Γ a
  | Γ, .left a k => k.dp ≤ D ∧ Low D Γ a ∧ ok1 (walk Γ (.left a k)) (·.dp ≤ D)
  | Γ, .right k a => k.dp ≤ D ∧ Low D Γ a ∧ ok1 (walk Γ (.right k a)) (·.dp ≤ D)
  | Γ, .case s x a y b => Low D Γ s ∧ ok1 (walk Γ s) fun ks => match ks with
      | .either l r => Low D (Γ ++ [(x, l)]) a ∧ ok1 (walk (Γ ++ [(x, l)]) a) fun _ => Low D (Γ ++ [(y, r)]) b
      | _ => True
  | _, .nil k => k.dp + 1 ≤ D
  | Γ, .cons a b => Low D Γ a ∧ ok1 (walk Γ a) fun _ => Low D Γ b
  | Γ, .fold f a b => Low D Γ f ∧ ok1 (walk Γ f) fun _ => Low D Γ a ∧ ok1 (walk Γ a) fun _ => Low D Γ b
theorem at1_ok {n : Nat} {r : Res} {f : Kd → Res} {k : Kd} (h : at1 n r f = .ok k) : ∃ a, r = .ok a ∧ f a = .ok k := by
  unfold at1 at h
  split at h
  · exact ⟨_, rfl, h⟩
  · cases h
theorem fin_ok {r : Except Nat Kd} {k : Kd} (h : fin r = .ok k) : r = .ok k := by
  unfold fin at h
  split at h <;> cases h
  rfl
theorem ok1_of {r : Res} {f : Kd → Prop} {k : Kd} (h : ok1 r f) (e : r = .ok k) : f k := by
  subst e
  exact h
/-- the kind of a Low term is low -/
theorem low_ok {D : Nat} (hD : 2 ≤ D) : ∀ {t : Tm} {Γ : Ctx} {k : Kd}, Low D Γ t → walk Γ t = .ok k → k.dp ≤ D := by
  intro t
  induction t with
  | name x => intro Γ k h e; exact ok1_of h e
  | fn x k b ih => intro Γ k' h e; exact ok1_of h.2.2 e
  | call f a ihf iha =>
    intro Γ k h e
    obtain ⟨kf, h1, e⟩ := at1_ok e
    obtain ⟨ka, h2, e⟩ := at1_ok e
    have e := fin_ok e
    have d := ihf h.1 h1
    unfold callK at e
    split at e
    · split at e
      · cases e
        simp only [Kd.dp] at d
        omega
      · cases e
    · cases e
  | lete x a b iha ihb =>
    intro Γ k h e
    obtain ⟨ka, h1, e⟩ := at1_ok e
    obtain ⟨kb, h2, e⟩ := at1_ok e
    cases e
    exact ihb (ok1_of h.2 h1) h2
  | unit => intro Γ k h e; cases e; simp only [Kd.dp]; omega
  | number i => intro Γ k h e; cases e; simp only [Kd.dp]; omega
  | plus a b iha ihb =>
    intro Γ k h e
    obtain ⟨ka, h1, e⟩ := at1_ok e
    obtain ⟨kb, h2, e⟩ := at1_ok e
    have e := fin_ok e
    unfold numK at e
    repeat (first | (split at e) | cases e | (simp only [Kd.dp]; omega))
  | times a b iha ihb =>
    intro Γ k h e
    obtain ⟨ka, h1, e⟩ := at1_ok e
    obtain ⟨kb, h2, e⟩ := at1_ok e
    have e := fin_ok e
    unfold numK at e
    repeat (first | (split at e) | cases e | (simp only [Kd.dp]; omega))
  | minus a iha =>
    intro Γ k h e
    obtain ⟨ka, h1, e⟩ := at1_ok e
    have e := fin_ok e
    unfold minusK at e
    repeat (first | (split at e) | cases e | (simp only [Kd.dp]; omega))
  | is s a b iha ihb =>
    intro Γ k h e
    obtain ⟨ka, h1, e⟩ := at1_ok e
    obtain ⟨kb, h2, e⟩ := at1_ok e
    have e := fin_ok e
    unfold numK at e
    repeat (first | (split at e) | cases e | (simp only [truthK, Kd.dp]; omega))
  | pair a b iha ihb => intro Γ k h e; exact ok1_of h.2 e
  | first a iha =>
    intro Γ k h e
    obtain ⟨ka, h1, e⟩ := at1_ok e
    have e := fin_ok e
    have d := iha h h1
    unfold firstK at e
    split at e
    · cases e
      simp only [Kd.dp] at d
      omega
    · cases e
  | second a iha =>
    intro Γ k h e
    obtain ⟨ka, h1, e⟩ := at1_ok e
    have e := fin_ok e
    have d := iha h h1
    unfold secondK at e
    split at e
    · cases e
      simp only [Kd.dp] at d
      omega
    · cases e
  | left a k iha => intro Γ k' h e; exact ok1_of h.2.2 e
  | right k a iha => intro Γ k' h e; exact ok1_of h.2.2 e
  | case s x a y b ihs iha ihb =>
    intro Γ k h e
    obtain ⟨ks, h1, e⟩ := at1_ok e
    have hh := ok1_of h.2 h1
    cases ks with
    | either l r =>
      obtain ⟨ka, h2, e⟩ := at1_ok e
      obtain ⟨kb, h3, e⟩ := at1_ok e
      have e : (if ka = kb then Except.ok ka else Except.error [5]) = Except.ok k := e
      split at e
      · cases e
        exact iha hh.1 h2
      · cases e
    | _ => cases e
  | nil k => intro Γ k' h e; cases e; simp only [Kd.dp]; have h : k.dp + 1 ≤ D := h; omega
  | cons a b iha ihb =>
    intro Γ k h e
    obtain ⟨ka, h1, e⟩ := at1_ok e
    obtain ⟨kb, h2, e⟩ := at1_ok e
    have e := fin_ok e
    unfold consK at e
    split at e
    · cases e
      exact ihb (ok1_of h.2 h1) h2
    · cases e
  | fold f a b ihf iha ihb =>
    intro Γ k h e
    obtain ⟨kf, h1, e⟩ := at1_ok e
    obtain ⟨ka, h2, e⟩ := at1_ok e
    obtain ⟨kb, h3, e⟩ := at1_ok e
    have e := fin_ok e
    have d := iha (ok1_of h.2 h1).1 h2
    unfold foldK at e
    split at e
    · split at e
      · cases e
      · split at e
        · cases e
        · split at e
          · cases e
          · cases e
            have : ka = k := Classical.not_not.mp ‹¬ ka ≠ k›
            rw [← this]
            exact d
    · cases e
/-! ### can -/
def wn (n : Nat) : Str := ("w" : Str) ++ Str.ofString (toString (n : Int))
/-- the kind stands at a name that still tells it -/
def vis (Γ : Ctx) (k : Kd) : Bool := Γ.any fun p => decide (look Γ p.1 = some p.2) && decide (p.2 = k)
def can : Ctx → Kd → Bool
  | Γ, .va => vis Γ .va
  | Γ, .vb => vis Γ .vb
  | _, .unit => true
  | _, .num => true
  | _, .list _ => true
  | Γ, .pair a b => vis Γ (.pair a b) || (can Γ a && can Γ b)
  | Γ, .either a b => vis Γ (.either a b) || (can Γ a || can Γ b)
  | Γ, .func a b => vis Γ (.func a b) || can (Γ ++ [(wn Γ.length, a)]) b
end Kq
/-! F1: what is looked at behind the top, and the run of the top; ahead of all else, since it takes much memory. -/
namespace Kq
open PySem PySem.Spec PyProof.Rows L2
def signL : List Str := ["<", "<=", "=="]

def varsL : List Str := ["a", "b", "c"]

def wordsL : List Str := ["fn", "let", "in", "case", "unit", "num", "list", "nil", "cons", "fold", "first", "second", "left", "right"]

def lettersS : Str := "abcdefghijklmnopqrstuvwxyz"

def figuresS : Str := "0123456789"

def kindTab : List (Str × PyData) := [("unit", .int 1), ("num", .int 1), ("pair", .int 3), ("either", .int 3), ("list", .int 2), ("fun", .int 3)]

def shapeTab : List (Str × PyData) := [("name", .str "n"), ("fn", .str "nkt"), ("call", .str "tt"), ("let", .str "ntt"), ("unit", .str ""), ("number", .str "i"), ("plus", .str "tt"), ("times", .str "tt"), ("minus", .str "t"), ("is", .str "stt"), ("pair", .str "tt"), ("first", .str "t"), ("second", .str "t"), ("left", .str "tk"), ("right", .str "kt"), ("case", .str "tntnt"), ("nil", .str "k"), ("cons", .str "tt"), ("fold", .str "ttt")]

def allB2 (f : PyData → Value → Bool) : List PyData → List Value → Bool
  | [], [] => true
  | d :: ds, u :: us => f d u && allB2 f ds us
  | _, _ => false
def dvB (K : PySem.W.Frag) : Nat → PyData → Value → Bool
  | _, .none, .none => true
  | _, .bool b, .bool c => b == c
  | _, .int i, .int j _ => decide (i = j)
  | _, .str x, .str y _ => decide (x = y)
  | n + 1, .tuple ds, .ref a => (match K.lookup a with
    | some ⟨.type c, _, .seq its _, _⟩ => decide (c = "tuple") && (decide (its.size ≤ sizeLine) && allB2 (dvB K n) ds its.toList)
    | _ => false)
  | _, _, _ => false

def conB (K : PySem.W.Frag) (x : Str) (d : PyData) : Bool := match PySem.W.nsIn K mainGlobals x with
  | some (some u) => dvB K 3 d u
  | _ => false

def tabB (K : PySem.W.Frag) (a : Addr) (tab : List (Str × PyData)) : Bool := tab.all fun p => match PySem.W.nsIn K a p.1 with
  | some (some u) => dvB K 1 p.2 u
  | _ => false

abbrev s_WT : Stmt := inClass (topS 4) 0
abbrev PP : Program := PySem.Challenge.pw_bykindalone_k20_whole_kinds_and_first_wr
def wtA (K : PySem.W.Frag) : Addr := He.ga K "WrongTerm"
def wtF (K : PySem.W.Frag) : Addr := He.ma K (wtA K) "__init__"

def oexB (K : PySem.W.Frag) (C : Addr) : Bool := match K.lookup C with
  | some ⟨.type t, _, .cls cd, sl⟩ => decide (t = "type") && (match cd.mro, sl.toList with
    | .ref C' :: bm, [_, _, _, _, some (.builtin n), _] => decide (C' = C) && (decide (n = "ValueError.__new__") && (!cd.hasDel && (cd.hasDict && PySem.HandSPX.refsVE bm)))
    | _, _ => false)
  | _ => false

def wtB1 (K : PySem.W.Frag) : Bool := match K.lookup (wtF K) with
  | some ⟨_, _, .func fd, _⟩ => (match fd.closure, fd.code, fd.defaults with
    | [(nm, cc)], .ref cda, .none => decide (nm = "__class__") && (PySem.W.codeIn K (.ref cda) "WrongTerm.__init__" && ((match K.lookup cda with
        | some ⟨_, _, .fields vs, _⟩ => (match vs[2]? with
          | some (Value.str file _) => (PP.main.file : Str) == file
          | _ => false)
        | _ => false) && (match K.lookup cc with
        | some ⟨_, _, .cell (some (.ref D)), _⟩ => decide (D = wtA K)
        | _ => false)))
    | _, _, _ => false)
  | _ => false
abbrev IniV : Type := Option (Str × Str × Arguments × FuncBody × Scope × Addr × Addr)
def iniW (K : PySem.W.Frag) : IniV := match K.lookup (wtF K) with
  | some ⟨_, _, .func fd, _⟩ => some (fd.name, fd.qualname, fd.params, fd.body, fd.scope, fd.globals, fd.builtins)
  | _ => none
def iniV : IniV := some ("__init__", "WrongTerm.__init__", defArgs s_WT, .stmts (defBody s_WT), defScope s_WT, mainGlobals, builtinsNs)

def wtB (K : PySem.W.Frag) : Bool := (wtB1 K && (oexB K (wtA K) && (He.eqO (PySem.W.findIn K (.ref (wtA K)) "__setattr__") (some (some (.builtin "object.__setattr__"))) && (decide (PySem.W.subIn K (.ref (wtA K)) (.type "BaseException") = some true) && (decide (PySem.W.typeIn K (.ref (wtA K)) = some (.type "type")) && (PySem.W.keepIn K (.ref (wtA K)) && (xfB K (wtA K) && He.eqO (PySem.W.findIn K (.ref (wtA K)) "place") (some none)))))))) &&
  ((decide (PySem.W.exmOne K (.ref (wtA K)) (.ref (wtA K)) = some true) && (He.eqO (PySem.W.findIn K (.ref (wtA K)) "__init__") (some (some (.ref (wtF K)))) && (decide (PySem.W.typeIn K (.ref (wtF K)) = some (.type "function")) && ((PySem.W.clsIn K (wtA K)).isSome && (decide (PySem.W.mroIn K (wtA K) (.ref (wtA K)) = some true) && (decide (PySem.W.subIn K (.ref (wtA K)) (.type "ValueError") = some true) &&
  (He.eqO (PySem.W.ks_superIn K (wtA K) (wtA K) "__init__") (some (some (.builtin "ValueError.__init__"))) && (He.eqO (PySem.W.nsIn K cStatics "thirdparty.any") (some none) && PySem.W.excInitIn K (wtA K) [.type "ValueError", .type "Exception", .type "BaseException", .type "object"] "ValueError.__new__")))))))))

def dd (x : Str) (st : Stmt) (dfl : List He.Dv) : He.DefD := ⟨(x, none), x, x, defArgs st, defBody st, defScope st, dfl, []⟩
def dm (m q : Str) (st : Stmt) : He.DefD := ⟨("Kinder", some m), m, q, defArgs st, defBody st, defScope st, [], []⟩

def d_0 : He.DefD := dd "_law_pull" s_law_pull []
def d_1 : He.DefD := dd "_law_one" s_law_one []
def d_2 : He.DefD := dd "_law_truth" s_law_truth []
def d_3 : He.DefD := dd "_law_deep" s_law_deep []
def d_4 : He.DefD := dd "_law_shape" s_law_shape []
def d_5 : He.DefD := dd "_law_seen" s_law_seen []
def d_6 : He.DefD := dd "_law_can" s_law_can []
def d_7 : He.DefD := dd "_law_made_kind" s_law_made_kind []
def d_8 : He.DefD := dd "_law_walk_case" s_law_walk_case []
def d_9 : He.DefD := dd "_law_walk" s_law_walk []
def d_10 : He.DefD := dd "_law_inner" s_law_inner []
def d_11 : He.DefD := dd "_law_sizes" s_law_sizes []
def d_12 : He.DefD := dd "_law_is_small" s_law_is_small []
def d_13 : He.DefD := dd "_law_free" s_law_free []
def d_14 : He.DefD := dd "_law_data_kind" s_law_data_kind []
def d_15 : He.DefD := dd "_law_argument_kind" s_law_argument_kind []
def d_16 : He.DefD := dd "_law_named" s_law_named []
def d_17 : He.DefD := dd "_law_other_kind" s_law_other_kind []
def d_18 : He.DefD := dd "_law_bound" s_law_bound []
def d_19 : He.DefD := dd "_law_flat" s_law_flat []
def d_20 : He.DefD := dd "_law_fold" s_law_fold []
def d_21 : He.DefD := dd "_law_built" s_law_built []
def d_22 : He.DefD := dd "_law_roundabout" s_law_roundabout []
def d_23 : He.DefD := dd "_law_term" s_law_term []
def d_24 : He.DefD := dd "_law_text" s_law_text []
def d_25 : He.DefD := dd "_law_other_part" s_law_other_part []
def d_26 : He.DefD := dd "_law_bent_term" s_law_bent_term []
def d_27 : He.DefD := dd "is_whole" s_is_whole []
def d_28 : He.DefD := dd "is_variable" s_is_variable []
def d_29 : He.DefD := dd "is_named" s_is_named []
def d_30 : He.DefD := dd "is_kinded" s_is_kinded [.int 100]
def d_31 : He.DefD := dd "is_element" s_is_element []
def d_32 : He.DefD := dd "wrong_by" s_wrong_by []
def d_33 : He.DefD := dd "wrong_in_term" s_wrong_in_term []
def d_34 : He.DefD := dd "check_term" s_check_term []
def d_35 : He.DefD := dd "check_context" s_check_context []
def d_36 : He.DefD := dd "kinds_by" s_kinds_by []
def d_37 : He.DefD := dd "kind_by" s_kind_by []
def d_38 : He.DefD := dd "checked_kind" s_checked_kind []
def d_39 : He.DefD := dd "kind_of" s_kind_of []
def d_40 : He.DefD := dd "_law_told_kind" s_law_told_kind []
def d_41 : He.DefD := dd "_law_is" s_law_is []
def d_42 : He.DefD := dd "_law_right" s_law_right []
def d_43 : He.DefD := dd "_law_urn" s_law_urn []
def d_44 : He.DefD := dd "law" s_law []
def d_45 : He.DefD := dd "subterms" s_subterms []
def m_0 : He.DefD := dm "__init__" "Kinder.__init__" s_K_init
def m_1 : He.DefD := dm "fail" "Kinder.fail" s_K_fail
def m_2 : He.DefD := dm "kind" "Kinder.kind" s_K_kind
def m_3 : He.DefD := dm "kind_here" "Kinder.kind_here" s_K_kind_here
def m_4 : He.DefD := dm "binding" "Kinder.binding" s_K_binding
def m_5 : He.DefD := dm "built" "Kinder.built" s_K_built
def m_6 : He.DefD := dm "reckoned" "Kinder.reckoned" s_K_reckoned
def m_7 : He.DefD := dm "rowed" "Kinder.rowed" s_K_rowed
def fnL : List He.DefD := [d_0, d_1, d_2, d_3, d_4, d_5, d_6, d_7, d_8, d_9, d_10, d_11, d_12, d_13, d_14, d_15, d_16, d_17, d_18, d_19, d_20, d_21, d_22, d_23, d_24, d_25, d_26, d_27, d_28, d_29, d_30, d_31, d_32, d_33, d_34, d_35, d_36, d_37, d_38, d_39, d_40, d_41, d_42, d_43, d_44, d_45, m_0, m_1, m_2, m_3, m_4, m_5, m_6, m_7]
def faL : List He.Fa := [.glo "_law_pull", .glo "_law_one", .glo "_law_truth", .glo "_law_deep", .glo "_law_shape", .glo "_law_seen", .glo "_law_can", .glo "_law_made_kind", .glo "_law_walk_case", .glo "_law_walk", .glo "_law_inner", .glo "_law_sizes", .glo "_law_is_small", .glo "_law_free", .glo "_law_data_kind", .glo "_law_argument_kind", .glo "_law_named", .glo "_law_other_kind", .glo "_law_bound", .glo "_law_flat", .glo "_law_fold", .glo "_law_built", .glo "_law_roundabout", .glo "_law_term", .glo "_law_text", .glo "_law_other_part", .glo "_law_bent_term", .glo "is_whole", .glo "is_variable", .glo "is_named", .glo "is_kinded", .glo "is_element", .glo "wrong_by", .glo "wrong_in_term", .glo "check_term", .glo "check_context", .glo "kinds_by", .glo "kind_by", .glo "checked_kind", .glo "kind_of", .glo "_law_told_kind", .glo "_law_is", .glo "_law_right", .glo "_law_urn", .glo "law", .glo "subterms", .glo "Kinder", .glo "WrongTerm", .glo "KIND_SIZES", .glo "SHAPES", .free "len", .free "max", .free "min", .free "sum", .free "all", .free "abs", .free "divmod", .free "repr", .free "isinstance", .free "int", .free "str", .free "bool", .free "dict", .free "tuple", .free "list", .free "range", .free "enumerate", .free "zip", .free "super", .cls "Kinder", .noat "Kinder" "wrong", .noat "Kinder" "kinds", .mkr "Kinder", .meth "Kinder" "fail", .meth "Kinder" "kind", .meth "Kinder" "kind_here", .meth "Kinder" "binding", .meth "Kinder" "built", .meth "Kinder" "reckoned", .meth "Kinder" "rowed"]
def coL : List (Str × PyData) := [("VARS", .tuple (varsL.map .str)), ("MOST_SIGNS", .int 8), ("WORDS", .tuple (wordsL.map .str)), ("LETTERS", .str lettersS), ("FIGURES", .str figuresS), ("SIGNS", .tuple (signL.map .str)), ("MOST_DEEP", .int 100), ("MOST_KIND_DEEP", .int 100), ("MOST_NAMES", .int 40), ("UNIT", kD .unit), ("NUM", kD .num), ("TRUTH", kD truthK)]
def boolK (K : PySem.W.Frag) : Bool := (faL.all fun f => f.ok K) && ((fnL.all fun d => d.ok K) && ((coL.all fun p => conB K p.1 p.2) && (tabB K (He.ga K "KIND_SIZES") kindTab && (tabB K (He.ga K "SHAPES") shapeTab && wtB K))))
abbrev AlK : Type := Bool × List He.FnW × IniV × Option (List (Option (Str × Int))) × Option (List (Option (Str × Int)))
def obsK (K : PySem.W.Frag) : AlK := (boolK K, fnL.map (fun d => He.fnW K d.at_), iniW K, He.dicW K (He.ga K "KIND_SIZES"), He.dicW K (He.ga K "SHAPES"))
def valK (w : World) : AlK := (true, fnL.map He.DefD.val, iniV, some (He.keysIn w.params (kindTab.map (·.1))), some (He.keysIn w.params (shapeTab.map (·.1))))
def partK (g : Addr → Option Obj) : PySem.W.Frag := He.frG g (cStatics :: He.asD g 5)
def SaysK (w : World) (K : PySem.W.Frag) : Prop := obsK K = valK w
def hookK : PySem.W.Hook where
  α := AlK
  obs := fun s => obsK (partK s.heap.get?)
  val := fun w => valK w
  says := fun w h => ∃ K : PySem.W.Frag, K.In h ∧ SaysK w K
  of := fun _ _ e => ⟨_, He.frG_in, e⟩
  keeps := fun _ _ _ ⟨K, hK, c⟩ k => ⟨K, PySem.W.Frag.In.keeps hK k, c⟩
def obK (s : PySem.W.SharedT) : AlK := obsK (partK (HandSHeadRun.getT s))
theorem obK_eq (s : PySem.W.SharedT) : obK s = hookK.obs s.abs := by
  have e : HandSHeadRun.getT s = s.abs.heap.get? := funext (HandSHeadRun.getT_eq s)
  show obsK (partK (HandSHeadRun.getT s)) = _
  rw [e] <;> rfl

abbrev RR : PySem.W.OpenRow := PySem.W.OpenLaw.row PySem.Challenge.rw_bykindalone_k20_whole_kinds_and_first_wr
def hnm0 : List PySem.Str := [("KindError" : PySem.Str), ("InvalidTerm" : PySem.Str), ("InvalidContext" : PySem.Str), ("WrongTerm" : PySem.Str), ("is_whole" : PySem.Str), ("VARS" : PySem.Str), ("KIND_SIZES" : PySem.Str), ("MOST_KIND_DEEP" : PySem.Str), ("NUM" : PySem.Str), ("UNIT" : PySem.Str), ("TRUTH" : PySem.Str), ("is_variable" : PySem.Str), ("is_kinded" : PySem.Str), ("SIGNS" : PySem.Str), ("SHAPES" : PySem.Str), ("MOST_SIGNS" : PySem.Str)]
def hnm1 : List PySem.Str := [("MOST_DEEP" : PySem.Str), ("LETTERS" : PySem.Str), ("FIGURES" : PySem.Str), ("WORDS" : PySem.Str), ("is_named" : PySem.Str), ("is_element" : PySem.Str), ("wrong_by" : PySem.Str), ("wrong_in_term" : PySem.Str), ("subterms" : PySem.Str), ("Kinder" : PySem.Str), ("kinds_by" : PySem.Str), ("kind_by" : PySem.Str), ("check_term" : PySem.Str), ("MOST_NAMES" : PySem.Str), ("check_context" : PySem.Str), ("checked_kind" : PySem.Str)]
def hnm2 : List PySem.Str := [("kind_of" : PySem.Str), ("_law_urn" : PySem.Str), ("_law_pull" : PySem.Str), ("_law_one" : PySem.Str), ("_law_is" : PySem.Str), ("_law_truth" : PySem.Str), ("_law_deep" : PySem.Str), ("_law_data_kind" : PySem.Str), ("_law_shape" : PySem.Str), ("_law_inner" : PySem.Str), ("_law_sizes" : PySem.Str), ("_law_is_small" : PySem.Str), ("_law_free" : PySem.Str), ("_law_seen" : PySem.Str), ("_law_made_kind" : PySem.Str), ("_law_walk_case" : PySem.Str)]
def hnm3 : List PySem.Str := [("_law_walk" : PySem.Str), ("_law_can" : PySem.Str), ("_law_flat" : PySem.Str), ("_law_named" : PySem.Str), ("_law_bound" : PySem.Str), ("_law_other_kind" : PySem.Str), ("_law_term" : PySem.Str), ("_law_roundabout" : PySem.Str), ("_law_fold" : PySem.Str), ("_law_built" : PySem.Str), ("_law_text" : PySem.Str), ("_law_argument_kind" : PySem.Str), ("_law_other_part" : PySem.Str), ("_law_bent_term" : PySem.Str), ("_law_told_kind" : PySem.Str), ("_law_right" : PySem.Str)]
def namesK : List PySem.Str := hnm0 ++ hnm1 ++ hnm2 ++ hnm3
theorem runK0 (w : World) : HandSHeadRun.RunEq RR (PySem.W.view RR.prog [72]) hookK obK 6000 namesK (w.withFollow "special-get-raises" false) := by
  intro os
  kernel_rfl
theorem runK1 (w : World) : HandSHeadRun.RunEq RR (PySem.W.view RR.prog [72]) hookK obK 6000 namesK (w.withFollow "special-get-raises" true) := by
  intro os
  kernel_rfl
theorem runK (w : World) : HandSHeadRun.RunEq RR (PySem.W.view RR.prog [72]) hookK obK 6000 namesK w := PySem.W.byRow2 "special-get-raises" runK0 runK1 w
end Kq
/-! F2: the head, ahead of all else: what is left is the law's def, called behind the top. -/
namespace Kq
open PySem PySem.Spec PyProof.Rows L2 PySem.W PySem.Calls
theorem headK (hc : PySem.W.WalkO (PySem.W.view RR.prog [72]) namesK (PySem.W.XL (PySem.W.view RR.prog [72]) []) hookK.says RR.toRowW (HandSHeadRun.topDef RR.prog 72) [] fun f vs => PySem.call f vs) : PySem.Challenge.rw_bykindalone_k20_whole_kinds_and_first_wr.Holds := by
  w_on; o_law
  refine HandSHeadRun.head_any (r := RR) (q := PySem.W.view RR.prog [72]) (H := hookK) (ob := obK) (M := 6000) (loose := namesK) (d := HandSHeadRun.topDef RR.prog 72) (kwd := []) obK_eq
    (by kernel_rfl) (fun s => by kernel_rfl) runK (by kernel_rfl) (by kernel_rfl) (by kernel_rfl) (by rfl) (by first | assumption | decide +kernel) (by decide +kernel) ⟨rfl, rfl, rfl, rfl, rfl, by decide +kernel⟩ ?hw hc
  case hw => w_witness2
theorem topK : (HandSHeadRun.topDef RR.prog 72).name = ("law" : PySem.Str) ∧ (HandSHeadRun.topDef RR.prog 72).params.defaults = [] := ⟨by kernel_rfl, by kernel_rfl⟩
end Kq
/-! K6: what the module's names stand for; the urn. -/
namespace Kq
open PySem PySem.Spec PyProof.Rows L2
/-- built-in names are not bound by the module -/
structure Bi (mg : Str → Option Value) : Prop where
  len_ : mg "len" = none
  max_ : mg "max" = none
  min_ : mg "min" = none
  sum_ : mg "sum" = none
  all_ : mg "all" = none
  abs_ : mg "abs" = none
  divmod_ : mg "divmod" = none
  repr_ : mg "repr" = none
  isinstance_ : mg "isinstance" = none
  int_ : mg "int" = none
  str_ : mg "str" = none
  bool_ : mg "bool" = none
  dict_ : mg "dict" = none
  tuple_ : mg "tuple" = none
  list_ : mg "list" = none
  range_ : mg "range" = none
  enumerate_ : mg "enumerate" = none
  zip_ : mg "zip" = none
/-! ### the urn: a list of three numbers that only _law_pull writes -/
def UrnOk (b sd c : Int) : Prop := 0 ≤ b ∧ 0 ≤ sd ∧ sd < 2147483563
structure Cap (W : Wd) (a : Addr) : Prop where
  mem : a ∈ W.u
  get : ∀ s H, W.I s H → ∃ b sd c : Int, H a = some (.lst [.int b, .int sd, .int c]) ∧ UrnOk b sd c
  put : ∀ s H (b sd c : Int), W.I s H → UrnOk b sd c → W.I s (upd H a (.lst [.int b, .int sd, .int c]))
def F_pull : FT := fun W s xs Q => ∃ (a : Addr) (n : Int), xs = [.o a, .d (.int n)] ∧ Cap W a ∧ 0 < n ∧ n < 1000000 ∧ ∀ k : Int, 0 ≤ k → k < n → Q s (.d (.int k))
def F_one : FT := fun W s xs Q => ∃ (a : Addr) (ds : List PyData), (xs = [.o a, .d (.list ds)] ∨ xs = [.o a, .d (.tuple ds)]) ∧ Cap W a ∧ ds ≠ [] ∧ ds.length < 1000000 ∧ ∀ d ∈ ds, Q s (.d d)
end Kq
/-! K7: dict displays: {**d, k: v}, and one of more than sixteen pairs. -/
namespace Kq
open PySem PySem.Spec PyProof.Rows L2
section
variable {prog : Program} {w : World} {κ : Type} [DecidableEq κ] {knd : KeyKind prog w κ} {A : Around} {E : Value → Shared → Prop} {s : Shared}
/-- one entry put by its stored hash -/
theorem put_run {d : Addr} {acc : List (κ × Value)} {k : κ} {key v : Value} {Q : Unit → Shared → Prop} (hkey : knd.is k key = true) (hm : s.heap.DictOf knd d acc) (hsz : acc.length ≤ sizeLine)
    (hQ : ∀ h', h'.DictOf knd d (stored acc k v) → Heap.SameBut d s.heap h' → Q () { s with heap := h' }) : wpAny (model prog w) A (dictPut d (knd.hash k) key v) Q E s := by
  obtain ⟨o, es, ep, ho, hc, hd, hk, hp, hn⟩ := hm
  have e2 : es.toList.length = acc.length := hp.length
  have hes : es.size ≤ sizeLine := by
    rw [Array.length_toList] at e2
    omega
  have look : (es.findIdx? fun e => knd.is k e.key) = acc.findIdx? fun kv => decide (kv.1 = k) := by
    have z := hp.findIdx k
    obtain ⟨l⟩ := es
    rw [← z]
    simp
  unfold dictPut
  refine wpAny_bind (wpAny_dictFind_of hkey ho hd hk ?_)
  cases hi : es.findIdx? fun e => knd.is k e.key with
  | some i =>
    have hl : (es.toList.findIdx? fun e => knd.is k e.key) = some i := by
      rw [← hi]
      obtain ⟨l⟩ := es
      simp
    have st : stored acc k v = acc.map fun kv => if kv.1 = k then (kv.1, v) else kv := by
      rw [stored, if_pos (any_of_findIdx_some (look ▸ hi))]
    refine wpAny_updateDict ho hd (hQ _ ⟨_, _, ep, Heap.get?_update_self _ ho (Obj.isFreed_of_dict (Obj.data_mapDict hd _)), hc.mapDict _, Obj.data_mapDict hd _, hk.modify _ _, ?_, ?_⟩ (Heap.SameBut.update ..))
    · rw [st]
      have z := hp.modify hn hl v
      obtain ⟨l⟩ := es
      simpa using z
    · rw [st, keys_map_store]
      exact hn
  | none =>
    have out : k ∉ acc.map (·.1) := not_mem_of_findIdx_none (look ▸ hi)
    have st : stored acc k v = acc ++ [(k, v)] := by
      refine if_neg fun z => ?_
      obtain ⟨kv, h1, h2⟩ := List.any_eq_true.mp z
      exact out (List.mem_map.mpr ⟨kv, h1, of_decide_eq_true h2⟩)
    refine wpAny_updateDictKeys (hz := hes) ho hd (hQ _ ⟨_, _, ep + 1, Heap.get?_update_self _ ho (Obj.isFreed_of_dict (Obj.data_mapDictKeys hd _)), hc.mapDictKeys _, Obj.data_mapDictKeys hd _, hk.push hkey _, ?_, ?_⟩ (Heap.SameBut.update ..))
    · rw [st]
      have z := hp.append hkey (knd.hash k) v
      obtain ⟨l⟩ := es
      simpa using z
    · rw [st, List.map_append]
      refine List.nodup_append.mpr ⟨hn, by simp, fun a ha b hb e => ?_⟩
      have hb' : b = k := by simpa using hb
      exact out (hb' ▸ e ▸ ha)
end
section
variable {prog : Program} {w : World} {A : Around} {E : Value → Shared → Prop} {s : Shared}
/-- a dict of texts and numbers goes into another one -/
theorem merge_run {d o : Addr} {acc more : List (Key × Value)} {Q : Unit → Shared → Prop} (hne : d ≠ o) (hsys : (o == sysModules) = false) (hd : s.heap.DictOf (mixKind prog w) d acc) (ho : s.heap.DictOf (mixKind prog w) o more) (hsz : acc.length + more.length ≤ sizeLine)
    (hQ : ∀ h', h'.DictOf (mixKind prog w) d (merged acc more) → Heap.SameBut d s.heap h' → Q () { s with heap := h' }) : wpAny (model prog w) A (mergeMapping d (.ref o) false) Q E s := by
  obtain ⟨od, esd, epd, hod, hcd, hdd, hkd, hpd, hnd⟩ := id hd
  obtain ⟨oo, eso, epo, hoo, hco, hdo', hko, hpo, hno⟩ := id ho
  have hT : s.TypeIs (.ref o) "dict" := ho.typeIs
  have hlen : more.length = eso.size := by
    rw [← hpo.length]
    simp
  unfold mergeMapping
  refine wpAny_bind (wpAny_isInstance hT isSubtype_dict_dict ?_)
  dsimp only
  rw [if_pos rfl]
  refine wpAny_bind (wpAny_specialOf hT F.slot_dict_iter.lookup (wpAny_bind (wpAny_pure ?_)))
  simp only [beq_self_eq_true]
  rw [if_neg (by rw [hsys]; exact Bool.false_ne_true)]
  have loop : ∀ Q : Unit → Shared → Prop, (∀ h', h'.DictOf (mixKind prog w) d (merged acc more) → Heap.SameBut d s.heap h' → Q () { s with heap := h' }) → wpAny (model prog w) A (do
      let size := (← dictEntries o).size
      let epoch ← dictEpoch o
      forIn (List.range size) PUnit.unit fun i (_ : PUnit) => (do
        let some e := (← dictEntries o)[i]? | (do (unsupported "dict.changed-during-merge" : Sem PUnit); pure (ForInStep.yield PUnit.unit))
        holding [e.key, e.val] (dictPut d e.hash e.key e.val)
        if (← dictEpoch o) != epoch then (unsupported "dict.changed-during-merge" : Sem PUnit)
        pure (ForInStep.yield PUnit.unit))
      pure ()) Q E s := by
    intro Q hQ
    refine wpAny_bind (wpAny_dictEntries hoo hdo' ?_)
    refine wpAny_bind (wpAny_dictEpoch hoo hdo' ?_)
    refine wpAny_bind ?_
    refine wpAny_forIn_list _ (fun rest _ s' => ∃ h' i, s' = { s with heap := h' } ∧ rest = (List.range eso.size).drop i ∧ i ≤ eso.size ∧ h'.DictOf (mixKind prog w) d (merged acc (more.take i)) ∧ h'.get? o = some oo ∧ Heap.SameBut d s.heap h') _ ?_ ?_ _ _ ⟨s.heap, 0, rfl, rfl, Nat.zero_le _, hd, hoo, Heap.SameBut.refl _ _⟩
    · rintro x rest b s' ⟨h', i, rfl, hr, hi, hdd, hoo', same⟩
      have hlt : i < eso.size := by
        refine Nat.lt_of_not_le fun z => ?_
        rw [List.drop_eq_nil_of_le (by rw [List.length_range]; exact z)] at hr
        cases hr
      rw [List.drop_eq_getElem_cons (by rw [List.length_range]; exact hlt)] at hr
      injection hr with h1 h2
      rw [List.getElem_range] at h1
      subst h1
      refine wpAny_bind (wpAny_dictEntries hoo' hdo' ?_)
      rw [Array.getElem?_eq_getElem hlt]
      have hm : more[x]? = some (more[x]'(by rw [hlen]; exact hlt)) := List.getElem?_eq_getElem _
      generalize hkv : more[x]'(by rw [hlen]; exact hlt) = kv at hm
      obtain ⟨k, v⟩ := kv
      obtain ⟨hkey, hval⟩ := hpo.get? (e := eso[x]) (by simp [hlt]) hm
      obtain ⟨k', hkey', hhash⟩ := hko eso[x] (Array.getElem_mem hlt)
      obtain rfl : k' = k := (mixKind prog w).inj _ _ _ hkey' hkey
      have len : (merged acc (more.take x)).length ≤ sizeLine := by
        have e1 := merged_length_le acc (more.take x)
        have e2 : (more.take x).length ≤ more.length := by
          rw [List.length_take]
          omega
        omega
      show wpAny _ _ (holding [eso[x].key, eso[x].val] (dictPut d eso[x].hash eso[x].key eso[x].val) >>= _) _ _ _
      rw [hhash, hval]
      refine wpAny_bind (wpAny_holding (put_run hkey hdd len fun h'' hd2 same2 => ?_))
      have hoo2 : h''.get? o = some oo := (same2.2 o (Ne.symm hne)).trans hoo'
      refine wpAny_bind (wpAny_dictEpoch hoo2 hdo' ?_)
      rw [if_neg (by simp)]
      exact wpAny_pure ⟨h'', x + 1, rfl, h2, hlt, by rw [merged_take_succ acc more x (k', v) hm]; exact hd2, hoo2, same.trans same2⟩
    · rintro b s' ⟨h', i, rfl, hr, hi, hdd, hoo', same⟩
      have full : more.take i = more := by
        refine List.take_of_length_le ?_
        have z : ((List.range eso.size).drop i).length = 0 := by rw [← hr]; rfl
        rw [List.length_drop, List.length_range] at z
        omega
      rw [full] at hdd
      exact wpAny_pure (hQ h' hdd same)
  simp only [Bool.false_eq_true, if_false]
  refine wpAny_bind (wpAny_dictEntries hod hdd ?_)
  split
  · refine wpAny_bind (wpAny_dictEntries hoo hdo' ?_)
    rw [← Array.forIn_toList]
    refine wpAny_bind (wpAny_forIn_list _ (fun rest _ s' => s' = s ∧ ∀ e ∈ rest, e ∈ eso) _ ?_ (fun b s' h => ?_) _ _ ⟨rfl, fun e he => by simpa using he⟩)
    · rintro e rest b s' ⟨rfl, hr⟩
      obtain ⟨k, hk, _⟩ := hko e (hr e List.mem_cons_self)
      have nref : ∀ a, e.key ≠ Value.ref a := fun a z => by
        rw [z] at hk
        rcases k with k | k <;> cases hk
      have tail : ∀ e ∈ rest, e ∈ eso := fun e he => hr e (List.mem_cons_of_mem _ he)
      split
      · rename_i a z
        exact absurd z (nref a)
      · exact wpAny_pure ⟨rfl, tail⟩
    · obtain ⟨rfl, _⟩ := h
      exact loop Q hQ
  · exact loop Q hQ

/-- {**m, k: v}: the new dict, the merge, the pair in a dict of its own, the second merge -/
theorem star_run {tm tk tv : Sem Value} {Q : Value → Shared → Prop}
    (h : wpAny (model prog w) A tm (fun m s1 => ∃ o acc, m = .ref o ∧ s.heap.objs.size ≠ o ∧ (o == sysModules) = false ∧ s1.heap.DictOf (mixKind prog w) s.heap.objs.size [] ∧ s1.heap.DictOf (mixKind prog w) o acc ∧ acc.length ≤ 1000 ∧
      ∀ h1, h1.DictOf (mixKind prog w) s.heap.objs.size (merged [] acc) → Heap.SameBut s.heap.objs.size s1.heap h1 →
        wpAny (model prog w) A tk (fun kv s2 => wpAny (model prog w) A tv (fun vv s3 => ∃ k acc2, keyIs k kv = true ∧ s3.heap.DictOf (mixKind prog w) h1.objs.size [] ∧ h1.objs.size ≠ s.heap.objs.size ∧ (h1.objs.size == sysModules) = false ∧ s3.heap.DictOf (mixKind prog w) s.heap.objs.size acc2 ∧ acc2.length ≤ 1000 ∧
          ∀ h4 tk', h4.DictOf (mixKind prog w) s.heap.objs.size (merged acc2 [(k, vv)]) → (∃ h3, h3.DictOf (mixKind prog w) h1.objs.size [(k, vv)] ∧ Heap.SameBut h1.objs.size s3.heap h3 ∧ Heap.SameBut s.heap.objs.size h3 h4) → Q (.ref s.heap.objs.size) { s3 with heap := h4, toks := tk' }) E s2) E
          { s1 with heap := h1.push { cls := .type "dict", data := .dict #[] } }) E { s with heap := s.heap.push { cls := .type "dict", data := .dict #[] } }) :
    wpAny (model prog w) A (dictDisplay [(none, tm), (some tk, tv)]) Q E s := by
  unfold dictDisplay
  simp only [List.forIn_cons, List.forIn_nil, List.isEmpty_nil, if_true, pure_bind, List.nil_append, List.length_singleton, bind_assoc]
  refine wpAny_bind (wpAny_alloc ?_)
  refine wpAny_bind (wpAny_holding (wpAny_mono h (fun m s1 h1 => ?_) fun _ _ z => z))
  obtain ⟨o, acc, rfl, hne, hsys, hd, ho, hl, h1⟩ := h1
  refine wpAny_bind (wpAny_onRaise (wpAny_tryCatch (wpAny_onRaise (wpAny_holding (merge_run hne hsys hd ho (by rw [sizeLine_eq, List.length_nil]; omega) fun g1 hg1 same1 => ?_)))))
  have h2 := h1 g1 hg1 same1
  rw [if_neg (by decide)]
  refine wpAny_bind (wpAny_pure (wpAny_bind (wpAny_pure ?_)))
  rw [if_neg (by simp)]
  refine wpAny_bind ?_
  refine wpAny_bind (wpAny_holding ?_)
  unfold subDict
  refine wpAny_bind (wpAny_alloc (wpAny_bind (wpAny_holding ?_)))
  rw [if_pos (by show 1 ≤ 15; omega)]
  refine wpAny_bind ?_
  unfold evalPairs evalPairs
  refine wpAny_bind (wpAny_mono h2 (fun kv s2 h3 => wpAny_bind (wpAny_holding (wpAny_mono h3 (fun vv s3 h4 => ?_) fun _ _ z => z))) fun _ _ z => z)
  obtain ⟨k, acc2, hk, hsub, hne2, hsys2, hd2, hl2, h4⟩ := h4
  refine wpAny_bind (wpAny_holding (wpAny_pure (wpAny_pure ?_)))
  refine wpAny_holding ?_
  refine wpAny_bind (wpAny_storeAll (knd := mixKind prog w) [(kv, vv)] [(k, vv)] [] _ _ ⟨hk, rfl, True.intro⟩ hsub (by rw [sizeLine_eq]; show 0 + 1 ≤ _; omega) fun g3 hg3 same3 => ?_)
  refine wpAny_pure (wpAny_pure ?_)
  have hd3 : g3.DictOf (mixKind prog w) s.heap.objs.size acc2 := hd2.sameBut same3 (Ne.symm hne2)
  refine wpAny_bind (wpAny_onRaise (wpAny_holding (merge_run (Ne.symm hne2) hsys2 hd3 hg3 (by rw [sizeLine_eq, show (merged ([] : List (Key × Value)) [(k, vv)]).length = 1 from rfl]; omega) fun g4 hg4 same4 => ?_)))
  refine wpAny_pure (wpAny_pure ?_)
  exact h4 g4 _ hg4 ⟨g3, hg3, same3, same4⟩
end
/-- {**m, k: v} -/
def tDStar (tm tk tv : TE) : TE := fun σ H Q => ∀ p, H p = none → tm σ (upd H p (.dK [])) fun x H1 => ∃ o kvs, x = .ref o ∧ H1 o = some (.dK kvs) ∧ o ≠ p ∧ H1 p = some (.dK []) ∧ kvs.length ≤ 900 ∧
  ∀ q, q ≠ p → upd H1 p (.dK (mergeK [] kvs)) q = none → tk σ (upd (upd H1 p (.dK (mergeK [] kvs))) q (.dK [])) fun y H2 => tv σ H2 fun z H3 => ∃ (k : Key) (kv2 : List (Key × V)), y = kV k ∧ H3 p = some (.dK kv2) ∧ kv2.length ≤ 900 ∧ H3 q = some (.dK []) ∧
    Q (.ref p) (upd (upd H3 q (.dK [(k, z)])) p (.dK (mergeK kv2 [(k, z)])))
theorem pe_dstar {X : Cx} {m k v : Expr} {tm tk tv : TE} {pos : Pos} (hm : PE X m tm) (hk : PE X k tk) (hv : PE X v tv) : PE X (.Dict [none, some k] [m, v] pos) (tDStar tm tk tv) := by
  refine ⟨fun pins s σ H Q I h => ?_⟩
  rw [arm_eval_Dict]
  refine wpAny_bind (wpAny_standAt ?_)
  show wpAny _ _ (dictDisplay [(none, do let x ← eval m X.env; standAt pos; pure x), (some (eval k X.env), do let x ← eval v X.env; standAt pos; pure x)]) _ _ _
  have hn := I.hok.fresh (Nat.le_refl s.heap.objs.size)
  have I0 := I.laid (a := s.heap.objs.size) (o := .dK []) (h' := s.heap.push { cls := .type "dict", data := .dict #[] }) (t' := s.toks) (fun _ _ q => Heap.get?_push_of_some _ q) (Nat.le_refl _) (dk_empty s.heap I.big)
  refine star_run (wpAny_bind (thn (hm.run pins _ σ _ _ I0 (h _ hn)) fun u s1 ⟨x, H1, I1, rx, q1⟩ => wpAny_bind (wpAny_standAt (wpAny_pure ?_))))
  obtain ⟨o, kvs, rfl, ho, hop, hp, hl, q1⟩ := q1
  cases rx
  obtain ⟨zo, so, vo, ro, Do⟩ := dk_of I1.hok ho
  obtain ⟨zp, sp, vp, rp, Dp⟩ := dk_of I1.hok hp
  cases rp
  have lo : kvs.length = vo.length := ro.length
  refine ⟨o, vo, rfl, Ne.symm hop, so, Dp, Do, by omega, fun h1 hd1 same1 => ?_⟩
  have hz1 : (mergeK [] kvs).length ≤ sizeLine := by
    have z := length_mergeK kvs []
    rw [List.length_nil] at z
    rw [sizeLine_eq]
    omega
  have I2 : Inv X pins σ (upd H1 s.heap.objs.size (.dK (mergeK [] kvs))) { s1 with heap := h1 } :=
    d_write (t' := s1.toks) I1 (by rw [hp]; exact True.intro) same1 (let ⟨q, _, _, hq, _⟩ := hd1; ⟨q, hq⟩) (dk_new hz1 sp (ro.merge .nil) hd1)
  have hq := I2.hok.fresh (Nat.le_refl h1.objs.size)
  have nqp : h1.objs.size ≠ s.heap.objs.size := fun z => by
    rw [z, upd_same] at hq
    cases hq
  have I3 := I2.laid (a := h1.objs.size) (o := .dK []) (h' := h1.push { cls := .type "dict", data := .dict #[] }) (t' := s1.toks) (fun _ _ q => Heap.get?_push_of_some _ q) (Nat.le_refl _) (dk_empty h1 I2.big)
  refine thn (hk.run pins _ σ _ _ I3 (q1 _ nqp hq)) fun w1 s2 ⟨y, H2, I4, ry, q2⟩ => ?_
  refine wpAny_bind (thn (hv.run pins s2 σ H2 _ I4 q2) fun w2 s3 ⟨z, H3, I5, rz, q3⟩ => wpAny_bind (wpAny_standAt (wpAny_pure ?_)))
  obtain ⟨key, kv2, rfl, hp3, hl2, hq3, q3⟩ := q3
  obtain ⟨zq, sq, vq, rq, Dq⟩ := dk_of I5.hok hq3
  cases rq
  obtain ⟨zp3, sp3, vp3, rp3, Dp3⟩ := dk_of I5.hok hp3
  have l3 : kv2.length = vp3.length := rp3.length
  refine ⟨key, vp3, kV_is (P := X.prog) (w := X.w) ry, Dq, nqp, sq, Dp3, by omega, fun h4 tk' hd4 ⟨h3, hd3, same3, same4⟩ => ?_⟩
  have one : KV [(key, z)] [(key, w2)] := .cons ⟨rfl, rz⟩ .nil
  have I6 : Inv X pins σ (upd H3 h1.objs.size (.dK [(key, z)])) { s3 with heap := h3, toks := tk' } :=
    d_write (t' := tk') I5 (by rw [hq3]; exact True.intro) same3 (let ⟨q, _, _, hq, _⟩ := hd3; ⟨q, hq⟩) (dk_new (by rw [sizeLine_eq]; show 1 ≤ _; omega) sq one hd3)
  have hz4 : (mergeK kv2 [(key, z)]).length ≤ sizeLine := by
    have z := length_mergeK [(key, z)] kv2
    rw [List.length_singleton] at z
    rw [sizeLine_eq]
    omega
  have np : upd H3 h1.objs.size (.dK [(key, z)]) s.heap.objs.size = some (.dK kv2) := by
    rw [upd_ne (Ne.symm nqp)]
    exact hp3
  exact ⟨.ref s.heap.objs.size, _, d_write (s := { s3 with heap := h3, toks := tk' }) (t' := tk') I6 (by rw [np]; exact True.intro) same4 (let ⟨q, _, _, hq, _⟩ := hd4; ⟨q, hq⟩) (dk_new hz4 sp (one.merge rp3) hd4), rfl, q3⟩
end Kq
/-! K8: a displayed dict of 18 to 33 written texts. -/
namespace Kq
open PySem PySem.Spec PyProof.Rows L2
/-- a tree that gives a written text -/
def Says (t : Sem Value) (x : Str) : Prop := ∀ (M : Model) (A : Around) (E : Value → Shared → Prop) (s : Shared) (Q : Value → Shared → Prop), Q (.str x s.toks) { s with toks := s.toks + 1 } → wpAny M A t Q E s
inductive SaysAll : List (Sem Value × Sem Value) → List (Str × Str) → Prop
  | nil : SaysAll [] []
  | cons {t u : Sem Value} {x y : Str} {l : List (Sem Value × Sem Value)} {ps : List (Str × Str)} : Says t x → Says u y → SaysAll l ps → SaysAll ((t, u) :: l) ((x, y) :: ps)
theorem SaysAll.append : ∀ {l l' : List (Sem Value × Sem Value)} {ps qs : List (Str × Str)}, SaysAll l ps → SaysAll l' qs → SaysAll (l ++ l') (ps ++ qs)
  | _, _, _, _, .nil, k => k
  | _, _, _, _, .cons a b h, k => .cons a b (h.append k)
theorem SaysAll.length : ∀ {l : List (Sem Value × Sem Value)} {ps : List (Str × Str)}, SaysAll l ps → l.length = ps.length
  | _, _, .nil => rfl
  | _, _, .cons _ _ h => congrArg (· + 1) h.length
def textsKV (ps : List (Str × Str)) : List (Key × V) := ps.map fun p => (Sum.inr p.1, V.str p.2)
/-- the pairs with tokens -/
inductive ToksOf : List (Str × Str) → List (Key × Value) → Prop
  | nil : ToksOf [] []
  | cons {x y : Str} {t : Tok} {ps : List (Str × Str)} {kvs : List (Key × Value)} : ToksOf ps kvs → ToksOf ((x, y) :: ps) ((Sum.inr x, .str y t) :: kvs)
theorem ToksOf.kv : ∀ {ps : List (Str × Str)} {kvs : List (Key × Value)}, ToksOf ps kvs → KV (textsKV ps) kvs
  | _, _, .nil => .nil
  | _, _, .cons h => .cons ⟨rfl, _, rfl⟩ h.kv
theorem ToksOf.keys : ∀ {ps : List (Str × Str)} {kvs : List (Key × Value)}, ToksOf ps kvs → kvs.map (·.1) = ps.map fun p => (Sum.inr p.1 : Key)
  | _, _, .nil => rfl
  | _, _, .cons h => by rw [List.map_cons, List.map_cons, h.keys]
theorem ToksOf.append : ∀ {ps qs : List (Str × Str)} {kvs lvs : List (Key × Value)}, ToksOf ps kvs → ToksOf qs lvs → ToksOf (ps ++ qs) (kvs ++ lvs)
  | _, _, _, _, .nil, k => k
  | _, _, _, _, .cons h, k => .cons (h.append k)
theorem ToksOf.length : ∀ {ps : List (Str × Str)} {kvs : List (Key × Value)}, ToksOf ps kvs → ps.length = kvs.length
  | _, _, .nil => rfl
  | _, _, .cons h => congrArg (· + 1) h.length
section
variable {prog : Program} {w : World} {A : Around} {E : Value → Shared → Prop}
/-- the pairs' trees, one behind another -/
theorem says_pairs : ∀ {l : List (Sem Value × Sem Value)} {ps : List (Str × Str)} (s : Shared) (Q : List (Value × Value) → Shared → Prop), SaysAll l ps →
    (∀ vs kvs tk, ToksOf ps kvs → Carries (mixKind prog w) vs kvs → Q vs { s with toks := tk }) → wpAny (model prog w) A (evalPairs l) Q E s
  | _, _, s, Q, .nil, h => by
    unfold evalPairs
    exact wpAny_pure (h [] [] s.toks .nil True.intro)
  | _, _, s, Q, .cons (x := x) (y := y) a b t, h => by
    unfold evalPairs
    refine wpAny_bind (a _ _ _ _ _ (wpAny_bind (wpAny_holding (b _ _ _ _ _ (wpAny_bind (wpAny_holding ?_))))))
    refine says_pairs _ _ t fun vs kvs tk h1 h2 => wpAny_pure ?_
    exact h _ ((Sum.inr x, .str y (s.toks + 1)) :: kvs) tk (.cons h1) ⟨keyIs_str x s.toks, rfl, h2⟩
/-- the long road: each pair is put as it comes -/
theorem says_loop {d : Addr} : ∀ {l : List (Sem Value × Sem Value)} {ps : List (Str × Str)} (acc : List (Key × Value)) (s : Shared) (Q : PUnit → Shared → Prop), SaysAll l ps → s.heap.DictOf (mixKind prog w) d acc → acc.length + ps.length ≤ 1000 →
    (∀ h' tk kvs, ToksOf ps kvs → h'.DictOf (mixKind prog w) d (merged acc kvs) → Heap.SameBut d s.heap h' → Q PUnit.unit { s with heap := h', toks := tk }) →
    wpAny (model prog w) A (forIn l PUnit.unit fun (x : Sem Value × Sem Value) (_ : PUnit) => (do let kv ← x.1; let vv ← holding [kv] x.2; holding [kv, vv] (dictSet d kv vv); pure (ForInStep.yield PUnit.unit) : Sem (ForInStep PUnit))) Q E s
  | _, _, acc, s, Q, .nil, hd, hl, h => by
    rw [List.forIn_nil]
    exact wpAny_pure (h s.heap s.toks [] .nil hd (Heap.SameBut.refl _ _))
  | _, _, acc, s, Q, .cons (x := x) (y := y) a b t, hd, hl, h => by
    rw [List.forIn_cons]
    rw [List.length_cons] at hl
    refine wpAny_bind (wpAny_bind (a _ _ _ _ _ (wpAny_bind (wpAny_holding (b _ _ _ _ _ (wpAny_bind (wpAny_holding ?_)))))))
    refine wpAny_dictSet_pairs (knd := mixKind prog w) (k := Sum.inr x) (hsz := by rw [sizeLine_eq]; omega) (keyIs_str x s.toks) hd fun h1 hd1 same1 => wpAny_pure ?_
    dsimp only
    have e1 := stored_length_le acc (Sum.inr x : Key) (.str y (s.toks + 1))
    refine says_loop (stored acc (Sum.inr x) (.str y (s.toks + 1))) _ Q t hd1 (by omega) fun h2 tk kvs h3 h4 h5 => ?_
    exact h h2 tk ((Sum.inr x, .str y (s.toks + 1)) :: kvs) (.cons h3) h4 (same1.trans h5)
theorem gather_then {f : (Option (Sem Value) × Sem Value) → (Option Addr × List (Sem Value × Sem Value)) → Sem (ForInStep (Option Addr × List (Sem Value × Sem Value)))} {m : Option Addr} {rest : List (Option (Sem Value) × Sem Value)}
    (hf : ∀ (p : Sem Value × Sem Value) (run : List (Sem Value × Sem Value)), run.length + 1 < 17 → f (some p.1, p.2) (m, run) = pure (.yield (m, run ++ [p]))) :
    ∀ (l run : List (Sem Value × Sem Value)), run.length + l.length < 17 → forIn (l.map (fun p => (some p.1, p.2)) ++ rest) (m, run) f = forIn rest (m, run ++ l) f
  | [], run, _ => by
    rw [List.append_nil]
    rfl
  | p :: l, run, h => by
    rw [List.length_cons] at h
    rw [List.map_cons, List.cons_append, List.forIn_cons, hf p run (by omega), pure_bind]
    have z := gather_then (rest := rest) hf l (run ++ [p]) (by rw [List.length_append, List.length_singleton]; omega)
    rw [List.append_assoc] at z
    exact z
theorem subDict_long {s : Shared} {l : List (Sem Value × Sem Value)} {ps : List (Str × Str)} {Q : Addr → Shared → Prop} (h : SaysAll l ps) (h0 : s.heap.DictOf (mixKind prog w) 0 [] → True) (h1 : 15 < l.length) (h2 : l.length ≤ 900)
    (hd : (s.heap.push { cls := .type "dict", data := .dict #[] }).DictOf (mixKind prog w) s.heap.objs.size [])
    (hq : ∀ h' tk kvs, ToksOf ps kvs → h'.DictOf (mixKind prog w) s.heap.objs.size (merged [] kvs) → Heap.SameBut s.heap.objs.size (s.heap.push { cls := .type "dict", data := .dict #[] }) h' → Q s.heap.objs.size { s with heap := h', toks := tk }) :
    wpAny (model prog w) A (subDict l) Q E s := by
  unfold subDict
  refine wpAny_bind (wpAny_alloc (wpAny_bind (wpAny_holding ?_)))
  rw [if_neg (by omega)]
  refine wpAny_bind (wpAny_rule ?_)
  refine wpAny_bind (says_loop (prog := prog) (w := w) (d := s.heap.objs.size) [] _ _ h hd (by rw [← h.length, List.length_nil]; omega) fun h' tk kvs a b c => ?_)
  exact wpAny_pure (wpAny_pure (hq h' tk kvs a b c))
theorem short_or_long {s : Shared} {l : List (Sem Value × Sem Value)} {ps : List (Str × Str)} {Q : Addr → Shared → Prop} (h : SaysAll l ps) (h2 : l.length ≤ 15)
    (hd : (s.heap.push { cls := .type "dict", data := .dict #[] }).DictOf (mixKind prog w) s.heap.objs.size [])
    (hq : ∀ h' tk kvs, ToksOf ps kvs → h'.DictOf (mixKind prog w) s.heap.objs.size (merged [] kvs) → Heap.SameBut s.heap.objs.size (s.heap.push { cls := .type "dict", data := .dict #[] }) h' → Q s.heap.objs.size { s with heap := h', toks := tk }) :
    wpAny (model prog w) A (subDict l) Q E s := by
  refine wpAny_subDict (knd := mixKind prog w) h2 ?_
  refine says_pairs _ _ h fun vs kvs tk a b => ⟨kvs, b, hd, fun h' c d => hq h' _ kvs a c d⟩
theorem long_run {s : Shared} {l1 l2 : List (Sem Value × Sem Value)} {p : Sem Value × Sem Value} {ps qs : List (Str × Str)} {Q : Value → Shared → Prop} (h : SaysAll (l1 ++ [p]) ps) (h' : SaysAll l2 qs) (h1 : l1.length = 16) (h2 : l2.length < 16) (h3 : l2 ≠ [])
    (hd : (s.heap.push { cls := .type "dict", data := .dict #[] }).DictOf (mixKind prog w) s.heap.objs.size []) (hs1 : (s.heap.objs.size == sysModules) = false)
    (hq : ∀ (ha : Heap) (t1 : Nat) (k1 : List (Key × Value)), ToksOf ps k1 → ha.DictOf (mixKind prog w) s.heap.objs.size (merged [] k1) → Heap.SameBut s.heap.objs.size (s.heap.push { cls := .type "dict", data := .dict #[] }) ha →
      (ha.push { cls := .type "dict", data := .dict #[] }).DictOf (mixKind prog w) ha.objs.size [] ∧ (ha.objs.size == sysModules) = false ∧ ha.objs.size ≠ s.heap.objs.size ∧
      ∀ hb t2 k2, ToksOf qs k2 → hb.DictOf (mixKind prog w) ha.objs.size (merged [] k2) → Heap.SameBut ha.objs.size (ha.push { cls := .type "dict", data := .dict #[] }) hb →
        hb.DictOf (mixKind prog w) s.heap.objs.size (merged [] k1) ∧ 
        ∀ hc, hc.DictOf (mixKind prog w) s.heap.objs.size (merged (merged [] k1) (merged [] k2)) → Heap.SameBut s.heap.objs.size hb hc → Q (.ref s.heap.objs.size) { s with heap := hc, toks := t2 }) :
    wpAny (model prog w) A (dictDisplay (l1.map (fun p => (some p.1, p.2)) ++ (some p.1, p.2) :: (l2.map (fun p => (some p.1, p.2)) ++ []))) Q E s := by
  unfold dictDisplay
  dsimp only
  rw [gather_then (fun p run h => by
    have hne : ((run ++ [(p.1, p.2)]).length == 17) = false := by simp; omega
    simp only [hne, Bool.false_eq_true, if_false]) l1 [] (by rw [List.length_nil]; omega), List.forIn_cons]
  dsimp only
  rw [List.nil_append, if_pos (by simp [h1]), if_neg (by simp)]
  simp only [bind_assoc, pure_bind]
  refine wpAny_bind (subDict_long (prog := prog) (w := w) h (fun _ => trivial) (by simp [h1]) (by simp [h1]) hd fun ha t1 k1 a1 d1 sm1 => ?_)
  obtain ⟨e1, e2, e3, e4⟩ := hq ha t1 k1 a1 d1 sm1
  rw [gather_then (fun p run h => by
    have hne : ((run ++ [(p.1, p.2)]).length == 17) = false := by simp; omega
    simp only [hne, Bool.false_eq_true, if_false]) l2 [] (by rw [List.length_nil]; omega), List.forIn_nil]
  refine wpAny_bind (wpAny_pure ?_)
  rw [List.nil_append, if_neg (by simpa using h3)]
  dsimp only
  simp only [bind_assoc, pure_bind]
  refine wpAny_bind (wpAny_holding ?_)
  refine short_or_long (prog := prog) (w := w) h' (by omega) e1 fun hb t2 k2 a2 d2 sm2 => ?_
  obtain ⟨e5, e6⟩ := e4 hb t2 k2 a2 d2 sm2
  have z1 := merged_length_le ([] : List (Key × Value)) k1
  have z2 := merged_length_le ([] : List (Key × Value)) k2
  have z3 := a1.length
  have z4 := a2.length
  have z5 := h.length
  have z6 := h'.length
  rw [List.length_append, List.length_singleton] at z5
  rw [List.length_nil] at z1 z2
  refine wpAny_bind (wpAny_onRaise (wpAny_holding (merge_run (Ne.symm e3) e2 e5 d2 (by rw [sizeLine_eq]; omega) fun hc d3 sm3 => ?_)))
  refine wpAny_pure ?_
  exact e6 hc d3 sm3
end
def cst : Expr → Option Str
  | .Constant (.str x) _ _ => some x
  | _ => none
theorem says_cst {e : Expr} {x : Str} {env : Env} (h : cst e = some x) : Says (eval e env) x := by
  unfold cst at h
  split at h
  · cases h
    intro M A E s Q q
    exact Calls.Constant_str q
  · cases h
def lits : List (Option Expr) → List Expr → Option (List (Str × Str))
  | [], [] => some []
  | some k :: ks, v :: vs => (cst k).bind fun x => (cst v).bind fun y => (lits ks vs).map ((x, y) :: ·)
  | _, _ => none
theorem lits_all {env : Env} {pos : Pos} : ∀ {ks : List (Option Expr)} {vs : List Expr} {ps : List (Str × Str)}, lits ks vs = some ps →
    ∃ l, (evalEachOpt ks env).zip ((evalEach vs env).map fun v => do let x ← v; standAt pos; pure x) = l.map (fun p => (some p.1, p.2)) ∧ SaysAll l ps
  | [], [], ps, h => by
    cases h
    exact ⟨[], rfl, .nil⟩
  | [], _ :: _, ps, h => by cases h
  | none :: _, _, ps, h => by cases h
  | some k :: ks, [], ps, h => by cases h
  | some k :: ks, v :: vs, ps, h => by
    unfold lits at h
    cases hk : cst k with
    | none => rw [hk] at h; cases h
    | some x =>
      rw [hk, Option.bind_some] at h
      cases hv : cst v with
      | none => rw [hv] at h; cases h
      | some y =>
        rw [hv, Option.bind_some] at h
        cases hr : lits ks vs with
        | none => rw [hr] at h; cases h
        | some qs =>
          rw [hr] at h
          cases h
          obtain ⟨l, e, a⟩ := lits_all (env := env) (pos := pos) hr
          refine ⟨(eval k env, do let x ← eval v env; standAt pos; pure x) :: l, ?_, .cons (says_cst hk) (fun M A E s Q q => wpAny_bind (says_cst hv M A E s _ (wpAny_bind (wpAny_standAt (wpAny_pure q))))) a⟩
          rw [List.map_cons, ← e]
          rfl
theorem SaysAll.split : ∀ (n : Nat) {l : List (Sem Value × Sem Value)} {ps : List (Str × Str)}, SaysAll l ps → SaysAll (l.take n) (ps.take n) ∧ SaysAll (l.drop n) (ps.drop n)
  | 0, _, _, h => ⟨.nil, h⟩
  | _ + 1, _, _, .nil => ⟨.nil, .nil⟩
  | n + 1, _, _, .cons a b h => ⟨.cons a b (h.split n).1, (h.split n).2⟩
/-- a display of 18 to 32 written texts -/
def tDLong (ps : List (Str × Str)) : TE := fun _ H Q => ∀ p q, H p = none → q ≠ p → H q = none → 
  Q (.ref p) (upd (upd (upd H p (.dK (mergeK [] (textsKV (ps.take 17))))) q (.dK (mergeK [] (textsKV (ps.drop 17))))) p (.dK (mergeK (mergeK [] (textsKV (ps.take 17))) (mergeK [] (textsKV (ps.drop 17))))))
theorem pe_dlong {X : Cx} {ks : List (Option Expr)} {vs : List Expr} {pos : Pos} {ps : List (Str × Str)} (h : lits ks vs = some ps) (h1 : 17 < ps.length) (h2 : ps.length ≤ 32) : PE X (.Dict ks vs pos) (tDLong ps) := by
  refine ⟨fun pins s σ H Q I hq => ?_⟩
  obtain ⟨l, e, a⟩ := lits_all (env := X.env) (pos := pos) h
  rw [arm_eval_Dict, e]
  refine wpAny_bind (wpAny_standAt ?_)
  have hn := I.hok.fresh (Nat.le_refl s.heap.objs.size)
  obtain ⟨z0, hs1, v0, r0, D0⟩ := (dk_of (P := X.prog) (w := X.w) (I.laid (a := s.heap.objs.size) (o := .dK []) (h' := s.heap.push { cls := .type "dict", data := .dict #[] }) (t' := s.toks) (fun _ _ q => Heap.get?_push_of_some _ q) (Nat.le_refl _) (dk_empty s.heap I.big)).hok upd_same)
  cases r0
  have I0 := I.laid (a := s.heap.objs.size) (o := .dK []) (h' := s.heap.push { cls := .type "dict", data := .dict #[] }) (t' := s.toks) (fun _ _ q => Heap.get?_push_of_some _ q) (Nat.le_refl _) (dk_empty s.heap I.big)
  have ll := a.length
  have e16 : l = l.take 16 ++ l[16]'(by omega) :: l.drop 17 := by
    rw [← List.drop_eq_getElem_cons (by omega), List.take_append_drop]
  have e17 : l.take 17 = l.take 16 ++ [l[16]'(by omega)] := by rw [List.take_succ_eq_append_getElem]
  have sh : l.map (fun p => (some p.1, p.2)) = (l.take 16).map (fun p => (some p.1, p.2)) ++ (some (l[16]'(by omega)).1, (l[16]'(by omega)).2) :: ((l.drop 17).map (fun p => (some p.1, p.2)) ++ []) := by
    conv => lhs; rw [e16]
    rw [List.map_append, List.map_cons, List.append_nil]
  rw [sh]
  refine long_run (p := l[16]'(by omega)) (ps := ps.take 17) (qs := ps.drop 17) (by rw [← e17]; exact (a.split 17).1) (a.split 17).2 (by rw [List.length_take]; omega) (by rw [List.length_drop]; omega) (fun z => by
    have := congrArg List.length z
    rw [List.length_drop, List.length_nil] at this
    omega) D0 hs1 fun ha t1 k1 a1 d1 sm1 => ?_
  have hz1 : (mergeK [] (textsKV (ps.take 17))).length ≤ sizeLine := by
    have z := length_mergeK (textsKV (ps.take 17)) []
    have z2 : (textsKV (ps.take 17)).length ≤ 17 := by
      unfold textsKV
      rw [List.length_map, List.length_take]
      omega
    rw [List.length_nil] at z
    rw [sizeLine_eq]
    omega
  have I1 : Inv X pins σ (upd (upd H s.heap.objs.size (.dK [])) s.heap.objs.size (.dK (mergeK [] (textsKV (ps.take 17))))) { s with heap := ha, toks := t1 } :=
    d_write (s := { s with heap := s.heap.push { cls := .type "dict", data := .dict #[] }, toks := s.toks }) (t' := t1) I0 (by rw [upd_same]; exact True.intro) sm1 (let ⟨q, _, _, hq, _⟩ := d1; ⟨q, hq⟩) (dk_new hz1 hs1 (a1.kv.merge .nil) d1)
  have uu : upd (upd H s.heap.objs.size (.dK [])) s.heap.objs.size (.dK (mergeK [] (textsKV (ps.take 17)))) = upd H s.heap.objs.size (.dK (mergeK [] (textsKV (ps.take 17)))) := by
    funext b
    by_cases hb : b = s.heap.objs.size
    · subst hb
      rw [upd_same, upd_same]
    · rw [upd_ne hb, upd_ne hb, upd_ne hb]
  rw [uu] at I1
  have hqn := I1.hok.fresh (Nat.le_refl ha.objs.size)
  have nqp : ha.objs.size ≠ s.heap.objs.size := fun z => by
    rw [z, upd_same] at hqn
    cases hqn
  have I2 := I1.laid (a := ha.objs.size) (o := .dK []) (h' := ha.push { cls := .type "dict", data := .dict #[] }) (t' := t1) (fun _ _ q => Heap.get?_push_of_some _ q) (Nat.le_refl _) (dk_empty ha I1.big)
  obtain ⟨z3, hs2, v3, r3, D3⟩ := dk_of I2.hok upd_same
  cases r3
  refine ⟨D3, hs2, nqp, fun hb t2 k2 a2 d2 sm2 => ⟨?_, fun hc d3 sm3 => ?_⟩⟩
  · exact (d1.push _).sameBut sm2 (Ne.symm nqp)
  have hz2 : (mergeK [] (textsKV (ps.drop 17))).length ≤ sizeLine := by
    have z := length_mergeK (textsKV (ps.drop 17)) []
    have z2 : (textsKV (ps.drop 17)).length ≤ 32 := by
      unfold textsKV
      rw [List.length_map, List.length_drop]
      omega
    rw [List.length_nil] at z
    rw [sizeLine_eq]
    omega
  have I3 : Inv X pins σ (upd (upd (upd H s.heap.objs.size (.dK (mergeK [] (textsKV (ps.take 17))))) ha.objs.size (.dK [])) ha.objs.size (.dK (mergeK [] (textsKV (ps.drop 17))))) { s with heap := hb, toks := t2 } :=
    d_write (s := { s with heap := ha.push { cls := .type "dict", data := .dict #[] }, toks := t1 }) (t' := t2) I2 (by rw [upd_same]; exact True.intro) sm2 (let ⟨q, _, _, hq, _⟩ := d2; ⟨q, hq⟩) (dk_new hz2 hs2 (a2.kv.merge .nil) d2)
  have uu2 : ∀ H : Hp, upd (upd H ha.objs.size (.dK [])) ha.objs.size (.dK (mergeK [] (textsKV (ps.drop 17)))) = upd H ha.objs.size (.dK (mergeK [] (textsKV (ps.drop 17)))) := fun H => by
    funext b
    by_cases hb : b = ha.objs.size
    · subst hb
      rw [upd_same, upd_same]
    · rw [upd_ne hb, upd_ne hb, upd_ne hb]
  rw [uu2] at I3
  have hz3 : (mergeK (mergeK [] (textsKV (ps.take 17))) (mergeK [] (textsKV (ps.drop 17)))).length ≤ sizeLine := by
    have z := length_mergeK (mergeK [] (textsKV (ps.drop 17))) (mergeK [] (textsKV (ps.take 17)))
    have z1 := length_mergeK (textsKV (ps.drop 17)) []
    have z1' := length_mergeK (textsKV (ps.take 17)) []
    have z2 : (textsKV (ps.drop 17)).length ≤ 32 := by
      unfold textsKV
      rw [List.length_map, List.length_drop]
      omega
    have z3 : (textsKV (ps.take 17)).length ≤ 17 := by
      unfold textsKV
      rw [List.length_map, List.length_take]
      omega
    rw [List.length_nil] at z1 z1'
    rw [sizeLine_eq]
    omega
  exact ⟨.ref s.heap.objs.size, _, d_write (s := { s with heap := hb, toks := t2 }) (t' := t2) I3 (by rw [upd_ne (Ne.symm nqp), upd_same]; exact True.intro) sm3 (let ⟨q, _, _, hq, _⟩ := d3; ⟨q, hq⟩) (dk_new hz3 hs1 ((a2.kv.merge .nil).merge (a1.kv.merge .nil)) d3), rfl,
    hq _ _ hn nqp (by rw [upd_ne nqp] at hqn; exact hqn)⟩
end Kq
/-! K9: a context: a dict of texts. -/
namespace Kq
open PySem PySem.Spec PyProof.Rows L2
abbrev CM := List (Str × PyData)
def cGet (m : CM) (x : Str) : Option PyData := (m.find? fun p => decide (p.1 = x)).map (·.2)
def cPut (m : CM) (x : Str) (d : PyData) : CM := if (m.any fun p => decide (p.1 = x)) = true then m.map (fun p => if p.1 = x then (p.1, d) else p) else m ++ [(x, d)]
def cMerge (m n : CM) : CM := n.foldl (fun acc p => cPut acc p.1 p.2) m
section
variable {K : PySem.W.Frag} {u : List Addr} {H H' : Hp}
theorem Dv.keep {v : V} {d : PyData} (ls : ∀ a xs, H a = some (.lst xs) → H' a = some (.lst xs)) (kk : ∀ a xs, Rd H a (.tup xs) → Rd H' a (.tup xs)) (h : Dv K u H v d) : Dv K u H' v d :=
  Dv.rec (motive_1 := fun v d _ => Dv K u H' v d) (motive_2 := fun vs ds _ => DvA K u H' vs ds)
    .non (fun b => .bl b) (fun i => .int i) (fun x => .str x) (fun n e _ ih => .lst n (ls _ _ e) ih) (fun e _ ih => .tup (e.elim (fun e => .inl (kk _ _ e)) .inr) ih) .nil (fun _ _ a b => .cons a b) h
theorem CtA.map {u' : List Addr} {kvs : List (Key × V)} {m : CM} (f : ∀ v d, Dv K u H v d → Dv K u' H' v d) (h : CtA K u H kvs m) : CtA K u' H' kvs m := by
  induction h with
  | nil => exact .nil
  | cons h _ ih => exact .cons (f _ _ h) ih
theorem inr_ne {x y : Str} (h : ¬ x = y) : ¬ (Sum.inr x : Key) = Sum.inr y := fun e => h (Sum.inr.inj e)
theorem CtA.length {kvs : List (Key × V)} {m : CM} (h : CtA K u H kvs m) : kvs.length = m.length := by
  induction h with
  | nil => rfl
  | cons _ _ ih => rw [List.length_cons, List.length_cons, ih]
theorem CtA.get {kvs : List (Key × V)} {m : CM} (h : CtA K u H kvs m) (x : Str) : match cGet m x with | some d => ∃ v, valV kvs (Sum.inr x) = some v ∧ Dv K u H v d | none => valV kvs (Sum.inr x) = none := by
  induction h with
  | nil => rfl
  | @cons y v d kvs m hd t ih =>
    unfold cGet
    by_cases e : y = x
    · subst e
      rw [List.find?_cons_of_pos (by simp)]
      exact ⟨v, valV_pos rfl, hd⟩
    · rw [List.find?_cons_of_neg (by simpa using e), valV_neg (inr_ne e)]
      exact ih
theorem CtA.any {kvs : List (Key × V)} {m : CM} (h : CtA K u H kvs m) (x : Str) : (kvs.any fun kv => decide (kv.1 = (Sum.inr x : Key))) = (m.any fun p => decide (p.1 = x)) := by
  induction h with
  | nil => rfl
  | @cons y v d kvs m hd t ih =>
    rw [List.any_cons, List.any_cons, ih]
    by_cases e : y = x
    · subst e
      simp
    · simp [e, inr_ne e]
theorem CtA.snoc {kvs : List (Key × V)} {m : CM} {x : Str} {v : V} {d : PyData} (h : CtA K u H kvs m) (hd : Dv K u H v d) : CtA K u H (kvs ++ [(Sum.inr x, v)]) (m ++ [(x, d)]) := by
  induction h with
  | nil => exact .cons hd .nil
  | cons h t ih => exact .cons h ih
theorem CtA.repl {kvs : List (Key × V)} {m : CM} {x : Str} {v : V} {d : PyData} (h : CtA K u H kvs m) (hd : Dv K u H v d) : CtA K u H (kvs.map fun kv => if kv.1 = (Sum.inr x : Key) then (kv.1, v) else kv) (m.map fun p => if p.1 = x then (p.1, d) else p) := by
  induction h with
  | nil => exact .nil
  | @cons y v' d' kvs m h t ih =>
    rw [List.map_cons, List.map_cons]
    by_cases e : y = x
    · subst e
      rw [if_pos rfl, if_pos rfl]
      exact .cons hd ih
    · rw [if_neg (inr_ne e), if_neg e]
      exact .cons h ih
theorem CtA.put {kvs : List (Key × V)} {m : CM} {x : Str} {v : V} {d : PyData} (h : CtA K u H kvs m) (hd : Dv K u H v d) : CtA K u H (putK kvs (Sum.inr x) v) (cPut m x d) := by
  unfold putK cPut
  rw [h.any x]
  split
  · exact h.repl hd
  · exact h.snoc hd
theorem CtA.merge {kvs : List (Key × V)} {m : CM} (h : CtA K u H kvs m) : ∀ {lvs : List (Key × V)} {n : CM}, CtA K u H lvs n → CtA K u H (mergeK lvs kvs) (cMerge n m) := by
  induction h with
  | nil => exact fun h => h
  | cons h t ih => exact fun h' => ih (h'.put h)
end
section
variable {X : Cx} {W : Wd} {s : W.St} {δ : De} {Q : W.St → Sv → Prop} {e a b c : Expr} {pos : Pos}
theorem rI_c (hu : X.A.units + 1 < cLine) : IxR X (fun x y H Q => ∃ a o, x = .ref a ∧ DGet H a y (some o) ∧ Q o H) := by
  intro value slice pins s σ H x y v u Q I rx ry h hs
  obtain ⟨a, o, rfl, g, q⟩ := h
  cases rx
  exact tail_any (dict_typeIs I g) PySem.F.slot_dict_getitem.lookup (d_getItem hu I g ry fun w' s3 I3 rw' => ⟨o, H, I3, rw', q⟩) hs
theorem id_c {m : CM} {x : Str} {d : PyData} (hu : X.A.units + 1 < cLine) (h : cGet m x = some d) (q : Q s (.d d)) : ID X W (.c m) (.d (.str x)) s Q := .mk fun v w H R hI o1 o2 hR => by
  obtain ⟨a, kvs, rfl, n, ha, hc⟩ := o1
  cases o2
  have z := hc.get x
  rw [h] at z
  obtain ⟨y, h1, h2⟩ := z
  refine ix_w (rI_c hu) ⟨a, y, rfl, ?_, hR y H s _ Mv.refl hI h2.sv q⟩
  rw [← h1]
  exact DGet.k (k := Sum.inr x) ha
theorem op_inC (hu : X.A.units + 1 < cLine) : OpR X (compareOp .In) (fun y x H Q => ∃ a o, x = .ref a ∧ DGet H a y o ∧ Q (.bl o.isSome) H) := by
  intro pins s σ H x y v u Q I rx ry h
  obtain ⟨a, o, rfl, g, q⟩ := h
  cases ry
  exact d_in hu I g rx fun s' I' => ⟨.bl _, H, I', rfl, q⟩
theorem od_inC {m : CM} {x : Str} (hu : X.A.units + 1 < cLine) (q : Q s (.d (.bool (cGet m x).isSome))) : OD X W (compareOp .In) (.d (.str x)) (.c m) s Q := .mk fun v w H R hI o1 o2 hR => by
  obtain ⟨a, kvs, rfl, n, ha, hc⟩ := o2
  cases o1
  refine op_w (op_inC hu) ⟨a, _, rfl, DGet.k (k := Sum.inr x) ha, hR _ H s _ Mv.refl hI (Dv.bl _).sv ?_⟩
  have z := hc.get x
  cases e : cGet m x with
  | none =>
    rw [e] at z q
    rw [z]
    exact q
  | some d =>
    rw [e] at z q
    obtain ⟨y, h1, _⟩ := z
    rw [h1]
    exact q
/-- {**m, k: v} -/
theorem ed_cstar (i : Nat) {x : Str} {p1 : Pos} {m : CM} (hN : X.N[i]? = some x) (hv : Vis X.env.scope x) (hδ : δ[i]? = some (some (.c m))) (hl : m.length ≤ 800)
    (h : ED X W b s δ fun s2 y => ED X W c s2 δ fun s3 z => ∃ k d, y = .d (.str k) ∧ z = .d d ∧ Q s3 (.c (cPut (cMerge [] m) k d))) (hd : (x == ("__debug__" : Str)) = false := by decide) (hcd : (x == ("__classdict__" : Str)) = false := by decide) :
    ED X W (.Dict [none, some b] [.Name x p1, c] pos) s δ Q := .mk fun σ H R hI hS hR => pe_w (pe_dstar (pe_var (i := i) hN hv hd hcd) wE_pe wE_pe) fun p hp => by
  have np : p ∉ W.u := W.fresh hI hp
  obtain ⟨v, h1, o, kvs, rfl, no, ho, hc⟩ := hS.at_ i _ hδ
  have op : o ≠ p := fun z => by
    subst z
    rw [ho] at hp
    cases hp
  refine ⟨.ref o, h1, o, kvs, rfl, by rw [upd_ne op]; exact ho, op, upd_same, by rw [hc.length]; omega, fun q nq hq => ?_⟩
  have hm := W.mu _ _ hI
  have e1 : upd (upd H p (.dK [])) p (.dK (mergeK [] kvs)) = upd H p (.dK (mergeK [] kvs)) := by
    funext b
    by_cases hb : b = p
    · subst hb
      rw [upd_same, upd_same]
    · rw [upd_ne hb, upd_ne hb, upd_ne hb]
  rw [e1] at hq ⊢
  have I1 : W.I s (upd H p (.dK (mergeK [] kvs))) := W.new hI hp
  have m1 : Mv W.u H (upd H p (.dK (mergeK [] kvs))) := Mv.new hp
  have I2 : W.I s (upd (upd H p (.dK (mergeK [] kvs))) q (.dK [])) := W.new I1 hq
  have m2 : Mv W.u H (upd (upd H p (.dK (mergeK [] kvs))) q (.dK [])) := m1.trans (Mv.new hq)
  have nqu : q ∉ W.u := W.fresh I1 hq
  have hqH : H q = none := by
    rw [upd_ne nq] at hq
    exact hq
  refine h σ _ _ I2 (hS.mv m2 hm) fun y H3 s3 yy m3 i3 o3 q3 => ?_
  refine q3 σ _ _ i3 ((hS.mv m2 hm).mv m3 (W.mu _ _ I2)) fun z H4 s4 zz m4 i4 o4 q4 => ?_
  obtain ⟨k, d, rfl, rfl, q4⟩ := q4
  have hy : y = kV (Sum.inr k) := by cases o3; rfl
  have hp4 : H4 p = some (.dK (mergeK [] kvs)) := m4 _ _ np (m3 _ _ np (by rw [upd_ne (Ne.symm nq), upd_same]))
  have hq4 : H4 q = some (.dK []) := m4 _ _ nqu (m3 _ _ nqu upd_same)
  have lz : (mergeK [] kvs).length ≤ kvs.length := by
    have z := length_mergeK kvs []
    rw [List.length_nil, Nat.zero_add] at z
    exact z
  refine ⟨Sum.inr k, mergeK [] kvs, hy, hp4, by rw [hc.length] at lz; omega, hq4, ?_⟩
  have o4 : Dv X.K W.u H4 z d := o4
  have hc4 : CtA X.K W.u H4 kvs m := hc.mv (m2.trans (m3.trans m4)) hm
  have kk : ∀ a xs, Rd H4 a (.tup xs) → Rd (upd (upd H4 q (.dK [(Sum.inr k, z)])) p (.dK (mergeK (mergeK [] kvs) [(Sum.inr k, z)]))) a (.tup xs) := fun a xs r => by
    have n1 : a ≠ p := fun e => by
      subst e
      rcases r with r | ⟨o, r⟩ <;> (rw [hp4] at r; cases r)
    have n2 : a ≠ q := fun e => by
      subst e
      rcases r with r | ⟨o, r⟩ <;> (rw [hq4] at r; cases r)
    rcases r with r | ⟨o, r⟩
    · exact .inl (by rw [upd_ne n1, upd_ne n2]; exact r)
    · exact .inr ⟨o, by rw [upd_ne n1, upd_ne n2]; exact r⟩
  -- what stands in the heap but p and q is kept
  have I5 : W.I s4 (upd (upd H4 q (.dK [(Sum.inr k, z)])) p (.dK (mergeK (mergeK [] kvs) [(Sum.inr k, z)]))) := W.mono _ _ _ i4 (fun a ha => by
    rw [upd_ne (fun e => by subst e; exact np ha), upd_ne (fun e => by subst e; exact nqu ha)]) kk
  have lists : ∀ (v : V) (d : PyData), Dv X.K W.u H4 v d → Dv X.K W.u (upd (upd H4 q (.dK [(Sum.inr k, z)])) p (.dK (mergeK (mergeK [] kvs) [(Sum.inr k, z)]))) v d := fun v d h =>
    h.keep (fun a xs e => by
      rw [upd_ne (fun z => by subst z; rw [hp4] at e; cases e), upd_ne (fun z => by subst z; rw [hq4] at e; cases e)]
      exact e) kk
  have c5 := hc4.map (fun v d h => lists v d h)
  have fin : SvOk X.K W.u (upd (upd H4 q (.dK [(Sum.inr k, z)])) p (.dK (mergeK (mergeK [] kvs) [(Sum.inr k, z)]))) (.ref p) (.c (cPut (cMerge [] m) k d)) := ⟨p, _, rfl, np, upd_same, (c5.merge .nil).put (lists _ _ o4)⟩
  refine hR _ _ s4 _ (fun a o na e => ?_) I5 fin q4
  have n1 : a ≠ p := ne_of_none e hp
  have n2 : a ≠ q := ne_of_none e hqH
  rw [upd_ne n1, upd_ne n2]
  exact (m2.trans (m3.trans m4)) a o na e
end
end Kq
/-! K10: tuple(list) with its whole object; dict(tuple of pairs). -/
namespace Kq
open PySem PySem.Spec PyProof.Rows L2
def plR (ds : List PyData) (K : PySem.W.Frag) (u : List Addr) (H : Hp) (v : V) : Prop := ∃ a o xs, v = .ref a ∧ H a = some (.frz o (.tup xs)) ∧ o.cls = .type "tuple" ∧ o.dict = none ∧ DvA K u H xs ds
theorem frz_out {u : List Addr} {H : Hp} {a : Addr} {o : Obj} {h : HO} (mu : ∀ b ∈ u, Mut (H b)) (e : H a = some (.frz o h)) : a ∉ u := fun z => by
  have := mu a z
  rw [e] at this
  exact this
/-- a plain tuple of data -/
def plT (ds : List PyData) : Sx := ⟨plR ds, fun K u H H' v m mu h => by
  obtain ⟨a, o, xs, e, h1, h2, h3, h4⟩ := h
  exact ⟨a, o, xs, e, m _ _ (frz_out mu h1) h1, h2, h3, h4.mv m mu⟩⟩
theorem plT.d {K : PySem.W.Frag} {u : List Addr} {H : Hp} {v : V} {ds : List PyData} (h : SvOk K u H v (.x (plT ds))) : Dv K u H v (.tuple ds) := by
  obtain ⟨a, o, xs, rfl, h1, h2, h3, h4⟩ := h
  exact .tup (.inl (.inr ⟨o, h1⟩)) h4
section
variable {X : Cx}
theorem call_tuple_px : CallR X (.type "tuple") (fun xs H Q => ∃ p ys, xs = [.ref p] ∧ SqL X.K H p ys ∧ ∀ l o, H l = none → o.cls = .type "tuple" → o.dict = none → Q (.ref l) (upd H l (.frz o (.tup ys)))) := by
  intro pins s σ H xs us Q I r h
  obtain ⟨p, ys, rfl, hq, q⟩ := h
  obtain ⟨u, rfl, rx⟩ := vals1 r
  cases rx
  obtain ⟨its, r', pl, hz⟩ := I.list hq
  have hlen := r'.length
  refine call_tuple_list pl.isList (fun h' kp => ?_) (by simp only [List.size_toArray] <;> omega)
  have I1 : Inv X pins σ H { s with heap := h' } := I.kept (t' := s.toks) kp
  have I2 : Inv X pins σ (upd H h'.objs.size (.frz { cls := .type "tuple", data := .seq its.toArray } (.tup ys))) { s with heap := h'.push { cls := .type "tuple", data := .seq its.toArray } } :=
    I1.laid (t' := s.toks) (fun b o e => Heap.get?_push_of_some _ e) (Nat.le_refl _) (show ObjOk X.prog X.w _ _ _ (.frz _ (.tup ys)) from ⟨Heap.get?_push_size _ rfl, hz, its, r', IsTup.new _ _⟩)
  exact ⟨.ref h'.objs.size, _, I2, rfl, q _ _ (I1.hok.fresh (Nat.le_refl _)) rfl rfl⟩
theorem pairs_of2 {pins : List (Addr × Obj)} {σ : L2.St} {H : Hp} {s : Shared} (I : Inv X pins σ H s) : ∀ {ps : List Addr} {kvs : List (Key × V)}, Paired (fun p kv => SqT X.K H p [kV kv.1, kv.2]) ps kvs →
    ∃ (prs : List (Key × Value)) (vps : List (Value × Value)), KV kvs prs ∧ prs.length = ps.length ∧ vps.length = ps.length ∧ ∀ (j : Nat) (k v : Value), vps[j]? = some (k, v) → ∃ (b : Addr) (q : Key), ps[j]? = some b ∧ IsTup s.heap b #[k, v] ∧ prs[j]? = some (q, v) ∧ keyIs q k = true
  | _, _, .nil => ⟨[], [], .nil, rfl, rfl, fun j k v e => by simp at e⟩
  | _, _, .cons (a := p) (b := kv) h t => by
    obtain ⟨prs, vps, r, hl, hl2, hp⟩ := pairs_of2 I t
    obtain ⟨its, rv, ht, _⟩ := I.tuple h
    obtain ⟨u, y, ei, ru, ry⟩ := vals2 rv
    subst ei
    refine ⟨(kv.1, y) :: prs, (u, y) :: vps, .cons ⟨rfl, ry⟩ r, by rw [List.length_cons, List.length_cons, hl], by rw [List.length_cons, List.length_cons, hl2], fun j k v e => ?_⟩
    cases j with
    | zero =>
      have e' : (u, y) = (k, v) := Option.some.inj e
      cases e'
      exact ⟨p, kv.1, rfl, ht, rfl, kV_is (P := X.prog) (w := X.w) ru⟩
    | succ j =>
      obtain ⟨b, q, e1, e2, e3, e4⟩ := hp j k v (by simpa using e)
      exact ⟨b, q, by simpa using e1, e2, by simpa using e3, e4⟩
/-- dict(t) of a plain tuple of pairs -/
theorem call_dictT (hcalm : X.calm = true) : CallR X (.type "dict") (fun xs H Q => ∃ (a : Addr) (o : Obj) (ps : List Addr) (kvs : List (Key × V)), xs = [.ref a] ∧ H a = some (.frz o (.tup (ps.map V.ref))) ∧ o.cls = .type "tuple" ∧ o.dict = none ∧ Paired (fun p kv => SqT X.K H p [kV kv.1, kv.2]) ps kvs ∧
    ∀ p, H p = none → Q (.ref p) (upd H p (.dK (mergeK [] kvs)))) := by
  intro pins s σ H xs us Q I r q
  obtain ⟨a, o, ps, kvs, rfl, ha, hcls, hd, hp, q⟩ := q
  obtain ⟨u, rfl, rx⟩ := vals1 r
  cases rx
  obtain ⟨ho, hz, its, rv, o', ho', _, n, hdat⟩ := (show ObjOk X.prog X.w H s.heap a (.frz o (.tup (ps.map V.ref))) from I.hok a _ ha)
  rw [ho] at ho'
  cases ho'
  have ei := refs_at rv
  subst ei
  rw [List.length_map] at hz
  obtain ⟨prs, vps, rel, hl, hl2, hpr⟩ := pairs_of2 I hp
  refine PySem.call_dict_pairs (knd := mixKind X.prog X.w) (kvs := prs) (PairArg.tuple a (ps.map Value.ref).toArray (fun j => ps.getD j 0) vps) (I.ok.hd hcalm) ⟨⟨o, n, ho, hcls, hd, hdat⟩, ?_, fun j k v e => ?_⟩ ⟨by rw [hl, hl2], fun i k v e => ?_⟩ (by rw [hl2]; exact hz) fun h' tk hd' k => ?_
  · simp [hl2]
  · obtain ⟨b, q', e1, e2, e3, e4⟩ := hpr j k v e
    have eb : ps.getD j 0 = b := by simp [List.getD, e1]
    dsimp only
    rw [eb]
    exact ⟨by simp [e1], .inl e2⟩
  · obtain ⟨b, q', e1, e2, e3, e4⟩ := hpr i k v e
    exact ⟨q', e3, e4⟩
  · have hm : (s.heap.objs.size == sysModules) = false := beq_eq_false_iff_ne.mpr (Nat.ne_of_gt I.big)
    have hlen : (mergeK [] kvs).length ≤ sizeLine := by
      refine Nat.le_trans (length_mergeK kvs []) ?_
      rw [List.length_nil, Nat.zero_add, rel.length, hl]
      exact hz
    exact ⟨.ref s.heap.objs.size, upd H s.heap.objs.size (.dK (mergeK [] kvs)), I.laid (t' := tk) (fun b o e => k b o (by simp) e) (Nat.le_refl _) (show ObjOk X.prog X.w _ _ _ (.dK (mergeK [] kvs)) from ⟨hlen, hm, merged [] prs, KV.merge rel .nil, hd'⟩), rfl, q _ (I.hok.fresh (Nat.le_refl _))⟩
end
section
variable {X : Cx} {W : Wd} {s : W.St} {δ : De} {Q : W.St → Sv → Prop}
theorem cd_tuplePx {ds : List PyData} (q : Q s (.x (plT ds))) : CD X W (.type "tuple") [.d (.list ds)] s Q := .mk fun vs H R hI o hR => call_w call_tuple_px (by
  obtain ⟨v, rfl, oo⟩ := o.one
  cases oo with
  | lst n e a =>
    refine ⟨_, _, rfl, SqL.of e, fun l o hl hc hd => ?_⟩
    have ok : SvOk X.K W.u _ (.ref l) (.x (plT ds)) := ⟨l, o, _, rfl, upd_same, hc, hd, a.mv (Mv.new hl) (W.mu _ _ hI)⟩
    exact hR _ _ s _ (Mv.new hl) (W.new hI hl) ok q)
def pairD (p : Str × PyData) : PyData := .tuple [.str p.1, p.2]
theorem pairsV {K : PySem.W.Frag} {u : List Addr} {H : Hp} : ∀ {m : CM} {xs : List V}, DvA K u H xs (m.map pairD) → ∃ ps kvs, xs = ps.map V.ref ∧ Paired (fun p (kv : Key × V) => SqT K H p [kV kv.1, kv.2]) ps kvs ∧ CtA K u H kvs m
  | [], _, .nil => ⟨[], [], rfl, .nil, .nil⟩
  | (x, d) :: m, _, .cons h t => by
    obtain ⟨ps, kvs, rfl, h2, h3⟩ := pairsV t
    cases h with
    | @tup a xs _ e h =>
      cases h with
      | cons h h' =>
        cases h
        cases h' with
        | cons h h' =>
          cases h'
          exact ⟨a :: ps, (Sum.inr x, _) :: kvs, rfl, .cons e h2, .cons h h3⟩
theorem cd_dictPx {m : CM} (q : Q s (.c (cMerge [] m))) (hc : X.calm = true := by rfl) : CD X W (.type "dict") [.x (plT (m.map pairD))] s Q := .mk fun vs H R hI o hR => call_w (call_dictT hc) (by
  obtain ⟨v, rfl, a, ob, xs, rfl, h1, h2, h3, h4⟩ := o.one
  obtain ⟨ps, kvs, rfl, h5, h6⟩ := pairsV h4
  refine ⟨a, ob, ps, kvs, rfl, h1, h2, h3, h5, fun p hp => ?_⟩
  have ok : SvOk X.K W.u (upd H p (.dK (mergeK [] kvs))) (.ref p) (.c (cMerge [] m)) := ⟨p, _, rfl, W.fresh hI hp, upd_same, (h6.mv (Mv.new hp) (W.mu _ _ hI)).merge .nil⟩
  exact hR _ _ s _ (Mv.new hp) (W.new hI hp) ok q)
/-- a plain tuple, used as a datum -/
theorem ed_pl {e : Expr} {ds : List PyData} (h : ED X W e s δ fun s' x => x = .x (plT ds) ∧ Q s' (.d (.tuple ds))) : ED X W e s δ Q := .mk fun σ H R hI hS hR => h σ H R hI hS fun v H' s' x m i o q => by
  obtain ⟨rfl, q⟩ := q
  exact hR v H' s' _ m i (plT.d o).sv q
end
end Kq
/-! K11: enumerate of a text, of a tuple; zip of a text and a tuple. -/
namespace Kq
open PySem PySem.Spec PyProof.Rows L2
/-! ### enumerate(text) -/
theorem strIter_at {h h' : Heap} {a : Addr} {n : String} {x : Str} {t : Tok} {i : Nat} (q : h.IsStrIter a n x t i) (k : ∀ o, h.get? a = some o → h'.get? a = some o) : h'.IsStrIter a n x t i := by
  obtain ⟨o, h1, h2, h3⟩ := q
  exact ⟨o, k o h1, h2, h3⟩
def Ites (z : Str) : It :=
  ⟨fun i _ => i < z.cps.size, fun i H v H' => ∃ T c, v = .ref T ∧ H T = none ∧ H' = upd H T (.tup [.int (i : Nat), .str ⟨#[c]⟩]) ∧ z.cps[i]? = some c, fun i _ => z.cps.size ≤ i⟩
theorem turn_enumS {P : Program} {w : World} {K : PySem.W.Frag} {elts : List Expr} {kk : Nat} {tpos : Pos} (z : Str) (t : Tok) (e it : Addr) :
    Turn P w K (.Tuple elts kk tpos) (Ites z) [e, it] e (fun i h => (∃ old, IsEnum h e it ((i : Nat) : Int) old) ∧ h.IsStrIter it (strIterType z) z t i ∧ i ≤ z.cps.size ∧ e ≠ it) where
  mem := by simp
  obj := fun i h st b hb => by
    obtain ⟨⟨old, he⟩, ⟨o, ho, hc, hd⟩, _⟩ := st
    have e' : b = e ∨ b = it := by simpa using hb
    rcases e' with z | z
    · rw [z]; exact ⟨_, he, fun v q => nomatch q⟩
    · rw [z]; exact ⟨o, ho, fun v q => by rw [hd] at q; cases q⟩
  keep := fun i h h' st k => let ⟨⟨old, he⟩, hi, hl, hne⟩ := st; ⟨⟨old, k e (by simp) _ he⟩, strIter_at hi fun o q => k it (by simp) o q, hl, hne⟩
  item := by
    intro X hP hw hK hc i pins s σ H E I hf st hg
    subst hP hw hK
    obtain ⟨⟨old, he⟩, hit, hle, hne⟩ := st
    have hel : e < s.heap.objs.size := Heap.lt_size he
    have hil : it < s.heap.objs.size := by obtain ⟨_, q, _⟩ := hit; exact Heap.lt_size q
    have D : Draws X.prog X.w X.A.in1 it [it] z.cps.size (fun i v => ∃ c u, z.cps[i]? = some c ∧ v = .str ⟨#[c]⟩ u) (fun i h => h.IsStrIter it (strIterType z) z t i) := Draws.text (show X.A.in1.handled = none from I.ok.hd hc) it z t
    refine wpAny_pyNext_enum_itemD D he hit hg hne (by simpa using hne) fun u h' tk hu ho hit' hT hsz hk => ?_
    obtain ⟨c, t2, hcz, rfl⟩ := hu
    refine ⟨_, rfl, wpAny_letOwnedTupleGo_enum (s := { s with heap := h', toks := tk + 1 }) ho fun h'' he' sb => ?_⟩
    have hT2 : h''.get? s.heap.objs.size = some { cls := .type "tuple", data := .seq #[.int i tk, .str ⟨#[c]⟩ t2] } := (sb.2 _ (Nat.ne_of_gt hel)).trans hT
    have new : ObjOk X.prog X.w (upd H s.heap.objs.size (.tup [.int (i : Nat), .str ⟨#[c]⟩])) h'' s.heap.objs.size (.tup [.int (i : Nat), .str ⟨#[c]⟩]) :=
      ⟨by show 2 ≤ sizeLine; decide, [.int i tk, .str ⟨#[c]⟩ t2], .cons ⟨_, rfl⟩ (.cons ⟨_, rfl⟩ .nil), ⟨_, hT2, rfl, _, rfl⟩⟩
    have I1 : Inv X pins σ (upd H s.heap.objs.size (.tup [.int (i : Nat), .str ⟨#[c]⟩])) { s with heap := h'', toks := tk + 1 } :=
      I.turnedNew (ch := [e, it]) (fun b ob hb q => (sb.2 b (fun z => hb (by simp [z]))).trans (hk b ob (fun z => hb (by simp [z])) (fun z => hb (by simp [z])) q)) hf (Nat.le_refl _) new
    refine ⟨.ref s.heap.objs.size, _, I1, rfl, ⟨_, c, rfl, I.hok.fresh (Nat.le_refl _), rfl, hcz⟩, ⟨⟨.str ⟨#[c]⟩ t2, ?_⟩, strIter_at hit' fun o q => (sb.2 it (Ne.symm hne)).trans q, hg, hne⟩, fun b hb => ?_⟩
    · have e1 : ((i + 1 : Nat) : Int) = (i : Int) + 1 := by omega
      rw [e1]; exact he'
    · have hb' : b < s.heap.objs.size := by
        have e' : b = e ∨ b = it := by simpa using hb
        rcases e' with z | z
        · rw [z]; exact hel
        · rw [z]; exact hil
      rw [upd_ne (Nat.ne_of_lt hb')]
      exact (hf b hb).1
  done := by
    intro X hP hw hK hc i pins s σ H E I hf st hg
    subst hP hw hK
    obtain ⟨⟨old, he⟩, hit, hle, hne⟩ := st
    obtain ⟨f0, f1, f2, f3, f4, f5⟩ := hf it (by simp)
    have ei : i = z.cps.size := Nat.le_antisymm hle hg
    subst ei
    have D : Draws X.prog X.w X.A.in1 it [it] z.cps.size (fun i v => ∃ c u, z.cps[i]? = some c ∧ v = .str ⟨#[c]⟩ u) (fun i h => h.IsStrIter it (strIterType z) z t i) := Draws.text (show X.A.in1.handled = none from I.ok.hd hc) it z t
    exact wpAny_pyNext_enum_endD D he hit fun h' eb => ⟨rfl, I.turned (t' := s.toks) (fun b o hb q => eb b o hb q) f0 f1 f3 f4 f5⟩
  self := fun A i s Q E st h => let ⟨⟨_, he⟩, _⟩ := st; wpAny_pyIter_enum he h
def iEnumS (ta : TA) : TI := fun σ H R => ta σ H fun vs H1 => ∃ z, vs = [.str z] ∧ R (Ites z) H1
theorem pi_enumS {X : Cx} {e : Expr} {ta : TA} {p pos tpos : Pos} {elts : List Expr} {kk : Nat} (hg : Gl X "enumerate") (hm : X.mg "enumerate" = none) (ha : PA X [e] ta) (hs : starEach [e] X.env = [(false, eval e X.env)] := by rfl) :
    PI X (.Tuple elts kk tpos) (.Call (.Name "enumerate" p) [e] [] pos) (iEnumS ta) := by
  refine ⟨fun pins s σ H R I h => ?_⟩
  refine Call_ (ld_blt I hg hm boot_enumerate (PyProof.Rows.callWith_type1 (thn (ha.run pos pins s σ H _ I h) fun us s1 ⟨vs, H1, I1, r1, q1⟩ => ?_) hs rfl))
  obtain ⟨z, ex, q⟩ := q1
  subst ex
  cases r1 with
  | cons r rr =>
    cases rr
    obtain ⟨t, rfl⟩ := r
    refine call_enumerate_str fun h' he hit hsz hk => wpAny_pyIter_enum he ?_
    have I2 : Inv X pins σ H1 { s1 with heap := h' } := I1.kept (t' := s1.toks) hk
    refine ⟨s1.heap.objs.size + 1, [s1.heap.objs.size + 1, s1.heap.objs.size], _, _, H1, rfl, I2, turn_enumS z t (s1.heap.objs.size + 1) s1.heap.objs.size, ⟨⟨.none, he⟩, hit, Nat.zero_le _, Nat.succ_ne_self _⟩, fun b hb => ?_, q⟩
    have e' : b = s1.heap.objs.size + 1 ∨ b = s1.heap.objs.size := by simpa using hb
    have hle : s1.heap.objs.size ≤ b := by
      rcases e' with z | z
      · rw [z]; exact Nat.le_add_right _ _
      · rw [z]; exact Nat.le_refl _
    exact I1.fpOk hle (I1.hok.fresh hle)

/-! ### enumerate(tuple) -/
theorem meets_enumerate_newT (l : Addr) (items : Array Value) :
    Meets (Builtin.«enumerate.__new__» ⟨[.type "enumerate", .ref l], []⟩) (fun _ R s => s.heap.IsTuple l items ∧
      R (.ok (.ret (.ref (s.heap.push { cls := .type "tuple_iterator", data := .fields #[.ref l, .int 0 0] }).objs.size)))
        { s with heap := (s.heap.push { cls := .type "tuple_iterator", data := .fields #[.ref l, .int 0 0] }).push { cls := .type "enumerate", data := .fields #[.none, .bool false, .ref s.heap.objs.size, rawInt 0, .none, .none] } }) :=
  .of_wp fun prog w A R s h => by
    obtain ⟨hp, g, d, tk, os⟩ := s; obtain ⟨hl, h⟩ := h
    have hsub := sub_enumerate
    have hL : Heap.IsTuple (Shared.heap ⟨hp, g, d, tk, os⟩) l items := hl
    obtain ⟨ob, hob, _, nb, hdb⟩ := id hl
    wp_walk
    refine wpAny_stack_any fun st => wpAny_pure ?_
    split
    · rename_i c _ _ _ _ _
      cases (c == Value.type "enumerate")
      · wp_walk using wpAny_pyIter_tuple hL
        exact ⟨_, rfl, h⟩
      · wp_walk using wpAny_pyIter_tuple hL
        exact ⟨_, rfl, h⟩
    · wp_walk using wpAny_pyIter_tuple hL
      exact ⟨_, rfl, h⟩
section
variable {prog : Program} {w : World} {A : Around} {E : Value → Shared → Prop} {s : Shared}
theorem call_enumerate_tup {l : Addr} {items : Array Value} {Q : Value → Shared → Prop} (hL : s.heap.IsTuple l items)
    (h : ∀ h', IsEnum h' (s.heap.objs.size + 1) s.heap.objs.size 0 .none → h'.IsTupleIter s.heap.objs.size l 0 → h'.objs.size = s.heap.objs.size + 2 →
      (∀ b o, s.heap.get? b = some o → h'.get? b = some o) → Q (.ref (s.heap.objs.size + 1)) { s with heap := h' }) :
    wpAny (model prog w) A (call (.type "enumerate") [.ref l]) Q E s := by
  refine callType_new F.called_enumerate (by decide) (F.typeCall_enumerate_1 _) (F.newCall_enumerate_1 _) (fun obj => F.args_object_init_2 obj _) F.entry_enumerate_new
    (meets_enumerate_newT l items) ⟨hL, ?_⟩
  have hz : (s.heap.push { cls := .type "tuple_iterator", data := .fields #[.ref l, .int 0 0] }).objs.size = s.heap.objs.size + 1 := Heap.size_push ..
  show _ ∧ _
  rw [hz]
  have he : IsEnum ((s.heap.push { cls := .type "tuple_iterator", data := .fields #[.ref l, .int 0 0] }).push
      { cls := .type "enumerate", data := .fields #[.none, .bool false, .ref s.heap.objs.size, rawInt 0, .none, .none] }) (s.heap.objs.size + 1) s.heap.objs.size 0 .none := by
    have := Heap.get?_push_size (s.heap.push { cls := .type "tuple_iterator", data := .fields #[.ref l, .int 0 0] })
      (o := { cls := .type "enumerate", data := .fields #[.none, .bool false, .ref s.heap.objs.size, rawInt 0, .none, .none] }) rfl
    rw [hz] at this; exact this
  refine ⟨⟨_, he, rfl⟩, h _ he ⟨_, Heap.get?_push_of_some _ (Heap.get?_push_size _ rfl), rfl, rfl⟩ (by rw [Heap.size_push, hz]) fun b o x => Heap.get?_push_of_some _ (Heap.get?_push_of_some _ x)⟩
end
theorem tupIter_at {h h' : Heap} {a t : Addr} {i : Nat} (q : h.IsTupleIter a t i) (k : ∀ o, h.get? a = some o → h'.get? a = some o) : h'.IsTupleIter a t i := by
  obtain ⟨o, h1, h2, h3⟩ := q
  exact ⟨o, k o h1, h2, h3⟩
/-- the tuple at a with the items xs -/
def Itet (K : PySem.W.Frag) (a : Addr) (xs : List V) : It :=
  ⟨fun i H => i < xs.length ∧ SqT K H a xs, fun i H v H' => ∃ T x, v = .ref T ∧ H T = none ∧ H' = upd H T (.tup [.int (i : Nat), x]) ∧ xs[i]? = some x, fun i H => xs.length ≤ i ∧ SqT K H a xs⟩
theorem turn_enumT {P : Program} {w : World} {K : PySem.W.Frag} {elts : List Expr} {kk : Nat} {tpos : Pos} (a : Addr) (xs : List V) (e it : Addr) :
    Turn P w K (.Tuple elts kk tpos) (Itet K a xs) [e, it] e (fun i h => (∃ old, IsEnum h e it ((i : Nat) : Int) old) ∧ h.IsTupleIter it a i ∧ i ≤ xs.length ∧ e ≠ it ∧ a ≠ e ∧ a ≠ it) where
  mem := by simp
  obj := fun i h st b hb => by
    obtain ⟨⟨old, he⟩, ⟨o, ho, hc, hd⟩, _⟩ := st
    have e' : b = e ∨ b = it := by simpa using hb
    rcases e' with z | z
    · rw [z]; exact ⟨_, he, fun v q => nomatch q⟩
    · rw [z]; exact ⟨o, ho, fun v q => by rw [hd] at q; cases q⟩
  keep := fun i h h' st k => let ⟨⟨old, he⟩, hi, hl, hne⟩ := st; ⟨⟨old, k e (by simp) _ he⟩, tupIter_at hi fun o q => k it (by simp) o q, hl, hne⟩
  item := by
    intro X hP hw hK hc i pins s σ H E I hf st hg
    subst hP hw hK
    obtain ⟨⟨old, he⟩, hit, hle, hne, hae, hai⟩ := st
    obtain ⟨hlt, hq⟩ := hg
    obtain ⟨its, rv, pt, hz⟩ := I.tuple hq
    obtain ⟨u0, hu0, ru0⟩ := rv.get (List.getElem?_eq_getElem hlt)
    have hel : e < s.heap.objs.size := Heap.lt_size he
    have hil : it < s.heap.objs.size := by obtain ⟨_, q, _⟩ := hit; exact Heap.lt_size q
    have hlen := rv.length
    have D : Draws X.prog X.w X.A.in1 it [it, a] its.toArray.size (fun i v => its.toArray[i]? = some v) (fun i h => h.IsTupleIter it a i ∧ h.IsTuple a its.toArray) := Draws.tuple (show X.A.in1.handled = none from I.ok.hd hc) it a hai its.toArray
    have ht : s.heap.IsTuple a its.toArray := pt
    refine wpAny_pyNext_enum_itemD D he ⟨hit, ht⟩ (by simp; omega) hne (by simp [hne, Ne.symm hae]) fun u h' tk hu ho hst' hT hsz hk => ?_
    obtain ⟨hit', _⟩ := hst'
    have eu : u = u0 := by
      simp only [List.getElem?_toArray] at hu
      rw [hu0] at hu
      exact (Option.some.inj hu).symm
    subst eu
    refine ⟨_, rfl, wpAny_letOwnedTupleGo_enum (s := { s with heap := h', toks := tk + 1 }) ho fun h'' he' sb => ?_⟩
    have hT2 : h''.get? s.heap.objs.size = some { cls := .type "tuple", data := .seq #[.int i tk, u] } := (sb.2 _ (Nat.ne_of_gt hel)).trans hT
    have new : ObjOk X.prog X.w (upd H s.heap.objs.size (.tup [.int (i : Nat), xs[i]])) h'' s.heap.objs.size (.tup [.int (i : Nat), xs[i]]) :=
      ⟨by show 2 ≤ sizeLine; decide, [.int i tk, u], .cons ⟨_, rfl⟩ (.cons ru0 .nil), ⟨_, hT2, rfl, _, rfl⟩⟩
    have I1 : Inv X pins σ (upd H s.heap.objs.size (.tup [.int (i : Nat), xs[i]])) { s with heap := h'', toks := tk + 1 } :=
      I.turnedNew (ch := [e, it]) (fun b ob hb q => (sb.2 b (fun z => hb (by simp [z]))).trans (hk b ob (fun z => hb (by simp [z])) (fun z => hb (by simp [z])) q)) hf (Nat.le_refl _) new
    refine ⟨.ref s.heap.objs.size, _, I1, rfl, ⟨_, xs[i], rfl, I.hok.fresh (Nat.le_refl _), rfl, List.getElem?_eq_getElem hlt⟩, ⟨⟨u, ?_⟩, tupIter_at hit' fun o q => (sb.2 it (Ne.symm hne)).trans q, hlt, hne, hae, hai⟩, fun b hb => ?_⟩
    · have e1 : ((i + 1 : Nat) : Int) = (i : Int) + 1 := by omega
      rw [e1]; exact he'
    · have hb' : b < s.heap.objs.size := by
        have e' : b = e ∨ b = it := by simpa using hb
        rcases e' with z | z
        · rw [z]; exact hel
        · rw [z]; exact hil
      rw [upd_ne (Nat.ne_of_lt hb')]
      exact (hf b hb).1
  done := by
    intro X hP hw hK hc i pins s σ H E I hf st hg
    subst hP hw hK
    obtain ⟨⟨old, he⟩, hit, hle, hne, hae, hai⟩ := st
    obtain ⟨hlt, hq⟩ := hg
    obtain ⟨its, rv, pt, hz⟩ := I.tuple hq
    have hlen := rv.length
    obtain ⟨f0, f1, f2, f3, f4, f5⟩ := hf it (by simp)
    have D : Draws X.prog X.w X.A.in1 it [it, a] its.toArray.size (fun i v => its.toArray[i]? = some v) (fun i h => h.IsTupleIter it a i ∧ h.IsTuple a its.toArray) := Draws.tuple (show X.A.in1.handled = none from I.ok.hd hc) it a hai its.toArray
    have ht : s.heap.IsTuple a its.toArray := pt
    have ei : its.toArray.size = i := by simp; omega
    exact wpAny_pyNext_enum_endD D he (by rw [ei]; exact ⟨hit, ht⟩) fun h' eb => ⟨rfl, I.turned (t' := s.toks) (fun b o hb q => eb b o hb q) f0 f1 f3 f4 f5⟩
  self := fun A i s Q E st h => let ⟨⟨_, he⟩, _⟩ := st; wpAny_pyIter_enum he h
def iEnumT (K : PySem.W.Frag) (ta : TA) : TI := fun σ H R => ta σ H fun vs H1 => ∃ a xs, vs = [.ref a] ∧ SqT K H1 a xs ∧ R (Itet K a xs) H1
theorem pi_enumT {X : Cx} {e : Expr} {ta : TA} {p pos tpos : Pos} {elts : List Expr} {kk : Nat} (hg : Gl X "enumerate") (hm : X.mg "enumerate" = none) (ha : PA X [e] ta) (hs : starEach [e] X.env = [(false, eval e X.env)] := by rfl) :
    PI X (.Tuple elts kk tpos) (.Call (.Name "enumerate" p) [e] [] pos) (iEnumT X.K ta) := by
  refine ⟨fun pins s σ H R I h => ?_⟩
  refine Call_ (ld_blt I hg hm boot_enumerate (PyProof.Rows.callWith_type1 (thn (ha.run pos pins s σ H _ I h) fun us s1 ⟨vs, H1, I1, r1, q1⟩ => ?_) hs rfl))
  obtain ⟨a, xs, ex, hq, q⟩ := q1
  subst ex
  cases r1 with
  | cons r rr =>
    cases rr
    cases r
    obtain ⟨its, rv, pt, hz⟩ := I1.tuple hq
    have hal : a < s1.heap.objs.size := pt.lt
    refine call_enumerate_tup (show s1.heap.IsTuple a its.toArray from pt) fun h' he hit hsz hk => wpAny_pyIter_enum he ?_
    have I2 : Inv X pins σ H1 { s1 with heap := h' } := I1.kept (t' := s1.toks) hk
    refine ⟨s1.heap.objs.size + 1, [s1.heap.objs.size + 1, s1.heap.objs.size], _, _, H1, rfl, I2, turn_enumT a xs (s1.heap.objs.size + 1) s1.heap.objs.size, ⟨⟨.none, he⟩, hit, Nat.zero_le _, Nat.succ_ne_self _, Nat.ne_of_lt (Nat.lt_succ_of_lt hal), Nat.ne_of_lt hal⟩, fun b hb => ?_, q⟩
    have e' : b = s1.heap.objs.size + 1 ∨ b = s1.heap.objs.size := by simpa using hb
    have hle : s1.heap.objs.size ≤ b := by
      rcases e' with z | z
      · rw [z]; exact Nat.le_add_right _ _
      · rw [z]; exact Nat.le_refl _
    exact I1.fpOk hle (I1.hok.fresh hle)
end Kq
/-! K12: zip of a text and a tuple; what is walked, on data. -/
namespace Kq
open PySem PySem.Spec PyProof.Rows L2
def Itzs (K : PySem.W.Frag) (y : Str) (a : Addr) (xs : List V) : It :=
  ⟨fun i H => i < y.cps.size ∧ i < xs.length ∧ SqT K H a xs, fun i H v H' => ∃ T c x, v = .ref T ∧ H T = none ∧ H' = upd H T (.tup [.str ⟨#[c]⟩, x]) ∧ y.cps[i]? = some c ∧ xs[i]? = some x, fun i H => (y.cps.size ≤ i ∨ xs.length ≤ i) ∧ SqT K H a xs⟩
theorem turn_zips {P : Program} {w : World} {K : PySem.W.Frag} {elts : List Expr} {kk : Nat} {tpos : Pos} (y : Str) (t : Tok) (a : Addr) (xs : List V) {z TI TO i1 i2 : Addr} (S : ZipSep2 z TI TO i1 i2 [i1] [i2, a]) (hai : a ≠ i2) :
    Turn P w K (.Tuple elts kk tpos) (Itzs K y a xs) [z, TI, TO, i1, i2] z (fun i h => IsZip h z TI TO .none ∧ IsTupOf2 h TI (.ref i1) (.ref i2) ∧ (∃ a1 a2, IsTupOf2 h TO a1 a2) ∧ h.IsStrIter i1 (strIterType y) y t i ∧ h.IsTupleIter i2 a i ∧ i ≤ y.cps.size ∧ i ≤ xs.length) where
  mem := by simp
  obj := fun i h st b hb => by
    obtain ⟨hz, hTI, ⟨a1, a2, hTO⟩, ⟨o1, e1, _, d1⟩, ⟨o2, e2, _, d2⟩, _⟩ := st
    have e' : b = z ∨ b = TI ∨ b = TO ∨ b = i1 ∨ b = i2 := by simpa using hb
    rcases e' with q | q | q | q | q
    · rw [q]; exact ⟨_, hz, fun v q => nomatch q⟩
    · rw [q]; exact ⟨_, hTI, fun v q => nomatch q⟩
    · rw [q]; exact ⟨_, hTO, fun v q => nomatch q⟩
    · rw [q]; exact ⟨o1, e1, fun v q => by rw [d1] at q; cases q⟩
    · rw [q]; exact ⟨o2, e2, fun v q => by rw [d2] at q; cases q⟩
  keep := fun i h h' st k => by
    obtain ⟨hz, hTI, ⟨a1, a2, hTO⟩, h1, h2, h3⟩ := st
    exact ⟨k z (by simp) _ hz, k TI (by simp) _ hTI, ⟨a1, a2, k TO (by simp) _ hTO⟩, strIter_at h1 fun o q => k i1 (by simp) o q, tupIter_at h2 fun o q => k i2 (by simp) o q, h3⟩
  item := by
    intro X hP hw hK hc i pins s σ H E I hf st hg
    subst hP hw hK
    obtain ⟨hz, hTI, ⟨a1, a2, hTO⟩, h1, h2, hl1, hl2⟩ := st
    obtain ⟨hlt1, hlt2, hq⟩ := hg
    obtain ⟨its, rv, pt, _⟩ := I.tuple hq
    obtain ⟨u0, hu0, ru0⟩ := rv.get (List.getElem?_eq_getElem hlt2)
    have hlen := rv.length
    have hh : X.A.in1.handled = none := I.ok.hd hc
    have D1 : Draws X.prog X.w X.A.in1 i1 [i1] y.cps.size (fun i v => ∃ c u, y.cps[i]? = some c ∧ v = .str ⟨#[c]⟩ u) (fun i h => h.IsStrIter i1 (strIterType y) y t i) := Draws.text hh i1 y t
    have D2 : Draws X.prog X.w X.A.in1 i2 [i2, a] its.toArray.size (fun i v => its.toArray[i]? = some v) (fun i h => h.IsTupleIter i2 a i ∧ h.IsTuple a its.toArray) := Draws.tuple hh i2 a hai its.toArray
    have ht : s.heap.IsTuple a its.toArray := pt
    have hzl : z < s.heap.objs.size := Heap.lt_size hz
    refine wpAny_pyNext_zipD2_item S D1 D2 hz hTI hTO h1 ⟨h2, ht⟩ hlt1 (by simp; omega) fun x1 x2 h' tk p1 p2 z' TO' s1' s2' hT hsz hk => ?_
    obtain ⟨c, t2, hcz, rfl⟩ := p1
    have eu : x2 = u0 := by
      simp only [List.getElem?_toArray] at p2
      rw [hu0] at p2
      exact (Option.some.inj p2).symm
    subst eu
    refine ⟨_, rfl, wpAny_letOwnedTupleGo_zip (s := { s with heap := h', toks := tk }) z' fun h'' z'' sb => ?_⟩
    have hT2 : h''.get? s.heap.objs.size = some { cls := .type "tuple", data := .seq #[.str ⟨#[c]⟩ t2, x2] } := (sb.2 _ (Nat.ne_of_gt hzl)).trans hT
    have new : ObjOk X.prog X.w (upd H s.heap.objs.size (.tup [.str ⟨#[c]⟩, xs[i]])) h'' s.heap.objs.size (.tup [.str ⟨#[c]⟩, xs[i]]) :=
      ⟨by show 2 ≤ sizeLine; decide, [.str ⟨#[c]⟩ t2, x2], .cons ⟨_, rfl⟩ (.cons ru0 .nil), ⟨_, hT2, rfl, _, rfl⟩⟩
    have I1 : Inv X pins σ (upd H s.heap.objs.size (.tup [.str ⟨#[c]⟩, xs[i]])) { s with heap := h'', toks := tk } :=
      I.turnedNew (ch := [z, TI, TO, i1, i2]) (fun c o hb q => (sb.2 c (fun q' => hb (by simp [q']))).trans (hk c o (fun q' => hb (by simp [q'])) (fun q' => hb (by simp [q'])) (fun q' => hb (by simp [q'])) (fun q' => hb (by simp [q'])) q)) hf (Nat.le_refl _) new
    refine ⟨.ref s.heap.objs.size, _, I1, rfl, ⟨_, c, xs[i], rfl, I.hok.fresh (Nat.le_refl _), rfl, hcz, List.getElem?_eq_getElem hlt2⟩, ⟨z'', ?_, ⟨.str ⟨#[c]⟩ t2, x2, ?_⟩, ?_, ?_, hlt1, hlt2⟩, fun c hcm => ?_⟩
    · exact (sb.2 _ S.TIz).trans (hk _ _ S.TIz S.TITO S.TIi1 S.TIi2 hTI)
    · exact (sb.2 _ S.TOz).trans TO'
    · exact strIter_at s1' fun o q => (sb.2 _ (Ne.symm S.zi1)).trans q
    · exact tupIter_at s2'.1 fun o q => (sb.2 _ (Ne.symm S.zi2)).trans q
    · have hlt : c < s.heap.objs.size := by
        have e' : c = z ∨ c = TI ∨ c = TO ∨ c = i1 ∨ c = i2 := by simpa using hcm
        rcases e' with q | q | q | q | q
        · rw [q]; exact hzl
        · rw [q]; exact Heap.lt_size hTI
        · rw [q]; exact Heap.lt_size hTO
        · rw [q]; obtain ⟨_, e1, _⟩ := h1; exact Heap.lt_size e1
        · rw [q]; obtain ⟨_, e2, _⟩ := h2; exact Heap.lt_size e2
      rw [upd_ne (Nat.ne_of_lt hlt)]
      exact (hf c hcm).1
  done := by
    intro X hP hw hK hc i pins s σ H E I hf st hg
    subst hP hw hK
    obtain ⟨hz, hTI, ⟨a1, a2, hTO⟩, h1, h2, hl1, hl2⟩ := st
    obtain ⟨hend, hq⟩ := hg
    obtain ⟨its, rv, pt, _⟩ := I.tuple hq
    have hlen := rv.length
    have hh : X.A.in1.handled = none := I.ok.hd hc
    have D1 : Draws X.prog X.w X.A.in1 i1 [i1] y.cps.size (fun i v => ∃ c u, y.cps[i]? = some c ∧ v = .str ⟨#[c]⟩ u) (fun i h => h.IsStrIter i1 (strIterType y) y t i) := Draws.text hh i1 y t
    have D2 : Draws X.prog X.w X.A.in1 i2 [i2, a] its.toArray.size (fun i v => its.toArray[i]? = some v) (fun i h => h.IsTupleIter i2 a i ∧ h.IsTuple a its.toArray) := Draws.tuple hh i2 a hai its.toArray
    have ht : s.heap.IsTuple a its.toArray := pt
    have es : its.toArray.size = xs.length := by simp; omega
    refine wpAny_pyNext_zipD2_end S D1 D2 hz hTI hTO h1 ⟨h2, ht⟩ hl1 (by rw [es]; exact hl2) (by rw [es]; omega) fun h' tk hk => ⟨rfl, I.turnedL (t' := tk) (ch := [z, TI, TO, i1, i2]) (fun c o hb q =>
      hk c o (fun q' => hb (by simp [q'])) (fun q' => hb (by simp [q'])) (fun q' => hb (by simp [q'])) (fun q' => hb (by simp [q'])) q) hf⟩
  self := fun A i s Q E st h => wpAny_pyIter_zip st.1 h

theorem sep_at (n a : Nat) (h : a < n) : ZipSep2 (n + 4) (n + 2) (n + 3) n (n + 1) [n] [n + 1, a] := by
  have ne : ∀ i j : Nat, i ≠ j → n + i ≠ n + j := fun i j k e => k (Nat.add_left_cancel e)
  have n0 : ∀ j : Nat, j ≠ 0 → n + j ≠ n := fun j k e => ne j 0 k e
  have na : ∀ j : Nat, n + j ≠ a := fun j e => Nat.lt_irrefl _ (Nat.lt_of_lt_of_le h (e ▸ Nat.le_add_right n j))
  have mem1 : ∀ j : Nat, j ≠ 0 → n + j ∉ [n] := fun j k e => n0 j k (List.mem_singleton.mp e)
  have mem2 : ∀ j : Nat, j ≠ 1 → n + j ∉ [n + 1, a] := fun j k e => by
    rcases List.mem_cons.mp e with e | e
    · exact ne j 1 k e
    · exact na j (List.mem_singleton.mp e)
  exact { TIz := ne 2 4 (by decide), TOz := ne 3 4 (by decide), TITO := ne 2 3 (by decide), TIi1 := n0 2 (by decide), mem1 := List.mem_singleton.mpr rfl, zf1 := mem1 4 (by decide), Tf1 := mem1 3 (by decide), TIi2 := ne 2 1 (by decide), mem2 := List.mem_cons_self, zf2 := mem2 4 (by decide), Tf2 := mem2 3 (by decide), sep1_2 := mem2 0 (by decide), sep2_1 := mem1 1 (by decide) }
def iZips (K : PySem.W.Frag) (ta : TA) : TI := fun σ H R => ta σ H fun vs H1 => ∃ y a xs, vs = [.str y, .ref a] ∧ SqT K H1 a xs ∧ R (Itzs K y a xs) H1
theorem pi_zips {X : Cx} {e e2 : Expr} {ta : TA} {p pos tpos : Pos} {elts : List Expr} {kk : Nat} (hg : Gl X "zip") (hm : X.mg "zip" = none) (ha : PA X [e, e2] ta)
    (hs : starEach [e, e2] X.env = (false, eval e X.env) :: starEach [e2] X.env := by rfl) (hpl : (backTo pos (starEach [e2] X.env)).any (·.1) = false := by rfl) :
    PI X (.Tuple elts kk tpos) (.Call (.Name "zip" p) [e, e2] [] pos) (iZips X.K ta) := by
  refine ⟨fun pins s σ H R I h => ?_⟩
  refine Call_ (ld_blt I hg hm PyProof.Rows.boot_zip (PyProof.Rows.callWith_type1 (thn (ha.run pos pins s σ H _ I h) fun us s1 ⟨vs, H1, I1, r1, q1⟩ => ?_) hs hpl))
  obtain ⟨y, a, xs, ex, hq, q⟩ := q1
  subst ex
  cases r1 with
  | cons r rr =>
    cases rr with
    | cons r' rr =>
      cases rr
      obtain ⟨t, rfl⟩ := r
      cases r'
      obtain ⟨its, rv, pt, _⟩ := I1.tuple hq
      have la : a < s1.heap.objs.size := pt.lt
      refine zip_begins2 (begins_text y t) (begins_tuple a its.toArray) trivial (show s1.heap.IsTuple a its.toArray from pt) fun h' hz hTI hTO h1 h2 hsz hk => wpAny_pyIter_zip hz ?_
      have I2 : Inv X pins σ H1 { s1 with heap := h' } := I1.kept (t' := s1.toks) hk
      refine ⟨s1.heap.objs.size + 4, [s1.heap.objs.size + 4, s1.heap.objs.size + 2, s1.heap.objs.size + 3, s1.heap.objs.size, s1.heap.objs.size + 1], _, _, H1, rfl, I2, turn_zips y t a xs
(sep_at _ _ la) (Nat.ne_of_lt (Nat.lt_succ_of_lt la)),
        ⟨hz, hTI, ⟨_, _, hTO⟩, ⟨_, h1, rfl, rfl⟩, ⟨_, h2, rfl, rfl⟩, Nat.zero_le _, Nat.zero_le _⟩, fun c hcm => ?_, q⟩
      have e' : c = s1.heap.objs.size + 4 ∨ c = s1.heap.objs.size + 2 ∨ c = s1.heap.objs.size + 3 ∨ c = s1.heap.objs.size ∨ c = s1.heap.objs.size + 1 := by simpa using hcm
      have hle : s1.heap.objs.size ≤ c := by
        rcases e' with z | z | z | z | z
        · rw [z]; exact Nat.le_add_right _ _
        · rw [z]; exact Nat.le_add_right _ _
        · rw [z]; exact Nat.le_add_right _ _
        · rw [z]; exact Nat.le_refl _
        · rw [z]; exact Nat.le_add_right _ _
      exact I1.fpOk hle (I1.hok.fresh hle)

/-! ### on data -/
/-- the pairs (place, datum) -/
def enumD (ds : List PyData) : List PyData := ds.zipIdx.map fun p => .tuple [.int (p.2 : Int), p.1]
theorem enumD_len {ds : List PyData} : (enumD ds).length = ds.length := by unfold enumD; simp
theorem enumD_get {ds : List PyData} {i : Nat} {d : PyData} (h : ds[i]? = some d) : (enumD ds)[i]? = some (.tuple [.int (i : Int), d]) := by
  unfold enumD
  rw [List.getElem?_map, List.getElem?_zipIdx, h]
  simp
section
variable {X : Cx} {W : Wd} {s : W.St} {δ : De} {e e2 : Expr} {O : W.St → List PyData → Prop} {p pos tpos : Pos} {elts : List Expr} {kk : Nat}
theorem signs_len {z : Str} : (signs z).length = z.cps.size := by unfold signs; rw [List.length_map, Array.length_toList]
theorem signs_get {z : Str} {i c : Nat} (h : z.cps[i]? = some c) : (signs z)[i]? = some (.str ⟨#[c]⟩) := by
  unfold signs
  rw [List.getElem?_map, Array.getElem?_toList, h]
  rfl
theorem one_v {vs : List V} {P : V → Prop} (h : ∃ v, vs = [v] ∧ P v) : ∃ v, vs = [v] ∧ P v := h
theorem new_tup {u : List Addr} {K : PySem.W.Frag} {H : Hp} {T : Addr} {xs : List V} {ds : List PyData} (hn : H T = none) (mu : ∀ b ∈ u, Mut (H b)) (h : DvA K u H xs ds) : Dv K u (upd H T (.tup xs)) (.ref T) (.tuple ds) :=
  .tup (SqT.of upd_same) (h.mv (Mv.new hn) mu)
theorem jd_enumS (hg : Gl X "enumerate") (hm : X.mg "enumerate" = none) (h : ED X W e s δ fun s' x => ∃ z, x = .d (.str z) ∧ O s' (enumD (signs z))) (hs : starEach [e] X.env = [(false, eval e X.env)] := by rfl) (hs2 : starEach [e] X.env = (false, eval e X.env) :: starEach [] X.env := by rfl) :
    JD X W (.Tuple elts kk tpos) (.Call (.Name "enumerate" p) [e] [] pos) s δ O := .mk fun σ H R hI hS hR => pi_w (pi_enumS hg hm (pa_cons wE_pe pa_nil hs2) hs) (h σ H _ hI hS fun v H1 s1 x m1 i1 o1 q1 => by
  obtain ⟨z, rfl, q1⟩ := q1
  cases o1
  have hl : (enumD (signs z)).length = z.cps.size := by rw [enumD_len, signs_len]
  refine ⟨z, rfl, hR _ H1 s1 _ m1 i1 ⟨fun i H m hi => ?_, fun H m => ?_, fun i H v H' m mu hi y => ?_⟩ q1⟩
  · rw [hl] at hi
    exact hi
  · rw [hl]
    exact Nat.le_refl _
  · obtain ⟨T, c, rfl, hn, rfl, hc⟩ := y
    exact ⟨_, enumD_get (signs_get hc), same_new hn _, new_tup hn mu (.cons (.int _) (.cons (.str _) .nil))⟩)
theorem jd_enumT (hg : Gl X "enumerate") (hm : X.mg "enumerate" = none) (h : ED X W e s δ fun s' x => ∃ ds, x = .d (.tuple ds) ∧ O s' (enumD ds)) (hs : starEach [e] X.env = [(false, eval e X.env)] := by rfl) (hs2 : starEach [e] X.env = (false, eval e X.env) :: starEach [] X.env := by rfl) :
    JD X W (.Tuple elts kk tpos) (.Call (.Name "enumerate" p) [e] [] pos) s δ O := .mk fun σ H R hI hS hR => pi_w (pi_enumT hg hm (pa_cons wE_pe pa_nil hs2) hs) (h σ H _ hI hS fun v H1 s1 x m1 i1 o1 q1 => by
  obtain ⟨ds, rfl, q1⟩ := q1
  cases o1 with
  | @tup ad xs _ e1 a1 =>
    have up : ∀ H, Mv W.u H1 H → SqT X.K H ad xs := fun H m => sqt_mv m (W.mu _ _ i1) e1
    refine ⟨_, _, rfl, e1, hR _ H1 s1 _ m1 i1 ⟨fun i H m hi => ?_, fun H m => ?_, fun i H v H' m mu hi y => ?_⟩ q1⟩
    · rw [enumD_len, ← a1.length] at hi
      exact ⟨hi, up H m⟩
    · rw [enumD_len]
      exact ⟨by rw [a1.length]; exact Nat.le_refl _, up H m⟩
    · obtain ⟨T, x, rfl, hn, rfl, hx⟩ := y
      obtain ⟨d, h1, h2⟩ := a1.get' hx
      exact ⟨_, enumD_get h1, same_new hn _, new_tup hn mu (.cons (.int _) (.cons (h2.mv m (W.mu _ _ i1)) .nil))⟩)
theorem jd_enumL (hg : Gl X "enumerate") (hm : X.mg "enumerate" = none) (h : ED X W e s δ fun s' x => ∃ ds, x = .d (.list ds) ∧ O s' (enumD ds)) (hs : starEach [e] X.env = [(false, eval e X.env)] := by rfl) (hs2 : starEach [e] X.env = (false, eval e X.env) :: starEach [] X.env := by rfl) :
    JD X W (.Tuple elts kk tpos) (.Call (.Name "enumerate" p) [e] [] pos) s δ O := .mk fun σ H R hI hS hR => pi_w (pi_enum hg hm (pa_cons wE_pe pa_nil hs2) hs) (h σ H _ hI hS fun v H1 s1 x m1 i1 o1 q1 => by
  obtain ⟨ds, rfl, q1⟩ := q1
  cases o1 with
  | @lst ad xs _ n1 e1 a1 =>
    have up : ∀ H, Mv W.u H1 H → SqL X.K H ad xs := fun H m => SqL.of (m _ _ n1 e1)
    refine ⟨_, _, rfl, SqL.of e1, hR _ H1 s1 _ m1 i1 ⟨fun i H m hi => ?_, fun H m => ?_, fun i H v H' m mu hi y => ?_⟩ q1⟩
    · rw [enumD_len, ← a1.length] at hi
      exact ⟨xs, xs[i], up H m, List.getElem?_eq_getElem hi⟩
    · rw [enumD_len]
      exact ⟨xs, up H m, by rw [a1.length]; exact Nat.le_refl _⟩
    · obtain ⟨T, x, rfl, hn, rfl, hx⟩ := y
      obtain ⟨d, h1, h2⟩ := a1.get' (hx _ (up H m))
      exact ⟨_, enumD_get h1, same_new hn _, new_tup hn mu (.cons (.int _) (.cons (h2.mv m (W.mu _ _ i1)) .nil))⟩)
def zipD (as bs : List PyData) : List PyData := List.zipWith (fun a b => .tuple [a, b]) as bs
theorem zipD_get {as bs : List PyData} {i : Nat} {a b : PyData} (h1 : as[i]? = some a) (h2 : bs[i]? = some b) : (zipD as bs)[i]? = some (.tuple [a, b]) := by
  unfold zipD
  rw [List.getElem?_zipWith, h1, h2]
theorem jd_zipS (hg : Gl X "zip") (hm : X.mg "zip" = none) (h : ED X W e s δ fun s1 x => ED X W e2 s1 δ fun s2 y => ∃ z ds, x = .d (.str z) ∧ y = .d (.tuple ds) ∧ O s2 (zipD (signs z) ds))
    (hs : starEach [e, e2] X.env = (false, eval e X.env) :: starEach [e2] X.env := by rfl) (hs2 : starEach [e2] X.env = (false, eval e2 X.env) :: starEach [] X.env := by rfl) (hpl : (backTo pos (starEach [e2] X.env)).any (·.1) = false := by rfl) :
    JD X W (.Tuple elts kk tpos) (.Call (.Name "zip" p) [e, e2] [] pos) s δ O := .mk fun σ H R hI hS hR => pi_w (pi_zips hg hm (pa_cons wE_pe (pa_cons wE_pe pa_nil hs2) hs) hs hpl) (h σ H _ hI hS fun v H0 s0 x m0 i0 o0 q0 => q0 σ H0 _ i0 (hS.mv m0 (W.mu _ _ hI)) fun w H1 s1 y m1 i1 o1 q1 => by
  obtain ⟨z, ds, rfl, rfl, q1⟩ := q1
  cases o0
  cases o1 with
  | @tup ad xs _ e1 a1 =>
    have up : ∀ H, Mv W.u H1 H → SqT X.K H ad xs := fun H m => sqt_mv m (W.mu _ _ i1) e1
    have hl : (zipD (signs z) ds).length = min z.cps.size xs.length := by
      unfold zipD
      rw [List.length_zipWith, signs_len, a1.length]
    refine ⟨z, _, _, rfl, e1, hR _ H1 s1 _ (m0.trans m1) i1 ⟨fun i H m hi => ?_, fun H m => ?_, fun i H v H' m mu hi y => ?_⟩ q1⟩
    · rw [hl] at hi
      exact ⟨by omega, by omega, up H m⟩
    · rw [hl]
      exact ⟨by omega, up H m⟩
    · obtain ⟨T, c, x, rfl, hn, rfl, hc, hx⟩ := y
      obtain ⟨d, h1, h2⟩ := a1.get' hx
      exact ⟨_, zipD_get (signs_get hc) h1, same_new hn _, new_tup hn mu (.cons (.str _) (.cons (h2.mv m (W.mu _ _ i1)) .nil))⟩)
end
end Kq
/-! K13: the module's tables; .get. -/
namespace Kq
open PySem PySem.Spec PyProof.Rows L2
structure KTab (K : PySem.W.Frag) (w : World) (d : Addr) (tab : CM) : Prop where
  kd : ∃ es n, KDict K w d es n
  get : ∀ z, match cGet tab z with | some p => ∃ u v, PySem.W.nsIn K d z = some (some u) ∧ RelV v u ∧ (∀ u' H, Dv K u' H v p) | none => PySem.W.nsIn K d z = some none
section
variable {X : Cx} {W : Wd} {s : W.St} {δ : De} {Q : W.St → Sv → Prop} {e f o : Expr} {apos cpos : Pos} {d : Addr} {tab : CM}
theorem od_inKt {z : Str} (T : KTab X.K X.w d tab) (q : Q s (.d (.bool (cGet tab z).isSome))) : OD X W (compareOp .In) (.d (.str z)) (.o d) s Q := .mk fun v w H R hI o1 o2 hR => by
  obtain ⟨es, n, D⟩ := T.kd
  have o2 : w = .ref d := o2
  subst o2
  cases o1
  have g := T.get z
  refine op_w (op_in_kd D) ?_
  cases e : cGet tab z with
  | none =>
    rw [e] at g q
    exact ⟨z, none, rfl, rfl, g, hR _ H s _ Mv.refl hI (Dv.bl false).sv q⟩
  | some p =>
    rw [e] at g q
    obtain ⟨u, v, g1, g2, g3⟩ := g
    exact ⟨z, some u, rfl, rfl, g1, hR _ H s _ Mv.refl hI (Dv.bl true).sv q⟩
theorem od_notInKt {z : Str} (T : KTab X.K X.w d tab) (q : Q s (.d (.bool (!(cGet tab z).isSome)))) : OD X W (compareOp .NotIn) (.d (.str z)) (.o d) s Q := .mk fun v w H R hI o1 o2 hR => by
  obtain ⟨es, n, D⟩ := T.kd
  have o2 : w = .ref d := o2
  subst o2
  cases o1
  have g := T.get z
  refine op_w (op_notIn_kd D) ?_
  cases e : cGet tab z with
  | none =>
    rw [e] at g q
    exact ⟨z, none, rfl, rfl, g, hR _ H s _ Mv.refl hI (Dv.bl true).sv q⟩
  | some p =>
    rw [e] at g q
    obtain ⟨u, v, g1, g2, g3⟩ := g
    exact ⟨z, some u, rfl, rfl, g1, hR _ H s _ Mv.refl hI (Dv.bl false).sv q⟩
theorem id_kt {z : Str} {p : PyData} (T : KTab X.K X.w d tab) (h : cGet tab z = some p) (q : Q s (.d p)) : ID X W (.o d) (.d (.str z)) s Q := .mk fun v w H R hI o1 o2 hR => by
  obtain ⟨es, n, D⟩ := T.kd
  have o1 : v = .ref d := o1
  subst o1
  cases o2
  have g := T.get z
  rw [h] at g
  obtain ⟨u, v, g1, g2, g3⟩ := g
  exact ix_w ix_kdict ⟨d, z, v, rfl, rfl, ⟨es, n, u, D.at_, D.lit, g1, g2⟩, hR _ H s _ Mv.refl hI (g3 _ _).sv q⟩
/-- table.get(key, default) -/
def tKGet2 (K : PySem.W.Frag) (w : World) (td ty tx : TE) : TE := fun σ H Q => td σ H fun x H1 => ∃ a es n, x = .ref a ∧ KDict K w a es n ∧ ty σ H1 fun y H2 => tx σ H2 fun z H3 => ∃ (k : Str) (r : Option Value) (v : V), y = .str k ∧ PySem.W.nsIn K a k = some r ∧ (∀ u, r = some u → RelV v u) ∧ Q (if r.isSome then v else z) H3
theorem pe_kget2 {td ty tx : TE} (ho : PE X o td) (he : PE X e ty) (hf : PE X f tx) (m : M2 X o "get" apos e f cpos) : PE X (.Call (.Attribute o "get" apos) [e, f] [] cpos) (tKGet2 X.K X.w td ty tx) := by
  refine ⟨fun pins s σ H Q I h => ?_⟩
  refine wpAny_Call_method m.base m.few m.line PySem.F.plainAttrs_dict PySem.F.slot_dict_get PySem.F.type_dict_get (thn (ho.run pins s σ H _ I h) fun u s1 ⟨x, H1, I1, rx, a, es, n, ex, D, q1⟩ => ?_)
  subst ex
  obtain rfl : u = Value.ref a := rx
  refine ⟨kd_type D I1, fun b hb => ?_, ?_⟩
  · cases hb
    exact ⟨_, I1.kIn _ _ D.at_, rfl⟩
  rw [m.trees]
  refine Calls.callWith_builtin rfl (Calls.evalArgs_plain (Calls.spliced_cons (thn (he.run pins s1 σ H1 _ I1 q1) fun iv s2 ⟨y, H2, I2, ry, q2⟩ =>
    Calls.spliced_cons (thn (hf.run pins s2 σ H2 _ I2 q2) fun fv s3 ⟨z, H3, I3, rz, k, r, v, ey, g, rv, q3⟩ => Calls.spliced_nil ?_))))
  subst ey
  obtain ⟨t, rfl⟩ := ry
  refine call_meetsIn PySem.F.slot_dict_get (kd_type D I3) PySem.F.entry_dict_get (PySem.F.args_dict_get_3 _ _ _) (meets_dict_get_default (strKind X.prog X.w) a (PySem.strKind_is X.prog X.w k t) D.low fv) ⟨_, PySem.W.mapOf_K (prog := X.prog) I3.kIn D.at_ D.lit, ?_⟩
  rw [PySem.W.find_K D.at_ g]
  refine ⟨_, H3, I3.tok _, ?_, q3⟩
  cases r with
  | none => exact rz
  | some u => exact rv u rfl
theorem ed_getKt (T : KTab X.K X.w d tab) (m : M2 X o "get" apos e f cpos) (h : ED X W o s δ fun s1 x => x = .o d ∧ ED X W e s1 δ fun s2 y => ED X W f s2 δ fun s3 z => ∃ k df, y = .d (.str k) ∧ z = .d df ∧ Q s3 (.d ((cGet tab k).getD df))) :
    ED X W (.Call (.Attribute o "get" apos) [e, f] [] cpos) s δ Q := .mk fun σ H R hI hS hR => pe_w (pe_kget2 wE_pe wE_pe wE_pe m) (h σ H _ hI hS fun v H1 s1 x m1 i1 o1 q1 => by
  obtain ⟨rfl, q1⟩ := q1
  obtain ⟨es, n, D⟩ := T.kd
  have o1 : v = .ref d := o1
  subst o1
  refine ⟨d, es, n, rfl, D, ?_⟩
  refine q1 σ H1 _ i1 (hS.mv m1 (W.mu _ _ hI)) fun y H2 s2 yy m2 i2 o2 q2 => ?_
  refine q2 σ H2 _ i2 (hS.mv (m1.trans m2) (W.mu _ _ hI)) fun z H3 s3 zz m3 i3 o3 q3 => ?_
  obtain ⟨k, df, rfl, rfl, q3⟩ := q3
  cases o2
  have g := T.get k
  have m123 := (m1.trans m2).trans m3
  cases e : cGet tab k with
  | none =>
    rw [e] at g q3
    exact ⟨k, none, .non, rfl, g, fun u h => (by cases h), hR _ H3 s3 _ m123 i3 o3 q3⟩
  | some p =>
    rw [e] at g q3
    obtain ⟨u, v, g1, g2, g3⟩ := g
    exact ⟨k, some u, v, rfl, g1, fun u' h => (by cases h; exact g2), hR _ H3 s3 _ m123 i3 (g3 _ _).sv q3⟩)
/-! ### the displayed table -/
theorem texts_get : ∀ (ps : List (Str × Str)) (k : Str), valV (textsKV ps) (Sum.inr k) = ((ps.find? fun p => decide (p.1 = k)).map fun p => V.str p.2)
  | [], _ => rfl
  | (x, y) :: ps, k => by
    by_cases e : x = k
    · subst e
      rw [List.find?_cons_of_pos (by simp)]
      exact valV_pos rfl
    · rw [List.find?_cons_of_neg (by simpa using e)]
      exact (valV_neg (inr_ne e)).trans (texts_get ps k)
theorem ed_getLong {ks : List (Option Expr)} {vs : List Expr} {pos : Pos} {ps : List (Str × Str)} (hl : lits ks vs = some ps) (h1 : 17 < ps.length) (h2 : ps.length ≤ 32) (hk : mergeK (mergeK [] (textsKV (ps.take 17))) (mergeK [] (textsKV (ps.drop 17))) = textsKV ps)
    (hu : X.A.units + 1 < cLine) (m : M2 X (.Dict ks vs pos) "get" apos e f cpos) (h : ED X W e s δ fun s2 y => ED X W f s2 δ fun s3 z => ∃ k df, y = .d (.str k) ∧ z = .d df ∧ Q s3 (.d (((ps.find? fun p => decide (p.1 = k)).map fun p => PyData.str p.2).getD df))) :
    ED X W (.Call (.Attribute (.Dict ks vs pos) "get" apos) [e, f] [] cpos) s δ Q := .mk fun σ H R hI hS hR => pe_w (pe_dget2 hu (pe_dlong hl h1 h2) wE_pe wE_pe m) fun p q hp nqp hq => by
  rw [hk]
  have I1 : W.I s (upd H p (.dK (mergeK [] (textsKV (ps.take 17))))) := W.new hI hp
  have m1 : Mv W.u H (upd H p (.dK (mergeK [] (textsKV (ps.take 17))))) := Mv.new hp
  have hq1 : upd H p (.dK (mergeK [] (textsKV (ps.take 17)))) q = none := by rw [upd_ne nqp]; exact hq
  have I2 := W.new I1 hq1 (o := .dK (mergeK [] (textsKV (ps.drop 17))))
  have m2 := m1.trans (Mv.new hq1 (u := W.u) (o := .dK (mergeK [] (textsKV (ps.drop 17)))))
  have e3 : upd (upd (upd H p (.dK (mergeK [] (textsKV (ps.take 17))))) q (.dK (mergeK [] (textsKV (ps.drop 17))))) p (.dK (textsKV ps)) = upd (upd H p (.dK (textsKV ps))) q (.dK (mergeK [] (textsKV (ps.drop 17)))) := by
    funext b
    by_cases hb : b = p
    · subst hb
      rw [upd_same, upd_ne (Ne.symm nqp), upd_same]
    · rw [upd_ne hb]
      by_cases hb2 : b = q
      · subst hb2
        rw [upd_same, upd_same]
      · rw [upd_ne hb2, upd_ne hb, upd_ne hb2, upd_ne hb]
  rw [e3]
  have J1 : W.I s (upd H p (.dK (textsKV ps))) := W.new hI hp
  have hq2 : upd H p (.dK (textsKV ps)) q = none := by rw [upd_ne nqp]; exact hq
  have J2 := W.new J1 hq2 (o := .dK (mergeK [] (textsKV (ps.drop 17))))
  have n2 : Mv W.u H (upd (upd H p (.dK (textsKV ps))) q (.dK (mergeK [] (textsKV (ps.drop 17))))) := (Mv.new hp).trans (Mv.new hq2)
  have np : p ∉ W.u := W.fresh hI hp
  have hp2 : upd (upd H p (.dK (textsKV ps))) q (.dK (mergeK [] (textsKV (ps.drop 17)))) p = some (.dK (textsKV ps)) := by rw [upd_ne (Ne.symm nqp), upd_same]
  refine ⟨p, rfl, .inl ⟨_, .inl hp2⟩, ?_⟩
  refine h σ _ _ J2 (hS.mv n2 (W.mu _ _ hI)) fun y H2 s2 yy m3 i3 o3 q3 => ?_
  refine q3 σ _ _ i3 ((hS.mv n2 (W.mu _ _ hI)).mv m3 (W.mu _ _ J2)) fun z H3 s3 zz m4 i4 o4 q4 => ?_
  obtain ⟨k, df, rfl, rfl, q4⟩ := q4
  cases o3
  refine ⟨_, DGet.k (k := Sum.inr k) (m4 _ _ np (m3 _ _ np hp2)), ?_⟩
  rw [texts_get]
  cases e : ps.find? fun p => decide (p.1 = k) with
  | none =>
    rw [e] at q4
    exact hR _ H3 s3 _ (n2.trans (m3.trans m4)) i4 o4 q4
  | some r =>
    rw [e] at q4
    exact hR _ H3 s3 _ (n2.trans (m3.trans m4)) i4 (Dv.str r.2).sv q4
end
end Kq
/-! K14: objects that change: the urn's list, a counter's list, a list that grows; targets. -/
namespace Kq
open PySem PySem.Spec PyProof.Rows L2
/-! ### several targets -/
structure GDs (X : Cx) (W : Wd) (tgs : List Expr) (ds : List PyData) (s : W.St) (δ : De) (N : W.St → De → Prop) : Prop where
  mk ::
  run : ∀ (vs : List V) (σ : L2.St) (H : Hp), W.I s H → Sg X.K W.u H σ δ → DvA X.K W.u H vs ds → ∀ (R : L2.St → Hp → Prop), (∀ σ' H' s' δ', Mv W.u H H' → W.I s' H' → Sg X.K W.u H' σ' δ' → N s' δ' → R σ' H') → ∃ g, PGs X tgs g ∧ g vs σ H R
instance {X : Cx} {W : Wd} {tgs : List Expr} {ds : List PyData} {s : W.St} {δ : De} {N : W.St → De → Prop} : CoeFun (GDs X W tgs ds s δ N) fun _ => ∀ (vs : List V) (σ : L2.St) (H : Hp), W.I s H → Sg X.K W.u H σ δ → DvA X.K W.u H vs ds → ∀ (R : L2.St → Hp → Prop), (∀ σ' H' s' δ', Mv W.u H H' → W.I s' H' → Sg X.K W.u H' σ' δ' → N s' δ' → R σ' H') → ∃ g, PGs X tgs g ∧ g vs σ H R := ⟨GDs.run⟩
section
variable {X : Cx} {W : Wd} {s : W.St} {δ : De} {N : W.St → De → Prop} {tg : Expr} {tgs : List Expr} {ds : List PyData} {d : PyData} {pos : Pos}
theorem gds_nil (q : N s δ) : GDs X W [] [] s δ N := .mk fun vs σ H hI hS hv R hR => by
  cases hv
  exact ⟨gNil, pgs_nil, rfl, hR σ H s δ Mv.refl hI hS q⟩
def wGs (X : Cx) (tgs : List Expr) : TGs := fun vs σ H R => ∃ g, PGs X tgs g ∧ g vs σ H R
theorem wGs_pgs {tgs : List Expr} : PGs X tgs (wGs X tgs) := ⟨fun pins s σ H vs us R I r h => by
  obtain ⟨g, h1, h2⟩ := h
  exact h1.run pins s σ H vs us R I r h2⟩
theorem gds_cons (h : GD X W tg (.d d) s δ fun s' δ' => GDs X W tgs ds s' δ' N) (hs : (assignEach (tg :: tgs) X.env).map (·.2) = assign tg X.env :: (assignEach tgs X.env).map (·.2) := by rfl) : GDs X W (tg :: tgs) (d :: ds) s δ N := .mk fun vs σ H hI hS hv R hR => by
  cases hv with
  | cons h1 h2 =>
    refine ⟨gCons (wG X tg) (wGs X tgs), pgs_cons wG_pg wGs_pgs hs, _, _, rfl, ?_⟩
    refine h _ σ H _ hI hS h1.sv fun σ1 H1 s1 δ1 m1 i1 g1 q1 => ?_
    exact q1 _ σ1 H1 i1 g1 (h2.mv m1 (W.mu _ _ hI)) R fun σ2 H2 s2 δ2 m2 i2 g2 q2 => hR σ2 H2 s2 δ2 (m1.trans m2) i2 g2 q2
theorem gd_tup {k : Nat} (h : GDs X W tgs ds s δ N) (hl : tgs.length = ds.length) (hc : X.calm = true := by rfl) (hn : (assignEach tgs X.env).length = tgs.length := by rfl) (hst : (assignEach tgs X.env).findIdx? (·.1) = none := by rfl) :
    GD X W (.Tuple tgs k pos) (.d (.tuple ds)) s δ N := .mk fun v σ H R hI hS o hR => pg_w (pg_tup hc wGs_pgs hn hst) (by
  cases o with
  | tup e a => exact ⟨_, _, rfl, e, by rw [a.length, hl], h _ σ H hI hS a R hR⟩)
end

/-! ### stores into a list that changes -/
structure SetD (X : Cx) (W : Wd) (o i x : Sv) (s : W.St) (N : W.St → Prop) : Prop where
  mk ::
  run : ∀ (v w z : V) (H : Hp) (R : Hp → Prop), W.I s H → SvOk X.K W.u H v o → SvOk X.K W.u H w i → SvOk X.K W.u H z x → (∀ H' s', Mv W.u H H' → W.I s' H' → N s' → R H') → ∃ t, PSet X t ∧ t v w z H R
instance {X : Cx} {W : Wd} {o i x : Sv} {s : W.St} {N : W.St → Prop} : CoeFun (SetD X W o i x s N) fun _ => ∀ (v w z : V) (H : Hp) (R : Hp → Prop), W.I s H → SvOk X.K W.u H v o → SvOk X.K W.u H w i → SvOk X.K W.u H z x → (∀ H' s', Mv W.u H H' → W.I s' H' → N s' → R H') → ∃ t, PSet X t ∧ t v w z H R := ⟨SetD.run⟩
def wSet (X : Cx) : TSet := fun o i v H Q => ∃ t, PSet X t ∧ t o i v H Q
theorem wSet_ps {X : Cx} : PSet X (wSet X) := fun pins s σ H o i v ov iv u Q I ro ri rv h => by
  obtain ⟨t, h1, h2⟩ := h
  exact h1 pins s σ H o i v ov iv u Q I ro ri rv h2
section
variable {X : Cx} {W : Wd} {s : W.St} {δ : De} {N : W.St → De → Prop} {Q : W.St → Sv → Prop} {o i : Expr} {x : Sv} {pos : Pos}
theorem gd_sub (h : ED X W o s δ fun s1 a => ED X W i s1 δ fun s2 b => SetD X W a b x s2 fun s3 => N s3 δ)
    (ha : ∀ v, assign (.Subscript o i pos) X.env v = (do
      let ov ← holding [v] (eval o X.env)
      let iv ← holding [v, ov] (eval i X.env)
      standAt pos
      holding [v, ov, iv] (setItem ov iv v)
      release [v, ov, iv] []) := by intro _; rfl) : GD X W (.Subscript o i pos) x s δ N := .mk fun v σ H R hI hS hx hR =>
  pg_w (pg_sub wE_pe wE_pe wSet_ps ha) (h σ H _ hI hS fun a H1 s1 aa m1 i1 o1 q1 => q1 σ H1 _ i1 (hS.mv m1 (W.mu _ _ hI)) fun b H2 s2 bb m2 i2 o2 q2 =>
    q2 a b v H2 _ i2 (o1.mv m2 (W.mu _ _ i1)) o2 ((hx.mv m1 (W.mu _ _ hI)).mv m2 (W.mu _ _ i1)) fun H3 s3 m3 i3 q3 => hR σ H3 s3 δ ((m1.trans m2).trans m3) i3 (hS.mv ((m1.trans m2).trans m3) (W.mu _ _ hI)) q3)
variable {a : Addr}
theorem id_cap0 (C : Cap W a) (q : ∀ b : Int, 0 ≤ b → Q s (.d (.int b))) : ID X W (.o a) (.d (.int 0)) s Q := .mk fun v w H R hI o1 o2 hR => by
  have o1 : v = .ref a := o1
  subst o1
  cases o2
  obtain ⟨b, sd, c, h1, h2⟩ := C.get s H hI
  exact ix_w ix_list ⟨_, _, 0, .int b, rfl, rfl, SqL.of h1, rfl, hR _ H s _ Mv.refl hI (Dv.int b).sv (q b h2.1)⟩
theorem id_cap1 (C : Cap W a) (q : ∀ b : Int, 0 ≤ b → b < 2147483563 → Q s (.d (.int b))) : ID X W (.o a) (.d (.int 1)) s Q := .mk fun v w H R hI o1 o2 hR => by
  have o1 : v = .ref a := o1
  subst o1
  cases o2
  obtain ⟨b, sd, c, h1, h2⟩ := C.get s H hI
  exact ix_w ix_list ⟨_, _, 1, .int sd, rfl, rfl, SqL.of h1, rfl, hR _ H s _ Mv.refl hI (Dv.int sd).sv (q sd h2.2.1 h2.2.2)⟩
theorem id_cap2 (C : Cap W a) (q : ∀ b : Int, Q s (.d (.int b))) : ID X W (.o a) (.d (.int 2)) s Q := .mk fun v w H R hI o1 o2 hR => by
  have o1 : v = .ref a := o1
  subst o1
  cases o2
  obtain ⟨b, sd, c, h1, h2⟩ := C.get s H hI
  exact ix_w ix_list ⟨_, _, 2, .int c, rfl, rfl, SqL.of h1, rfl, hR _ H s _ Mv.refl hI (Dv.int c).sv (q c)⟩
theorem set_cap (C : Cap W a) {j n : Int} {P : W.St → Prop} (k : ∀ b sd c : Int, UrnOk b sd c → ∃ b' sd' c', UrnOk b' sd' c' ∧ ∃ l, ixN 3 j = some l ∧ [V.int b, .int sd, .int c].set l (.int n) = [.int b', .int sd', .int c']) (q : P s) : SetD X W (.o a) (.d (.int j)) (.d (.int n)) s P := .mk fun v w z H R hI o1 o2 o3 hR => by
  have o1 : v = .ref a := o1
  subst o1
  cases o2
  cases o3
  obtain ⟨b, sd, c, h1, h2⟩ := C.get s H hI
  obtain ⟨b', sd', c', h3, l, h4, h5⟩ := k b sd c h2
  refine ⟨rSetL, set_list, a, _, j, l, rfl, rfl, h1, h4, ?_⟩
  rw [h5]
  exact hR _ s (Mv.in_ C.mem) (C.put s H b' sd' c' hI h3) q
/-- a counter in a list of its own -/
structure Left (W : Wd) (a : Addr) where
  lf : W.St → Int
  wr : W.St → Int → W.St
  mem : a ∈ W.u
  get : ∀ s H, W.I s H → H a = some (.lst [.int (lf s)])
  put : ∀ s H n, W.I s H → W.I (wr s n) (upd H a (.lst [.int n]))
  lw : ∀ s n, lf (wr s n) = n
  ww : ∀ s n m, wr (wr s n) m = wr s m
theorem id_left (L : Left W a) (q : Q s (.d (.int (L.lf s)))) : ID X W (.o a) (.d (.int 0)) s Q := .mk fun v w H R hI o1 o2 hR => by
  have o1 : v = .ref a := o1
  subst o1
  cases o2
  exact ix_w ix_list ⟨_, _, 0, _, rfl, rfl, SqL.of (L.get s H hI), rfl, hR _ H s _ Mv.refl hI (Dv.int _).sv q⟩
theorem set_left (L : Left W a) {n : Int} {P : W.St → Prop} (q : P (L.wr s n)) : SetD X W (.o a) (.d (.int 0)) (.d (.int n)) s P := .mk fun v w z H R hI o1 o2 o3 hR => by
  have o1 : v = .ref a := o1
  subst o1
  cases o2
  cases o3
  refine ⟨rSetL, set_list, a, _, 0, 0, rfl, rfl, L.get s H hI, rfl, ?_⟩
  exact hR _ _ (Mv.in_ L.mem) (L.put s H n hI) q
end

/-! ### a world with one more object -/
theorem Dv.ext {K : PySem.W.Frag} {u : List Addr} {H : Hp} {p : Addr} {o : HO} {v : V} {d : PyData} (hn : H p = none) (h : Dv K u H v d) : Dv K (p :: u) (upd H p o) v d :=
  (h.out (fun a xs na e => fun z => (List.mem_cons.mp z).elim (fun q => by rw [q, hn] at e; cases e) na)).keep (fun a xs e => by rw [upd_ne (ne_of_none e hn)]; exact e) (fun a xs r => by
    rcases r with r | ⟨o, r⟩
    · exact .inl (by rw [upd_ne (ne_of_none r hn)]; exact r)
    · exact .inr ⟨o, by rw [upd_ne (ne_of_none r hn)]; exact r⟩)
theorem Dv.less {K : PySem.W.Frag} {u : List Addr} {H : Hp} {p : Addr} {v : V} {d : PyData} (h : Dv K (p :: u) H v d) : Dv K u H v d := h.out fun a xs na e z => na (List.mem_cons_of_mem _ z)
theorem Mv.more {u : List Addr} {H H' : Hp} {p : Addr} (h : Mv u H H') : Mv (p :: u) H H' := fun a o n e => h a o (fun z => n (List.mem_cons_of_mem _ z)) e
/-- from a heap where p was free to one behind -/
theorem Mv.back {u : List Addr} {H H1 H' : Hp} {p : Addr} (hn : H p = none) (m : Mv (p :: u) H1 H') (k : ∀ a o, a ≠ p → H a = some o → H1 a = some o) : Mv u H H' := fun a o na e =>
  m a o (fun z => (List.mem_cons.mp z).elim (fun q => by rw [q, hn] at e; cases e) na) (k a o (ne_of_none e hn) e)
def Wd.leftX (W : Wd) (p : Addr) : Wd where
  u := p :: W.u
  St := W.St × Int
  I := fun s H => W.I s.1 H ∧ H p = some (.lst [.int s.2])
  mono := fun s H H' h k t => ⟨W.mono _ _ _ h.1 (fun a ha => k a (List.mem_cons_of_mem _ ha)) t, by rw [k p List.mem_cons_self]; exact h.2⟩
  mu := fun s H h a ha => by
    rcases List.mem_cons.mp ha with z | z
    · rw [z, h.2]; exact True.intro
    · exact W.mu _ _ h.1 a z
theorem rd_put2 {H : Hp} {p : Addr} {xs ys : List V} (hp : H p = some (.lst xs)) (W : Wd) {s : W.St} (hI : W.I s H) (n : p ∉ W.u) : W.I s (upd H p (.lst ys)) := W.put hI n hp
def Wd.leftL (W : Wd) {p : Addr} (n : p ∉ W.u) : Left (W.leftX p) p where
  lf := fun s => s.2
  wr := fun s n => (s.1, n)
  mem := List.mem_cons_self
  get := fun s H h => h.2
  put := fun s H m h => ⟨W.put h.1 n h.2, upd_same⟩
  lw := fun _ _ => rfl
  ww := fun _ _ _ => rfl
theorem Cap.leftX {W : Wd} {a p : Addr} (C : Cap W a) (n : p ∉ W.u) : Cap (W.leftX p) a where
  mem := List.mem_cons_of_mem _ C.mem
  get := fun s H h => C.get s.1 H h.1
  put := fun s H b sd c h k => ⟨C.put s.1 H b sd c h.1 k, by rw [upd_ne (fun z => n (by rw [z]; exact C.mem))]; exact h.2⟩
/-- a list of ours that grows -/
def Wd.own (W : Wd) (K : PySem.W.Frag) (p : Addr) : Wd where
  u := p :: W.u
  St := W.St × List PyData
  I := fun s H => W.I s.1 H ∧ noLs s.2 = true ∧ ∃ vs, H p = some (.lst vs) ∧ DvA K [] H vs s.2
  mono := fun s H H' h k t => by
    obtain ⟨h1, h2, vs, h3, h4⟩ := h
    exact ⟨W.mono _ _ _ h1 (fun a ha => k a (List.mem_cons_of_mem _ ha)) t, h2, vs, by rw [k p List.mem_cons_self]; exact h3, h4.tups t h2⟩
  mu := fun s H h a ha => by
    obtain ⟨h1, h2, vs, h3, h4⟩ := h
    rcases List.mem_cons.mp ha with z | z
    · rw [z, h3]; exact True.intro
    · exact W.mu _ _ h1 a z
def Wd.mkS (W : Wd) (K : PySem.W.Frag) (p : Addr) (s : W.St) (ds : List PyData) : (W.own K p).St := (s, ds)
theorem Cap.own {W : Wd} {K : PySem.W.Frag} {a p : Addr} (C : Cap W a) (n : p ∉ W.u) : Cap (W.own K p) a where
  mem := List.mem_cons_of_mem _ C.mem
  get := fun s H h => C.get s.1 H h.1
  put := fun s H b sd c h k => by
    obtain ⟨h1, h2, vs, h3, h4⟩ := h
    obtain ⟨b0, s0, c0, h5, _⟩ := C.get s.1 H h1
    exact ⟨C.put s.1 H b sd c h1 k, h2, vs, by rw [upd_ne (fun z => n (by rw [z]; exact C.mem))]; exact h3, h4.tups (fun a xs r => rd_put h5 a xs r) h2⟩
def noX : Option Sv → Bool
  | some (.x _) => false
  | _ => true
theorem SvOk.ext {K : PySem.W.Frag} {u : List Addr} {H : Hp} {p : Addr} {o : HO} {v : V} {x : Sv} (hn : H p = none) (hx : noX (some x) = true) (h : SvOk K u H v x) : SvOk K (p :: u) (upd H p o) v x := by
  cases x with
  | d x => exact Dv.ext hn h
  | o a => exact h
  | c m =>
    obtain ⟨a, kvs, e, n, ha, hc⟩ := h
    refine ⟨a, kvs, e, fun z => ?_, ?_, hc.map fun v d q => Dv.ext hn q⟩
    · rcases List.mem_cons.mp z with z | z
      · rw [z, hn] at ha; cases ha
      · exact n z
    · rw [upd_ne (ne_of_none ha hn)]; exact ha
  | x r => cases hx
theorem SvOk.less {K : PySem.W.Frag} {u : List Addr} {H : Hp} {p : Addr} {v : V} {x : Sv} (hx : noX (some x) = true) (h : SvOk K (p :: u) H v x) : SvOk K u H v x := by
  cases x with
  | d x => exact Dv.less h
  | o a => exact h
  | c m =>
    obtain ⟨a, kvs, e, n, ha, hc⟩ := h
    exact ⟨a, kvs, e, fun z => n (List.mem_cons_of_mem _ z), ha, hc.map fun v d q => Dv.less q⟩
  | x r => cases hx
theorem Sg.ext {K : PySem.W.Frag} {u : List Addr} {H : Hp} {p : Addr} {o : HO} {σ : L2.St} {δ : De} (hn : H p = none) (hx : δ.all noX = true) (h : Sg K u H σ δ) : Sg K (p :: u) (upd H p o) σ δ :=
  ⟨h.len, fun i x e => by
    obtain ⟨v, h1, h2⟩ := h.at_ i x e
    exact ⟨v, h1, h2.ext hn (List.all_eq_true.mp hx _ (List.mem_of_getElem? e))⟩⟩
theorem Sg.less {K : PySem.W.Frag} {u : List Addr} {H : Hp} {p : Addr} {σ : L2.St} {δ : De} (hx : δ.all noX = true) (h : Sg K (p :: u) H σ δ) : Sg K u H σ δ :=
  ⟨h.len, fun i x e => by
    obtain ⟨v, h1, h2⟩ := h.at_ i x e
    exact ⟨v, h1, h2.less (List.all_eq_true.mp hx _ (List.mem_of_getElem? e))⟩⟩
section
variable {X : Cx} {W : Wd} {s : W.St} {δ : De} {N : W.St → De → Prop} {R : W.St → Sv → Prop} {Q : W.St → Sv → Prop} {e : Expr} {es : List Expr} {sts : List Stmt} {pos p1 p2 : Pos}
/-- name = [] and what follows -/
theorem sds_own (i : Nat) {x : Str} {lp : Pos} (hN : X.N.Nodup) (hi : X.N[i]? = some x) (hx : Loc X.env.scope x) (hδ : δ.all noX = true)
    (h : ∀ p, p ∉ W.u → SDs X (W.own X.K p) sts (W.mkS X.K p s []) (δ.set i (some (.o p))) (fun s' δ' => δ'.all noX = true ∧ N s'.1 δ') (fun s' y => noX (some y) = true ∧ R s'.1 y)) (hs : swapsWith (.List [] lp) (some (.Name x p1)) pos.line X.env = pure false := by rfl)
    (hf : X.fn x = true ∨ X.env.scope.names.lookup x = some .local := by first | exact .inl rfl | exact .inr rfl | assumption) : SDs X W (.Assign [.Name x p1] (.List [] lp) pos :: sts) s δ N R := .mk fun σ H D hI hS hN' hR =>
  pss_w (pss_cons (ps_set (i := i) hN hi hx (pe_lst pa_nil) hs hf) wSs_pss) ⟨by rw [sizeLine_eq]; show 0 ≤ _; omega, fun p hp => by
    have np : p ∉ W.u := W.fresh hI hp
    refine (h p np).run _ (upd H p (.lst [])) D ⟨W.new hI hp, rfl, [], upd_same, .nil⟩ ((hS.ext hp hδ).set (show SvOk X.K (p :: W.u) _ (.ref p) (.o p) from rfl)) (fun σ' H' s' δ' m i g q => ?_) fun v H' s' y m i o q => ?_
    · exact hN' σ' H' s'.1 δ' (Mv.back hp m fun a o na e => by rw [upd_ne na]; exact e) i.1 (g.less q.1) q.2
    · exact hR v H' s'.1 y (Mv.back hp m fun a o na e => by rw [upd_ne na]; exact e) i.1 (o.less q.1) q.2⟩
theorem own_ok {K : PySem.W.Frag} {p : Addr} {s : W.St × List PyData} {H : Hp} (h : (W.own K p).I s H) : ∃ vs, H p = some (.lst vs) ∧ DvA K [] H vs s.2 ∧ noLs s.2 = true := by
  obtain ⟨h1, h2, vs, h3, h4⟩ := h
  exact ⟨vs, h3, h4, h2⟩
/-- name.append(e) -/
theorem sd_append {p : Addr} {o : Expr} {apos : Pos} {t : W.St × List PyData} {N : W.St × List PyData → De → Prop} {R : W.St × List PyData → Sv → Prop} (np : p ∉ W.u)
    (h : ED X (W.own X.K p) o t δ fun t1 x => x = .o p ∧ ED X (W.own X.K p) e t1 δ fun t2 y => ∃ d, y = .d d ∧ noL d = true ∧ t2.2.length < 16000 ∧ N (W.mkS X.K p t2.1 (t2.2 ++ [d])) δ)
    (hs : swapsWith (.Call (.Attribute o "append" apos) [e] [] p2) none pos.line X.env = pure false := by rfl) (hbase : attributeBase o "append" X.env (eval o X.env) = eval o X.env := by rfl)
    (hfew : ((backTo p2 (starEach [e] X.env)).all (fun x => !x.1) && (backToKw p2 (keywordEach [] X.env)).all (fun x => x.1.isSome)
      && decide (([e] : List Expr).length + ([] : List Keyword).length + (if ([] : List Keyword).isEmpty then 0 else 1) < 30)) = true := by rfl)
    (hline : (apos.endLine == p2.line) = true := by rfl) (hs1 : starEach [e] X.env = (false, eval e X.env) :: starEach [] X.env := by rfl) :
    SD X (W.own X.K p) (.Expr (.Call (.Attribute o "append" apos) [e] [] p2) pos) t δ N R := .mk fun σ H D hI hS hN' hR =>
  ps_w (ps_expr (pe_bm F.plainAttrs_list F.slot_list_append F.type_list_append (show MtR X "list.append" rAppend from mt_append) wE_pe (pa_cons wE_pe pa_nil hs1) hbase hfew hline hs1 rfl) hs) (h.run σ H _ hI hS fun v H1 t1 x m1 i1 o1 q1 => by
    obtain ⟨rfl, q1⟩ := q1
    have o1 : v = .ref p := o1
    subst o1
    obtain ⟨vs1, e1, _, _⟩ := own_ok i1
    refine ⟨.inl ⟨rfl, _, SqL.of e1⟩, ?_⟩
    refine q1.run σ H1 _ i1 (hS.mv m1 ((W.own X.K p).mu _ _ hI)) fun w H2 t2 y m2 i2 o2 q2 => ?_
    obtain ⟨d, rfl, hd, hl, q2⟩ := q2
    obtain ⟨vs2, e2, a2, n2⟩ := own_ok i2
    have o2 : Dv X.K (p :: W.u) H2 w d := o2
    refine ⟨p, vs2, w, rfl, rfl, e2, by rw [a2.length, sizeLine_eq]; omega, ?_⟩
    have kk : ∀ a zs, Rd H2 a (.tup zs) → Rd (upd H2 p (.lst (vs2 ++ [w]))) a (.tup zs) := fun a zs r => rd_put e2 a zs r
    have nn : noLs (t2.2 ++ [d]) = true := noLs_append n2 (by show (noL d && true) = true; rw [hd]; rfl)
    refine hN' σ _ (t2.1, t2.2 ++ [d]) δ (((m1.trans m2)).trans (Mv.in_ List.mem_cons_self)) ⟨W.put i2.1 np e2, nn, _, upd_same, ?_⟩ (((hS.mv (m1.trans m2) ((W.own X.K p).mu _ _ hI))).mv (Mv.in_ List.mem_cons_self) ((W.own X.K p).mu _ _ i2)) q2
    exact (a2.append (.cons (o2.tups (u' := []) (fun _ _ r => r) hd) .nil)).tups kk nn)
/-- name[i] of our list -/
theorem id_own {p : Addr} {t : W.St × List PyData} {i : Int} {d : PyData} {Q : W.St × List PyData → Sv → Prop} (h : atI t.2 i = some d) (q : Q t (.d d)) : ID X (W.own X.K p) (.o p) (.d (.int i)) t Q := .mk fun v w H R hI o1 o2 hR => by
  have o1 : v = .ref p := o1
  subst o1
  cases o2
  obtain ⟨vs, e1, a1, n1⟩ := own_ok hI
  obtain ⟨j, h1, h2⟩ := atI_get a1.length h
  obtain ⟨x, h3, h4⟩ := a1.get h1
  have hd : noL d = true := by
    have : ∀ {ds : List PyData} {j : Nat} {d : PyData}, noLs ds = true → ds[j]? = some d → noL d = true := by
      intro ds
      induction ds with
      | nil => intro j d _ e; simp at e
      | cons x xs ih =>
        intro j d hn e
        simp only [noLs, Bool.and_eq_true] at hn
        cases j with
        | zero => simp at e; subst e; exact hn.1
        | succ j => exact ih hn.2 (by simpa using e)
    exact this n1 h1
  exact ix_w ix_list ⟨_, _, i, x, rfl, rfl, SqL.of e1, h2 x h3, hR x H t _ Mv.refl hI (h4.tups (fun _ _ r => r) hd).sv q⟩
/-- from here on it does not change -/
theorem sds_freeze (i : Nat) {p : Addr} {t : W.St × List PyData} {N : W.St × List PyData → De → Prop} {R : W.St × List PyData → Sv → Prop} (np : p ∉ W.u) (hi : δ[i]? = some (some (.o p))) (hδ : δ.all noX = true)
    (h : SDs X W sts t.1 (δ.set i (some (.d (.list t.2)))) (fun s' δ' => False) (fun s' y => (∃ d, y = .d d ∧ noL d = true) ∧ R (s', t.2) y)) : SDs X (W.own X.K p) sts t δ N R := .mk fun σ H D hI hS hN' hR => by
  obtain ⟨vs, e1, a1, n1⟩ := own_ok hI
  obtain ⟨v, h1, h2⟩ := hS.at_ i _ hi
  have h2 : v = .ref p := h2
  subst h2
  have es : σ.set i (some (.ref p)) = σ := by
    refine List.ext_getElem? fun j => ?_
    by_cases hj : i = j
    · subst hj
      rw [h1, List.getElem?_set_self (List.getElem?_eq_some_iff.mp h1).1]
    · rw [List.getElem?_set_ne hj]
  have S1 : Sg X.K W.u H σ (δ.set i (some (.d (.list t.2)))) := by
    have := (hS.less hδ).set (i := i) (v := .ref p) (show SvOk X.K W.u H (.ref p) (.d (.list t.2)) from Dv.lst np e1 (a1.tups (fun _ _ r => r) n1))
    rw [es] at this
    exact this
  refine h σ H D hI.1 S1 (fun _ _ _ _ _ _ _ q => q.elim) fun v H' s' y m i' o q => ?_
  obtain ⟨⟨d, rfl, hd⟩, q⟩ := q
  have o : Dv X.K W.u H' v d := o
  refine hR v H' (s', t.2) _ m.more ⟨i', n1, vs, m _ _ np e1, (DvA.mv (u := W.u) m (W.mu _ _ hI.1) (a1.tups (u' := W.u) (fun _ _ r => r) n1)).tups (fun _ _ r => r) n1⟩ (Dv.sv (o.tups (fun _ _ r => r) hd)) q
end
theorem ed_isName {X : Cx} {W : Wd} {s : W.St} {δ : De} {Q : W.St → Sv → Prop} {x : Str} {pos : Pos} (h : ED X W (.Name x pos) s δ Q) : ED X W (.Name x pos) s δ Q := h
theorem cd_divmod {X : Cx} {W : Wd} {s : W.St} {Q : W.St → Sv → Prop} {i j : Int} (hc : CDiv i j) (q : Q s (.d (.tuple [.int (i / j), .int (i % j)]))) : CD X W (.builtin "divmod") [.d (.int i), .d (.int j)] s Q := .mk fun vs H R hI o hR => call_w call_divmod (by
  obtain ⟨v, w, rfl, o1, o2⟩ := o.two
  cases o1
  cases o2
  exact ⟨i, j, rfl, hc, fun p hp => hR _ _ s _ (Mv.new hp) (W.new hI hp) (Dv.tup (SqT.of upd_same) (.cons (.int _) (.cons (.int _) .nil))).sv q⟩)
end Kq
/-! K15: loops and comprehensions turn by turn; equality of kinds, of texts; branches. -/
namespace Kq
open PySem PySem.Spec PyProof.Rows L2
theorem ru65 {k : Nat} {A : Around} (r : Room k A) : A.units + 65 < cLine := by have := r.un; omega
theorem ru64 {k : Nat} {A : Around} (r : Room k A) : A.units + 64 < cLine := by have := r.un; omega
theorem ru1 {k : Nat} {A : Around} (r : Room k A) : A.units + 1 < cLine := by have := r.un; omega
theorem br_dec {p : Prop} [Decidable p] {A B : Prop} (h1 : p → A) (h2 : ¬p → B) : if decide p = true then A else B := by
  by_cases h : p
  · rw [if_pos (decide_eq_true h)]; exact h1 h
  · rw [if_neg (by simpa using h)]; exact h2 h
theorem br_nd {p : Prop} [Decidable p] {A B : Prop} (h1 : ¬p → A) (h2 : p → B) : if (!decide p) = true then A else B := by
  by_cases h : p
  · rw [if_neg (by simp [h])]; exact h2 h
  · rw [if_pos (by simp [h])]; exact h1 h
theorem br_b {b : Bool} {A B : Prop} (h1 : b = true → A) (h2 : b = false → B) : if b = true then A else B := by
  cases b with
  | true => exact h1 rfl
  | false => exact h2 rfl
theorem sz_ok {ds : List PyData} (h : ds.length ≤ 1000) : ds.length ≤ sizeLine := by rw [sizeLine_eq]; omega
section
variable {X : Cx} {W : Wd} {s : W.St} {δ : De} {Q : W.St → Sv → Prop} {N : W.St → De → Prop} {R : W.St → Sv → Prop} {e b tg iter elt : Expr} {pos : Pos}
/-! ### loops -/
def FL (X : Cx) (W : Wd) (tg : Expr) (body : List Stmt) (N : W.St → De → Prop) (R : W.St → Sv → Prop) : List PyData → W.St → De → Prop
  | [], s, δ => N s δ
  | d :: ds, s, δ => GD X W tg (.d d) s δ fun s' δ' => SDs X W body s' δ' (fun s'' δ'' => FL X W tg body N R ds s'' δ'') R
theorem sd_forL {body : List Stmt} (hj : JD X W tg iter s δ fun s1 ds => FL X W tg body N R ds s1 δ)
    (hp : PassesOwn (model X.prog X.w) X.A X.env X.xe := by exact PassesOwn.never) (hc : X.calm = true := by rfl) (hs : ∀ x, foldedSetIterable iter X.env x = pure x := by intro _; rfl) : SD X W (.For tg iter body [] pos) s δ N R :=
  sd_for (.mk fun σ H R' hI hS hR => hj σ H R' hI hS fun J H' s' ds m i j q => hR J H' s' ds m i j ⟨fun i s δ => FL X W tg body N R (ds.drop i) s δ, q, fun i d s2 δ2 hd h => by
    dsimp only at h ⊢
    rw [List.drop_eq_getElem_cons (List.getElem?_eq_some_iff.mp hd).1] at h
    have e : ds[i]'(List.getElem?_eq_some_iff.mp hd).1 = d := (List.getElem?_eq_some_iff.mp hd).2
    rw [e] at h
    exact h, fun s2 δ2 h => by
    dsimp only at h
    rw [List.drop_length] at h
    exact h⟩) hp hc hs
/-! ### comprehensions, turn by turn -/
def CL1 (X : Cx) (W : Wd) (scope : Scope) (ifs : List Expr) (elt : Expr) (δ' : PyData → De) (Q : W.St → List PyData → Prop) : List PyData → List PyData → W.St → Prop
  | [], acc, s => Q s acc
  | d :: ds, acc, s => Turn1 X W scope ifs elt (δ' d) s acc fun s' acc' => CL1 X W scope ifs elt δ' Q ds acc' s'
theorem cl_get {P : List PyData → W.St → List PyData → Prop} : True := trivial
variable {ifs : List Expr} {scope : Scope} {own : List (Str × Nat)}
theorem ed_lcL1 (i : Nat) {x : Str} {p2 : Pos} (hN : X.N.Nodup) (hi : X.N[i]? = some x) (ok : BlkOk X.N X.env.scope scope own) (hm : i ∈ own.map (·.2)) (hx : ∀ p : BlkP, Loc (bk X scope p).env.scope x)
    (hj : JD X W (.Name x p2) iter s δ fun s1 ds => ds.length ≤ sizeLine ∧ CL1 X W scope ifs elt (fun d => (wipeD δ (own.map (·.2))).set i (some (.d d))) (fun s2 acc => Q s2 (.d (.list acc))) ds [] s1)
    (hf : ∀ p : BlkP, (bk X scope p).fn x = true ∨ (bk X scope p).env.scope.names.lookup x = some .local := by intro _; first | exact .inl rfl | exact .inr rfl) (hc : X.calm = true := by rfl) (hs : ∀ x, foldedSetIterable iter X.env x = pure x := by intro _; rfl) :
    ED X W (.ListComp elt [⟨.Name x p2, iter, ifs, 0⟩] scope pos) s δ Q :=
  ed_lc1 i hN hi ok hm hx (.mk fun σ H R' hI hS hR => hj σ H R' hI hS fun J H' s' ds m i' j q => hR J H' s' ds m i' j ⟨q.1, fun n s acc => CL1 X W scope ifs elt (fun d => (wipeD δ (own.map (·.2))).set i (some (.d d))) (fun s2 acc => Q s2 (.d (.list acc))) (ds.drop n) acc s, q.2, fun n d s2 acc hd _ h => by
    dsimp only at h ⊢
    rw [List.drop_eq_getElem_cons (List.getElem?_eq_some_iff.mp hd).1] at h
    have e : ds[n]'(List.getElem?_eq_some_iff.mp hd).1 = d := (List.getElem?_eq_some_iff.mp hd).2
    rw [e] at h
    exact h, fun s2 acc _ h => by
    dsimp only at h
    rw [List.drop_length] at h
    exact h⟩) hf hc hs
def CL2 (X : Cx) (W : Wd) (scope : Scope) (ifs : List Expr) (elt : Expr) (δ' : PyData → PyData → De) (Q : W.St → List PyData → Prop) : List PyData → List PyData → W.St → Prop
  | [], acc, s => Q s acc
  | d :: ds, acc, s => ∃ d1 d2, d = .tuple [d1, d2] ∧ Turn1 X W scope ifs elt (δ' d1 d2) s acc fun s' acc' => CL2 X W scope ifs elt δ' Q ds acc' s'
theorem ed_lcL2 (i j : Nat) {x y : Str} {p1 p2 p3 : Pos} {kk : Nat} (hN : X.N.Nodup) (hi : X.N[i]? = some x) (hj' : X.N[j]? = some y) (ok : BlkOk X.N X.env.scope scope own) (hm : i ∈ own.map (·.2)) (hm2 : j ∈ own.map (·.2)) (hx : ∀ p : BlkP, Loc (bk X scope p).env.scope x) (hy : ∀ p : BlkP, Loc (bk X scope p).env.scope y)
    (hj : JD X W (.Tuple [.Name x p1, .Name y p2] kk p3) iter s δ fun s1 ds => ds.length ≤ sizeLine ∧ CL2 X W scope ifs elt (fun d1 d2 => ((wipeD δ (own.map (·.2))).set i (some (.d d1))).set j (some (.d d2))) (fun s2 acc => Q s2 (.d (.list acc))) ds [] s1)
    (hs1 : ∀ p : BlkP, (assignEach [.Name x p1, .Name y p2] (bk X scope p).env).map (·.2) = assign (.Name x p1) (bk X scope p).env :: (assignEach [.Name y p2] (bk X scope p).env).map (·.2) := by intro _; rfl) (hs2 : ∀ p : BlkP, (assignEach [.Name y p2] (bk X scope p).env).map (·.2) = assign (.Name y p2) (bk X scope p).env :: (assignEach [] (bk X scope p).env).map (·.2) := by intro _; rfl)
    (hn : ∀ p : BlkP, (assignEach [.Name x p1, .Name y p2] (bk X scope p).env).length = 2 := by intro _; rfl) (hst : ∀ p : BlkP, (assignEach [.Name x p1, .Name y p2] (bk X scope p).env).findIdx? (·.1) = none := by intro _; rfl)
    (hf : ∀ p : BlkP, (bk X scope p).fn x = true ∨ (bk X scope p).env.scope.names.lookup x = some .local := by intro _; first | exact .inl rfl | exact .inr rfl) (hf2 : ∀ p : BlkP, (bk X scope p).fn y = true ∨ (bk X scope p).env.scope.names.lookup y = some .local := by intro _; first | exact .inl rfl | exact .inr rfl) (hc : X.calm = true := by rfl) (hs : ∀ x, foldedSetIterable iter X.env x = pure x := by intro _; rfl) :
    ED X W (.ListComp elt [⟨.Tuple [.Name x p1, .Name y p2] kk p3, iter, ifs, 0⟩] scope pos) s δ Q :=
  ed_lc2 i j hN hi hj' ok hm hm2 hx hy (.mk fun σ H R' hI hS hR => hj σ H R' hI hS fun J H' s' ds m i' j0 q => hR J H' s' ds m i' j0 ⟨q.1, fun n s acc => CL2 X W scope ifs elt (fun d1 d2 => ((wipeD δ (own.map (·.2))).set i (some (.d d1))).set j (some (.d d2))) (fun s2 acc => Q s2 (.d (.list acc))) (ds.drop n) acc s, q.2, fun n d s2 acc hd _ h => by
    dsimp only at h ⊢
    rw [List.drop_eq_getElem_cons (List.getElem?_eq_some_iff.mp hd).1] at h
    have e : ds[n]'(List.getElem?_eq_some_iff.mp hd).1 = d := (List.getElem?_eq_some_iff.mp hd).2
    rw [e] at h
    exact h, fun s2 acc _ h => by
    dsimp only at h
    rw [List.drop_length] at h
    exact h⟩) hs1 hs2 hn hst hf hf2 hc hs
/-- name = [..] on one line -/
theorem sd_lcL1 (l i : Nat) {y x : Str} {py p2 spos : Pos} (hN : X.N.Nodup) (hl : X.N[l]? = some y) (hyl : X.env.scope.names.lookup y = some .local) (hi : X.N[i]? = some x) (ok : BlkOk X.N X.env.scope scope own) (hm : i ∈ own.map (·.2)) (hx : ∀ p : BlkP, Loc (bk X scope p).env.scope x)
    (hsw : swapsWith (.ListComp elt [⟨.Name x p2, iter, ifs, 0⟩] scope pos) (some (.Name y py)) spos.line X.env = pure true)
    (hj : JD X W (.Name x p2) iter s δ fun s1 ds => ds.length ≤ sizeLine ∧ CL1 X W scope ifs elt (fun d => (wipeD δ (own.map (·.2))).set i (some (.d d))) (fun s2 acc => N s2 (δ.set l (some (.d (.list acc))))) ds [] s1)
    (hf : ∀ p : BlkP, (bk X scope p).fn x = true ∨ (bk X scope p).env.scope.names.lookup x = some .local := by intro _; first | exact .inl rfl | exact .inr rfl) (hc : X.calm = true := by rfl) (hs : ∀ x, foldedSetIterable iter X.env x = pure x := by intro _; rfl) :
    SD X W (.Assign [.Name y py] (.ListComp elt [⟨.Name x p2, iter, ifs, 0⟩] scope pos) spos) s δ N R :=
  sd_lc1 l i hN hl hyl hi ok hm hx hsw (.mk fun σ H R' hI hS hR => hj σ H R' hI hS fun J H' s' ds m i' j q => hR J H' s' ds m i' j ⟨q.1, fun n s acc => CL1 X W scope ifs elt (fun d => (wipeD δ (own.map (·.2))).set i (some (.d d))) (fun s2 acc => N s2 (δ.set l (some (.d (.list acc))))) (ds.drop n) acc s, q.2, fun n d s2 acc hd _ h => by
    dsimp only at h ⊢
    rw [List.drop_eq_getElem_cons (List.getElem?_eq_some_iff.mp hd).1] at h
    have e : ds[n]'(List.getElem?_eq_some_iff.mp hd).1 = d := (List.getElem?_eq_some_iff.mp hd).2
    rw [e] at h
    exact h, fun s2 acc _ h => by
    dsimp only at h
    rw [List.drop_length] at h
    exact h⟩) hf hc hs
theorem sd_lcL2 (l i j : Nat) {yy x y : Str} {py p1 p2 p3 spos : Pos} {kk : Nat} (hN : X.N.Nodup) (hl : X.N[l]? = some yy) (hyl : X.env.scope.names.lookup yy = some .local) (hi : X.N[i]? = some x) (hj' : X.N[j]? = some y) (ok : BlkOk X.N X.env.scope scope own) (hm : i ∈ own.map (·.2)) (hm2 : j ∈ own.map (·.2)) (hx : ∀ p : BlkP, Loc (bk X scope p).env.scope x) (hy : ∀ p : BlkP, Loc (bk X scope p).env.scope y)
    (hsw : swapsWith (.ListComp elt [⟨.Tuple [.Name x p1, .Name y p2] kk p3, iter, ifs, 0⟩] scope pos) (some (.Name yy py)) spos.line X.env = pure true)
    (hj : JD X W (.Tuple [.Name x p1, .Name y p2] kk p3) iter s δ fun s1 ds => ds.length ≤ sizeLine ∧ CL2 X W scope ifs elt (fun d1 d2 => ((wipeD δ (own.map (·.2))).set i (some (.d d1))).set j (some (.d d2))) (fun s2 acc => N s2 (δ.set l (some (.d (.list acc))))) ds [] s1)
    (hs1 : ∀ p : BlkP, (assignEach [.Name x p1, .Name y p2] (bk X scope p).env).map (·.2) = assign (.Name x p1) (bk X scope p).env :: (assignEach [.Name y p2] (bk X scope p).env).map (·.2) := by intro _; rfl) (hs2 : ∀ p : BlkP, (assignEach [.Name y p2] (bk X scope p).env).map (·.2) = assign (.Name y p2) (bk X scope p).env :: (assignEach [] (bk X scope p).env).map (·.2) := by intro _; rfl)
    (hn : ∀ p : BlkP, (assignEach [.Name x p1, .Name y p2] (bk X scope p).env).length = 2 := by intro _; rfl) (hst : ∀ p : BlkP, (assignEach [.Name x p1, .Name y p2] (bk X scope p).env).findIdx? (·.1) = none := by intro _; rfl)
    (hf : ∀ p : BlkP, (bk X scope p).fn x = true ∨ (bk X scope p).env.scope.names.lookup x = some .local := by intro _; first | exact .inl rfl | exact .inr rfl) (hf2 : ∀ p : BlkP, (bk X scope p).fn y = true ∨ (bk X scope p).env.scope.names.lookup y = some .local := by intro _; first | exact .inl rfl | exact .inr rfl) (hc : X.calm = true := by rfl) (hs : ∀ x, foldedSetIterable iter X.env x = pure x := by intro _; rfl) :
    SD X W (.Assign [.Name yy py] (.ListComp elt [⟨.Tuple [.Name x p1, .Name y p2] kk p3, iter, ifs, 0⟩] scope pos) spos) s δ N R :=
  sd_lc2 l i j hN hl hyl hi hj' ok hm hm2 hx hy hsw (.mk fun σ H R' hI hS hR => hj σ H R' hI hS fun J H' s' ds m i' j0 q => hR J H' s' ds m i' j0 ⟨q.1, fun n s acc => CL2 X W scope ifs elt (fun d1 d2 => ((wipeD δ (own.map (·.2))).set i (some (.d d1))).set j (some (.d d2))) (fun s2 acc => N s2 (δ.set l (some (.d (.list acc))))) (ds.drop n) acc s, q.2, fun n d s2 acc hd _ h => by
    dsimp only at h ⊢
    rw [List.drop_eq_getElem_cons (List.getElem?_eq_some_iff.mp hd).1] at h
    have e : ds[n]'(List.getElem?_eq_some_iff.mp hd).1 = d := (List.getElem?_eq_some_iff.mp hd).2
    rw [e] at h
    exact h, fun s2 acc _ h => by
    dsimp only at h
    rw [List.drop_length] at h
    exact h⟩) hs1 hs2 hn hst hf hf2 hc hs
/-- a comprehension of pure turns: the data by f -/
theorem cl1_map {δ' : PyData → De} {Q : W.St → List PyData → Prop} (f : PyData → List PyData) : ∀ (ds acc : List PyData) (s : W.St), (∀ d ∈ ds, ∀ (acc : List PyData) (Nx : W.St → List PyData → Prop), Nx s (acc ++ f d) → Turn1 X W scope ifs elt (δ' d) s acc Nx) → Q s (acc ++ ds.flatMap f) → CL1 X W scope ifs elt δ' Q ds acc s
  | [], acc, s, _, q => by
    unfold CL1
    simpa using q
  | d :: ds, acc, s, h, q => by
    unfold CL1
    exact h d List.mem_cons_self acc _ (cl1_map f ds (acc ++ f d) s (fun d' hd => h d' (List.mem_cons_of_mem _ hd)) (by simpa using q))
theorem cl2_map {α : Type} (mk : α → PyData) (p1 p2 : α → PyData) (hmk : ∀ a, mk a = .tuple [p1 a, p2 a]) {δ' : PyData → PyData → De} {Q : W.St → List PyData → Prop} (f : α → List PyData) : ∀ (as : List α) (acc : List PyData) (s : W.St),
    (∀ a ∈ as, ∀ (acc : List PyData) (Nx : W.St → List PyData → Prop), Nx s (acc ++ f a) → Turn1 X W scope ifs elt (δ' (p1 a) (p2 a)) s acc Nx) → Q s (acc ++ as.flatMap f) → CL2 X W scope ifs elt δ' Q (as.map mk) acc s
  | [], acc, s, _, q => by
    show Q s acc
    simpa using q
  | a :: as, acc, s, h, q => by
    show ∃ d1 d2, mk a = .tuple [d1, d2] ∧ _
    exact ⟨p1 a, p2 a, hmk a, h a List.mem_cons_self acc _ (cl2_map mk p1 p2 hmk f as (acc ++ f a) s (fun d' hd => h d' (List.mem_cons_of_mem _ hd)) (by simpa using q))⟩
/-! ### equality -/
theorem shaped_s {x : Str} (h : PyData.strOk x = true) : SeqAt.shaped (.str x) = true := by
  unfold SeqAt.shaped
  rw [lay_s x h]
  rfl
theorem od_eqS {x y : Str} {k : Nat} (hr : Room k X.A) (hx : PyData.strOk x = true) (hy : PyData.strOk y = true) (q : Q s (.d (.bool (decide (x = y))))) : OD X W (compareOp .Eq) (.d (.str x)) (.d (.str y)) s Q := od_eq (ru64 hr) (shaped_s hx) (shaped_s hy) (by rw [eqv_str]; exact q)
theorem od_neS {x y : Str} {k : Nat} (hr : Room k X.A) (hx : PyData.strOk x = true) (hy : PyData.strOk y = true) (q : Q s (.d (.bool (!decide (x = y))))) : OD X W (compareOp .NotEq) (.d (.str x)) (.d (.str y)) s Q := od_ne (ru64 hr) (shaped_s hx) (shaped_s hy) (by rw [eqv_str]; exact q)
theorem od_eqK {a b : Kd} {k : Nat} (hr : Room k X.A) (ha : a.dp ≤ 64) (hb : b.dp ≤ 64) (q : Q s (.d (.bool (decide (a = b))))) : OD X W (compareOp .Eq) (.d (kD a)) (.d (kD b)) s Q := od_eq (ru64 hr) (kD_shaped ha) (kD_shaped hb) (by rw [eqv_kD]; exact q)
theorem od_neK {a b : Kd} {k : Nat} (hr : Room k X.A) (ha : a.dp ≤ 64) (hb : b.dp ≤ 64) (q : Q s (.d (.bool (!decide (a = b))))) : OD X W (compareOp .NotEq) (.d (kD a)) (.d (kD b)) s Q := od_ne (ru64 hr) (kD_shaped ha) (kD_shaped hb) (by rw [eqv_kD]; exact q)
theorem word_ok (k : Kd) : PyData.strOk k.word = true := by cases k <;> (simp only [Kd.word]; decide +kernel)
theorem tword_ok (t : Tm) : PyData.strOk t.word = true := by cases t <;> (simp only [Tm.word]; decide +kernel)
theorem at0 {α : Type} (x : α) (xs : List α) : atI (x :: xs) 0 = some x := atI_nat (j := 0) rfl
theorem id_k0 {k : Kd} (q : Q s (.d (.str k.word))) : ID X W (.d (kD k)) (.d (.int 0)) s Q := by rw [kD_eq]; exact id_tup (at0 _ _) q
theorem id_t0 {t : Tm} (q : Q s (.d (.str t.word))) : ID X W (.d (tD t)) (.d (.int 0)) s Q := by rw [tD_eq]; exact id_tup (at0 _ _) q
end
section
variable {X : Cx} {W : Wd} {s : W.St} {δ : De} {Q : W.St → Sv → Prop} {P : W.St → Bool → Prop} {f : Expr} {es : List Expr} {pos : Pos}
theorem ed_isCall (h : ED X W (.Call f es [] pos) s δ Q) : ED X W (.Call f es [] pos) s δ Q := h
theorem td_isCall (h : ED X W (.Call f es [] pos) s δ fun s' x => ∃ c, x = .d (.bool c) ∧ P s' c) : TD X W (.Call f es [] pos) s δ P := td_val h
end
theorem bt_len : bootBuiltins "len" = some (.builtin "len") := by decide +kernel
theorem bt_max : bootBuiltins "max" = some (.builtin "max") := by decide +kernel
theorem bt_min : bootBuiltins "min" = some (.builtin "min") := by decide +kernel
theorem bt_sum : bootBuiltins "sum" = some (.builtin "sum") := by decide +kernel
theorem bt_all : bootBuiltins "all" = some (.builtin "all") := by decide +kernel
theorem bt_abs : bootBuiltins "abs" = some (.builtin "abs") := by decide +kernel
theorem bt_divmod : bootBuiltins "divmod" = some (.builtin "divmod") := by decide +kernel
theorem bt_repr : bootBuiltins "repr" = some (.builtin "repr") := by decide +kernel
theorem bt_int : bootBuiltins "int" = some (.type "int") := by decide +kernel
theorem bt_str : bootBuiltins "str" = some (.type "str") := by decide +kernel
theorem bt_bool : bootBuiltins "bool" = some (.type "bool") := by decide +kernel
theorem bt_dict : bootBuiltins "dict" = some (.type "dict") := by decide +kernel
theorem bt_tuple : bootBuiltins "tuple" = some (.type "tuple") := by decide +kernel
theorem bt_list : bootBuiltins "list" = some (.type "list") := by decide +kernel
end Kq
/-! K16: a def of the module, from its facts to its promise. -/
namespace Kq
open PySem PySem.Spec PyProof.Rows L2
structure Hd (K : PySem.W.Frag) (mg : Str → Option Value) (x : Str) (st : Stmt) (ps : List Str) (dfl : List PyData) : Prop where
  ex : ∃ f fd dv0 dvs ds, FunD K x x (defArgs st) (defBody st) (defScope st) dv0 [] f fd ∧ mg x = some (.ref f) ∧ PySem.W.keepIn K (.ref f) = true ∧ Binds K fd ps ds ∧ Vals dvs ds ∧ ∀ u H, DvA K u H dvs dfl
section
variable {P : Program} {w : World} {K : PySem.W.Frag} {mg : Str → Option Value} {base : Heap} {x : Str} {st : Stmt} {ps N : List Str} {dfl : List PyData} {k : Nat} {F : FT}
theorem Hd.go (D : Hd K mg x st ps dfl) (S : FnScope N ps (defScope st)) (len : ∀ W s xs Q, F W s xs Q → xs.length = ps.length)
    (hbody : ∀ (f : Addr) (cdv : Value) (A : Around) (outer : List Env) (s : Shared) (H : Hp) (E : XK), Room k (A.deeper (envOfC x (defScope st) s.heap.objs.size f cdv)) → ∀ (W : Wd) (t : W.St) (xs : List Sv) (Q : W.St → Sv → Prop), F W t xs Q →
      SDs (cxOf CX0 P w K mg base N x (defScope st) f cdv A outer s H E).nox W (defBody st) t (startD N xs) (fun t' _ => Q t' (.d .none)) Q) : Fc P w K mg base (k + 1) x dfl F := by
  obtain ⟨f, fd, dv0, dvs, ds, h1, h2, h3, h4, h5, h6⟩ := D.ex
  exact ⟨f, fd, ps, dvs, ds, fn_D h1 S len fun cdv A outer s H E hr W t xs Q h => hbody f cdv A outer s H E hr W t xs Q h, h2, h3, h4, h5, h6⟩
end
/-- the room of a call inside: one level less -/
theorem Fc.at {P : Program} {w : World} {K : PySem.W.Frag} {mg : Str → Option Value} {base : Heap} {j k : Nat} {x : Str} {dfl : List PyData} {F : FT} (C : Fc P w K mg base j x dfl F) (h : j ≤ k) : Fc P w K mg base k x dfl F := C.mono h
end Kq
/-! M3: the walk as a loop over a term's parts. -/
namespace Kq
open PySem
def Tm.dp : Tm → Nat
  | .name _ => 1 | .unit => 1 | .number _ => 1 | .nil _ => 1
  | .fn _ _ b => 1 + b.dp | .minus a => 1 + a.dp | .first a => 1 + a.dp | .second a => 1 + a.dp | .left a _ => 1 + a.dp | .right _ a => 1 + a.dp
  | .call f a => 1 + max f.dp a.dp | .lete _ a b => 1 + max a.dp b.dp | .plus a b => 1 + max a.dp b.dp | .times a b => 1 + max a.dp b.dp | .is _ a b => 1 + max a.dp b.dp | .pair a b => 1 + max a.dp b.dp | .cons a b => 1 + max a.dp b.dp
  | .case s _ a _ b => 1 + max s.dp (max a.dp b.dp) | .fold f a b => 1 + max f.dp (max a.dp b.dp)
theorem Tm.dp_pos (t : Tm) : 1 ≤ t.dp := by cases t <;> simp [Tm.dp]
/-- the names are texts that can be laid -/
def NmOk : Tm → Prop
  | .name x => PyData.strOk x = true
  | .unit => True | .number _ => True | .nil _ => True
  | .fn x _ b => PyData.strOk x = true ∧ NmOk b
  | .minus a => NmOk a | .first a => NmOk a | .second a => NmOk a | .left a _ => NmOk a | .right _ a => NmOk a
  | .call f a => NmOk f ∧ NmOk a | .plus a b => NmOk a ∧ NmOk b | .times a b => NmOk a ∧ NmOk b | .is _ a b => NmOk a ∧ NmOk b | .pair a b => NmOk a ∧ NmOk b | .cons a b => NmOk a ∧ NmOk b
  | .lete x a b => PyData.strOk x = true ∧ NmOk a ∧ NmOk b
  | .case s x a y b => NmOk s ∧ PyData.strOk x = true ∧ NmOk a ∧ PyData.strOk y = true ∧ NmOk b
  | .fold f a b => NmOk f ∧ NmOk a ∧ NmOk b
/-- the parts, letter by letter -/
def Tm.parts : Tm → List (Option Tm)
  | .name _ => [none] | .unit => [] | .number _ => [none] | .nil _ => [none]
  | .fn _ _ b => [none, none, some b] | .minus a => [some a] | .first a => [some a] | .second a => [some a] | .left a _ => [some a, none] | .right _ a => [none, some a]
  | .call f a => [some f, some a] | .plus a b => [some a, some b] | .times a b => [some a, some b] | .is _ a b => [none, some a, some b] | .pair a b => [some a, some b] | .cons a b => [some a, some b]
  | .lete _ a b => [none, some a, some b] | .case s _ a _ b => [some s, none, some a, none, some b] | .fold f a b => [some f, some a, some b]
/-- the letters -/
def Tm.ltr : Tm → List Nat
  | .name _ => [120] | .fn _ _ _ => [120, 107, 116] | .call _ _ => [116, 116] | .lete _ _ _ => [120, 116, 116] | .unit => [] | .number _ => [110] | .plus _ _ => [116, 116] | .times _ _ => [116, 116] | .minus _ => [116] | .is _ _ _ => [115, 116, 116]
  | .pair _ _ => [116, 116] | .first _ => [116] | .second _ => [116] | .left _ _ => [116, 107] | .right _ _ => [107, 116] | .case _ _ _ _ _ => [116, 120, 116, 120, 116] | .nil _ => [107] | .cons _ _ => [116, 116] | .fold _ _ _ => [116, 116, 116]
theorem shape_ltr (t : Tm) : t.shape.cps.toList = t.ltr := by cases t <;> kernel_rfl
theorem ltr_len (t : Tm) : t.ltr.length = t.parts.length := by cases t <;> rfl
theorem rest_len (t : Tm) : t.rest.length = t.parts.length := by cases t <;> rfl
theorem part_some {t u : Tm} {i : Nat} (h : t.parts[i]? = some (some u)) : t.ltr[i]? = some 116 ∧ t.rest[i]? = some (tD u) ∧ u.dp < t.dp := by
  cases t <;> (match i with
    | 0 => first | (injection h with h; injection h with h; subst h; exact ⟨rfl, rfl, by simp only [Tm.dp]; omega⟩) | (injection h with h; injection h) | (injection h)
    | 1 => first | (injection h with h; injection h with h; subst h; exact ⟨rfl, rfl, by simp only [Tm.dp]; omega⟩) | (injection h with h; injection h) | (injection h)
    | 2 => first | (injection h with h; injection h with h; subst h; exact ⟨rfl, rfl, by simp only [Tm.dp]; omega⟩) | (injection h with h; injection h) | (injection h)
    | 3 => first | (injection h with h; injection h with h; subst h; exact ⟨rfl, rfl, by simp only [Tm.dp]; omega⟩) | (injection h with h; injection h) | (injection h)
    | 4 => first | (injection h with h; injection h with h; subst h; exact ⟨rfl, rfl, by simp only [Tm.dp]; omega⟩) | (injection h with h; injection h) | (injection h)
    | _ + 5 => first | (injection h with h; injection h with h; subst h; exact ⟨rfl, rfl, by simp only [Tm.dp]; omega⟩) | (injection h with h; injection h) | (injection h))
theorem part_none {t : Tm} {i : Nat} (h : t.parts[i]? = some none) : ∃ c, t.ltr[i]? = some c ∧ c ≠ 116 := by
  cases t <;> (match i with
    | 0 => first | exact ⟨_, rfl, by decide⟩ | (injection h with h; injection h) | (injection h)
    | 1 => first | exact ⟨_, rfl, by decide⟩ | (injection h with h; injection h) | (injection h)
    | 2 => first | exact ⟨_, rfl, by decide⟩ | (injection h with h; injection h) | (injection h)
    | 3 => first | exact ⟨_, rfl, by decide⟩ | (injection h with h; injection h) | (injection h)
    | 4 => first | exact ⟨_, rfl, by decide⟩ | (injection h with h; injection h) | (injection h)
    | _ + 5 => first | exact ⟨_, rfl, by decide⟩ | (injection h with h; injection h) | (injection h))
def Tm.plain : Tm → Bool
  | .name _ => false | .case _ _ _ _ _ => false | _ => true
/-- the context of the part at letter i -/
def ctxAt (Γ : Ctx) (t : Tm) (i : Nat) (ks : List Kd) : Ctx := match t with
  | .fn x k _ => if i = 2 then Γ ++ [(x, k)] else Γ
  | .lete x _ _ => if i = 2 then (match ks with | k :: _ => Γ ++ [(x, k)] | [] => Γ) else Γ
  | _ => Γ
/-- the loop: the parts' kinds, or the path -/
def goW (Γ : Ctx) (t : Tm) : Nat → List (Option Tm) → List Kd → Except (List Nat) (List Kd)
  | _, [], ks => .ok ks
  | i, none :: ps, ks => goW Γ t (i + 1) ps ks
  | i, some u :: ps, ks => match walk (ctxAt Γ t i ks) u with
    | .ok k => goW Γ t (i + 1) ps (ks ++ [k])
    | .error p => .error ((i + 1) :: p)
/-- what comes of the kinds -/
def finW (t : Tm) (ks : List Kd) : Res := match t, ks with
  | .fn _ k _, [r] => .ok (.func k r)
  | .lete _ _ _, [_, b] => .ok b
  | .call _ _, [f, a] => fin (callK f a)
  | .unit, [] => .ok .unit
  | .number _, [] => .ok .num
  | .nil k, [] => .ok (.list k)
  | .plus _ _, [a, b] => fin (numK 1 a b .num)
  | .times _ _, [a, b] => fin (numK 1 a b .num)
  | .minus _, [a] => fin (minusK a)
  | .is _ _ _, [a, b] => fin (numK 2 a b truthK)
  | .pair _ _, [a, b] => .ok (.pair a b)
  | .first _, [a] => fin (firstK a)
  | .second _, [a] => fin (secondK a)
  | .left _ k, [a] => .ok (.either a k)
  | .right k _, [a] => .ok (.either k a)
  | .cons _ _, [a, b] => fin (consK a b)
  | .fold _ _ _, [f, a, b] => fin (foldK f a b)
  | _, _ => .error []
theorem walk_go {Γ : Ctx} {t : Tm} (h : t.plain = true) : walk Γ t = match goW Γ t 0 t.parts [] with | .ok ks => finW t ks | .error p => .error p := by
  cases t with
  | name x => cases h
  | case s x a y b => cases h
  | unit => rfl
  | number i => rfl
  | nil k => rfl
  | fn x k b => simp only [walk, Tm.parts, goW, ctxAt, at1]; cases h2 : walk (Γ ++ [(x, k)]) b <;> simp [h2, finW, goW]
  | lete x a b =>
    simp only [walk, Tm.parts, goW, ctxAt, at1]
    cases h1 : walk Γ a with
    | error p => simp [h1]
    | ok k1 => cases h2 : walk (Γ ++ [(x, k1)]) b <;> simp [h1, h2, finW, goW]
  | minus a => simp only [walk, Tm.parts, goW, ctxAt, at1]; cases walk Γ a <;> rfl
  | first a => simp only [walk, Tm.parts, goW, ctxAt, at1]; cases walk Γ a <;> rfl
  | second a => simp only [walk, Tm.parts, goW, ctxAt, at1]; cases walk Γ a <;> rfl
  | left a k => simp only [walk, Tm.parts, goW, ctxAt, at1]; cases walk Γ a <;> rfl
  | right k a => simp only [walk, Tm.parts, goW, ctxAt, at1]; cases walk Γ a <;> rfl
  | call f a =>
    simp only [walk, Tm.parts, goW, ctxAt, at1]
    cases walk Γ f with
    | error p => rfl
    | ok k1 => cases h2 : walk Γ a <;> simp [h2, finW, goW]
  | plus a b =>
    simp only [walk, Tm.parts, goW, ctxAt, at1]
    cases walk Γ a with
    | error p => rfl
    | ok k1 => cases h2 : walk Γ b <;> simp [h2, finW, goW]
  | times a b =>
    simp only [walk, Tm.parts, goW, ctxAt, at1]
    cases walk Γ a with
    | error p => rfl
    | ok k1 => cases h2 : walk Γ b <;> simp [h2, finW, goW]
  | is s a b =>
    simp only [walk, Tm.parts, goW, ctxAt, at1]
    cases walk Γ a with
    | error p => rfl
    | ok k1 => cases h2 : walk Γ b <;> simp [h2, finW, goW]
  | pair a b =>
    simp only [walk, Tm.parts, goW, ctxAt, at1]
    cases walk Γ a with
    | error p => rfl
    | ok k1 => cases h2 : walk Γ b <;> simp [h2, finW, goW]
  | cons a b =>
    simp only [walk, Tm.parts, goW, ctxAt, at1]
    cases walk Γ a with
    | error p => rfl
    | ok k1 => cases h2 : walk Γ b <;> simp [h2, finW, goW]
  | fold f a b =>
    simp only [walk, Tm.parts, goW, ctxAt, at1]
    cases walk Γ f with
    | error p => rfl
    | ok k1 =>
      cases h2 : walk Γ a with
      | error p => simp [h2]
      | ok k2 => cases h3 : walk Γ b <;> simp [h2, h3, finW, goW]
theorem at1_err {n : Nat} {r : Res} {f : Kd → Res} {p : List Nat} (h : at1 n r f = .error p) : (∃ q, r = .error q ∧ p = n :: q) ∨ ∃ a, r = .ok a ∧ f a = .error p := by
  unfold at1 at h
  split at h
  · exact .inr ⟨_, rfl, h⟩
  · cases h
    exact .inl ⟨_, rfl, rfl⟩
theorem fin_err {r : Except Nat Kd} {p : List Nat} (h : fin r = .error p) : p.length = 1 := by
  unfold fin at h
  split at h <;> cases h
  rfl
/-- a path is not longer than the term is deep -/
theorem walk_len : ∀ {t : Tm} {Γ : Ctx} {p : List Nat}, walk Γ t = .error p → p.length ≤ t.dp := by
  intro t
  induction t with
  | name x =>
    intro Γ p h
    unfold walk at h
    split at h <;> cases h
    simp
  | unit => intro Γ p h; cases h
  | number i => intro Γ p h; cases h
  | nil k => intro Γ p h; cases h
  | fn x k b ih =>
    intro Γ p h
    rcases at1_err h with ⟨q, h1, rfl⟩ | ⟨a, _, h2⟩
    · have := ih h1
      simp only [List.length_cons, Tm.dp]; omega
    · cases h2
  | minus a ih =>
    intro Γ p h
    rcases at1_err h with ⟨q, h1, rfl⟩ | ⟨a, _, h2⟩
    · have := ih h1
      simp only [List.length_cons, Tm.dp]; omega
    · have := fin_err h2
      simp only [Tm.dp]; omega
  | first a ih =>
    intro Γ p h
    rcases at1_err h with ⟨q, h1, rfl⟩ | ⟨a, _, h2⟩
    · have := ih h1
      simp only [List.length_cons, Tm.dp]; omega
    · have := fin_err h2
      simp only [Tm.dp]; omega
  | second a ih =>
    intro Γ p h
    rcases at1_err h with ⟨q, h1, rfl⟩ | ⟨a, _, h2⟩
    · have := ih h1
      simp only [List.length_cons, Tm.dp]; omega
    · have := fin_err h2
      simp only [Tm.dp]; omega
  | left a k ih =>
    intro Γ p h
    rcases at1_err h with ⟨q, h1, rfl⟩ | ⟨a, _, h2⟩
    · have := ih h1
      simp only [List.length_cons, Tm.dp]; omega
    · cases h2
  | right k a ih =>
    intro Γ p h
    rcases at1_err h with ⟨q, h1, rfl⟩ | ⟨a, _, h2⟩
    · have := ih h1
      simp only [List.length_cons, Tm.dp]; omega
    · cases h2
  | lete x a b iha ihb =>
    intro Γ p h
    rcases at1_err h with ⟨q, h1, rfl⟩ | ⟨k, _, h2⟩
    · have := iha h1
      simp only [List.length_cons, Tm.dp]; omega
    · rcases at1_err h2 with ⟨q, h1, rfl⟩ | ⟨k, _, h2⟩
      · have := ihb h1
        simp only [List.length_cons, Tm.dp]; omega
      · cases h2
  | pair a b iha ihb =>
    intro Γ p h
    rcases at1_err h with ⟨q, h1, rfl⟩ | ⟨k, _, h2⟩
    · have := iha h1
      simp only [List.length_cons, Tm.dp]; omega
    · rcases at1_err h2 with ⟨q, h1, rfl⟩ | ⟨k, _, h2⟩
      · have := ihb h1
        simp only [List.length_cons, Tm.dp]; omega
      · cases h2
  | call a b iha ihb =>
    intro Γ p h
    rcases at1_err h with ⟨q, h1, rfl⟩ | ⟨k, _, h2⟩
    · have := iha h1
      simp only [List.length_cons, Tm.dp]; omega
    · rcases at1_err h2 with ⟨q, h1, rfl⟩ | ⟨k, _, h2⟩
      · have := ihb h1
        simp only [List.length_cons, Tm.dp]; omega
      · have := fin_err h2
        simp only [Tm.dp]; omega
  | plus a b iha ihb =>
    intro Γ p h
    rcases at1_err h with ⟨q, h1, rfl⟩ | ⟨k, _, h2⟩
    · have := iha h1
      simp only [List.length_cons, Tm.dp]; omega
    · rcases at1_err h2 with ⟨q, h1, rfl⟩ | ⟨k, _, h2⟩
      · have := ihb h1
        simp only [List.length_cons, Tm.dp]; omega
      · have := fin_err h2
        simp only [Tm.dp]; omega
  | times a b iha ihb =>
    intro Γ p h
    rcases at1_err h with ⟨q, h1, rfl⟩ | ⟨k, _, h2⟩
    · have := iha h1
      simp only [List.length_cons, Tm.dp]; omega
    · rcases at1_err h2 with ⟨q, h1, rfl⟩ | ⟨k, _, h2⟩
      · have := ihb h1
        simp only [List.length_cons, Tm.dp]; omega
      · have := fin_err h2
        simp only [Tm.dp]; omega
  | is s a b iha ihb =>
    intro Γ p h
    rcases at1_err h with ⟨q, h1, rfl⟩ | ⟨k, _, h2⟩
    · have := iha h1
      simp only [List.length_cons, Tm.dp]; omega
    · rcases at1_err h2 with ⟨q, h1, rfl⟩ | ⟨k, _, h2⟩
      · have := ihb h1
        simp only [List.length_cons, Tm.dp]; omega
      · have := fin_err h2
        simp only [Tm.dp]; omega
  | cons a b iha ihb =>
    intro Γ p h
    rcases at1_err h with ⟨q, h1, rfl⟩ | ⟨k, _, h2⟩
    · have := iha h1
      simp only [List.length_cons, Tm.dp]; omega
    · rcases at1_err h2 with ⟨q, h1, rfl⟩ | ⟨k, _, h2⟩
      · have := ihb h1
        simp only [List.length_cons, Tm.dp]; omega
      · have := fin_err h2
        simp only [Tm.dp]; omega
  | fold f a b ihf iha ihb =>
    intro Γ p h
    rcases at1_err h with ⟨q, h1, rfl⟩ | ⟨k, _, h2⟩
    · have := ihf h1
      simp only [List.length_cons, Tm.dp]; omega
    · rcases at1_err h2 with ⟨q, h1, rfl⟩ | ⟨k, _, h2⟩
      · have := iha h1
        simp only [List.length_cons, Tm.dp]; omega
      · rcases at1_err h2 with ⟨q, h1, rfl⟩ | ⟨k, _, h2⟩
        · have := ihb h1
          simp only [List.length_cons, Tm.dp]; omega
        · have := fin_err h2
          simp only [Tm.dp]; omega
  | case s x a y b ihs iha ihb =>
    intro Γ p h
    rcases at1_err h with ⟨q, h1, rfl⟩ | ⟨k, _, h2⟩
    · have := ihs h1
      simp only [List.length_cons, Tm.dp]; omega
    · cases k with
      | either l r =>
        rcases at1_err h2 with ⟨q, h1, rfl⟩ | ⟨k, _, h2⟩
        · have := iha h1
          simp only [List.length_cons, Tm.dp]; omega
        · rcases at1_err h2 with ⟨q, h1, rfl⟩ | ⟨k2, _, h2⟩
          · have := ihb h1
            simp only [List.length_cons, Tm.dp]; omega
          · have h2 : (if k = k2 then Except.ok k else Except.error [5]) = Except.error p := h2
            split at h2 <;> cases h2
            simp only [Tm.dp, List.length_singleton]; omega
      | _ => cases h2; simp only [Tm.dp, List.length_singleton]; omega
def lowW (D : Nat) (Γ : Ctx) (t : Tm) : Nat → List (Option Tm) → List Kd → Prop
  | _, [], _ => True
  | i, none :: ps, ks => lowW D Γ t (i + 1) ps ks
  | i, some u :: ps, ks => Low D (ctxAt Γ t i ks) u ∧ ok1 (walk (ctxAt Γ t i ks) u) fun k => lowW D Γ t (i + 1) ps (ks ++ [k])
theorem low_W {D : Nat} {Γ : Ctx} {t : Tm} (hp : t.plain = true) (h : Low D Γ t) : lowW D Γ t 0 t.parts [] := by
  have imp : ∀ {r : Res} {f g : Kd → Prop}, ok1 r f → (∀ k, f k → g k) → ok1 r g := fun {r f g} h k => by
    unfold ok1 at h ⊢
    split
    · exact k _ h
    · trivial
  have triv : ∀ {r : Res}, ok1 r fun _ => True := fun {r} => by
    unfold ok1
    split <;> trivial
  cases t with
  | name x => cases hp
  | case s x a y b => cases hp
  | unit => trivial
  | number i => trivial
  | nil k => trivial
  | fn x k b => exact ⟨h.2.1, triv⟩
  | lete x a b => exact ⟨h.1, imp h.2 fun k hk => ⟨hk, triv⟩⟩
  | minus a => exact ⟨h, triv⟩
  | first a => exact ⟨h, triv⟩
  | second a => exact ⟨h, triv⟩
  | left a k => exact ⟨h.2.1, triv⟩
  | right k a => exact ⟨h.2.1, triv⟩
  | pair a b => exact ⟨h.1.1, imp h.1.2 fun k hk => ⟨hk, triv⟩⟩
  | call f a => exact ⟨h.1, imp h.2 fun k hk => ⟨hk, triv⟩⟩
  | plus a b => exact ⟨h.1, imp h.2 fun k hk => ⟨hk, triv⟩⟩
  | times a b => exact ⟨h.1, imp h.2 fun k hk => ⟨hk, triv⟩⟩
  | is s a b => exact ⟨h.1, imp h.2 fun k hk => ⟨hk, triv⟩⟩
  | cons a b => exact ⟨h.1, imp h.2 fun k hk => ⟨hk, triv⟩⟩
  | fold f a b => exact ⟨h.1, imp h.2 fun k hk => ⟨hk.1, imp hk.2 fun k hk => ⟨hk, triv⟩⟩⟩
theorem nm_part {t u : Tm} {i : Nat} (hn : NmOk t) (h : t.parts[i]? = some (some u)) : NmOk u := by
  have hm := List.mem_of_getElem? h
  cases t <;> simp [Tm.parts, NmOk] at hm hn <;> (first | (subst hm; first | exact hn | exact hn.2) | (rcases hm with rfl | rfl | rfl <;> first | exact hn.1 | exact hn.2.1 | exact hn.2.2 | exact hn.2 | exact hn.2.2.1 | exact hn.2.2.2.2) | (rcases hm with rfl | rfl <;> first | exact hn.1 | exact hn.2.1 | exact hn.2.2 | exact hn.2))
def Tm.binder : Tm → Bool
  | .fn _ _ _ => true | .lete _ _ _ => true | _ => false
theorem ctxAt_no {Γ : Ctx} {t : Tm} {i : Nat} {ks : List Kd} (h : t.binder = false) : ctxAt Γ t i ks = Γ := by cases t <;> first | rfl | cases h
theorem ctxAt_lo {Γ : Ctx} {t : Tm} {i : Nat} {ks : List Kd} (h : i ≠ 2) : ctxAt Γ t i ks = Γ := by
  cases t <;> first | rfl | (simp only [ctxAt, if_neg h])
theorem goW_len {Γ : Ctx} {t : Tm} : ∀ {ps : List (Option Tm)} {i : Nat} {ks0 ks : List Kd}, goW Γ t i ps ks0 = .ok ks → ks.length = ks0.length + (ps.filter (·.isSome)).length
  | [], i, ks0, ks, h => by cases h; rfl
  | none :: ps, i, ks0, ks, h => by
    have := goW_len (ps := ps) (i := i + 1) h
    simpa using this
  | some u :: ps, i, ks0, ks, h => by
    simp only [goW] at h
    split at h
    · have := goW_len (ps := ps) (i := i + 1) h
      simp at this ⊢
      omega
    · cases h
def made : Tm → List Kd → Option (Except Nat Kd)
  | .call _ _, [f, a] => some (callK f a)
  | .unit, [] => some (.ok .unit)
  | .number _, [] => some (.ok .num)
  | .nil k, [] => some (.ok (.list k))
  | .plus _ _, [a, b] => some (numK 1 a b .num)
  | .times _ _, [a, b] => some (numK 1 a b .num)
  | .minus _, [a] => some (minusK a)
  | .is _ _ _, [a, b] => some (numK 2 a b truthK)
  | .pair _ _, [a, b] => some (.ok (.pair a b))
  | .first _, [a] => some (firstK a)
  | .second _, [a] => some (secondK a)
  | .left _ k, [a] => some (.ok (.either a k))
  | .right k _, [a] => some (.ok (.either k a))
  | .cons _ _, [a, b] => some (consK a b)
  | .fold _ _ _, [f, a, b] => some (foldK f a b)
  | _, _ => none
theorem made_of {Γ : Ctx} {t : Tm} {ks : List Kd} (hp : t.plain = true) (hb : t.binder = false) (h : goW Γ t 0 t.parts [] = .ok ks) : ∃ r, made t ks = some r ∧ finW t ks = fin r := by
  have hl := goW_len h
  cases t <;> first | (have h' : true = false := hb; cases h') | (have h' : false = true := hp; cases h') | skip
  all_goals (simp [Tm.parts] at hl)
  all_goals (rcases ks with _ | ⟨a, _ | ⟨b, _ | ⟨c, _ | ⟨d, ks⟩⟩⟩⟩ <;> first | exact ⟨_, rfl, rfl⟩ | (simp at hl))
theorem fn_of {Γ : Ctx} {x : Str} {k : Kd} {b : Tm} {ks : List Kd} (h : goW Γ (.fn x k b) 0 (Tm.fn x k b).parts [] = .ok ks) : ∃ r, ks = [r] := by
  have hl := goW_len h
  simp [Tm.parts] at hl
  rcases ks with _ | ⟨a, _ | ⟨b, ks⟩⟩
  · simp at hl
  · exact ⟨a, rfl⟩
  · simp at hl
theorem let_of {Γ : Ctx} {x : Str} {a b : Tm} {ks : List Kd} (h : goW Γ (.lete x a b) 0 (Tm.lete x a b).parts [] = .ok ks) : ∃ r q, ks = [r, q] := by
  have hl := goW_len h
  simp [Tm.parts] at hl
  rcases ks with _ | ⟨a, _ | ⟨b, _ | ⟨c, ks⟩⟩⟩
  · simp at hl
  · simp at hl
  · exact ⟨a, b, rfl⟩
  · simp at hl
theorem parts_le (t : Tm) : t.parts.length ≤ 5 := by cases t <;> simp [Tm.parts]
/-- as many kinds as parts -/
def cntP (ps : List (Option Tm)) : Nat := (ps.filter (·.isSome)).length
theorem cnt_none {ps : List (Option Tm)} {i : Nat} (h : i < ps.length) (e : ps[i] = none) : cntP (ps.take (i + 1)) = cntP (ps.take i) := by
  unfold cntP
  rw [List.take_succ_eq_append_getElem h, List.filter_append, e]
  simp
theorem cnt_some {ps : List (Option Tm)} {i : Nat} {u : Tm} (h : i < ps.length) (e : ps[i] = some u) : cntP (ps.take (i + 1)) = cntP (ps.take i) + 1 := by
  unfold cntP
  rw [List.take_succ_eq_append_getElem h, List.filter_append, e]
  simp
theorem cnt_le (ps : List (Option Tm)) (i : Nat) : cntP (ps.take i) ≤ ps.length := by
  unfold cntP
  have h1 := List.length_filter_le (·.isSome) (ps.take i)
  rw [List.length_take] at h1
  omega
theorem ctxAt_of {Γ : Ctx} {t : Tm} {i : Nat} {ks : List Kd} (h : i + 1 ≤ 2 ∨ t.binder = false) : ctxAt Γ t i ks = Γ := by
  rcases h with h | h
  · exact ctxAt_lo (by omega)
  · exact ctxAt_no h
end Kq
/-! K17: names by their place, checked at once. -/
namespace Kq
open PySem PySem.Spec PyProof.Rows L2
def visB (sc : Scope) (x : Str) : Bool := match sc.names.lookup x with
  | some .local | some .cell | some .free => true
  | _ => false
theorem visB_ok {sc : Scope} {x : Str} (h : visB sc x = true) : Vis sc x := by
  unfold visB at h
  unfold Vis
  split at h
  · rename_i e; exact .inl e
  · rename_i e; exact .inr (.inl e)
  · rename_i e; exact .inr (.inr e)
  · cases h
def nmB (N : List Str) (i : Nat) (x : Str) : Bool := match N[i]? with
  | some y => y == x && !(x == ("__debug__" : Str)) && !(x == ("__classdict__" : Str))
  | none => false
theorem nmB_ok {N : List Str} {i : Nat} {x : Str} (h : nmB N i x = true) : N[i]? = some x ∧ (x == ("__debug__" : Str)) = false ∧ (x == ("__classdict__" : Str)) = false := by
  unfold nmB at h
  split at h
  · rename_i y e
    simp only [Bool.and_eq_true, Bool.not_eq_true'] at h
    refine ⟨?_, h.1.2, h.2⟩
    rw [e]
    exact congrArg some (of_decide_eq_true h.1.1)
  · cases h
def locB (sc : Scope) (x : Str) : Bool := match sc.names.lookup x with
  | some .local => true
  | _ => false
theorem locB_ok {sc : Scope} {x : Str} (h : locB sc x = true) : sc.names.lookup x = some .local := by
  unfold locB at h
  split at h
  · assumption
  · cases h
section
variable {X : Cx} {W : Wd} {s : W.St} {δ : De} {Q : W.St → Sv → Prop} {N : W.St → De → Prop} {R : W.St → Sv → Prop} {e : Expr} {es : List Expr} {kw : List Keyword} {pos p : Pos} {y : Sv}
theorem ed_v (i : Nat) {x : Str} (hδ : δ[i]? = some (some y)) (q : Q s y) (h : (nmB X.N i x && visB X.env.scope x) = true := by kernel_rfl) : ED X W (.Name x pos) s δ Q := by
  rw [Bool.and_eq_true] at h
  obtain ⟨h1, h2, h3⟩ := nmB_ok h.1
  exact ed_var i h1 (visB_ok h.2) hδ q h2 h3
theorem ed_is (x : Str) (h : ED X W (.Name x pos) s δ Q) : ED X W (.Name x pos) s δ Q := h
theorem ec_is (x : Str) (h : ED X W (.Call (.Name x p) es kw pos) s δ Q) : ED X W (.Call (.Name x p) es kw pos) s δ Q := h
theorem sd_is (x : Str) (h : SD X W (.Assign [.Name x p] e pos) s δ N R) : SD X W (.Assign [.Name x p] e pos) s δ N R := h
theorem gd_is (x : Str) (h : GD X W (.Name x pos) y s δ N) : GD X W (.Name x pos) y s δ N := h
def locC (X : Cx) (x : Str) : Bool := match X.env.scope.names.lookup x with
  | some .local => true
  | some .cell => X.fn x
  | _ => false
theorem locC_ok {x : Str} (h : locC X x = true) : Loc X.env.scope x ∧ (X.fn x = true ∨ X.env.scope.names.lookup x = some .local) := by
  unfold locC at h
  split at h
  · rename_i e; exact ⟨.inl e, .inr e⟩
  · rename_i e; exact ⟨.inr e, .inl h⟩
  · cases h
theorem sd_v (i : Nat) {x : Str} {p' : Pos} (nd : X.N.Nodup) (h : ED X W e s δ fun s' y => N s' (δ.set i (some y))) (hs : swapsWith e (some (.Name x p')) pos.line X.env = pure false := by rfl) (hb : (nmB X.N i x && locC X x) = true := by kernel_rfl) : SD X W (.Assign [.Name x p'] e pos) s δ N R := by
  rw [Bool.and_eq_true] at hb
  obtain ⟨h1, h2, h3⟩ := nmB_ok hb.1
  exact sd_set i nd h1 (locC_ok hb.2).1 h hs (locC_ok hb.2).2
theorem gd_v (i : Nat) {x : Str} (nd : X.N.Nodup) (q : N s (δ.set i (some y))) (hb : (nmB X.N i x && locC X x) = true := by kernel_rfl) : GD X W (.Name x pos) y s δ N := by
  rw [Bool.and_eq_true] at hb
  obtain ⟨h1, h2, h3⟩ := nmB_ok hb.1
  exact gd_name i nd h1 (locC_ok hb.2).1 q (locC_ok hb.2).2
theorem ed_is0 (h : ED X W e s δ Q) : ED X W e s δ Q := h
def glB (sc : Env) (x : Str) : Bool := match sc.kindOf x with
  | some .globalImplicit => !(x == ("__debug__" : Str))
  | _ => false
theorem glB_ok {x : Str} (h : glB X.env x = true) : Gl X x ∧ (x == ("__debug__" : Str)) = false := by
  unfold glB at h
  unfold Gl
  split at h
  · rename_i e; exact ⟨e, by simpa using h⟩
  · cases h
/-- a def of the program -/
theorem ed_fn {x : Str} {k : Nat} {dfl : List PyData} {F : FT} (C : FcX X k x dfl F) (hr : Room k X.A) (h : AD X W (e :: es) s δ fun s' xs => F W s' (xs ++ dfl.map .d) Q) (hg : glB X.env x = true := by kernel_rfl)
    (he : starEach (e :: es) X.env = (false, eval e X.env) :: starEach es X.env := by kernel_rfl) (hpl : (backTo pos (starEach es X.env)).any (·.1) = false := by rfl) : ED X W (.Call (.Name x p) (e :: es) [] pos) s δ Q :=
  ed_call C hr (glB_ok hg).1 h (glB_ok hg).2 he hpl
theorem ed_fn0 {x : Str} {k : Nat} {dfl : List PyData} {F : FT} (C : FcX X k x dfl F) (hr : Room k X.A) (h : F W s (dfl.map .d) Q) (hg : glB X.env x = true := by kernel_rfl) : ED X W (.Call (.Name x p) [] [] pos) s δ Q := ed_call0 C hr (glB_ok hg).1 h (glB_ok hg).2
theorem ed_bi {x : Str} {id : String} (hm : X.mg x = none) (hv : bootBuiltins x = some (.builtin id)) (h : AD X W (e :: es) s δ fun s' xs => CD X W (.builtin id) xs s' Q) (hn : x ≠ "__name__" := by decide) (hg : glB X.env x = true := by kernel_rfl)
    (he : starEach (e :: es) X.env = (false, eval e X.env) :: starEach es X.env := by kernel_rfl) (hpl : (backTo pos (starEach es X.env)).any (·.1) = false := by rfl) : ED X W (.Call (.Name x p) (e :: es) [] pos) s δ Q := ed_callB (glB_ok hg).1 hm hv h hn (glB_ok hg).2 he hpl
theorem ed_ty {x : Str} {T : String} (hm : X.mg x = none) (hv : bootBuiltins x = some (.type T)) (h : AD X W (e :: es) s δ fun s' xs => CD X W (.type T) xs s' Q) (hn : x ≠ "__name__" := by decide) (hg : glB X.env x = true := by kernel_rfl)
    (he : starEach (e :: es) X.env = (false, eval e X.env) :: starEach es X.env := by kernel_rfl) (hpl : (backTo pos (starEach es X.env)).any (·.1) = false := by rfl) : ED X W (.Call (.Name x p) (e :: es) [] pos) s δ Q := ed_callTy (glB_ok hg).1 hm hv h hn (glB_ok hg).2 he hpl
theorem ad_c {A : W.St → List Sv → Prop} (h : ED X W e s δ fun s' x => AD X W es s' δ fun s'' xs => A s'' (x :: xs)) (hs : starEach (e :: es) X.env = (false, eval e X.env) :: starEach es X.env := by kernel_rfl) : AD X W (e :: es) s δ A := ad_cons h hs
theorem od_isB (op : Operator) {x y : Sv} (h : OD X W (binaryOp op) x y s Q) : OD X W (binaryOp op) x y s Q := h
theorem od_isC (op : CmpOp) {x y : Sv} (h : OD X W (compareOp op) x y s Q) : OD X W (compareOp op) x y s Q := h
variable {elt iter : Expr} {ifs : List Expr} {scope : Scope}
theorem locR {env : Env} {x : Str} (h : locB scope x = true) : (relabel scope env).names.lookup x = some .local := lookup_relabel_local (locB_ok h)
theorem ed_cl1 (i : Nat) {x : Str} {p2 : Pos} (nd : X.N.Nodup)
    (hj : JD X W (.Name x p2) iter s δ fun s1 ds => ds.length ≤ sizeLine ∧ CL1 X W scope ifs elt (fun d => (wipeD δ [i]).set i (some (.d d))) (fun s2 acc => Q s2 (.d (.list acc))) ds [] s1)
    (hb : (nmB X.N i x && blkC X.N X.env.scope scope [(x, i)] && locB scope x) = true := by kernel_rfl) (hc : X.calm = true := by rfl) (hs : ∀ x, foldedSetIterable iter X.env x = pure x := by intro _; rfl) :
    ED X W (.ListComp elt [⟨.Name x p2, iter, ifs, 0⟩] scope pos) s δ Q := by
  simp only [Bool.and_eq_true] at hb
  exact ed_lcL1 (own := [(x, i)]) i nd (nmB_ok hb.1.1).1 (blkOk_by hb.1.2) (List.mem_cons_self) (fun _ => .inl (locR hb.2)) hj (fun _ => .inr (locR hb.2)) hc hs
theorem ed_cl2 (i j : Nat) {x y : Str} {p1 p2 p3 : Pos} {kk : Nat} (nd : X.N.Nodup)
    (hj : JD X W (.Tuple [.Name x p1, .Name y p2] kk p3) iter s δ fun s1 ds => ds.length ≤ sizeLine ∧ CL2 X W scope ifs elt (fun d1 d2 => ((wipeD δ [i, j]).set i (some (.d d1))).set j (some (.d d2))) (fun s2 acc => Q s2 (.d (.list acc))) ds [] s1)
    (hb : (nmB X.N i x && nmB X.N j y && blkC X.N X.env.scope scope [(x, i), (y, j)] && locB scope x && locB scope y) = true := by kernel_rfl) (hc : X.calm = true := by rfl) (hs : ∀ x, foldedSetIterable iter X.env x = pure x := by intro _; rfl) :
    ED X W (.ListComp elt [⟨.Tuple [.Name x p1, .Name y p2] kk p3, iter, ifs, 0⟩] scope pos) s δ Q := by
  simp only [Bool.and_eq_true] at hb
  exact ed_lcL2 (own := [(x, i), (y, j)]) i j nd (nmB_ok hb.1.1.1.1).1 (nmB_ok hb.1.1.1.2).1 (blkOk_by hb.1.1.2) (List.mem_cons_self) (List.mem_cons_of_mem _ List.mem_cons_self) (fun _ => .inl (locR hb.1.2)) (fun _ => .inl (locR hb.2)) hj
    (hs1 := fun _ => rfl) (hs2 := fun _ => rfl) (hn := fun _ => rfl) (hst := fun _ => rfl) (fun _ => .inr (locR hb.1.2)) (fun _ => .inr (locR hb.2)) hc hs
theorem sd_cl1 (l i : Nat) {y x : Str} {py p2 spos : Pos} (nd : X.N.Nodup)
    (hj : JD X W (.Name x p2) iter s δ fun s1 ds => ds.length ≤ sizeLine ∧ CL1 X W scope ifs elt (fun d => (wipeD δ [i]).set i (some (.d d))) (fun s2 acc => N s2 (δ.set l (some (.d (.list acc))))) ds [] s1)
    (hb : (nmB X.N l y && locB X.env.scope y && nmB X.N i x && blkC X.N X.env.scope scope [(x, i)] && locB scope x) = true := by kernel_rfl)
    (hsw : swapsWith (.ListComp elt [⟨.Name x p2, iter, ifs, 0⟩] scope pos) (some (.Name y py)) spos.line X.env = pure true := by kernel_rfl) (hc : X.calm = true := by rfl) (hs : ∀ x, foldedSetIterable iter X.env x = pure x := by intro _; rfl) :
    SD X W (.Assign [.Name y py] (.ListComp elt [⟨.Name x p2, iter, ifs, 0⟩] scope pos) spos) s δ N R := by
  simp only [Bool.and_eq_true] at hb
  exact sd_lcL1 (own := [(x, i)]) l i nd (nmB_ok hb.1.1.1.1).1 (locB_ok hb.1.1.1.2) (nmB_ok hb.1.1.2).1 (blkOk_by hb.1.2) (List.mem_cons_self) (fun _ => .inl (locR hb.2)) hsw hj (fun _ => .inr (locR hb.2)) hc hs
theorem sd_cl2 (l i j : Nat) {yy x y : Str} {py p1 p2 p3 spos : Pos} {kk : Nat} (nd : X.N.Nodup)
    (hj : JD X W (.Tuple [.Name x p1, .Name y p2] kk p3) iter s δ fun s1 ds => ds.length ≤ sizeLine ∧ CL2 X W scope ifs elt (fun d1 d2 => ((wipeD δ [i, j]).set i (some (.d d1))).set j (some (.d d2))) (fun s2 acc => N s2 (δ.set l (some (.d (.list acc))))) ds [] s1)
    (hb : (nmB X.N l yy && locB X.env.scope yy && nmB X.N i x && nmB X.N j y && blkC X.N X.env.scope scope [(x, i), (y, j)] && locB scope x && locB scope y) = true := by kernel_rfl)
    (hsw : swapsWith (.ListComp elt [⟨.Tuple [.Name x p1, .Name y p2] kk p3, iter, ifs, 0⟩] scope pos) (some (.Name yy py)) spos.line X.env = pure true := by kernel_rfl) (hc : X.calm = true := by rfl) (hs : ∀ x, foldedSetIterable iter X.env x = pure x := by intro _; rfl) :
    SD X W (.Assign [.Name yy py] (.ListComp elt [⟨.Tuple [.Name x p1, .Name y p2] kk p3, iter, ifs, 0⟩] scope pos) spos) s δ N R := by
  simp only [Bool.and_eq_true] at hb
  exact sd_lcL2 (own := [(x, i), (y, j)]) l i j nd (nmB_ok hb.1.1.1.1.1.1).1 (locB_ok hb.1.1.1.1.1.2) (nmB_ok hb.1.1.1.1.2).1 (nmB_ok hb.1.1.1.2).1 (blkOk_by hb.1.1.2) (List.mem_cons_self) (List.mem_cons_of_mem _ List.mem_cons_self) (fun _ => .inl (locR hb.1.2)) (fun _ => .inl (locR hb.2)) hsw hj
    (hs1 := fun _ => rfl) (hs2 := fun _ => rfl) (hn := fun _ => rfl) (hst := fun _ => rfl) (fun _ => .inr (locR hb.1.2)) (fun _ => .inr (locR hb.2)) hc hs
theorem cl1_nil {δ' : PyData → De} {Q : W.St → List PyData → Prop} {acc : List PyData} (q : Q s acc) : CL1 X W scope ifs elt δ' Q [] acc s := q
theorem cl1_cons {δ' : PyData → De} {Q : W.St → List PyData → Prop} {acc ds : List PyData} {d : PyData} (q : Turn1 X W scope ifs elt (δ' d) s acc fun s' acc' => CL1 X W scope ifs elt δ' Q ds acc' s') : CL1 X W scope ifs elt δ' Q (d :: ds) acc s := q
theorem fl_nil {tg : Expr} {body : List Stmt} (q : N s δ) : FL X W tg body N R [] s δ := q
theorem fl_cons {tg : Expr} {body : List Stmt} {d : PyData} {ds : List PyData} (q : GD X W tg (.d d) s δ fun s' δ' => SDs X W body s' δ' (fun s'' δ'' => FL X W tg body N R ds s'' δ'') R) : FL X W tg body N R (d :: ds) s δ := q
theorem cut1 {d : PyData} {ds : List PyData} : cutD (d :: ds) (some 1) none = ds := by
  unfold cutD HT.sIx
  simp
theorem ed_restK {a lo : Expr} {p2 : Pos} {k : Kd} (h : ED X W a s δ fun s1 x => x = .d (kD k) ∧ PD X W (some lo) s1 δ fun s2 l => l = some 1 ∧ Q s2 (.d (.tuple k.rest))) : ED X W (.Subscript a (.Slice (some lo) none none p2) pos) s δ Q :=
  ed_sliceT (ed_imp h fun s1 x q => by
    obtain ⟨rfl, q⟩ := q
    refine .mk fun σ H R hI hS hR => q σ H R hI hS fun o H' s' m i q => hR o H' s' m i ?_
    obtain ⟨rfl, q⟩ := q
    refine pd_none ⟨_, by rw [kD_eq], ?_⟩
    rw [cut1]
    exact q)
theorem ed_neg {a : Expr} (h : ED X W a s δ fun s1 x => ∃ i, x = .d (.int i) ∧ Q s1 (.d (.int (-i)))) : ED X W (.UnaryOp .USub a pos) s δ Q :=
  ed_un (f := fun _ _ => True) un_neg (ed_imp h fun s1 x q => by
    obtain ⟨i, rfl, q⟩ := q
    exact ⟨.int i, .int (-i), rfl, q, fun v H R o k => by
      cases o
      exact ⟨i, rfl, k _ (Dv.int _)⟩⟩)
theorem atI_last {α : Type} {xs : List α} (h : xs ≠ []) : atI xs (-1) = xs.getLast? := by
  unfold atI ixN
  have hl : 0 < xs.length := List.length_pos_iff.mpr h
  rw [if_neg (by omega), if_pos (by omega)]
  rw [List.getLast?_eq_getElem?]
  have e : ((xs.length : Int) + -1).toNat = xs.length - 1 := by omega
  first | (rw [show ((-1 : Int) + (xs.length : Int)).toNat = xs.length - 1 by omega]; rfl) | skip
end
theorem br_t {b : Bool} {A B : Prop} (h : b = true) (a : A) : if b = true then A else B := by rw [if_pos h]; exact a
theorem br_f {b : Bool} {A B : Prop} (h : b = false) (a : B) : if b = true then A else B := by subst h; exact a
theorem br_cons {α : Type} {x : α} {xs : List α} {A B : Prop} (a : A) : if (!(x :: xs).isEmpty) = true then A else B := by rw [if_pos (by rfl)]; exact a
theorem br_nil {α : Type} {A B : Prop} (b : B) : if (!([] : List α).isEmpty) = true then A else B := by rw [if_neg (by simp)]; exact b
theorem sz_n {n : Nat} (h : n ≤ 1000) : n ≤ sizeLine := by rw [sizeLine_eq]; omega
theorem sd_asgT {X : Cx} {W : Wd} {s : W.St} {δ : De} {N : W.St → De → Prop} {R : W.St → Sv → Prop} {e : Expr} {pos p : Pos} {tgs : List Expr} {k : Nat} (h : ED X W e s δ fun s' x => GD X W (.Tuple tgs k p) x s' δ N) (hs : swapsWithSole [.Tuple tgs k p] e pos.line X.env = pure false := by rfl) (hw : swappedStores [.Tuple tgs k p] e X.env = pure none := by rfl) (h1 : (assignEach [.Tuple tgs k p] X.env).map (·.2) = [assign (.Tuple tgs k p) X.env] := by rfl) :
    SD X W (.Assign [.Tuple tgs k p] e pos) s δ N R := sd_asg h hs hw h1
theorem depthAll_le {n : Nat} : ∀ {ds : List PyData}, (∀ d ∈ ds, d.depth ≤ n) → PyData.depthAll ds ≤ n
  | [], _ => Nat.zero_le _
  | d :: ds, h => by
    simp only [PyData.depthAll]
    have h1 := h d List.mem_cons_self
    have h2 := depthAll_le fun d' hd => h d' (List.mem_cons_of_mem _ hd)
    omega
theorem layAll {ds : List PyData} (h : ∀ d ∈ ds, d.canLay0 = true) : PyData.canLayAll0 ds = true := by
  induction ds with
  | nil => rfl
  | cons d ds ih => simp only [PyData.canLayAll0, h d List.mem_cons_self, ih fun d' hd => h d' (List.mem_cons_of_mem _ hd), Bool.and_self]
theorem shaped_l {ds : List PyData} (h : ∀ d ∈ ds, d.canLay0 = true ∧ d.depth ≤ 63) : SeqAt.shaped (.list ds) = true := by
  unfold SeqAt.shaped
  have h1 := depthAll_le fun d hd => (h d hd).2
  simp only [PyData.canLay0, layAll fun d hd => (h d hd).1, PyData.depth, Bool.true_and]
  exact decide_eq_true (by omega)
theorem shaped_t {ds : List PyData} (h : ∀ d ∈ ds, d.canLay0 = true ∧ d.depth ≤ 63) : SeqAt.shaped (.tuple ds) = true := by
  unfold SeqAt.shaped
  have h1 := depthAll_le fun d hd => (h d hd).2
  simp only [PyData.canLay0, layAll fun d hd => (h d hd).1, PyData.depth, Bool.true_and]
  exact decide_eq_true (by omega)
theorem eqv_nil (ds : List PyData) : PyData.eqv (.list ds) (.list []) = ds.isEmpty := by cases ds <;> rfl
theorem kk63 {ks : List Kd} (h : ∀ k ∈ ks, k.dp ≤ 63) : ∀ d ∈ ks.map kD, d.canLay0 = true ∧ d.depth ≤ 63 := fun d hd => by
  obtain ⟨k, hk, rfl⟩ := List.mem_map.mp hd
  exact ⟨kD_lay k, by rw [kD_depth]; exact h k hk⟩
theorem br_e {α : Type} {l : List α} {A B : Prop} (h1 : l ≠ [] → A) (h2 : l = [] → B) : if (!l.isEmpty) = true then A else B := by
  cases l with
  | nil => exact h2 rfl
  | cons a l => exact h1 (by simp)
theorem od_neL {X : Cx} {W : Wd} {s : W.St} {Q : W.St → Sv → Prop} {ds : List PyData} {k : Nat} (hr : Room k X.A) (h : SeqAt.shaped (.list ds) = true) (q : Q s (.d (.bool (!ds.isEmpty)))) : OD X W (compareOp .NotEq) (.d (.list ds)) (.d (.list [])) s Q :=
  od_ne (ru64 hr) h (by decide +kernel) (by rw [eqv_nil]; exact q)
section
variable {X : Cx} {W : Wd} {s : W.St} {δ : De} {Q : W.St → Sv → Prop} {P : W.St → Bool → Prop} {N : W.St → De → Prop} {R : W.St → Sv → Prop} {e : Expr} {es : List Expr} {st : Stmt} {sts : List Stmt} {x y : Sv} {f : Value → Value → Sem Value} {g : Value} {A : W.St → List Sv → Prop} {xs : List Sv} {ds : List PyData}
theorem od_is0 (h : OD X W f x y s Q) : OD X W f x y s Q := h
theorem id_is0 (h : ID X W x y s Q) : ID X W x y s Q := h
theorem cd_is0 (h : CD X W g xs s Q) : CD X W g xs s Q := h
theorem ad_is0 (h : AD X W es s δ A) : AD X W es s δ A := h
theorem td_is0 (h : TD X W e s δ P) : TD X W e s δ P := h
theorem wd_is0 (h : WD X W e s δ P) : WD X W e s δ P := h
theorem fd_is0 (h : FD X W es s δ P) : FD X W es s δ P := h
theorem sds_is0 (h : SDs X W sts s δ N R) : SDs X W sts s δ N R := h
theorem sd_is0 (h : SD X W st s δ N R) : SD X W st s δ N R := h
theorem gd_is0 (h : GD X W e x s δ N) : GD X W e x s δ N := h
theorem gds_is0 (h : GDs X W es ds s δ N) : GDs X W es ds s δ N := h
theorem ite_is0 {b : Bool} {A B : Prop} (h : if b = true then A else B) : if b = true then A else B := h
end
/-- what a slot holds -/
structure Slot (δ : De) (i : Nat) (P : Sv → Prop) : Prop where
  ex : ∃ y, δ[i]? = some (some y) ∧ P y
theorem slot_eq {δ : De} {i : Nat} {y : Sv} {P : Sv → Prop} (p : P y) (h : Nat.blt i δ.length = true := by kernel_rfl) : Slot (List.set δ i (some y)) i P := ⟨y, List.getElem?_set_self (Nat.le_of_ble_eq_true h), p⟩
theorem slot_ne {δ : De} {i j : Nat} {v : Option Sv} {P : Sv → Prop} (h : Nat.beq j i = false) (p : Slot δ i P) : Slot (List.set δ j v) i P := by
  obtain ⟨y, h1, h2⟩ := p.ex
  have hj : j ≠ i := fun e => by
    subst e
    rw [Nat.beq_refl] at h
    cases h
  exact ⟨y, by rw [List.getElem?_set_ne hj]; exact h1, h2⟩
theorem slot_base {δ : De} {i : Nat} {y : Sv} {P : Sv → Prop} (h : δ[i]? = some (some y)) (p : P y) : Slot δ i P := ⟨y, h, p⟩
theorem ed_vi (i : Nat) {X : Cx} {W : Wd} {s : W.St} {δ : De} {Q : W.St → Sv → Prop} {x : Str} {pos : Pos} (q : Slot δ i (Q s)) (h : (nmB X.N i x && visB X.env.scope x) = true := by kernel_rfl) : ED X W (.Name x pos) s δ Q := by
  obtain ⟨y, h1, h2⟩ := q.ex
  exact ed_v i h1 h2 h
theorem br_isE {α : Type} {l : List α} {A B : Prop} (h : if (!l.isEmpty) = true then A else B) : if (!l.isEmpty) = true then A else B := h
section
variable {X : Cx} {W : Wd} {s : W.St} {Q : W.St → Sv → Prop}
theorem od_isN0 (q : Q s (.d (.bool true))) : OD X W (compareOp .Is) (.d .none) (.d .none) s Q := od_isN q
theorem od_isNt {ds : List PyData} (q : Q s (.d (.bool false))) : OD X W (compareOp .Is) (.d (.tuple ds)) (.d .none) s Q := od_isN q
theorem od_isNk {k : Kd} (q : Q s (.d (.bool false))) : OD X W (compareOp .Is) (.d (kD k)) (.d .none) s Q := by rw [kD_eq]; exact od_isN q
theorem od_notN0 (q : Q s (.d (.bool false))) : OD X W (compareOp .IsNot) (.d .none) (.d .none) s Q := od_notN q
theorem od_notNt {ds : List PyData} (q : Q s (.d (.bool true))) : OD X W (compareOp .IsNot) (.d (.tuple ds)) (.d .none) s Q := od_notN q
theorem od_notNk {k : Kd} (q : Q s (.d (.bool true))) : OD X W (compareOp .IsNot) (.d (kD k)) (.d .none) s Q := by rw [kD_eq]; exact od_notN q
theorem br_tt {A B : Prop} (a : A) : if true = true then A else B := a
theorem br_ff {A B : Prop} (b : B) : if false = true then A else B := b
theorem br_nt {A B : Prop} (b : B) : if (!true) = true then A else B := b
theorem br_nf {A B : Prop} (a : A) : if (!false) = true then A else B := a
end
section
variable {X : Cx} {W : Wd} {s : W.St} {Q : W.St → Sv → Prop}
theorem od_eqI {i j : Int} {k : Nat} (hr : Room k X.A) (q : Q s (.d (.bool (decide (i = j))))) : OD X W (compareOp .Eq) (.d (.int i)) (.d (.int j)) s Q := od_eq (ru64 hr) rfl rfl (by
  have e : PyData.eqv (.int i) (.int j) = decide (i = j) := by
    show (i == j) = _
    by_cases h : i = j <;> simp [h]
  rw [e]
  exact q)
theorem id_trest {t : Tm} {i : Int} {j : Nat} {d : PyData} (hi : i = (j : Int) + 1) (h : t.rest[j]? = some d) (q : Q s (.d d)) : ID X W (.d (tD t)) (.d (.int i)) s Q := by
  rw [tD_eq]
  subst hi
  exact id_tup (atI_nat (xs := PyData.str t.word :: t.rest) (j := j + 1) h) q
end
theorem ltr_ok (t : Tm) : ∀ c ∈ t.ltr, PyData.strOk ⟨#[c]⟩ = true := by
  have : ∀ c ∈ [120, 107, 116, 110, 115], PyData.strOk ⟨#[c]⟩ = true := by decide +kernel
  intro c hc
  refine this c ?_
  cases t <;> simp [Tm.ltr] at hc ⊢ <;> omega
theorem sgn_t (c : Nat) : ((⟨#[c]⟩ : Str) = "t") ↔ c = 116 := by
  have e : ("t" : Str) = ⟨#[116]⟩ := by decide +kernel
  rw [e]
  simp
theorem enum_shape {t : Tm} {i : Nat} {d : PyData} (h : (enumD (signs t.shape))[i]? = some d) : ∃ c, t.ltr[i]? = some c ∧ d = .tuple [.int (i : Int), .str ⟨#[c]⟩] := by
  have e : signs t.shape = t.ltr.map fun c => PyData.str ⟨#[c]⟩ := by
    unfold signs
    rw [shape_ltr]
  rw [e] at h
  cases q : t.ltr[i]? with
  | none =>
    have : (enumD (t.ltr.map fun c => PyData.str ⟨#[c]⟩))[i]? = none := by
      rw [List.getElem?_eq_none_iff] at q ⊢
      rw [enumD_len, List.length_map]
      exact q
    rw [this] at h
    cases h
  | some c =>
    refine ⟨c, rfl, ?_⟩
    have h2 : (t.ltr.map fun c => PyData.str ⟨#[c]⟩)[i]? = some (.str ⟨#[c]⟩) := by rw [List.getElem?_map, q]; rfl
    rw [enumD_get h2] at h
    exact (Option.some.inj h).symm
theorem enum_len {t : Tm} : (enumD (signs t.shape)).length = t.parts.length := by
  rw [enumD_len]
  unfold signs
  rw [List.length_map, shape_ltr, ltr_len]
end Kq
/-! K18: a list of ours, laid beside another name. -/
namespace Kq
open PySem PySem.Spec PyProof.Rows L2
section
variable {X : Cx} {W : Wd} {s : W.St} {δ : De} {N : W.St → De → Prop} {R : W.St → Sv → Prop} {b : Expr} {sts : List Stmt} {pos px py pt pt2 lp : Pos} {kt k2 : Nat}
theorem sds_ownPar (i j : Nat) {x y : Str} (nd : X.N.Nodup) (hij : i ≠ j) (hδ : δ.all noX = true)
    (h : ∀ p, p ∉ W.u → ED X (W.own X.K p) b (W.mkS X.K p s []) δ fun t z => SDs X (W.own X.K p) sts t ((δ.set i (some (.o p))).set j (some z)) (fun s' δ' => δ'.all noX = true ∧ N s'.1 δ') (fun s' y => noX (some y) = true ∧ R s'.1 y))
    (hb : (nmB X.N i x && locB X.env.scope x && nmB X.N j y && locB X.env.scope y) = true := by kernel_rfl)
    (hw : swappedStores [.Tuple [.Name x px, .Name y py] kt pt] (.Tuple [.List [] lp, b] k2 pt2) X.env = pure (some [x, y]) := by rfl)
    (hc : X.calm = true := by rfl) (hs : swapsWithSole [.Tuple [.Name x px, .Name y py] kt pt] (.Tuple [.List [] lp, b] k2 pt2) pos.line X.env = pure false := by rfl)
    (hs1 : starEach [.List [] lp, b] X.env = (false, eval (.List [] lp) X.env) :: starEach [b] X.env := by rfl) (hs2 : starEach [b] X.env = (false, eval b X.env) :: starEach [] X.env := by rfl) :
    SDs X W (.Assign [.Tuple [.Name x px, .Name y py] kt pt] (.Tuple [.List [] lp, b] k2 pt2) pos :: sts) s δ N R := .mk fun σ H D hI hS hN' hR => by
  simp only [Bool.and_eq_true] at hb
  refine pss_w (pss_cons (ps_par (i := i) (j := j) hc nd (nmB_ok hb.1.1.1).1 (nmB_ok hb.1.2).1 hij (locB_ok hb.1.1.2) (locB_ok hb.2) (pa_cons (pe_lst pa_nil) (pa_cons wE_pe pa_nil hs2) hs1) hw hs) wSs_pss) ?_
  refine ⟨by rw [sizeLine_eq]; show 0 ≤ _; omega, fun p hp => ?_⟩
  have np : p ∉ W.u := W.fresh hI hp
  have I1 : (W.own X.K p).I (s, []) (upd H p (.lst [])) := ⟨W.new hI hp, rfl, [], upd_same, .nil⟩
  have S1 : Sg X.K (p :: W.u) (upd H p (.lst [])) σ δ := hS.ext hp hδ
  have m0 : ∀ a o, a ≠ p → H a = some o → upd H p (.lst []) a = some o := fun a o na e => by rw [upd_ne na]; exact e
  refine (h p np).run σ _ _ I1 S1 fun z H2 t zz m2 i2 o2 q2 => ?_
  refine ⟨.ref p, z, rfl, ?_⟩
  refine q2.run _ H2 D i2 (((S1.mv m2 ((W.own X.K p).mu _ _ I1)).set (show SvOk X.K (p :: W.u) H2 (.ref p) (.o p) from rfl)).set o2) (fun σ' H' s' δ' m i g q => ?_) fun v H' s' y m i o q => ?_
  · exact hN' σ' H' s'.1 δ' (Mv.back hp (m2.trans m) m0) i.1 (g.less q.1) q.2
  · exact hR v H' s'.1 y (Mv.back hp (m2.trans m) m0) i.1 (o.less q.1) q.2
end
section
variable {X : Cx} {W : Wd} {s : W.St} {δ : De} {N : W.St → De → Prop} {R : W.St → Sv → Prop} {st : Stmt} {sts : List Stmt}
/-- what holds behind a statement, then the rest -/
theorem sds_cut (M : W.St → De → Prop) (h1 : SD X W st s δ M R) (h2 : ∀ s' δ', M s' δ' → SDs X W sts s' δ' N R) : SDs X W (st :: sts) s δ N R :=
  sds_cons (.mk fun σ H D hI hS hN hR => h1.run σ H D hI hS (fun σ' H' s' δ' m i g q => hN σ' H' s' δ' m i g (h2 s' δ' q)) hR)
end
end Kq
/-! K19: tests that are values. -/
namespace Kq
open PySem PySem.Spec PyProof.Rows L2
section
variable {X : Cx} {W : Wd} {s : W.St} {δ : De} {P : W.St → Bool → Prop} {a b : Expr} {pos : Pos} {x : Str}
theorem td_isSub (h : ED X W (.Subscript a b pos) s δ fun s' x => ∃ c, x = .d (.bool c) ∧ P s' c) : TD X W (.Subscript a b pos) s δ P := td_val h
theorem td_isName (h : ED X W (.Name x pos) s δ fun s' x => ∃ c, x = .d (.bool c) ∧ P s' c) : TD X W (.Name x pos) s δ P := td_val h
variable {ifs : List Expr} {elt : Expr} {scope : Scope}
theorem cl1_mapA {α : Type} (mk : α → PyData) {δ' : PyData → De} {Q : W.St → List PyData → Prop} (f : α → List PyData) : ∀ (as : List α) (acc : List PyData) (s : W.St), (∀ a ∈ as, ∀ (acc : List PyData) (Nx : W.St → List PyData → Prop), Nx s (acc ++ f a) → Turn1 X W scope ifs elt (δ' (mk a)) s acc Nx) → Q s (acc ++ as.flatMap f) → CL1 X W scope ifs elt δ' Q (as.map mk) acc s
  | [], acc, s, _, q => by
    rw [List.flatMap_nil, List.append_nil] at q
    exact q
  | a :: as, acc, s, h, q => h a List.mem_cons_self acc _ (cl1_mapA mk f as (acc ++ f a) s (fun b hb => h b (List.mem_cons_of_mem _ hb)) (by rw [List.append_assoc, ← List.flatMap_cons]; exact q))
theorem flat_filter {α β : Type} (c : α → Bool) (g : α → β) : ∀ l : List α, (l.flatMap fun a => if c a = true then [g a] else []) = (l.filter c).map g
  | [] => rfl
  | a :: l => by
    rw [List.flatMap_cons, flat_filter c g l]
    by_cases h : c a = true
    · rw [if_pos h, List.filter_cons_of_pos h]; rfl
    · rw [if_neg h, List.filter_cons_of_neg h]; rfl
end
end Kq
/-! K20: a call with a fresh counter as its last argument. -/
namespace Kq
open PySem PySem.Spec PyProof.Rows L2
section
variable {X : Cx} {W : Wd} {s : W.St} {δ : De} {Q : W.St → Sv → Prop} {e1 e2 e3 e4 : Expr} {pos p0 lp : Pos}
theorem ed_fnL {x : Str} {k : Nat} {F : FT} (C : FcX X k x [] F) (hr : Room k X.A)
    (h : ED X W e1 s δ fun s1 x1 => ED X W e2 s1 δ fun s2 x2 => ED X W e3 s2 δ fun s3 x3 => ED X W e4 s3 δ fun s4 y => (noX (some x1) = true ∧ noX (some x2) = true ∧ noX (some x3) = true) ∧ ∃ n : Int, y = .d (.int n) ∧
      ∀ p, p ∉ W.u → F (W.leftX p) (s4, n) [x1, x2, x3, .o p] fun t z => noX (some z) = true ∧ Q t.1 z)
    (hg : glB X.env x = true := by kernel_rfl)
    (hs1 : starEach [e1, e2, e3, .List [e4] lp] X.env = (false, eval e1 X.env) :: starEach [e2, e3, .List [e4] lp] X.env := by kernel_rfl)
    (hs2 : starEach [e2, e3, .List [e4] lp] X.env = (false, eval e2 X.env) :: starEach [e3, .List [e4] lp] X.env := by kernel_rfl)
    (hs3 : starEach [e3, .List [e4] lp] X.env = (false, eval e3 X.env) :: starEach [.List [e4] lp] X.env := by kernel_rfl)
    (hs4 : starEach [.List [e4] lp] X.env = (false, eval (.List [e4] lp) X.env) :: starEach [] X.env := by kernel_rfl)
    (hs5 : starEach [e4] X.env = (false, eval e4 X.env) :: starEach [] X.env := by kernel_rfl)
    (hpl : (backTo pos (starEach [e2, e3, .List [e4] lp] X.env)).any (·.1) = false := by kernel_rfl) : ED X W (.Call (.Name x p0) [e1, e2, e3, .List [e4] lp] [] pos) s δ Q := .mk fun σ H R hI hS hR => by
  obtain ⟨f, fd, ps, dvs, ds, h1, h2, h3, h4, h5, h6⟩ := C.ex
  refine pe_w (pe_call (E := E0) h1 hr (glB_ok hg).1 h2 h3 h4 h5 pass0 (pa_cons wE_pe (pa_cons wE_pe (pa_cons wE_pe (pa_cons (pe_lst (pa_cons wE_pe pa_nil hs5)) pa_nil hs4) hs3) hs2) hs1) (glB_ok hg).2 hs1 hpl) ?_
  refine h σ H _ hI hS fun v1 H1 s1 x1 m1 i1 o1 q1 => ?_
  have g1 := hS.mv m1 (W.mu _ _ hI)
  refine q1 σ H1 _ i1 g1 fun v2 H2 s2 x2 m2 i2 o2 q2 => ?_
  have g2 := g1.mv m2 (W.mu _ _ i1)
  refine q2 σ H2 _ i2 g2 fun v3 H3 s3 x3 m3 i3 o3 q3 => ?_
  have g3 := g2.mv m3 (W.mu _ _ i2)
  refine q3 σ H3 _ i3 g3 fun v4 H4 s4 y m4 i4 o4 q4 => ?_
  obtain ⟨⟨n1, n2, n3⟩, n, rfl, q4⟩ := q4
  cases o4
  refine ⟨by rw [sizeLine_eq]; show 1 ≤ _; omega, fun p hp => ?_⟩
  have np : p ∉ W.u := W.fresh i4 hp
  have p1 : SvOk X.K W.u H4 v1 x1 := ((o1.mv m2 (W.mu _ _ i1)).mv m3 (W.mu _ _ i2)).mv m4 (W.mu _ _ i3)
  have p2 : SvOk X.K W.u H4 v2 x2 := (o2.mv m3 (W.mu _ _ i2)).mv m4 (W.mu _ _ i3)
  have p3 : SvOk X.K W.u H4 v3 x3 := o3.mv m4 (W.mu _ _ i3)
  refine ⟨W.leftX p, (s4, n), [x1, x2, x3, .o p] ++ List.map Sv.d [], fun t z => noX (some z) = true ∧ Q t.1 z, ⟨W.new i4 hp, upd_same⟩, ?_, q4 p np, fun v H' s' z m i o q => ?_⟩
  · refine SvA.append (.cons (p1.ext hp n1) (.cons (p2.ext hp n2) (.cons (p3.ext hp n3) (.cons (show SvOk X.K (p :: W.u) _ (.ref p) (.o p) from rfl) .nil)))) (h6 _ _).sv
  · exact hR v H' s'.1 z (((m1.trans m2).trans (m3.trans m4)).trans (Mv.back hp m fun a o na e => by rw [upd_ne na]; exact e)) i.1 (o.less q.1) q.2
end
end Kq
/-! K21: constants and tables of the module; texts walked; chains. -/
namespace Kq
open PySem PySem.Spec PyProof.Rows L2
/-- a constant -/
structure Con (K : PySem.W.Frag) (mg : Str → Option Value) (x : Str) (d : PyData) : Prop where
  ex : ∃ v u, mg x = some u ∧ RelV v u ∧ ∀ uu H, Dv K uu H v d
/-- a table -/
structure Tab (K : PySem.W.Frag) (w : World) (mg : Str → Option Value) (x : Str) (tab : CM) : Prop where
  ex : ∃ a, mg x = some (.ref a) ∧ KTab K w a tab
section
variable {X : Cx} {W : Wd} {s : W.St} {δ : De} {Q : W.St → Sv → Prop} {P : W.St → Bool → Prop} {a b c e : Expr} {pos : Pos} {x : Str} {d : PyData} {tab : CM}
theorem ed_con (C : Con X.K X.mg x d) (q : Q s (.d d)) (hg : glB X.env x = true := by kernel_rfl) : ED X W (.Name x pos) s δ Q := by
  obtain ⟨v, u, h1, h2, h3⟩ := C.ex
  exact ed_glob (glB_ok hg).1 h1 h2 h3 q (glB_ok hg).2
theorem ed_tab (T : Tab X.K X.w X.mg x tab) (q : ∀ a, KTab X.K X.w a tab → Q s (.o a)) (hg : glB X.env x = true := by kernel_rfl) : ED X W (.Name x pos) s δ Q := .mk fun σ H R hI hS hR => by
  obtain ⟨a, h1, h2⟩ := T.ex
  exact pe_w (pe_glob (glB_ok hg).1 h1 (show RelV (.ref a) (.ref a) from rfl) (glB_ok hg).2) (hR _ H s (.o a) Mv.refl hI (show SvOk X.K W.u H (.ref a) (.o a) from rfl) (q a h2))
theorem ed_tabA {a : Addr} (hm : X.mg x = some (.ref a)) (q : Q s (.o a)) (hg : glB X.env x = true := by kernel_rfl) : ED X W (.Name x pos) s δ Q := .mk fun σ H R hI hS hR =>
  pe_w (pe_glob (glB_ok hg).1 hm (show RelV (.ref a) (.ref a) from rfl) (glB_ok hg).2) (hR _ H s (.o a) Mv.refl hI (show SvOk X.K W.u H (.ref a) (.o a) from rfl) q)
theorem eqv_int (i j : Int) : PyData.eqv (.int i) (.int j) = decide (i = j) := by
  simp [PyData.eqv]
  by_cases h : i = j <;> simp [h]
theorem od_neI {i j : Int} {k : Nat} (hr : Room k X.A) (q : Q s (.d (.bool (!decide (i = j))))) : OD X W (compareOp .NotEq) (.d (.int i)) (.d (.int j)) s Q := od_ne (ru64 hr) rfl rfl (by rw [eqv_int]; exact q)
def CPowW (i j : Int) : Prop := 0 ≤ j ∧ (Builtin.Int.intBits i : Int) * j ≤ 2 ^ 27
theorem op_powW : OpR X (binaryOp .Pow) (rI CPowW fun i j => .int (i ^ j.toNat)) := opI fun _ _ _ _ _ _ _ hc q => pow_int hc.1 hc.2 q
theorem od_powW {i j : Int} (hc : CPowW i j) (q : Q s (.d (.int (i ^ j.toNat)))) : OD X W (binaryOp .Pow) (.d (.int i)) (.d (.int j)) s Q := od_val op_powW q fun v w H R hI o1 o2 k => by
  cases o1
  cases o2
  exact ⟨i, j, rfl, rfl, hc, k _ (.int _)⟩
end
end Kq
/-! K22: an instance with a list and a dict of its own; paths; methods. -/
namespace Kq
open PySem PySem.Spec PyProof.Rows L2
/-! ### paths -/
def ptV (p : List Nat) : List V := p.map fun (n : Nat) => V.int (n : Int)
def ptL (p : List Nat) : List PyData := p.map fun (n : Nat) => PyData.int (n : Int)
def ptD (p : List Nat) : PyData := .tuple (ptL p)
def ptK (p : List Nat) : List Key := p.map fun (n : Nat) => Sum.inl (n : Int)
theorem ptK_V : ∀ p : List Nat, (ptK p).map kV = ptV p
  | [] => rfl
  | n :: p => by
    show kV (Sum.inl (n : Int)) :: (ptK p).map kV = V.int (n : Int) :: ptV p
    rw [ptK_V p]
    rfl
theorem path_dv {K : PySem.W.Frag} {u : List Addr} {H : Hp} : ∀ p : List Nat, DvA K u H (ptV p) (ptL p)
  | [] => .nil
  | n :: p => .cons (.int _) (path_dv p)
theorem path_v {K : PySem.W.Frag} {u : List Addr} {H : Hp} : ∀ {p : List Nat} {vs : List V}, DvA K u H vs (ptL p) → vs = ptV p
  | [], _, .nil => rfl
  | n :: p, _, .cons (.int _) t => by
    show V.int (n : Int) :: _ = V.int (n : Int) :: ptV p
    rw [path_v t]
theorem path_noL : ∀ p : List Nat, noLs (ptL p) = true
  | [] => rfl
  | n :: p => by show (noL (.int (n : Int)) && noLs (ptL p)) = true; rw [path_noL p]; rfl
theorem ptD_noL (p : List Nat) : noL (ptD p) = true := path_noL p
/-- a tuple that is tracked: a path -/
def tpX (p : List Nat) : Sx := ⟨fun _ _ H v => ∃ a, v = .ref a ∧ H a = some (.tup (ptV p)), fun K u H H' v m mu h => by
  obtain ⟨a, e, h⟩ := h
  exact ⟨a, e, m _ _ (fun z => by have := mu a z; rw [h] at this; exact this) h⟩⟩
theorem tpX.d {K : PySem.W.Frag} {u : List Addr} {H : Hp} {v : V} {p : List Nat} (h : SvOk K u H v (.x (tpX p))) : Dv K u H v (ptD p) := by
  obtain ⟨a, rfl, h⟩ := h
  exact .tup (SqT.of h) (path_dv p)
/-! ### the instance -/
structure Kin (K : PySem.W.Frag) (W : Wd) (ka : Addr) where
  C : Addr
  dx : Addr
  kw : Addr
  kd : Addr
  cls : Cls K C
  naW : NoAttr K C "wrong"
  naK : NoAttr K C "kinds"
  mkw : kw ∈ W.u
  mkd : kd ∈ W.u
  Rt : Type
  wr : W.St → Option (List Nat)
  cnt : W.St → Nat
  tp : W.St → Option PyData
  rt : W.St → Rt
  setW : W.St → List Nat → W.St
  setK : W.St → List Nat → PyData → W.St
  get : ∀ s H, W.I s H → H ka = some (.ins C dx [("wrong", .ref kw), ("kinds", .ref kd)])
  getW : ∀ s H, W.I s H → ∃ vs, H kw = some (.lst vs) ∧ DvA K [] H vs ((wr s).toList.map ptD)
  getK : ∀ s H, W.I s H → ∃ kvs, H kd = some (.dT kvs) ∧ kvs.length ≤ cnt s
  putW : ∀ s H v p, W.I s H → wr s = none → Dv K [] H v (ptD p) → W.I (setW s p) (upd H kw (.lst [v]))
  putK : ∀ s H kvs v p d, W.I s H → H kd = some (.dT kvs) → Dv K [] H v d → noL d = true → W.I (setK s p d) (upd H kd (.dT (putK kvs (ptK p) v)))
  wrW : ∀ s p, wr (setW s p) = some p
  wrK : ∀ s p d, wr (setK s p d) = wr s
  cntW : ∀ s p, cnt (setW s p) = cnt s
  cntK : ∀ s p d, cnt (setK s p d) = cnt s + 1
  rtW : ∀ s p, rt (setW s p) = rt s
  rtK : ∀ s p d, rt (setK s p d) = rt s
  tpK : ∀ s d, tp (setK s [] d) = some d
section
variable {X : Cx} {W : Wd} {s : W.St} {δ : De} {Q : W.St → Sv → Prop} {N : W.St → De → Prop} {R : W.St → Sv → Prop} {e o b : Expr} {es : List Expr} {pos p1 p2 apos : Pos} {ka : Addr}
theorem ed_tp {p : List Nat} (h : ED X W e s δ fun s' x => x = .x (tpX p) ∧ Q s' (.d (ptD p))) : ED X W e s δ Q := .mk fun σ H R hI hS hR => h σ H R hI hS fun v H' s' x m i o q => by
  obtain ⟨rfl, q⟩ := q
  exact hR v H' s' _ m i (tpX.d o).sv q
theorem ed_tupX {k : Nat} (h : AD X W es s δ fun s' xs => ∃ p : List Nat, unAll xs = some (ptL p) ∧ p.length ≤ 1000 ∧ Q s' (.x (tpX p))) : ED X W (.Tuple es k pos) s δ Q :=
  .mk fun σ H R hI hS hR => pe_w (pe_tup wA_pa) (h σ H _ hI hS fun vs H1 s1 xs m1 i1 o1 q1 => by
    obtain ⟨p, hd, hz, q1⟩ := q1
    have hA := o1.data hd
    have hl : vs.length = p.length := by rw [hA.length]; unfold ptL; rw [List.length_map]
    refine ⟨by rw [hl, sizeLine_eq]; omega, fun a ha => ?_⟩
    have e := path_v hA
    subst e
    exact hR _ _ s1 (.x (tpX p)) (m1.trans (Mv.new ha)) (W.new i1 ha) ⟨a, rfl, upd_same⟩ q1)
variable (I : Kin X.K W ka)
theorem ed_fldW (h : ED X W e s δ fun s' x => x = .o ka ∧ Q s' (.o I.kw)) (hb : attributeBase e "wrong" X.env (eval e X.env) = eval e X.env := by rfl) : ED X W (.Attribute e "wrong" pos) s δ Q :=
  .mk fun σ H R hI hS hR => pe_w (pe_fld wE_pe hb) (h σ H _ hI hS fun v H1 s1 x m1 i1 o1 q1 => by
    obtain ⟨rfl, q1⟩ := q1
    have o1 : v = .ref ka := o1
    subst o1
    exact ⟨ka, I.C, I.dx, _, _, rfl, I.get s1 H1 i1, I.cls, I.naW, rfl, hR _ H1 s1 (.o I.kw) m1 i1 rfl q1⟩)
theorem ed_fldK (h : ED X W e s δ fun s' x => x = .o ka ∧ Q s' (.o I.kd)) (hb : attributeBase e "kinds" X.env (eval e X.env) = eval e X.env := by rfl) : ED X W (.Attribute e "kinds" pos) s δ Q :=
  .mk fun σ H R hI hS hR => pe_w (pe_fld wE_pe hb) (h σ H _ hI hS fun v H1 s1 x m1 i1 o1 q1 => by
    obtain ⟨rfl, q1⟩ := q1
    have o1 : v = .ref ka := o1
    subst o1
    exact ⟨ka, I.C, I.dx, _, _, rfl, I.get s1 H1 i1, I.cls, I.naK, rfl, hR _ H1 s1 (.o I.kd) m1 i1 rfl q1⟩)
theorem path_lay (p : List Nat) : (ptD p).canLay0 = true := layAll fun d hd => by
  obtain ⟨n, _, rfl⟩ := List.mem_map.mp hd
  rfl
theorem path_dep (p : List Nat) : (ptD p).depth ≤ 1 := by
  have := depthAll_le (n := 0) (ds := ptL p) fun d hd => by
    obtain ⟨n, _, rfl⟩ := List.mem_map.mp hd
    exact Nat.le_refl _
  unfold ptD
  simp only [PyData.depth]; omega
theorem wr_shaped (w : Option (List Nat)) : SeqAt.shaped (.list (w.toList.map ptD)) = true := shaped_l fun d hd => by
  obtain ⟨p, _, rfl⟩ := List.mem_map.mp hd
  exact ⟨path_lay p, by have := path_dep p; omega⟩
theorem wr_eqv (w : Option (List Nat)) : PyData.eqv (.list (w.toList.map ptD)) (.list []) = w.isNone := by cases w <;> rfl
/-- self.wrong == [], != [] -/
theorem od_eqW {k : Nat} {kw : Addr} (hr : Room k X.A) (q : Q s (.d (.bool (I.wr s).isNone))) (hkw : kw = I.kw := by rfl) : OD X W (compareOp .Eq) (.o kw) (.d (.list [])) s Q := .mk fun v w H R hI o1 o2 hR => by
  subst hkw
  have o1 : v = .ref I.kw := o1
  subst o1
  obtain ⟨vs, h1, h2⟩ := I.getW s H hI
  refine op_w (op_eqD (ru64 hr)) ⟨.list ((I.wr s).toList.map ptD), .list [], .lst (SqL.of h1) h2.dp, Dv.dp o2, wr_shaped _, rfl, ?_⟩
  rw [wr_eqv]
  exact hR _ H s _ Mv.refl hI (Dv.bl _).sv q
theorem od_neW {k : Nat} {kw : Addr} (hr : Room k X.A) (q : Q s (.d (.bool (!(I.wr s).isNone)))) (hkw : kw = I.kw := by rfl) : OD X W (compareOp .NotEq) (.o kw) (.d (.list [])) s Q := .mk fun v w H R hI o1 o2 hR => by
  subst hkw
  have o1 : v = .ref I.kw := o1
  subst o1
  obtain ⟨vs, h1, h2⟩ := I.getW s H hI
  refine op_w (op_neD (ru64 hr)) ⟨.list ((I.wr s).toList.map ptD), .list [], .lst (SqL.of h1) h2.dp, Dv.dp o2, wr_shaped _, rfl, ?_⟩
  rw [wr_eqv]
  exact hR _ H s _ Mv.refl hI (Dv.bl _).sv q
/-- self.wrong.append(path) -/
theorem sd_appW {p : List Nat} (h : ED X W o s δ fun s1 x => x = .o I.kw ∧ ED X W b s1 δ fun s2 y => y = .x (tpX p) ∧ I.wr s2 = none ∧ N (I.setW s2 p) δ)
    (hs : swapsWith (.Call (.Attribute o "append" apos) [b] [] p2) none pos.line X.env = pure false := by rfl) (hbase : attributeBase o "append" X.env (eval o X.env) = eval o X.env := by rfl)
    (hfew : ((backTo p2 (starEach [b] X.env)).all (fun x => !x.1) && (backToKw p2 (keywordEach [] X.env)).all (fun x => x.1.isSome)
      && decide (([b] : List Expr).length + ([] : List Keyword).length + (if ([] : List Keyword).isEmpty then 0 else 1) < 30)) = true := by rfl)
    (hline : (apos.endLine == p2.line) = true := by rfl) (hs1 : starEach [b] X.env = (false, eval b X.env) :: starEach [] X.env := by rfl) :
    SD X W (.Expr (.Call (.Attribute o "append" apos) [b] [] p2) pos) s δ N R := .mk fun σ H D hI hS hN' hR =>
  ps_w (ps_expr (pe_bm F.plainAttrs_list F.slot_list_append F.type_list_append (show MtR X "list.append" rAppend from mt_append) wE_pe (pa_cons wE_pe pa_nil hs1) hbase hfew hline hs1 rfl) hs) (h.run σ H _ hI hS fun v H1 t1 x m1 i1 o1 q1 => by
    obtain ⟨rfl, q1⟩ := q1
    have o1 : v = .ref I.kw := o1
    subst o1
    obtain ⟨vs1, e1, _⟩ := I.getW t1 H1 i1
    refine ⟨.inl ⟨rfl, _, SqL.of e1⟩, ?_⟩
    refine q1.run σ H1 _ i1 (hS.mv m1 (W.mu _ _ hI)) fun w H2 t2 y m2 i2 o2 q2 => ?_
    obtain ⟨rfl, hw, q2⟩ := q2
    obtain ⟨vs2, e2, a2⟩ := I.getW t2 H2 i2
    have o3 : Dv X.K [] H2 w (ptD p) := Dv.tups (fun _ _ r => r) (tpX.d o2) (ptD_noL p)
    rw [hw] at a2
    cases a2
    refine ⟨I.kw, [], w, rfl, rfl, e2, by rw [sizeLine_eq]; show 0 < _; omega, ?_⟩
    exact hN' σ _ (I.setW t2 p) δ ((m1.trans m2).trans (Mv.in_ I.mkw)) (I.putW t2 H2 w p i2 hw o3) ((hS.mv (m1.trans m2) (W.mu _ _ hI)).mv (Mv.in_ I.mkw) (W.mu _ _ i2)) q2)
/-- self.kinds[path] = found -/
theorem sd_setK {p : List Nat} {d : PyData} {k : Nat} (hr : Room k X.A) (h : ED X W e s δ fun s1 z => z = .d d ∧ noL d = true ∧ ED X W o s1 δ fun s2 x => x = .o I.kd ∧ ED X W b s2 δ fun s3 y => y = .x (tpX p) ∧ I.cnt s3 < 16000 ∧ N (I.setK s3 p d) δ)
    (hs : swapsWith e (some (.Subscript o b p1)) pos.line X.env = pure false := by rfl) : SD X W (.Assign [.Subscript o b p1] e pos) s δ N R := .mk fun σ H D hI hS hN' hR =>
  ps_w (ps_dput (ru1 hr) wE_pe wE_pe wE_pe hs) (h.run σ H _ hI hS fun z H1 t1 zz m1 i1 o1 q1 => by
    obtain ⟨rfl, hd, q1⟩ := q1
    refine q1.run σ H1 _ i1 (hS.mv m1 (W.mu _ _ hI)) fun v H2 t2 x m2 i2 o2 q2 => ?_
    obtain ⟨rfl, q2⟩ := q2
    have o2 : v = .ref I.kd := o2
    subst o2
    refine q2.run σ H2 _ i2 (hS.mv (m1.trans m2) (W.mu _ _ hI)) fun w H3 t3 y m3 i3 o3 q3 => ?_
    obtain ⟨rfl, hc, q3⟩ := q3
    obtain ⟨a, rfl, ha⟩ := o3
    obtain ⟨kvs, e3, l3⟩ := I.getK t3 H3 i3
    have oz : Dv X.K [] H3 z d := Dv.tups (fun _ _ r => r) ((Dv.mv m2 (W.mu _ _ i1) o1).mv m3 (W.mu _ _ i2)) hd
    refine ⟨I.kd, _, rfl, DPut.t e3 (by rw [ptK_V]; exact ha) (by rw [sizeLine_eq]; omega), ?_⟩
    exact hN' σ _ (I.setK t3 p d) δ (((m1.trans m2).trans m3).trans (Mv.in_ I.mkd)) (I.putK t3 H3 kvs z p d i3 e3 oz hd) ((hS.mv ((m1.trans m2).trans m3) (W.mu _ _ hI)).mv (Mv.in_ I.mkd) (W.mu _ _ i3)) q3)
end
/-! ### methods -/
structure Mc (P : Program) (w : World) (K : PySem.W.Frag) (mg : Str → Option Value) (base : Heap) (k : Nat) (C : Addr) (x : Str) (F : FT) : Prop where
  ex : ∃ f fd ps, FnOk P w K mg base CX0 k f fd ps (spD K F) ∧ Meth K C x f ∧ Binds K fd ps []
theorem Mc.mono {P : Program} {w : World} {K : PySem.W.Frag} {mg : Str → Option Value} {base : Heap} {j k : Nat} {C : Addr} {x : Str} {F : FT} (M : Mc P w K mg base j C x F) (h : j ≤ k) : Mc P w K mg base k C x F := by
  obtain ⟨f, fd, ps, h1, h2⟩ := M.ex
  exact ⟨f, fd, ps, h1.mono h, h2⟩
abbrev McX (X : Cx) := Mc X.prog X.w X.K X.mg X.base
/-- a method as it stands behind the top -/
structure Hm (K : PySem.W.Frag) (C : Addr) (x : Str) (st : Stmt) (ps : List Str) : Prop where
  ex : ∃ qual f fd dv0, FunD K x qual (defArgs st) (defBody st) (defScope st) dv0 [] f fd ∧ Meth K C x f ∧ Binds K fd ps []
section
variable {P : Program} {w : World} {K : PySem.W.Frag} {mg : Str → Option Value} {base : Heap} {x : Str} {st : Stmt} {ps N : List Str} {k : Nat} {F : FT} {C : Addr}
theorem Hm.go (D : Hm K C x st ps) (S : FnScope N ps (defScope st)) (len : ∀ W s xs Q, F W s xs Q → xs.length = ps.length)
    (hbody : ∀ (qual : Str) (f : Addr) (cdv : Value) (A : Around) (outer : List Env) (s : Shared) (H : Hp) (E : XK), Room k (A.deeper (envOfC qual (defScope st) s.heap.objs.size f cdv)) → ∀ (W : Wd) (t : W.St) (xs : List Sv) (Q : W.St → Sv → Prop), F W t xs Q →
      SDs (cxOf CX0 P w K mg base N qual (defScope st) f cdv A outer s H E).nox W (defBody st) t (startD N xs) (fun t' _ => Q t' (.d .none)) Q) : Mc P w K mg base (k + 1) C x F := by
  obtain ⟨qual, f, fd, dv0, h1, h2, h3⟩ := D.ex
  exact ⟨f, fd, ps, fn_D h1 S len fun cdv A outer s H E hr W t xs Q h => hbody qual f cdv A outer s H E hr W t xs Q h, h2, h3⟩
end
section
variable {X : Cx} {W : Wd} {s : W.St} {δ : De} {Q : W.St → Sv → Prop} {e o : Expr} {es : List Expr} {pos apos : Pos} {ka : Addr}
theorem ed_meth {k : Nat} {m : Str} {F : FT} {pl : Sem Bool} (I : Kin X.K W ka) (M : McX X k I.C m F) (hr : Room k X.A) (h : ED X W o s δ fun s1 x => x = .o ka ∧ AD X W (e :: es) s1 δ fun s2 xs => F W s2 (.o ka :: xs) Q)
    (hm : m ≠ "kinds" ∧ m ≠ "wrong" := by decide +kernel)
    (hst : starEach (e :: es) X.env = (false, eval e X.env) :: starEach es X.env := by kernel_rfl) (hpl : (backTo pos (starEach es X.env)).any (·.1) = false := by kernel_rfl)
    (ht : eval (.Call (.Attribute o m apos) (e :: es) [] pos) X.env = (do
      let ov ← eval o X.env
      standAt apos.atName
      let (f, first) ← holding [ov] (getMethod ov m pl)
      callWith pos f first (backTo pos (starEach (e :: es) X.env)) (backToKw pos (keywordEach [] X.env))) := by rfl) : ED X W (.Call (.Attribute o m apos) (e :: es) [] pos) s δ Q := .mk fun σ H R hI hS hR => by
  obtain ⟨f, fd, ps, h1, h2, h3⟩ := M.ex
  refine pe_w (pe_meth (E := E0) (dvs := []) (ds := []) wE_pe I.cls h2 h1 hr h3 .nil pass0 wA_pa hst hpl ht) (h σ H _ hI hS fun v H1 s1 x m1 i1 o1 q1 => ?_)
  obtain ⟨rfl, q1⟩ := q1
  have o1 : v = .ref ka := o1
  subst o1
  refine ⟨ka, I.dx, _, rfl, I.get s1 H1 i1, ?_, ?_⟩
  · have n1 : (m == ("kinds" : Str)) = false := by simpa using hm.1
    have n2 : (m == ("wrong" : Str)) = false := by simpa using hm.2
    simp [List.lookup, n1, n2]
  · refine q1.run σ H1 _ i1 (hS.mv m1 (W.mu _ _ hI)) fun vs H2 s2 xs m2 i2 o2 q2 => ?_
    refine ⟨W, s2, .o ka :: xs, Q, i2, ?_, q2, fun v H3 s3 x m3 i3 o3 q3 => hR v H3 s3 x ((m1.trans m2).trans m3) i3 o3 q3⟩
    rw [List.append_nil]
    exact .cons (show SvOk X.K W.u H2 (.ref ka) (.o ka) from rfl) o2
end
end Kq
/-! K23: the world of the instance; what is left of it. -/
namespace Kq
open PySem PySem.Spec PyProof.Rows L2
theorem rd_upd {H : Hp} {p : Addr} {o o' : HO} (hp : H p = some o) (h1 : ∀ xs, o ≠ .tup xs) (h2 : ∀ oo u, o ≠ .frz oo u) (a : Addr) (xs : List V) (r : Rd H a (.tup xs)) : Rd (upd H p o') a (.tup xs) := by
  have ne : a ≠ p := fun z => by
    subst z
    rcases r with r | ⟨oo, r⟩
    · rw [hp] at r; exact h1 xs (Option.some.inj r)
    · rw [hp] at r; exact h2 _ _ (Option.some.inj r)
  rcases r with r | ⟨oo, r⟩
  · exact .inl (by rw [upd_ne ne]; exact r)
  · exact .inr ⟨oo, by rw [upd_ne ne]; exact r⟩
theorem Wd.putO (W : Wd) {s : W.St} {H : Hp} (h : W.I s H) {p : Addr} {o o' : HO} (n : p ∉ W.u) (hp : H p = some o) (h1 : ∀ xs, o ≠ .tup xs) (h2 : ∀ oo u, o ≠ .frz oo u) : W.I s (upd H p o') :=
  W.mono s H _ h (fun a ha => upd_ne (fun z => by subst z; exact n ha)) (rd_upd hp h1 h2)
theorem wr_noL : ∀ w : Option (List Nat), noLs (w.toList.map ptD) = true
  | none => rfl
  | some p => by show (noL (ptD p) && true) = true; rw [ptD_noL]; rfl
structure KS where
  wr : Option (List Nat)
  cnt : Nat
  tp : Option PyData
def kinF (kw kd : Addr) : List (Str × V) := [("wrong", .ref kw), ("kinds", .ref kd)]
structure KinI (K : PySem.W.Frag) (W : Wd) (C ka dx kw kd : Addr) (s : W.St × KS) (H : Hp) : Prop where
  w : W.I s.1 H
  na : ka ∉ W.u
  nw : kw ∉ W.u
  nd : kd ∉ W.u
  ins : H ka = some (.ins C dx (kinF kw kd))
  lst : ∃ vs, H kw = some (.lst vs) ∧ DvA K [] H vs (s.2.wr.toList.map ptD)
  dct : ∃ kvs, H kd = some (.dT kvs) ∧ kvs.length ≤ s.2.cnt ∧ ∀ d, s.2.tp = some d → noL d = true ∧ ∃ v, valV kvs [] = some v ∧ Dv K [] H v d
def Wd.kin (W : Wd) (K : PySem.W.Frag) (C ka dx kw kd : Addr) : Wd where
  u := ka :: kw :: kd :: W.u
  St := W.St × KS
  I := KinI K W C ka dx kw kd
  mono := fun s H H' h k t => by
    obtain ⟨h1, n1, n2, n3, h2, ⟨vs, h3, h4⟩, kvs, h5, h6, h7⟩ := h
    refine ⟨W.mono _ _ _ h1 (fun a ha => k a (by simp [ha])) t, n1, n2, n3, by rw [k ka (by simp)]; exact h2, ⟨vs, by rw [k kw (by simp)]; exact h3, h4.tups t (wr_noL _)⟩, kvs, by rw [k kd (by simp)]; exact h5, h6, fun d hd => ?_⟩
    obtain ⟨a1, v, a2, a3⟩ := h7 d hd
    exact ⟨a1, v, a2, a3.tups t a1⟩
  mu := fun s H h a ha => by
    obtain ⟨h1, n1, n2, n3, h2, ⟨vs, h3, h4⟩, kvs, h5, h6⟩ := h
    simp only [List.mem_cons] at ha
    rcases ha with rfl | rfl | rfl | ha
    · rw [h2]; trivial
    · rw [h3]; trivial
    · rw [h5]; trivial
    · exact W.mu _ _ h1 a ha
def Wd.kinI (W : Wd) (K : PySem.W.Frag) {C ka dx kw kd : Addr} (cls : Cls K C) (naW : NoAttr K C "wrong") (naK : NoAttr K C "kinds") : Kin K (W.kin K C ka dx kw kd) ka where
  C := C
  dx := dx
  kw := kw
  kd := kd
  cls := cls
  naW := naW
  naK := naK
  mkw := by show kw ∈ ka :: kw :: kd :: W.u; simp
  mkd := by show kd ∈ ka :: kw :: kd :: W.u; simp
  Rt := W.St
  wr := fun s => s.2.wr
  cnt := fun s => s.2.cnt
  tp := fun s => s.2.tp
  rt := fun s => s.1
  setW := fun s p => (s.1, ⟨some p, s.2.cnt, s.2.tp⟩)
  setK := fun s p d => (s.1, ⟨s.2.wr, s.2.cnt + 1, if p = [] then some d else s.2.tp⟩)
  get := fun s H h => h.ins
  getW := fun s H h => h.lst
  getK := fun s H h => let ⟨kvs, h1, h2, _⟩ := h.dct; ⟨kvs, h1, h2⟩
  putW := fun s H v p h _ hv => by
    obtain ⟨h1, n1, n2, n3, h2, ⟨vs, h3, h4⟩, kvs, h5, h6, h7⟩ := h
    have r := fun a xs => rd_upd (o' := .lst [v]) h3 (fun _ z => by cases z) (fun _ _ z => by cases z) a xs
    have ne1 : ka ≠ kw := fun z => by rw [z, h3] at h2; cases h2
    have ne2 : kd ≠ kw := fun z => by rw [z, h3] at h5; cases h5
    refine ⟨W.putO h1 n2 h3 (fun _ z => by cases z) (fun _ _ z => by cases z), n1, n2, n3, by rw [upd_ne ne1]; exact h2, ⟨[v], upd_same, .cons (hv.tups r (ptD_noL p)) .nil⟩, kvs, by rw [upd_ne ne2]; exact h5, h6, fun d hd => ?_⟩
    obtain ⟨a1, z, a2, a3⟩ := h7 d hd
    exact ⟨a1, z, a2, a3.tups r a1⟩
  putK := fun s H kvs v p d h hk hv hd => by
    obtain ⟨h1, n1, n2, n3, h2, ⟨vs, h3, h4⟩, kvs', h5, h6, h7⟩ := h
    rw [hk] at h5
    cases h5
    have r := fun a xs => rd_upd (o' := .dT (putK kvs (ptK p) v)) hk (fun _ z => by cases z) (fun _ _ z => by cases z) a xs
    have ne1 : ka ≠ kd := fun z => by rw [z, hk] at h2; cases h2
    have ne2 : kw ≠ kd := fun z => by rw [z, hk] at h3; cases h3
    refine ⟨W.putO h1 n3 hk (fun _ z => by cases z) (fun _ _ z => by cases z), n1, n2, n3, by rw [upd_ne ne1]; exact h2, ⟨vs, by rw [upd_ne ne2]; exact h3, h4.tups r (wr_noL _)⟩, _, upd_same, by have := length_putK kvs (ptK p) v; show _ ≤ s.2.cnt + 1; omega, fun d' hd' => ?_⟩
    have hd' : (if p = [] then some d else s.2.tp) = some d' := hd'
    by_cases hp : p = []
    · subst hp
      rw [if_pos rfl] at hd'
      cases hd'
      exact ⟨hd, v, by rw [valV_put]; exact if_pos rfl, hv.tups r hd⟩
    · rw [if_neg hp] at hd'
      obtain ⟨a1, z, a2, a3⟩ := h7 d' hd'
      refine ⟨a1, z, ?_, a3.tups r a1⟩
      rw [valV_put, if_neg]
      · exact a2
      · intro z
        cases p with
        | nil => exact hp rfl
        | cons n p => cases z
  wrW := fun _ _ => rfl
  wrK := fun _ _ _ => rfl
  cntW := fun _ _ => rfl
  cntK := fun _ _ _ => rfl
  rtW := fun _ _ => rfl
  rtK := fun _ _ _ => rfl
  tpK := fun _ _ => rfl
/-! ### what is left -/
def pairO (a b : Addr) : Sx := ⟨fun _ _ H v => ∃ T, v = .ref T ∧ H T = some (.tup [.ref a, .ref b]), fun K u H H' v m mu h => by
  obtain ⟨T, e, h⟩ := h
  exact ⟨T, e, m _ _ (fun z => by have := mu T z; rw [h] at this; exact this) h⟩⟩
def dctR (d : PyData) (K : PySem.W.Frag) (u : List Addr) (H : Hp) (v : V) : Prop := ∃ a kvs z, v = .ref a ∧ a ∉ u ∧ H a = some (.dT kvs) ∧ valV kvs [] = some z ∧ Dv K u H z d
theorem dctR.mv {d : PyData} {K : PySem.W.Frag} {u : List Addr} {H H' : Hp} {v : V} (m : Mv u H H') (mu : ∀ b ∈ u, Mut (H b)) (h : dctR d K u H v) : dctR d K u H' v := by
  obtain ⟨a, kvs, z, e, n, h1, h2, h3⟩ := h
  exact ⟨a, kvs, z, e, n, m _ _ n h1, h2, h3.mv m mu⟩
def dctX (d : PyData) : Sx := ⟨dctR d, fun K u H H' v m mu h => dctR.mv m mu h⟩
/-- the pair of the kinds and of the list of the wrong path -/
def retX (w : Option (List Nat)) (d : PyData) : Sx := ⟨fun K u H v => ∃ T a b, v = .ref T ∧ H T = some (.tup [.ref a, .ref b]) ∧ dctR d K u H (.ref a) ∧ Dv K u H (.ref b) (.list (w.toList.map ptD)), fun K u H H' v m mu h => by
  obtain ⟨T, a, b, e, h1, h2, h3⟩ := h
  exact ⟨T, a, b, e, m _ _ (fun z => by have := mu T z; rw [h1] at this; exact this) h1, h2.mv m mu, h3.mv m mu⟩⟩
section
variable {X : Cx} {W : Wd} {s : W.St} {δ : De} {Q : W.St → Sv → Prop} {N : W.St → De → Prop} {R : W.St → Sv → Prop} {e o b : Expr} {es : List Expr} {sts : List Stmt} {pos p0 p1 p2 : Pos} {ka : Addr}
theorem id_dct {d : PyData} {k : Nat} (hr : Room k X.A) (q : Q s (.d d)) : ID X W (.x (dctX d)) (.x (tpX [])) s Q := .mk fun v w H R hI o1 o2 hR => by
  obtain ⟨a, kvs, z, rfl, n, h1, h2, h3⟩ := o1
  obtain ⟨t, rfl, h4⟩ := o2
  refine ix_w (rI_c (ru1 hr)) ⟨a, z, rfl, ?_, hR z H s _ Mv.refl hI h3.sv q⟩
  have g := DGet.t (k := []) h1 h4
  rw [h2] at g
  exact g
theorem ed_tup2O {k : Nat} {x y : Addr} (h : AD X W es s δ fun s' xs => xs = [.o x, .o y] ∧ Q s' (.x (pairO x y))) : ED X W (.Tuple es k pos) s δ Q :=
  .mk fun σ H R hI hS hR => pe_w (pe_tup wA_pa) (h σ H _ hI hS fun vs H1 s1 xs m1 i1 o1 q1 => by
    obtain ⟨rfl, q1⟩ := q1
    obtain ⟨v, w, rfl, ov, ow⟩ := o1.two
    have ov : v = .ref x := ov
    have ow : w = .ref y := ow
    subst ov
    subst ow
    refine ⟨by rw [sizeLine_eq]; show 2 ≤ _; omega, fun a ha => ?_⟩
    exact hR _ _ s1 (.x (pairO x y)) (m1.trans (Mv.new ha)) (W.new i1 ha) ⟨a, rfl, upd_same⟩ q1)
theorem gd_ret (i j : Nat) {x y : Str} {k : Nat} {w : Option (List Nat)} {d : PyData} (nd : X.N.Nodup) (q : N s ((δ.set i (some (.x (dctX d)))).set j (some (.d (.list (w.toList.map ptD))))))
    (hb : (nmB X.N i x && locC X x) = true := by kernel_rfl) (hb2 : (nmB X.N j y && locC X y) = true := by kernel_rfl)
    (hc : X.calm = true := by rfl) (hn : (assignEach [.Name x p1, .Name y p2] X.env).length = 2 := by rfl) (hst : (assignEach [.Name x p1, .Name y p2] X.env).findIdx? (·.1) = none := by rfl)
    (hs1 : (assignEach [.Name x p1, .Name y p2] X.env).map (·.2) = assign (.Name x p1) X.env :: (assignEach [.Name y p2] X.env).map (·.2) := by rfl) (hs2 : (assignEach [.Name y p2] X.env).map (·.2) = assign (.Name y p2) X.env :: (assignEach [] X.env).map (·.2) := by rfl) :
    GD X W (.Tuple [.Name x p1, .Name y p2] k pos) (.x (retX w d)) s δ N := .mk fun v σ H R hI hS o hR => by
  rw [Bool.and_eq_true] at hb hb2
  obtain ⟨hi, _, _⟩ := nmB_ok hb.1
  obtain ⟨hj, _, _⟩ := nmB_ok hb2.1
  obtain ⟨hx, hf⟩ := locC_ok hb.2
  obtain ⟨hy, hf2⟩ := locC_ok hb2.2
  obtain ⟨T, a, b, rfl, h1, h2, h3⟩ := o
  refine pg_w (pg_tup hc (pgs_cons (pg_name (i := i) nd hi hx hf) (pgs_cons (pg_name (i := j) nd hj hy hf2) pgs_nil hs2) hs1) hn hst) ?_
  exact ⟨_, _, rfl, SqT.of h1, rfl, _, _, rfl, _, _, rfl, rfl, hR _ H s _ Mv.refl hI ((hS.set (x := .x (dctX d)) h2).set h3.sv) q⟩
end
end Kq
/-! K24: the instance is made. -/
namespace Kq
open PySem PySem.Spec PyProof.Rows L2
def spInit (C : Addr) : Sp := fun vs H Q _ => ∃ a dx, vs = [.ref a] ∧ H a = some (.ins C dx []) ∧ ∀ kw kd H4, H kw = none → H kd = none → H4 a = some (.ins C dx (kinF kw kd)) → H4 kw = some (.lst []) → H4 kd = some (.dT []) → kw ≠ kd → (∀ b, b ≠ a → b ≠ kw → b ≠ kd → H4 b = H b) → Q .non H4
theorem init_ok {P : Program} {w : World} {K : PySem.W.Frag} {mg : Str → Option Value} {base : Heap} {k : Nat} {qual : Str} {dv0 : List V} {f C : Addr} {fd : FuncData} (Fu : FunD K "__init__" qual (defArgs s_K_init) (defBody s_K_init) (defScope s_K_init) dv0 [] f fd)
    (cls : Cls K C) (naW : NoAttr K C "wrong") (naK : NoAttr K C "kinds") : FnOk P w K mg base CX0 (k + 1) f fd p_K_init (spInit C) := by
  refine Fu.ok sc_K_init (fun vs H Q E h => ?_) (fun cdv A outer s H vs Q E hr h => ?_)
  · obtain ⟨a, dx, rfl, _⟩ := h
    rfl
  obtain ⟨a, dx, rfl, ha, q⟩ := h
  refine ⟨_, PSs.nox (pss_cons (ps_fld (pe_var (i := 0) rfl (visB_ok (by kernel_rfl)) (by decide) (by decide)) (pe_lst pa_nil) (by rfl)) (pss_one (ps_fld (pe_var (i := 0) rfl (visB_ok (by kernel_rfl)) (by decide) (by decide)) pe_dnewT (by rfl)))), ?_⟩
  refine ⟨by rw [sizeLine_eq]; show 0 ≤ _; omega, fun p hp => ?_⟩
  have nap : a ≠ p := ne_of_none ha hp
  refine ⟨.ref a, rfl, a, C, dx, [], rfl, by rw [upd_ne nap]; exact ha, cls, naW, by show 0 < 1000; omega, ?_⟩
  intro d hd
  have nda : a ≠ d := fun z => by subst z; rw [upd_same] at hd; cases hd
  rw [upd_ne (Ne.symm nda)] at hd
  have ndp : p ≠ d := fun z => by subst z; rw [upd_same] at hd; cases hd
  rw [upd_ne (Ne.symm ndp)] at hd
  refine ⟨.ref a, rfl, a, C, dx, _, rfl, by rw [upd_ne nda, upd_same], cls, naK, by show 1 < 1000; omega, ?_⟩
  refine q p d _ hp hd upd_same ?_ ?_ ndp fun b h1 h2 h3 => ?_
  · rw [upd_ne (Ne.symm nap), upd_ne ndp, upd_ne (Ne.symm nap), upd_same]
  · rw [upd_ne (Ne.symm nda), upd_same]
  · rw [upd_ne h1, upd_ne h3, upd_ne h1, upd_ne h2]
theorem SvOk.grow {K : PySem.W.Frag} {u u' : List Addr} {H H' : Hp} {v : V} {x : Sv} (hx : noX (some x) = true) (hn : ∀ a o, a ∉ u → H a = some o → a ∉ u') (sm : Same H H') (h : SvOk K u H v x) : SvOk K u' H' v x := by
  have tp : ∀ a xs, Rd H a (.tup xs) → Rd H' a (.tup xs) := fun a xs r => by
    rcases r with r | ⟨o, r⟩
    · exact .inl (sm _ _ r)
    · exact .inr ⟨o, sm _ _ r⟩
  have dv : ∀ v d, Dv K u H v d → Dv K u' H' v d := fun v d h => Dv.keep (fun a xs e => sm _ _ e) tp (h.out fun a xs na e => hn a _ na e)
  cases x with
  | d x => exact dv v x h
  | o a => exact h
  | c m =>
    obtain ⟨a, kvs, e, n, ha, hc⟩ := h
    refine ⟨a, kvs, e, hn a _ n ha, sm _ _ ha, ?_⟩
    clear ha hx
    induction hc with
    | nil => exact .nil
    | cons h _ ih => exact .cons (dv _ _ h) ih
  | x r => cases hx
section
variable {X : Cx} {W : Wd} {s : W.St} {δ : De} {N : W.St → De → Prop} {R : W.St → Sv → Prop} {sts : List Stmt} {pos p0 p1 p2 : Pos}
/-- name = C(), and what follows up to the end of the def -/
theorem sds_kin (i : Nat) {x cn : Str} {C fI : Addr} {fd : FuncData} {k : Nat} (nd : X.N.Nodup) (hδ : δ.all noX = true) (M : Mk X.K C fI) (F1 : FnOk X.prog X.w X.K X.mg X.base CX0 k fI fd p_K_init (spInit C)) (hbd : Binds X.K fd p_K_init []) (hr : Room (k + 1) X.A) (hm : X.mg cn = some (.ref C))
    (h : ∀ ka dx kw kd, SDs X (W.kin X.K C ka dx kw kd) sts (s, ⟨none, 0, none⟩) (δ.set i (some (.o ka))) (fun _ _ => False) (fun s' y => y = .x (pairO kd kw) ∧ ∃ d, s'.2.tp = some d ∧ R s'.1 (.x (retX s'.2.wr d))))
    (hg : glB X.env cn = true := by kernel_rfl) (hb : (nmB X.N i x && locC X x) = true := by kernel_rfl) (hs : swapsWith (.Call (.Name cn p0) [] [] p2) (some (.Name x p1)) pos.line X.env = pure false := by rfl) :
    SDs X W (.Assign [.Name x p1] (.Call (.Name cn p0) [] [] p2) pos :: sts) s δ N R := .mk fun σ H D hI hS hN hR => by
  rw [Bool.and_eq_true] at hb
  obtain ⟨hi, _, _⟩ := nmB_ok hb.1
  obtain ⟨hx, hf⟩ := locC_ok hb.2
  refine pss_w (pss_cons (ps_set (i := i) nd hi hx (pe_make0 (E := E0) M F1 hr (glB_ok hg).1 hm hbd .nil pass0 (glB_ok hg).2) hs hf) wSs_pss) ?_
  intro ka dx h1 h2 h3
  refine ⟨ka, dx, rfl, upd_same, fun kw kd H4 w1 w2 a1 a2 a3 a4 a5 => ⟨rfl, ?_⟩⟩
  have f1 : ∀ {b}, (upd (upd H dx (.own ka)) ka (.ins C dx [])) b = none → H b = none := fun {b} z => by
    have n1 : b ≠ ka := fun e => by rw [e, upd_same] at z; cases z
    rw [upd_ne n1] at z
    have n2 : b ≠ dx := fun e => by rw [e, upd_same] at z; cases z
    rwa [upd_ne n2] at z
  have hw := f1 w1
  have hd := f1 w2
  have sm : Same H H4 := fun b u e => by
    rw [a5 b (ne_of_none e h1) (ne_of_none e hw) (ne_of_none e hd), upd_ne (ne_of_none e h1), upd_ne (ne_of_none e h2)]
    exact e
  have hn : ∀ a o, a ∉ W.u → H a = some o → a ∉ ka :: kw :: kd :: W.u := fun a o na e => by
    simp only [List.mem_cons, not_or]
    exact ⟨ne_of_none e h1, ne_of_none e hw, ne_of_none e hd, na⟩
  have i4 : KinI X.K W C ka dx kw kd (s, ⟨none, 0, none⟩) H4 := ⟨W.same hI sm, W.fresh hI h1, W.fresh hI hw, W.fresh hI hd, a1, ⟨[], a2, .nil⟩, [], a3, Nat.le_refl _, fun d z => by cases z⟩
  have S4 : Sg X.K (ka :: kw :: kd :: W.u) H4 σ δ := ⟨hS.len, fun j y e => by
    obtain ⟨v, e1, e2⟩ := hS.at_ j y e
    have hy : noX (some y) = true := by
      rw [List.all_eq_true] at hδ
      exact hδ _ (List.mem_of_getElem? e)
    exact ⟨v, e1, e2.grow hy hn sm⟩⟩
  have back : ∀ {H'}, Mv (ka :: kw :: kd :: W.u) H4 H' → Mv W.u H H' := fun {H'} m a o na e => m a o (hn a o na e) (sm _ _ e)
  refine (h ka dx kw kd).run _ H4 D i4 (S4.set (show SvOk X.K _ H4 (.ref ka) (.o ka) from rfl)) (fun _ _ _ _ _ _ _ z => z.elim) fun v H' s' y m i' o q => ?_
  obtain ⟨rfl, d, hd', q⟩ := q
  obtain ⟨T, rfl, hT⟩ := o
  obtain ⟨b1, b2, b3, b4, b5, ⟨vs, b6, b7⟩, kvs, b8, b9, b10⟩ := i'
  obtain ⟨c1, z, c2, c3⟩ := b10 d hd'
  exact hR _ H' s'.1 (.x (retX s'.2.wr d)) (back m) b1 ⟨T, kd, kw, rfl, hT, ⟨kd, kvs, z, rfl, b4, b8, c2, c3.tups (fun _ _ r => r) c1⟩, .lst b3 b6 (b7.tups (fun _ _ r => r) (wr_noL _))⟩ q
end
end Kq
/-! K25: __init__ of an exception of the text: super().__init__(), then one field. -/
namespace Kq
open PySem PySem.Spec PyProof.Rows PySem.W L2
def cxS (CX : CXT) (P : Program) (w : World) (K : PySem.W.Frag) (mg : Str → Option Value) (base : Heap) (N : List Str) (en : Env) (A : Around) (outer : List Env) (s : Shared) (H : Hp) (E : XK) : Cx :=
  ⟨P, w, K, mg, base, A.deeper en, N, s, H, en, outer, en :: outer, [], fun _ => false, true, [], fun e s' => wpAny (model P w) (A.deeper en) (leaving en e) (fun _ s'' => CX outer H s E e s'') (fun e' s'' => CX outer H s E e' s'') s'⟩
section
variable {CX : CXT} {P : Program} {w : World} {K : PySem.W.Frag} {mg : Str → Option Value} {base h' : Heap} {N : List Str} {qual : Str} {scope : Scope} {f a C cc t : Addr} {cd : Value} {A : Around} {outer : List Env} {s : Shared} {H : Hp} {E : XK} {m : Str → Option Value} {σ : L2.St} {tk : Nat}
theorem inv_cell (hk : scope.kind = .function) (hfr : ∀ y, (scope.names.lookup y = some .cell ∨ scope.names.lookup y = some .free) → y = "__class__") (hd : A.handled = none) (e0 : Env0 P w K mg base A outer s H) (hns : h'.Ns s.heap.objs.size m)
    (keep : ∀ b o, b ≠ a → s.heap.get? b = some o → h'.get? b = some o) (ha : H a = some (exo a C none)) (ht : h'.get? a = some (excObj C t none .none)) {v : Option Value} (hc : h'.IsCell cc v) (hcH : H cc = none)
    (hl : σ.length = N.length) (loc : ∀ (i : Nat) (x : Str) (v : V), N[i]? = some x → σ[i]? = some (some v) → ∃ u, RelV v u ∧ scope.names.lookup x = some .local ∧ m x = some u) :
    Inv (cxS CX P w K mg base N (ksEnv qual scope s.heap.objs.size f cd cc) A outer s H E) [] σ H { s with heap := h', toks := tk } := by
  have one : ∀ {x : Str} {c : Addr}, ([("__class__", cc)] : List (Str × Addr)).lookup x = some c → x = "__class__" ∧ c = cc := fun {x c} h => by
    by_cases e : x = "__class__"
    · subst e
      simp [List.lookup] at h
      exact ⟨rfl, h.symm⟩
    · have : (x == ("__class__" : Str)) = false := by simpa using e
      simp [List.lookup, this] at h
  have own : ∀ {b : Addr} {x : Addr}, H b = some (.own x) → b ≠ a := fun {b x} e z => by
    rw [z, ha] at e
    exact exo_own (Option.some.inj e)
  have hok : HOk P w H h' := fun b o z => by
    by_cases hb : b = a
    · subst hb
      rw [ha] at z
      cases z
      exact exo_ok ht
    · refine (e0.hok b o z).stay (fun c v hc y => keep c v ?_ y) (fun c hc => hc) fun c xs hc => hc
      rcases hc with hc | hc
      · rw [hc]
        exact hb
      · exact own hc
  have na : ∀ {b : Addr}, H b = none → b ≠ a := fun {b} n z => by rw [z, ha] at n; cases n
  have un : Un (frs outer) [] H H s.heap h' := ⟨fun b o z n _ _ => keep b o (na n) z, fun b o z n _ _ => ⟨o.slots, keep b o (na n) z⟩, fun b o z n _ => n, fun b o z _ => by
    by_cases hb : b = a
    · rw [hb]
      exact ⟨_, ht⟩
    · exact ⟨o, keep b o hb z⟩, fun b xs z => z, fun b o u z => z, fun b ps z => ⟨#[], by rw [z]; simp⟩⟩
  exact {
    ok := {
      mod := e0.mod
      kind := hk
      glob := rfl
      blt := rfl
      above := Nat.le_refl _
      inj := fun x y c h1 h2 => by rw [(one h1).1, (one h2).1]
      has := fun x hx => ⟨cc, by rw [hfr x hx]; rfl⟩
      cab := fun x c h => by cases h
      hd := fun _ => hd
      frames := Around.frames_deeper e0.frames
      stk := .inr ⟨rfl, rfl⟩
      exf := fun b z => absurd z (by simp [cxS])
      bs := e0.bs
      bsz := e0.bsz
      noex := fun b o _ z => absurd z (by simp [cxS])
      exfs := fun b z => absurd z (by simp [cxS])
      funs := e0.funs
      frf := e0.frf }
    os := rfl
    bare := e0.bare
    base := un
    loc := ⟨m, hns, fun i x v h1 h2 h3 => by
      obtain ⟨u, r, k1, k2⟩ := loc i x v h1 h2
      exact ⟨u, r, .inl ⟨k1, k2⟩⟩⟩
    cell := fun x c h => by rw [(one h).2]; exact ⟨_, hc⟩
    free := e0.hok.fresh (Nat.le_refl _)
    freeC := fun x c h => by rw [(one h).2]; exact hcH
    pin := fun p hp => absurd (show p ∈ ([] : List (Addr × Obj)) from hp) (by simp)
    hok := hok
    len := hl }
end
def spWI (C : Addr) (f : Str) : Sp := fun vs H Q _ => ∃ a v, vs = [.ref a, v] ∧ H a = some (exo a C none) ∧ ∀ dx, H dx = none → dx ≠ a → Q .non (upd (upd H dx (exd dx [(f, v)])) a (exo a C (some dx)))
end Kq
/-! K26: such an __init__ keeps its promise. -/
namespace Kq
open PySem PySem.Spec PyProof.Rows PySem.W L2 PySem.Calls
section
variable {CX : CXT} {P : Program} {w : World} {K : PySem.W.Frag} {mg : Str → Option Value} {base : Heap} {k : Nat}
structure WtC (P : Program) (K : PySem.W.Frag) (mg : Str → Option Value) (scope : Scope) (C cc cda : Addr) (fld : Str) : Prop where
  kind : scope.kind = .function
  co : scope.isCoroutine = false
  gen : scope.isGenerator = false
  cells : ∀ x ∈ scope.names, x.2 ≠ .cell
  free : ∀ y, (scope.names.lookup y = some .cell ∨ scope.names.lookup y = some .free) → y = "__class__"
  sup : scope.names.lookup ("super" : Str) = some .globalImplicit
  cls : scope.names.lookup ("__class__" : Str) = some .free
  self : scope.names.lookup ("self" : Str) = some .local
  par : scope.names.lookup fld = some .local
  code : ∃ ccl cdd vs ccs file tf, K.lookup cda = some ⟨ccl, cdd, .fields vs, ccs⟩ ∧ vs[2]? = some (.str file tf) ∧ ((P.main.file : Str) == file) = true
  cell : ∃ cl cld csl, K.lookup cc = some ⟨cl, cld, .cell (some (.ref C)), csl⟩
  dat : ∃ cdD, clsIn K C = some cdD
  sub : mroIn K C (.ref C) = some true
  ve : subIn K (.ref C) (.type "ValueError") = some true
  supI : ks_superIn K C C "__init__" = some (some (.builtin "ValueError.__init__"))
  any : nsIn K cStatics "thirdparty.any" = some none
  mgs : mg "super" = none
  top : (P.main.scope.names.lookup ("super" : Str)).isSome = false
  ini : excInitIn K C [.type "ValueError", .type "Exception", .type "BaseException", .type "object"] "ValueError.__new__" = true
  fld : findIn K (.ref C) fld = some none
  oex : OexC K C
theorem wti_ok {qual fld : Str} {params : Arguments} {scope : Scope} {dV kV doc pm ct oc : Value} {an od : Option Addr} {osl : Array (Option Value)} {f C cc cda : Addr} {ar : Arg} {q0 q1 q2 q3 q4 q5 q6 q7 q8 : Pos} {pl : Sem Bool}
    (S : WtC P K mg scope C cc cda fld) (hpar : (params.posonlyargs ++ params.args).head? = some ar) (har : ar.arg = "self") (hne : fld ≠ "self") (hfd : (fld == ("__debug__" : Str)) = false) (hfd2 : (fld == ("__classdict__" : Str)) = false)
    (lk : K.lookup f = some ⟨oc, od, .func (ksFn "__init__" qual params [.Expr (.Call (.Attribute (.Call (.Name "super" q0) [] [] q1) "__init__" q2) [] [] q3) q4, .Assign [.Attribute (.Name "self" q5) fld q6] (.Name fld q7) q8] scope dV kV doc pm an (.ref cda) ct cc), osl⟩)
    (hcd : codeIn K (.ref cda) qual = true)
    (he : ∀ L, eval (.Call (.Attribute (.Call (.Name "super" q0) [] [] q1) "__init__" q2) [] [] q3) (ksEnv qual scope L f (.ref cda) cc) = (do
      let ov ← attributeBase (.Call (.Name "super" q0) [] [] q1) "__init__" (ksEnv qual scope L f (.ref cda) cc) (eval (.Call (.Name "super" q0) [] [] q1) (ksEnv qual scope L f (.ref cda) cc))
      standAt q2.atName
      let (g, first) ← holding [ov] (getMethod ov "__init__" pl)
      callWith q3 g first (backTo q3 (starEach [] (ksEnv qual scope L f (.ref cda) cc))) []))
    (hs2 : ∀ L, swapsWith (.Name fld q7) (some (.Attribute (.Name "self" q5) fld q6)) q8.line (ksEnv qual scope L f (.ref cda) cc) = pure false) :
    FnOk P w K mg base CX (k + 1) f (ksFn "__init__" qual params [.Expr (.Call (.Attribute (.Call (.Name "super" q0) [] [] q1) "__init__" q2) [] [] q3) q4, .Assign [.Attribute (.Name "self" q5) fld q6] (.Name fld q7) q8] scope dV kV doc pm an (.ref cda) ct cc) ["self", fld] (spWI C fld) := by
  refine ⟨fun vs H Q E h => ?_, fun A outer s H args us vs Q E hr e0 hb r hsp => ?_⟩
  · obtain ⟨a, v, rfl, _⟩ := h
    rfl
  obtain ⟨a, v, rfl, ha, q⟩ := hsp
  obtain ⟨u, rfl, ru⟩ : ∃ u, us = [.ref a, u] ∧ RelV v u := by
    cases r with
    | cons r1 r2 =>
      cases r2 with
      | cons r3 r4 =>
        cases r4
        have e : _ = Value.ref a := r1
        subst e
        exact ⟨_, rfl, r3⟩
  have KX : K.In s.heap := e0.mod.kin.keeps fun b o e => (e0.bs b o e).1
  have lim : s.heap.NoLimit := e0.mod.nolimit.keeps fun b o e => (e0.bs b o e).1
  obtain ⟨cl, cld, csl, hcell⟩ := S.cell
  obtain ⟨ccl, cdd, vs, ccs, file, tf, hcode, hvs, hfile⟩ := S.code
  obtain ⟨cdD, hcls⟩ := S.dat
  obtain ⟨mb, mb1, mb2⟩ := e0.mod.blt
  have selfne : ("self" : Str) ≠ fld := fun z => hne z.symm
  refine ks_codeAny_call_defAt hr.depth (KX _ _ lk) rfl lim (codeRec_of KX hcd) rfl hb S.cells (fun y hy => ?_) (fun h1 hns hk1 => ?_) S.co S.gen S.kind
  · rcases List.mem_cons.mp hy with rfl | hy
    · exact S.self
    · rcases List.mem_cons.mp hy with rfl | hy
      · exact S.par
      · cases hy
  obtain ⟨t0, hexc⟩ := exo_at e0.hok ha
  have hlt := Heap.lt_size hexc
  have K1 : K.In h1 := fun b o e => hk1 b o (KX b o e)
  have x1 := hk1 _ _ hexc
  have mself : (fun y => (([("self", .ref a), (fld, u)] : List (Str × Value)).reverse.lookup y)) "self" = some (.ref a) := by
    have : (("self" : Str) == fld) = false := by simpa using selfne
    simp [List.lookup, this]
  have mfld : (fun y => (([("self", .ref a), (fld, u)] : List (Str × Value)).reverse.lookup y)) fld = some u := by
    simp [List.lookup]
  show _root_.PySem.wpAt (model P w) (A.deeper (ksEnv qual scope s.heap.objs.size f (.ref cda) cc)) (.func _ (ksEnv qual scope s.heap.objs.size f (.ref cda) cc)) (execs _ (ksEnv qual scope s.heap.objs.size f (.ref cda) cc)) _ _ _
  have hs1 : swapsWith (.Call (.Attribute (.Call (.Name "super" q0) [] [] q1) "__init__" q2) [] [] q3) none q4.line (ksEnv qual scope s.heap.objs.size f (.ref cda) cc) = pure false := by rfl
  refine ks_wpAt_execs_cons (ks_wpAt_Expr_any (ks_wpAt_MethodCall ?_ (he _)) (by unfold interactive; rw [show (ksEnv qual scope s.heap.objs.size f (.ref cda) cc).scope = scope from rfl, S.kind]; rfl) hs1)
  refine ks_wpAt_super_base (env := ksEnv qual scope s.heap.objs.size f (.ref cda) cc) S.sup S.cls (by decide +kernel) rfl (K1 _ _ lk) rfl hpar rfl (K1 _ _ hcode) rfl hvs hfile S.top ?_
  rw [har]
  have B1 : ∀ b o, base.get? b = some o → h1.get? b = some o := fun b o e => hk1 b o (e0.bs b o e).1
  refine ks_loadName_global S.kind S.sup (loadGlobal_builtin (e0.mod.glob.keeps B1) S.mgs (mb1.keeps B1) ((mb2 _ (by decide)).trans (show bootBuiltins "super" = some (.type "super") by decide +kernel)) ⟨rfl, ?_⟩)
  refine wpAny_loadName_free S.kind S.cls (c := cc) (v := .ref C) rfl ⟨_, K1 _ _ hcell, rfl⟩ ?_
  refine wpAny_loadName_local S.kind S.self hns mself ?_
  obtain ⟨oD, hD1, hD2⟩ : ∃ oD, h1.get? C = some oD ∧ oD.data = .cls cdD := by
    unfold clsIn at hcls
    split at hcls
    · rename_i c d cd' sl ho
      cases hcls
      exact ⟨_, K1 _ _ ho, rfl⟩
    · cases hcls
  refine ks_wpAny_isType_cls hD1 hD2 ⟨rfl, ?_⟩
  refine ks_wpAny_call_super hD1 hD2 x1 rfl (fun c e => by cases e) (looks_mroIn K1 S.sub) (fun h2 so2 hk2 => ?_)
  have K2 : K.In h2 := fun b o e => hk2 b o (K1 b o e)
  have x2 := hk2 _ _ x1
  have I2 : W.InstAt h2 a (excObj C t0 none .none) C none := ⟨x2, rfl, rfl, trivial⟩
  have aneC : a ≠ C := ks_ne K2 I2 hcls
  have hsup := S.supI
  unfold ks_superIn at hsup
  rw [hcls] at hsup
  refine kxs_getMethod kxs_ValueError so2 (looks_opaque K2 S.any) (l₀ := cdD.mro) (fun A Q E s k q => wpAny_bind ((looks_clsIn K2 hcls) A _ E s k (wpAny_pure q))) rfl K2 hsup (I2.type.andThen (looks_subIn K2 S.ve)) aneC (by decide +kernel) ?_
  have hk3 : ∀ b o, h2.get? b = some o → (h2.push (kxs_mw "ValueError.__init__" a)).get? b = some o := fun b o e => Heap.get?_push_of_some _ e
  have m3 : (h2.push (kxs_mw "ValueError.__init__" a)).get? h2.objs.size = some (kxs_mw "ValueError.__init__" a) := Heap.get?_push_at rfl rfl
  have x3 := hk3 _ _ x2
  have all3 : ∀ b o, s.heap.get? b = some o → (h2.push (kxs_mw "ValueError.__init__" a)).get? b = some o := fun b o e => hk3 b o (hk2 b o (hk1 b o e))
  generalize hh3 : h2.push (kxs_mw "ValueError.__init__" a) = h3 at hk3 m3 x3 all3 ⊢
  have K3 : K.In h3 := fun b o e => hk3 b o (K2 b o e)
  refine kxs_callWith (i := "ValueError.__init__") (x := a) rfl (evalArgs_empty ⟨m3, ?_⟩)
  have ns3 : h3.Ns s.heap.objs.size (fun y => (([("self", .ref a), (fld, u)] : List (Str × Value)).reverse.lookup y)) := hns.keeps fun b o e => hk3 b o (hk2 b o e)
  have Fr3 : Fr (hideAll s.heap [a]) s.heap.objs.size h3 (fun y => (([("self", .ref a), (fld, u)] : List (Str × Value)).reverse.lookup y)) := ⟨ns3, fun b o e => all3 b o (of_hideAll _ e), Nat.le_of_eq (hideAll_size _ _)⟩
  have Llt : s.heap.objs.size < h2.objs.size := by
    obtain ⟨oL, _, _, e, _⟩ := hns
    exact Heap.lt_size (hk2 _ _ e)
  have hn0 : ∀ {b : Addr}, s.heap.objs.size ≤ b → (hideAll s.heap [a]).get? b = none := fun {b} hb => by
    cases z : (hideAll s.heap [a]).get? b with
    | none => rfl
    | some o =>
      exact absurd hb (Nat.not_le.mpr (Heap.lt_size (of_hideAll _ z)))
  have N3 : News (hideAll s.heap [a]) s.heap.objs.size h3 [(h2.objs.size, kxs_mw "ValueError.__init__" a), (a, excObj C t0 none .none)] := fun p hp => by
    rcases List.mem_cons.mp hp with rfl | hp
    · exact ⟨m3, Nat.ne_of_gt Llt, hn0 (Nat.le_of_lt Llt)⟩
    · rcases List.mem_cons.mp hp with rfl | hp
      · exact ⟨x3, Nat.ne_of_lt hlt, hideAll_none _ (by simp)⟩
      · cases hp
  have bna : ∀ b o, base.get? b = some o → b ≠ a := fun b o e z => by
    have := (e0.bs b o e).2
    rw [z, ha] at this
    cases this
  have KH : K.In (hideAll s.heap [a]) := fun b o e => hideAll_get _ (KX b o e) (by simpa using bna b o (e0.mod.kin b o e))
  refine kxs_call (rest := []) Fr3 KH N3 PySem.F.excBase_ValueError S.ini (by simp) (.tail (Nat.ne_of_gt (Nat.lt_trans hlt Llt)) (.head (by simp))) (Nat.zero_le _) (fun t4 h4 Fr4 N4 _ => ?_)
  have x4 : h4.get? a = some (excObj C t4 none .none) := (N4 (a, excObj C t4 none .none) (by simp)).1
  have keep4 : ∀ b o, b ≠ a → s.heap.get? b = some o → h4.get? b = some o := fun b o hb e => Fr4.keep b o (hideAll_get _ e (by simpa using hb))
  obtain ⟨ocl, hcell0, hcell1⟩ : ∃ o, base.get? cc = some o ∧ o.data = .cell (some (.ref C)) := ⟨_, e0.mod.kin _ _ hcell, rfl⟩
  have ccH := (e0.bs _ _ hcell0).2
  have I4 := inv_cell (CX := CX) (E := E) (K := K) (mg := mg) (base := base) (N := ["self", fld]) (qual := qual) (f := f) (cd := .ref cda) (cc := cc) (C := C) (t := t4) (σ := [some (.ref a), some v]) (tk := s.toks + 2 + 1) S.kind S.free hr.hd e0 Fr4.ns keep4 ha x4 (v := some (.ref C)) ⟨ocl, keep4 _ _ (bna _ _ hcell0) (e0.bs _ _ hcell0).1, hcell1⟩ ccH rfl (fun i y z h1 h2 => by
    match i with
    | 0 =>
      cases h1
      cases h2
      exact ⟨.ref a, rfl, S.self, mself⟩
    | 1 =>
      cases h1
      cases h2
      exact ⟨u, ru, S.par, mfld⟩
    | _ + 2 => cases h1)
  have St : PSs (cxS CX P w K mg base ["self", fld] (ksEnv qual scope s.heap.objs.size f (.ref cda) cc) A outer s H E) [.Assign [.Attribute (.Name "self" q5) fld q6] (.Name fld q7) q8] _ := pss_one (ps_ost (pe_var (i := 0) rfl (.inl S.self) (by decide) (by decide)) (pe_var (i := 1) rfl (.inl S.par) hfd hfd2) (hs2 _))
  have fin : wpAny (model P w) (A.deeper (ksEnv qual scope s.heap.objs.size f (.ref cda) cc)) (execs [.Assign [.Attribute (.Name "self" q5) fld q6] (.Name fld q7) q8] (ksEnv qual scope s.heap.objs.size f (.ref cda) cc)) _ _ { s with heap := h4, toks := s.toks + 2 + 1 } :=
    St.run [] _ [some (.ref a), some v] H { nx := fun _ H' => Q .non H', rt := Q } I4 ⟨v, rfl, .ref a, rfl, a, C, rfl, S.oex, S.fld, .inl ⟨ha, fun dx n ne => q dx n ne⟩⟩
  refine wpAt_of_wpAny (wpAny_mono fin (fun fl s' hs => ?_) fun e s' hs => hs)
  have last : ∀ {σ' : L2.St} {H' : Hp} {v : V} {u : Value}, Inv (cxS CX P w K mg base ["self", fld] (ksEnv qual scope s.heap.objs.size f (.ref cda) cc) A outer s H E) [] σ' H' s' → RelV v u → Q v H' → CE outer P w H s Q u s' :=
    fun {σ' H' v u} J rv q => ⟨v, H', J.os, J.bare, J.base, J.hok, rv, q⟩
  cases fl with
  | ret u =>
    obtain ⟨v, σ', H', J, rv, q⟩ := hs
    exact last J rv q
  | next =>
    obtain ⟨σ', H', J, q⟩ := hs
    exact last (v := V.non) (u := Value.none) J rfl q
  | brk =>
    obtain ⟨_, _, _, q⟩ := hs
    exact False.elim q
  | cont =>
    obtain ⟨_, _, _, q⟩ := hs
    exact False.elim q
end
end Kq
/-! K27: raise C(e). -/
namespace Kq
open PySem PySem.Spec PyProof.Rows L2
/-- an exception of the text, as it stands behind the top -/
structure WtK (P : Program) (w : World) (K : PySem.W.Frag) (mg : Str → Option Value) (base : Heap) (cn fld : Str) (C : Addr) : Prop where
  gm : mg cn = some (.ref C)
  oex : OexC K C
  xf : XfC K C
  nof : PySem.W.findIn K (.ref C) fld = some none
  exm : PySem.W.exmOne K (.ref C) (.ref C) = some true
  ini : ∃ fI fd, PySem.W.findIn K (.ref C) "__init__" = some (some (.ref fI)) ∧ PySem.W.typeIn K (.ref fI) = some (.type "function") ∧ FnOk P w K mg base CX0 1 fI fd ["self", fld] (spWI C fld) ∧ L2.Binds K fd ["self", fld] []
section
variable {X : Cx} {W : Wd} {s : W.St} {δ : De} {e : Expr} {cn fld : Str} {C : Addr} {p pos pos' : Pos} {Wx : WX} {σ : L2.St} {H : Hp} {D : Ends} {d0 : PyData}
theorem raise_w (F : WtK X.prog X.w X.K X.mg X.base cn fld C) (hr : Room 2 X.A) (hc : X.calm = true) (tk : Takes X Wx) (hd : noL d0 = true) (hI : W.I s H) (hS : Sg X.K W.u H σ δ) (h : ED X W e s δ fun s1 x => s1 = s ∧ x = .d d0)
    (q : ∀ dd v H', Mv W.u H H' → W.I s H' → dd ∉ W.u → H' dd = some (.xd [(fld, v)]) → Dv X.K W.u H' v d0 → Wx (.ref C) (some dd) σ H') (hg : glB X.env cn = true := by kernel_rfl)
    (he : starEach (e :: []) X.env = (false, eval e X.env) :: starEach [] X.env := by kernel_rfl) (hpl : (backTo pos (starEach ([] : List Expr) X.env)).any (·.1) = false := by kernel_rfl) :
    wS X (.Raise (some (.Call (.Name cn p) [e] [] pos)) none pos') D σ H := by
  obtain ⟨fI, fd, i1, i2, i3, i4⟩ := F.ini
  refine ps_w (ps_raise hc tk (pmk_oex F.oex i1 i2 i3 hr i4 .nil pass0 (glB_ok hg).1 F.gm wA_pa (glB_ok hg).2 he hpl)) ?_
  have hA : AD X W [e] s δ fun s1 xs => s1 = s ∧ xs = [.d d0] := ad_c (ed_imp h fun s1 x z => ad_nil ⟨z.1, by rw [z.2]⟩) he
  show wA X [e] σ H _
  refine hA.run σ H _ hI hS fun vs H1 s1 xs m1 j1 o1 q1 => ?_
  obtain ⟨rfl, rfl⟩ := q1
  obtain ⟨v, rfl, ov⟩ := o1.one
  refine ⟨by show 1 ≤ _; omega, fun a ha => ?_⟩
  refine ⟨a, v, rfl, upd_same, fun dx hx ne => ?_⟩
  have hx1 : H1 dx = none := by rw [upd_ne ne] at hx; exact hx
  refine ⟨rfl, dx, [(fld, v)], upd_same, by rw [upd_ne ne, upd_same], hx1, ?_⟩
  have eH : upd (del (upd (upd (upd H1 a (exo a C none)) dx (exd dx [(fld, v)])) a (exo a C (some dx))) a) dx (.xd [(fld, v)]) = upd H1 dx (.xd [(fld, v)]) := by
    funext b
    by_cases hb : b = dx
    · rw [hb, upd_same, upd_same]
    · rw [upd_ne hb, upd_ne hb]
      by_cases hb2 : b = a
      · rw [hb2, del_same, ha]
      · rw [del_ne hb2, upd_ne hb2, upd_ne hb, upd_ne hb2]
  rw [eH]
  have ov2 : Dv X.K W.u H1 v d0 := ov
  exact q dx v _ (m1.trans (Mv.new hx1)) (W.new j1 hx1) (W.fresh j1 hx1) upd_same (Dv.mv (Mv.new hx1) (W.mu _ _ j1) ov2)
end
/-! ### a def that lets such an exception out -/
abbrev GT := ∀ W : Wd, W.St → List Sv → PyData → Prop
def spR (K : PySem.W.Frag) (C : Addr) (fld : Str) (G : GT) : Sp := fun vs H _ E => ∃ (W : Wd) (s : W.St) (xs : List Sv) (d0 : PyData), W.I s H ∧ SvA K W.u H vs xs ∧ G W s xs d0 ∧
  ∀ dd v H', Mv W.u H H' → W.I s H' → dd ∉ W.u → H' dd = some (.xd [(fld, v)]) → Dv K W.u H' v d0 → E (.ref C) (some dd) H'
structure FcR (P : Program) (w : World) (K : PySem.W.Frag) (mg : Str → Option Value) (base : Heap) (k : Nat) (x : Str) (C : Addr) (fld : Str) (G : GT) : Prop where
  ex : ∃ f fd ps, FnOk P w K mg base (L2.CX P w) k f fd ps (spR K C fld G) ∧ mg x = some (.ref f) ∧ PySem.W.keepIn K (.ref f) = true ∧ L2.Binds K fd ps []
section
variable {P : Program} {w : World} {K : PySem.W.Frag} {mg : Str → Option Value} {base : Heap} {x : Str} {st : Stmt} {ps N : List Str} {k : Nat} {C : Addr} {fld : Str} {G : GT}
theorem FcR.mono {j : Nat} (F : FcR P w K mg base j x C fld G) (h : j ≤ k) : FcR P w K mg base k x C fld G := by
  obtain ⟨f, fd, ps, h1, h2⟩ := F.ex
  exact ⟨f, fd, ps, h1.mono h, h2⟩
theorem Hd.goR (D : Hd K mg x st ps []) (S : FnScope N ps (defScope st)) (len : ∀ W s xs d, G W s xs d → xs.length = ps.length)
    (hbody : ∀ (f : Addr) (cdv : Value) (A : Around) (outer : List Env) (s : Shared) (H0 : Hp) (E : XK), Room k (A.deeper (envOfC x (defScope st) s.heap.objs.size f cdv)) → ∀ (W : Wd) (t : W.St) (xs : List Sv) (d0 : PyData) (D : Ends) (Wx : WX), G W t xs d0 →
      Takes (cxOf (L2.CX P w) P w K mg base N x (defScope st) f cdv A outer s H0 E) Wx → ∀ σ H, W.I t H → Sg K W.u H σ (startD N xs) →
      (∀ dd v H' σ', Mv W.u H H' → W.I t H' → dd ∉ W.u → H' dd = some (.xd [(fld, v)]) → Dv K W.u H' v d0 → Wx (.ref C) (some dd) σ' H') →
      wSs (cxOf (L2.CX P w) P w K mg base N x (defScope st) f cdv A outer s H0 E) (defBody st) D σ H) : FcR P w K mg base (k + 1) x C fld G := by
  obtain ⟨f, fd, dv0, dvs, ds, h1, h2, h3, h4, h5, h6⟩ := D.ex
  have hds : ds = [] := by
    have : DvA K [] (fun _ => none) dvs [] := h6 [] _
    cases this
    cases h5
    rfl
  subst hds
  refine ⟨f, fd, ps, h1.ok S (fun vs H Q E h => ?_) (fun cdv A outer s H vs Q E hr h => ?_), h2, h3, h4⟩
  · obtain ⟨W, t, xs, d0, hI, hA, hG, _⟩ := h
    rw [hA.length]
    exact len W t xs d0 hG
  · obtain ⟨W, t, xs, d0, hI, hA, hG, hE⟩ := h
    refine ⟨_, wSs_pss, hbody f cdv A outer s H E hr W t xs d0 _ (fun cls d _ H' => E cls d H') hG (takes_of rfl rfl rfl rfl) (L2.start N vs) H hI hA.begin fun dd v H' _ m i n e o => hE dd v H' m i n e o⟩
end
end Kq
/-! K28: a call that lets an exception out. -/
namespace Kq
open PySem PySem.Spec PyProof.Rows L2
section
variable {X : Cx} {W : Wd} {s : W.St} {δ : De} {e : Expr} {es : List Expr} {x fld : Str} {C : Addr} {p pos : Pos} {Wx : WX} {σ : L2.St} {H : Hp} {R : VK} {d0 : PyData} {k : Nat} {G : GT}
theorem callR_w (F : FcR X.prog X.w X.K X.mg X.base k x C fld G) (hr : Room k X.A) (tk : Takes X Wx) (hI : W.I s H) (hS : Sg X.K W.u H σ δ) (h : AD X W (e :: es) s δ fun s1 xs => s1 = s ∧ G W s xs d0)
    (q : ∀ dd v H', Mv W.u H H' → W.I s H' → dd ∉ W.u → H' dd = some (.xd [(fld, v)]) → Dv X.K W.u H' v d0 → Wx (.ref C) (some dd) σ H') (hg : glB X.env x = true := by kernel_rfl)
    (he : starEach (e :: es) X.env = (false, eval e X.env) :: starEach es X.env := by kernel_rfl) (hpl : (backTo pos (starEach es X.env)).any (·.1) = false := by kernel_rfl) :
    wE X (.Call (.Name x p) (e :: es) [] pos) σ H R := by
  obtain ⟨f, fd, ps, h1, h2, h3, h4⟩ := F.ex
  refine pe_w (pe_callS (E := fun σ => WE Wx σ) h1 hr (glB_ok hg).1 h2 h3 h4 (passAt tk) wA_pa (glB_ok hg).2 he hpl) ?_
  refine h.run σ H _ hI hS fun vs H1 s1 xs m1 j1 o1 q1 => ?_
  obtain ⟨rfl, q1⟩ := q1
  exact ⟨W, s1, xs, d0, j1, o1, q1, fun dd v H' m i n a o => q dd v H' (m1.trans m) i n a o⟩
end
end Kq
/-! K29: repr of data; defs that know that no repr is under way. -/
namespace Kq
open PySem PySem.Spec PyProof.Rows L2
/-! ### repr -/
section
variable {X : Cx} {W : Wd} {s : W.St} {Q : W.St → Sv → Prop}
def rReprD (X : Cx) (xs : List V) (H : Hp) (Q : VK) : Prop := ∃ (a : Addr) (ds : List PyData), xs = [.ref a] ∧ Dp X.K H (.ref a) (.list ds) ∧ (PyData.list ds).showable = true ∧ (PyData.list ds).hasDict = false ∧ X.A.guards = some [] ∧ X.A.units + ((PyData.list ds).depth + 1) < cLine ∧ (PyData.list ds).shown.length ≤ sizeLine ∧ Q (.str (PyData.list ds).shown) H
theorem callR_repr : CallR X (.builtin "repr") (rReprD X) := by
  intro pins s σ H xs us Q I r ⟨a, ds, e, h1, h2, h3, h4, h5, h6, q⟩
  subst e
  cases r with
  | cons ra rn =>
    cases rn
    have e : _ = Value.ref a := ra
    subst e
    obtain ⟨as, rd⟩ := Dp.reads I _ _ _ h1 (show RelV (.ref a) (.ref a) from rfl)
    exact repr_of_reads' rd h2 (fun z => by rw [h3] at z; cases z) h4 h5 (fun _ _ e => e) (fun h' u tk k => ⟨.str _, H, I.kept k, ⟨u, rfl⟩, q⟩) h6
theorem cd_repr {ds : List PyData} {k : Nat} (hr : Room k X.A) (hg : X.A.guards = some []) (h2 : (PyData.list ds).showable = true) (h3 : (PyData.list ds).hasDict = false) (h5 : (PyData.list ds).depth ≤ 62) (h6 : (PyData.list ds).shown.length ≤ sizeLine) (q : Q s (.d (.str (PyData.list ds).shown))) :
    CD X W (.builtin "repr") [.d (.list ds)] s Q := .mk fun vs H R hI o hR => by
  obtain ⟨v, rfl, ov⟩ := o.one
  have ov : Dv X.K W.u H v (.list ds) := ov
  cases ov with
  | @lst a xs _ n e hA =>
    have u64 := ru64 hr
    exact call_w callR_repr ⟨a, ds, rfl, .lst (SqL.of e) hA.dp, h2, h3, hg, by omega, h6, hR _ H s _ Mv.refl hI (Dv.str _).sv q⟩
theorem od_eqT {x : Str} (q : Q s (.d (.bool true))) : OD X W (compareOp .Eq) (.d (.str x)) (.d (.str x)) s Q := .mk fun v w H R hI o1 o2 hR => by
  cases o1
  cases o2
  refine op_w op_eq ⟨rfl, ?_⟩
  have := hR (.bl true) H s (.d (.bool true)) Mv.refl hI (Dv.bl true).sv q
  simpa using this
end
/-! ### promises where no repr is under way -/
structure FnG (P : Program) (w : World) (K : PySem.W.Frag) (mg : Str → Option Value) (base : Heap) (CX : CXT) (k : Nat) (f : Addr) (fd : FuncData) (ps : List Str) (sp : Sp) : Prop where
  len : ∀ vs H Q E, sp vs H Q E → vs.length = ps.length
  go : ∀ (A : Around) (outer : List Env) (s : Shared) (H : Hp) (args : Args) (us : List Value) (vs : List V) (Q : VK) (E : XK), Room k A → A.guards = some [] → Env0 P w K mg base A outer s H → BindsTo s fd args (ps.zip us) → Vals vs us → sp vs H Q E → codeAny (model P w) A (.call (.ref f) args) (CR CX outer P w H s Q E) s
structure FcG (P : Program) (w : World) (K : PySem.W.Frag) (mg : Str → Option Value) (base : Heap) (k : Nat) (x : Str) (F : FT) : Prop where
  ex : ∃ f fd ps, FnG P w K mg base CX0 k f fd ps (spD K F) ∧ mg x = some (.ref f) ∧ PySem.W.keepIn K (.ref f) = true ∧ L2.Binds K fd ps []
section
variable {P : Program} {w : World} {K : PySem.W.Frag} {mg : Str → Option Value} {base : Heap} {k : Nat} {x : Str} {F : FT}
theorem FcG.mono {j : Nat} (C : FcG P w K mg base j x F) (h : j ≤ k) : FcG P w K mg base k x F := by
  obtain ⟨f, fd, ps, h1, h2⟩ := C.ex
  exact ⟨f, fd, ps, ⟨h1.len, fun A outer s H args us vs Q E hr => h1.go A outer s H args us vs Q E (hr.mono h)⟩, h2⟩
theorem fnG_of {f : Addr} {qual : Str} {params : Arguments} {body : List Stmt} {scope : Scope} {dv0 : List V} {fd : FuncData} {N ps : List Str} {sp : Sp} (Fu : FunD K x qual params body scope dv0 [] f fd) (S : FnScope N ps scope) (len : ∀ vs H Q E, sp vs H Q E → vs.length = ps.length)
    (hbody : ∀ (cdv : Value) (A : Around) (outer : List Env) (s : Shared) (H : Hp) (vs : List V) (Q : VK) (E : XK), A.guards = some [] → Room k (A.deeper (envOfC qual scope s.heap.objs.size f cdv)) → sp vs H Q E → wSs (cxOf CX0 P w K mg base N qual scope f cdv A outer s H E) body { nx := fun _ H' => Q .non H', rt := Q } (start N vs) H) :
    FnG P w K mg base CX0 (k + 1) f fd ps sp := by
  obtain ⟨oc, od, dV, kV, doc, pm, an, cdv, ct, osl, rfl, lk, hcd, _⟩ := Fu.ex
  refine ⟨len, fun A outer s H args us vs Q E hr hg e0 hb r hsp => ?_⟩
  have below : ∀ b o, base.get? b = some o → s.heap.get? b = some o := fun b o e => (e0.bs b o e).1
  have inK : K.In s.heap := e0.mod.kin.keeps below
  refine codeAny_call_function hr.depth (inK _ _ lk) rfl S.co S.gen rfl (PySem.W.codeRec_of inK hcd) (hb _ _ _ _ ?_)
  refine wpAny_newFunctionEnv_cells S.kind (fun y hy => ?_) fun env he s1 entered => ?_
  · cases S.par y.1 (List.of_mem_zip (show (y.1, y.2) ∈ ps.zip us from hy)).1 with
    | inl q => exact .inl q
    | inr q => exact .inr ⟨q, PySem.W.cellsFrom_some _ _ _ (.inl q)⟩
  · subst he
    refine ⟨(e0.mod.nolimit.keeps below).keeps entered.toInCall.keep, codeAny_func ?_⟩
    have I := inv_start (CX := CX0) (E := E) S hr.hd e0 (len _ _ _ _ hsp) r entered
    refine wpAny_mono (hbody cdv A outer s H vs Q E hg (hr.deeper _) hsp [] s1 I) (fun fl s' hs => ?_) (fun e s' hs => hs)
    match fl, hs with
    | .ret u, ⟨v, σ', H', J, rv, q⟩ => exact ⟨v, H', J.os, J.bare, J.base, J.hok, rv, q⟩
    | .next, ⟨σ', H', J, q⟩ => exact ⟨.non, H', J.os, J.bare, J.base, J.hok, rfl, q⟩
    | .brk, ⟨_, _, _, q⟩ => exact q.elim
    | .cont, ⟨_, _, _, q⟩ => exact q.elim
theorem Hd.goG {st : Stmt} {N ps : List Str} (D : Hd K mg x st ps []) (S : FnScope N ps (defScope st)) (len : ∀ W s xs Q, F W s xs Q → xs.length = ps.length)
    (hbody : ∀ (f : Addr) (cdv : Value) (A : Around) (outer : List Env) (s : Shared) (H : Hp) (E : XK), A.guards = some [] → Room k (A.deeper (envOfC x (defScope st) s.heap.objs.size f cdv)) → ∀ (W : Wd) (t : W.St) (xs : List Sv) (Q : W.St → Sv → Prop), F W t xs Q →
      SDs (cxOf CX0 P w K mg base N x (defScope st) f cdv A outer s H E).nox W (defBody st) t (startD N xs) (fun t' _ => Q t' (.d .none)) Q) : FcG P w K mg base (k + 1) x F := by
  obtain ⟨f, fd, dv0, dvs, ds, h1, h2, h3, h4, h5, h6⟩ := D.ex
  have hds : ds = [] := by
    have : DvA K [] (fun _ => none) dvs [] := h6 [] _
    cases this
    cases h5
    rfl
  subst hds
  refine ⟨f, fd, ps, fnG_of h1 S (fun vs H Q E h => ?_) (fun cdv A outer s H vs Q E hg hr h => ?_), h2, h3, h4⟩
  · obtain ⟨W, t, xs, QQ, hI, hA, hF, _⟩ := h
    rw [hA.length]
    exact len W t xs QQ hF
  · obtain ⟨W, t, xs, QQ, hI, hA, hF, hQ⟩ := h
    refine pss_w (PSs.nox wSs_pss) ?_
    exact (hbody f cdv A outer s H E hg hr W t xs QQ hF).run (L2.start N vs) H _ hI hA.begin (fun σ' H' t' δ' m i g q => hQ _ H' t' _ m i Dv.non.sv q) hQ
end
end Kq
/-! K30: calls of such defs. -/
namespace Kq
open PySem PySem.Spec PyProof.Rows L2
abbrev FcGX (X : Cx) := FcG X.prog X.w X.K X.mg X.base
section
variable {X : Cx} {W : Wd} {s : W.St} {δ : De} {Q : W.St → Sv → Prop} {e : Expr} {es : List Expr} {x : Str} {p pos : Pos} {k : Nat} {F : FT}
theorem goG {f : Addr} {fd : FuncData} {ps : List Str} {sp : Sp} {pins : List (Addr × Obj)} {σ : L2.St} {H : Hp} {s1 : Shared} {R : VK} {us : List Value} {vs : List V} (G : FnG X.prog X.w X.K X.mg X.base CX0 k f fd ps sp) (hr : Room k X.A) (hg : X.A.guards = some []) (hb : L2.Binds X.K fd ps [])
    (I : Inv X pins σ H s1) (r : Vals vs us) (h : sp vs H R E0) : wpAny (model X.prog X.w) X.A (call (.ref f) us) (EP X pins σ R) X.xe s1 := by
  have n : us.length = ps.length := r.length.symm.trans (G.len _ _ _ _ h)
  have b : BindsTo s1 fd ⟨us, []⟩ (ps.zip us) := by
    have z := hb s1 us I.kIn (by rw [List.append_nil, n])
    rwa [List.append_nil] at z
  exact wpAny_call (codeAny_mono (G.go X.A X.stack s1 H ⟨us, []⟩ us vs R E0 hr hg I.env0 b r h) fun
    | .error _, _, hq => hq.elim
    | .ok (.ret _), _, hq => I.after hq
    | .ok .next, _, hq => hq.elim
    | .ok .brk, _, hq => hq.elim
    | .ok .cont, _, hq => hq.elim)
theorem ed_fnG (C : FcGX X k x F) (hr : Room k X.A) (hgs : X.A.guards = some []) (h : AD X W (e :: es) s δ fun s' xs => F W s' xs Q) (hg : glB X.env x = true := by kernel_rfl)
    (he : starEach (e :: es) X.env = (false, eval e X.env) :: starEach es X.env := by kernel_rfl) (hpl : (backTo pos (starEach es X.env)).any (·.1) = false := by kernel_rfl) : ED X W (.Call (.Name x p) (e :: es) [] pos) s δ Q := .mk fun σ H R hI hS hR pins s1 I => by
  obtain ⟨f, fd, ps, h1, h2, h3, h4⟩ := C.ex
  have args := (wA_pa (X := X) (es := e :: es)).run pos pins s1 σ H (fun vs H1 => spD X.K F vs H1 R E0) I (h.run σ H _ hI hS fun vs H1 s2 xs m1 i1 o1 q1 => ⟨W, s2, xs, Q, i1, o1, q1, fun v H2 s3 y m2 i2 o2 q2 => hR v H2 s3 y (m1.trans m2) i2 o2 q2⟩)
  exact wpAny_Call_Name_kw (ld_glob I (glB_ok hg).1 h2 (PySem.W.callWith_K (h₀ := X.base) I.ok.mod.kin h3 (thn args fun us s2 ⟨vs, H1, I1, r, q⟩ => ⟨I1.kIn, goG h1 hr hgs h4 I1 r q⟩) he hpl) (glB_ok hg).2)
end
end Kq
/-! K31: a call by keywords alone. -/
namespace Kq
open PySem PySem.Spec PyProof.Rows L2
structure FcK (P : Program) (w : World) (K : PySem.W.Frag) (mg : Str → Option Value) (base : Heap) (k : Nat) (x : Str) (ks : List Str) (g : List Value → List Value → List Value) (gV : List V → List V → List V) (F : FT) : Prop where
  ex : ∃ f fd ps, FnOk P w K mg base CX0 k f fd ps (spD K F) ∧ mg x = some (.ref f) ∧ PySem.W.keepIn K (.ref f) = true ∧ L2.KBinds K fd ps ks g gV
abbrev FcKX (X : Cx) := FcK X.prog X.w X.K X.mg X.base
section
variable {X : Cx} {W : Wd} {s : W.St} {δ : De} {Q : W.St → Sv → Prop} {a b : Expr} {x : Str} {p pos k1 k2 : Pos} {n1 n2 : Option Str} {k : Nat} {F : FT} {ks : List Str} {g : List Value → List Value → List Value} {gV : List V → List V → List V}
/-- f(x = a, y = b) -/
theorem ed_kw2 (C : FcKX X k x ks g gV F) (hr : Room k X.A) (hgv : ∀ v w, gV [] [v, w] = [w, v]) (h : ED X W a s δ fun s1 y => ED X W b s1 δ fun s2 z => F W s2 [z, y] Q) (hg : glB X.env x = true := by kernel_rfl)
    (hall : (backToKw pos (keywordEach [⟨n1, a, k1⟩, ⟨n2, b, k2⟩] X.env)).all (·.1.isSome) = true := by rfl) (hks : (backToKw pos (keywordEach [⟨n1, a, k1⟩, ⟨n2, b, k2⟩] X.env)).filterMap (·.1) = ks := by rfl)
    (hpl : ((backTo pos (starEach [] X.env)).any (·.1) || (backToKw pos (keywordEach [⟨n1, a, k1⟩, ⟨n2, b, k2⟩] X.env)).any (·.1.isNone)) = false := by rfl) :
    ED X W (.Call (.Name x p) [] [⟨n1, a, k1⟩, ⟨n2, b, k2⟩] pos) s δ Q := .mk fun σ H R hI hS hR pins s1 I => by
  obtain ⟨f, fd, ps, h1, h2, h3, h4⟩ := C.ex
  have two : tCons (wE X a) (tCons (wE X b) tNil) σ H (fun zs H1 => spD X.K F (gV [] zs) H1 R E0) := h.run σ H _ hI hS fun v H1 s2 y m1 i1 o1 q1 => q1.run σ H1 _ i1 (hS.mv m1 (W.mu _ _ hI)) fun u H2 s3 z m2 i2 o2 q2 => by
    show spD X.K F (gV [] [v, u]) H2 R E0
    rw [hgv]
    exact ⟨W, s3, [z, y], Q, i2, .cons o2 (.cons (o1.mv m2 (W.mu _ _ i1)) .nil), q2, fun v H3 s4 y m3 i3 o3 q3 => hR v H3 s4 y ((m1.trans m2).trans m3) i3 o3 q3⟩
  have kw : PK X [⟨n1, a, k1⟩, ⟨n2, b, k2⟩] (tCons (wE X a) (tCons (wE X b) tNil)) := pk_cons wE_pe (pk_cons wE_pe pk_nil)
  refine wpAny_Call_Name_kw (ld_glob I (glB_ok hg).1 h2 ?_ (glB_ok hg).2)
  refine PySem.W.callWith_KW0 (h₀ := X.base) I.ok.mod.kin h3 hall (thn (kw.run pos pins s1 σ H _ I two) fun ws s2 ⟨zs, H2, I2, rz, q2⟩ => ⟨I2.kIn, ?_⟩) hpl
  rw [hks]
  exact run_fnk (us := []) (vs := []) h1 hr h4 pass0 I2 .nil rz q2
end
end Kq
/-! K32: a def without defaults, called by keywords. -/
namespace Kq
open PySem PySem.Spec PyProof.Rows L2
structure HdZ (K : PySem.W.Frag) (mg : Str → Option Value) (x : Str) (st : Stmt) (ps : List Str) : Prop where
  ex : ∃ f fd, FunD K x x (defArgs st) (defBody st) (defScope st) [] [] f fd ∧ mg x = some (.ref f) ∧ PySem.W.keepIn K (.ref f) = true ∧ L2.Binds K fd ps []
section
variable {P : Program} {w : World} {K : PySem.W.Frag} {mg : Str → Option Value} {base : Heap} {x : Str} {st : Stmt} {ps N : List Str} {k : Nat} {F : FT}
theorem HdZ.hd (D : HdZ K mg x st ps) : Hd K mg x st ps [] := by
  obtain ⟨f, fd, h1, h2, h3, h4⟩ := D.ex
  exact ⟨f, fd, [], [], [], h1, h2, h3, h4, .nil, fun _ _ => .nil⟩
theorem HdZ.goK {ks : List Str} {g : List Value → List Value → List Value} {gV : List V → List V → List V} (D : HdZ K mg x st ps) (S : FnScope N ps (defScope st)) (len : ∀ W s xs Q, F W s xs Q → xs.length = ps.length)
    (hk : ∀ fd, (∃ (dV kV doc pm : Value) (an : Option Addr) (cdv ct : Value), fd = PySem.W.fnOf x x (defArgs st) (defBody st) (defScope st) dV kV doc pm an cdv ct ∧ dV = .none) → L2.KBinds K fd ps ks g gV)
    (hbody : ∀ (f : Addr) (cdv : Value) (A : Around) (outer : List Env) (s : Shared) (H : Hp) (E : XK), Room k (A.deeper (envOfC x (defScope st) s.heap.objs.size f cdv)) → ∀ (W : Wd) (t : W.St) (xs : List Sv) (Q : W.St → Sv → Prop), F W t xs Q →
      SDs (cxOf CX0 P w K mg base N x (defScope st) f cdv A outer s H E).nox W (defBody st) t (startD N xs) (fun t' _ => Q t' (.d .none)) Q) : FcK P w K mg base (k + 1) x ks g gV F := by
  obtain ⟨f, fd, h1, h2, h3, h4⟩ := D.ex
  refine ⟨f, fd, ps, fn_D h1 S len fun cdv A outer s H E hr W t xs Q h => hbody f cdv A outer s H E hr W t xs Q h, h2, h3, hk fd ?_⟩
  obtain ⟨oc, od, dV, kV, doc, pm, an, cdv, ct, osl, e, _, _, d, _⟩ := h1.ex
  refine ⟨dV, kV, doc, pm, an, cdv, ct, e, ?_⟩
  rcases d with ⟨_, d⟩ | ⟨d, _⟩
  · exact d
  · exact absurd rfl d
theorem FcK.mono {j : Nat} {ks : List Str} {g : List Value → List Value → List Value} {gV : List V → List V → List V} (C : FcK P w K mg base j x ks g gV F) (h : j ≤ k) : FcK P w K mg base k x ks g gV F := by
  obtain ⟨f, fd, ps, h1, h2⟩ := C.ex
  exact ⟨f, fd, ps, h1.mono h, h2⟩
end
end Kq
/-! K33: the script: a list of numbers that nobody writes. -/
namespace Kq
open PySem PySem.Spec PyProof.Rows L2
def nsV (ns : List Int) : List V := ns.map V.int
def nsD (ns : List Int) : List PyData := ns.map PyData.int
theorem ns_dv {K : PySem.W.Frag} {u : List Addr} {H : Hp} : ∀ ns : List Int, DvA K u H (nsV ns) (nsD ns)
  | [] => .nil
  | n :: ns => .cons (.int n) (ns_dv ns)
def scR (ns : List Int) (K : PySem.W.Frag) (H : Hp) (a : Addr) : Prop := (∃ o, H a = some (.frz o (.lst (nsV ns)))) ∨ ∃ (o : Obj) (its : Array Value) (n : Nat), K.lookup a = some o ∧ o.cls = .type "list" ∧ o.dict = none ∧ o.data = .seq its n ∧ its.size ≤ sizeLine ∧ Vals (nsV ns) its.toList
theorem scR.sq {ns : List Int} {K : PySem.W.Frag} {H : Hp} {a : Addr} (h : scR ns K H a) : SqL K H a (nsV ns) := by
  rcases h with ⟨o, h⟩ | h
  · exact .inl (.inr ⟨o, h⟩)
  · exact .inr h
/-- what was there in D is there yet -/
def Kept0 (D : Hp) (u : List Addr) (H : Hp) : Prop := ∀ a, a ∉ u → D a ≠ none → H a ≠ none
theorem Kept0.mv {D H H' : Hp} {u : List Addr} (m : Mv u H H') (h : Kept0 D u H) : Kept0 D u H' := fun a n z e => by
  cases q : H a with
  | none => exact h a n z q
  | some o => rw [m a o n q] at e; cases e
def scX (D : Hp) (ns : List Int) : Sx := ⟨fun K u H v => (∃ a, v = .ref a ∧ scR ns K H a) ∧ Kept0 D u H, fun K u H H' v m mu h => by
  obtain ⟨⟨a, e, h⟩, hd⟩ := h
  refine ⟨⟨a, e, ?_⟩, hd.mv m⟩
  rcases h with ⟨o, h⟩ | h
  · exact .inl ⟨o, m a _ (fun z => by have := mu a z; rw [h] at this; exact this) h⟩
  · exact .inr h⟩
/-- an urn that was not there in D -/
def urX (D : Hp) : Sx := ⟨fun K u H v => ∃ (p : Addr) (b sd c : Int), v = .ref p ∧ p ∉ u ∧ D p = none ∧ H p = some (.lst [.int b, .int sd, .int c]) ∧ UrnOk b sd c, fun K u H H' v m mu h => by
  obtain ⟨p, b, sd, c, e, n, h1, h2, h3⟩ := h
  exact ⟨p, b, sd, c, e, n, h1, m _ _ n h2, h3⟩⟩
section
variable {X : Cx} {W : Wd} {s : W.St} {δ : De} {Q : W.St → Sv → Prop} {e : Expr} {pos p2 : Pos} {ns : List Int} {D : Hp}
theorem id_sc {i : Int} {d : PyData} (h : atI (nsD ns) i = some d) (q : Q s (.d d)) : ID X W (.x (scX D ns)) (.d (.int i)) s Q := .mk fun v w H R hI o1 o2 hR => by
  obtain ⟨⟨a, rfl, h0⟩, _⟩ := o1
  cases o2
  have ha : DvA X.K W.u H (nsV ns) (nsD ns) := ns_dv ns
  obtain ⟨j, h1, h2⟩ := Kq.atI_get ha.length h
  obtain ⟨x, h3, h4⟩ := ha.get h1
  exact ix_w ix_list ⟨_, _, i, x, rfl, rfl, h0.sq, h2 x h3, hR x H s _ Mv.refl hI h4.sv q⟩
theorem cd_lenSc (q : Q s (.d (.int ns.length))) : CD X W (.builtin "len") [.x (scX D ns)] s Q := .mk fun vs H R hI o hR => by
  obtain ⟨v, rfl, ov⟩ := o.one
  obtain ⟨⟨a, rfl, h0⟩, _⟩ := ov
  have hl : (nsV ns).length = ns.length := List.length_map ..
  refine call_w call_len_seq ⟨a, nsV ns, rfl, .inl h0.sq, ?_⟩
  rw [hl]
  exact hR _ H s _ Mv.refl hI (Dv.int _).sv q
theorem ed_sliceSc {lo hi : Option Expr} (h : ED X W e s δ fun s1 x => x = .x (scX D ns) ∧ PD X W lo s1 δ fun s2 l => PD X W hi s2 δ fun s3 u => Q s3 (.d (.list (cutD (nsD ns) l u)))) : ED X W (.Subscript e (.Slice lo hi none p2) pos) s δ Q :=
  .mk fun σ H R hI hS hR => pe_w (pe_slice sl_list wE_pe wP_po wP_po) (h σ H _ hI hS fun v H1 s1 x m1 i1 o1 q1 => by
    obtain ⟨rfl, q1⟩ := q1
    refine q1 σ H1 _ i1 (hS.mv m1 (W.mu _ _ hI)) fun l H2 s2 m2 i2 q2 => q2 σ H2 _ i2 (hS.mv (m1.trans m2) (W.mu _ _ hI)) fun u H3 s3 m3 i3 q3 => ?_
    have o3 := ((scX D ns).mv _ _ _ _ _ m3 (W.mu _ _ i2) ((scX D ns).mv _ _ _ _ _ m2 (W.mu _ _ i1) o1))
    obtain ⟨⟨a, rfl, h0⟩, _⟩ := o3
    have ha : DvA X.K W.u H3 (nsV ns) (nsD ns) := ns_dv ns
    have m := (m1.trans m2).trans m3
    exact ⟨a, _, rfl, h0.sq, fun p hp => hR _ _ s3 _ (m.trans (Mv.new hp)) (W.new i3 hp) (Dv.lst (W.fresh i3 hp) upd_same ((ha.cut l u).mv (Mv.new hp) (W.mu _ _ i3))).sv q3⟩)
end
/-! ### a fresh urn -/
def Wd.urn (W : Wd) (p : Addr) : Wd where
  u := p :: W.u
  St := W.St
  I := fun s H => W.I s H ∧ ∃ b sd c : Int, H p = some (.lst [.int b, .int sd, .int c]) ∧ UrnOk b sd c
  mono := fun s H H' h k t => ⟨W.mono _ _ _ h.1 (fun a ha => k a (List.mem_cons_of_mem _ ha)) t, by
    obtain ⟨b, sd, c, h1, h2⟩ := h.2
    exact ⟨b, sd, c, by rw [k p List.mem_cons_self]; exact h1, h2⟩⟩
  mu := fun s H h a ha => by
    obtain ⟨h0, b, sd, c, h1, h2⟩ := h
    rcases List.mem_cons.mp ha with z | z
    · rw [z, h1]; exact True.intro
    · exact W.mu _ _ h0 a z
theorem Wd.urnC (W : Wd) {p : Addr} (n : p ∉ W.u) : Cap (W.urn p) p where
  mem := List.mem_cons_self
  get := fun s H h => h.2
  put := fun s H b sd c h k => by
    obtain ⟨h0, b0, s0, c0, h1, h2⟩ := h
    exact ⟨W.put h0 n h1, b, sd, c, upd_same, k⟩
section
variable {X : Cx} {W : Wd} {s : W.St} {δ : De} {Q : W.St → Sv → Prop} {e : Expr} {es : List Expr} {x y : Str} {p q2 pos pos2 : Pos} {k : Nat} {F : FT} {D : Hp} {ns : List Int}
/-- [b, sd, c], where the script tells what was there -/
theorem ed_lstU (i : Nat) (hi : δ[i]? = some (some (.x (scX D ns)))) (h : AD X W es s δ fun s1 xs => ∃ b sd c : Int, xs = [.d (.int b), .d (.int sd), .d (.int c)] ∧ UrnOk b sd c ∧ Q s1 (.x (urX D))) : ED X W (.List es pos) s δ Q :=
  .mk fun σ H R hI hS hR => pe_w (pe_lst wA_pa) (h σ H _ hI hS fun vs H1 s1 xs m1 i1 o1 q1 => by
    obtain ⟨b, sd, c, rfl, ok, q1⟩ := q1
    have hA : DvA X.K W.u H1 vs [.int b, .int sd, .int c] := o1.data rfl
    have S1 := hS.mv m1 (W.mu _ _ hI)
    obtain ⟨v, _, _, hk⟩ := S1.at_ i _ hi
    cases hA with
    | cons d1 hA => cases hA with
      | cons d2 hA => cases hA with
        | cons d3 hA =>
          cases hA
          cases d1
          cases d2
          cases d3
          refine ⟨by rw [sizeLine_eq]; show 3 ≤ _; omega, fun p hp => ?_⟩
          have np := W.fresh i1 hp
          have hD : D p = none := by
            cases e : D p with
            | none => rfl
            | some o => exact absurd hp (hk p np (by rw [e]; simp))
          exact hR _ _ s1 (.x (urX D)) (m1.trans (Mv.new hp)) (W.new i1 hp) ⟨p, b, sd, c, rfl, np, hD, upd_same, ok⟩ q1)
/-- a def that makes an urn of the script and a number -/
def spU (K : PySem.W.Frag) : Sp := fun vs H Q _ => ∃ (ns : List Int) (sc : Addr) (i : Int), vs = [.ref sc, .int i] ∧ scR ns K H sc ∧ ns.length ≤ 1000 ∧ 0 ≤ i ∧ i ≤ 1000 ∧ ∀ (p : Addr) (b sd c : Int) (H' : Hp), Mv [] H H' → H p = none → H' p = some (.lst [.int b, .int sd, .int c]) → UrnOk b sd c → Q (.ref p) H'
structure FcU (P : Program) (w : World) (K : PySem.W.Frag) (mg : Str → Option Value) (base : Heap) (k : Nat) (x : Str) : Prop where
  ex : ∃ f fd ps, FnOk P w K mg base CX0 k f fd ps (spU K) ∧ mg x = some (.ref f) ∧ PySem.W.keepIn K (.ref f) = true ∧ L2.Binds K fd ps []
/-- f(g(script, i)) -/
theorem ed_urn {a b : Expr} (U : FcU X.prog X.w X.K X.mg X.base k y) (C : FcGX X k x F) (hr : Room k X.A) (hgs : X.A.guards = some []) (hu : W.u = [])
    (h : ED X W a s δ fun s1 z => z = .x (scX D ns) ∧ ED X W b s1 δ fun s2 z => ∃ i : Int, z = .d (.int i) ∧ ns.length ≤ 1000 ∧ 0 ≤ i ∧ i ≤ 1000 ∧ ∀ (W' : Wd) (s3 : W'.St) (c : Addr) (Q' : W'.St → Sv → Prop), Cap W' c → (∀ c : Bool, Q s2 (.d (.bool c)) → Q' s3 (.d (.bool c))) → F W' s3 [.o c] Q')
    (hg : glB X.env x = true := by kernel_rfl) (hg2 : glB X.env y = true := by kernel_rfl)
    (he : starEach [.Call (.Name y q2) [a, b] [] pos2] X.env = (false, eval (.Call (.Name y q2) [a, b] [] pos2) X.env) :: starEach [] X.env := by kernel_rfl) (hpl : (backTo pos (starEach ([] : List Expr) X.env)).any (·.1) = false := by kernel_rfl)
    (he2 : starEach [a, b] X.env = (false, eval a X.env) :: starEach [b] X.env := by kernel_rfl) (he3 : starEach [b] X.env = (false, eval b X.env) :: starEach [] X.env := by kernel_rfl) (hpl2 : (backTo pos2 (starEach [b] X.env)).any (·.1) = false := by kernel_rfl) :
    ED X W (.Call (.Name x p) [.Call (.Name y q2) [a, b] [] pos2] [] pos) s δ Q := .mk fun σ H R hI hS hR pins s1 I => by
  obtain ⟨f, fd, ps, h1, h2, h3, h4⟩ := C.ex
  obtain ⟨f', fd', ps', g1, g2, g3, g4⟩ := U.ex
  have inner := pe_call (E := E0) g1 hr (glB_ok hg2).1 g2 g3 g4 (dvs := []) .nil pass0 (pa_cons (X := X) (wE_pe (e := a)) (pa_cons (wE_pe (e := b)) pa_nil he3) he2) (glB_ok hg2).2 he2 hpl2 (p := q2)
  have args := (pa_cons (X := X) inner pa_nil he).run pos pins s1 σ H (fun vs H1 => spD X.K F vs H1 R E0) I (h.run σ H _ hI hS fun v H1 t1 z m1 i1 o1 q1 => by
    obtain ⟨rfl, q1⟩ := q1
    refine q1.run σ H1 _ i1 (hS.mv m1 (W.mu _ _ hI)) fun w H2 t2 z m2 i2 o2 q3 => ?_
    obtain ⟨i, rfl, hn, h0, h9, q3⟩ := q3
    cases o2
    obtain ⟨⟨sc, rfl, hsc⟩, _⟩ := (scX D ns).mv _ _ _ _ _ m2 (W.mu _ _ i1) o1
    refine ⟨ns, sc, i, rfl, hsc, hn, h0, h9, fun p b sd c H3 m3 hp hp3 ok => ?_⟩
    have np : p ∉ W.u := by rw [hu]; simp
    have m3' : Mv W.u H2 H3 := fun a o _ e => m3 a o (by simp) e
    have i3 : W.I t2 H3 := W.mono _ _ _ i2 (fun a ha => by rw [hu] at ha; cases ha) (fun a xs r => by
      rcases r with r | ⟨o, r⟩
      · exact .inl (m3 _ _ (by simp) r)
      · exact .inr ⟨o, m3 _ _ (by simp) r⟩)
    refine ⟨W.urn p, t2, [.o p], fun t y => t = t2 ∧ ∃ c : Bool, y = .d (.bool c) ∧ Q t2 y, ⟨i3, b, sd, c, hp3, ok⟩, .cons rfl .nil, q3 _ _ p _ (W.urnC np) fun c q => ⟨rfl, c, rfl, q⟩, ?_⟩
    intro v H4 t y m i4 o4 q4
    obtain ⟨rfl, c, rfl, q4⟩ := q4
    cases o4
    exact hR _ H4 t (.d (.bool c)) ((m1.trans m2).trans (Mv.back hp m fun a o ne e => m3 a o (by simp) e)) i4.1 (Dv.bl c).sv q4)
  exact wpAny_Call_Name_kw (ld_glob I (glB_ok hg).1 h2 (PySem.W.callWith_K (h₀ := X.base) I.ok.mod.kin h3 (thn args fun us s2 ⟨vs, H1, I1, r, q⟩ => ⟨I1.kIn, goG h1 hr hgs h4 I1 r q⟩) he hpl) (glB_ok hg).2)
end
end Kq
/-! K34: the world with nothing in it; a def that makes an urn; the law's own def. -/
namespace Kq
open PySem PySem.Spec PyProof.Rows L2
def Wd.nil : Wd where
  u := []
  St := Unit
  I := fun _ _ => True
  mono := fun _ _ _ _ _ _ => trivial
  mu := fun _ _ _ a ha => by cases ha
section
variable {P : Program} {w : World} {K : PySem.W.Frag} {mg : Str → Option Value} {base : Heap} {k : Nat} {x : Str} {st : Stmt} {N ps : List Str}
theorem Hd.goU (D : Hd K mg x st ps []) (S : FnScope N ps (defScope st)) (hps : ps.length = 2)
    (hbody : ∀ (f : Addr) (cdv : Value) (A : Around) (outer : List Env) (s : Shared) (H : Hp) (E : XK), Room k (A.deeper (envOfC x (defScope st) s.heap.objs.size f cdv)) → ∀ (D : Hp) (ns : List Int) (i : Int) (W : Wd) (t : W.St), ns.length ≤ 1000 → 0 ≤ i → i ≤ 1000 →
      SDs (cxOf CX0 P w K mg base N x (defScope st) f cdv A outer s H E).nox W (defBody st) t (startD N [.x (scX D ns), .d (.int i)]) (fun _ _ => False) (fun _ y => y = .x (urX D))) : FcU P w K mg base (k + 1) x := by
  obtain ⟨f, fd, dv0, dvs, ds, h1, h2, h3, h4, h5, h6⟩ := D.ex
  have hds : ds = [] := by
    have : DvA K [] (fun _ => none) dvs [] := h6 [] _
    cases this
    cases h5
    rfl
  subst hds
  refine ⟨f, fd, ps, h1.ok S (fun vs H Q E h => ?_) (fun cdv A outer s H vs Q E hr h => ?_), h2, h3, h4⟩
  · obtain ⟨ns, sc, i, rfl, _⟩ := h
    rw [hps]
    rfl
  · obtain ⟨ns, sc, i, rfl, hsc, hn, h0, h9, q⟩ := h
    refine ⟨_, PSs.nox wSs_pss, (hbody f cdv A outer s H E hr H ns i Wd.nil () hn h0 h9).run _ H _ trivial (SvA.begin (xs := [.x (scX H ns), .d (.int i)]) (.cons ⟨⟨sc, rfl, hsc⟩, fun a _ z => z⟩ (.cons (Dv.int i).sv .nil))) (fun _ _ _ _ _ _ _ z => z.elim) fun v H' s' y m _ o e => ?_⟩
    subst e
    obtain ⟨p, b, sd, c, rfl, _, e1, e2, e3⟩ := o
    exact q p b sd c H' m e1 e2 e3
/-- the law: a script in, True out -/
def spL (K : PySem.W.Frag) : Sp := fun vs H Q _ => ∃ (ns : List Int) (sc : Addr), vs = [.ref sc] ∧ scR ns K H sc ∧ ns.length ≤ 1000 ∧ ∀ H', Q (.bl true) H'
theorem Hd.goL (D : Hd K mg x st ps []) (S : FnScope N ps (defScope st)) (hps : ps.length = 1)
    (hbody : ∀ (f : Addr) (cdv : Value) (A : Around) (outer : List Env) (s : Shared) (H : Hp) (E : XK), A.guards = some [] → Room k (A.deeper (envOfC x (defScope st) s.heap.objs.size f cdv)) → ∀ (ns : List Int) (W : Wd) (t : W.St), W.u = [] → ns.length ≤ 1000 →
      SDs (cxOf CX0 P w K mg base N x (defScope st) f cdv A outer s H E).nox W (defBody st) t (startD N [.x (scX (fun _ => none) ns)]) (fun _ _ => False) (fun _ y => y = .d (.bool true))) : ∃ f fd, FnG P w K mg base CX0 (k + 1) f fd ps (spL K) ∧ mg x = some (.ref f) ∧ PySem.W.keepIn K (.ref f) = true ∧ L2.Binds K fd ps [] := by
  obtain ⟨f, fd, dv0, dvs, ds, h1, h2, h3, h4, h5, h6⟩ := D.ex
  have hds : ds = [] := by
    have : DvA K [] (fun _ => none) dvs [] := h6 [] _
    cases this
    cases h5
    rfl
  subst hds
  refine ⟨f, fd, fnG_of h1 S (fun vs H Q E h => ?_) (fun cdv A outer s H vs Q E hg hr h => ?_), h2, h3, h4⟩
  · obtain ⟨ns, sc, rfl, _⟩ := h
    rw [hps]
    rfl
  · obtain ⟨ns, sc, rfl, hsc, hn, q⟩ := h
    refine pss_w (PSs.nox wSs_pss) ?_
    refine (hbody f cdv A outer s H E hg hr ns Wd.nil () rfl hn).run _ H _ trivial (SvA.begin (xs := [.x (scX (fun _ => none) ns)]) (.cons ⟨⟨sc, rfl, hsc⟩, fun a _ z => absurd rfl z⟩ .nil)) (fun _ _ _ _ _ _ _ z => z.elim) fun v H' s' y m _ o e => ?_
    subst e
    cases o
    exact q H'
end
end Kq
/-! K35: what is looked at behind the top, and what follows of it. -/
namespace Kq
open PySem PySem.Spec PyProof.Rows L2
/-! ### constants -/
theorem allB2_ok {K : PySem.W.Frag} {f : PyData → Value → Bool} (hf : ∀ d u, f d u = true → ∃ v, RelV v u ∧ ∀ uu H, Dv K uu H v d) : ∀ {ds : List PyData} {us : List Value}, allB2 f ds us = true → ∃ vs, Vals vs us ∧ ∀ uu H, DvA K uu H vs ds
  | [], [], _ => ⟨[], .nil, fun _ _ => .nil⟩
  | [], _ :: _, h => by cases h
  | _ :: _, [], h => by cases h
  | d :: ds, u :: us, h => by
    obtain ⟨h1, h2⟩ := He.ba (show (f d u && allB2 f ds us) = true from h)
    obtain ⟨v, a1, a2⟩ := hf d u h1
    obtain ⟨vs, b1, b2⟩ := allB2_ok hf h2
    exact ⟨v :: vs, .cons a1 b1, fun uu H => .cons (a2 uu H) (b2 uu H)⟩
theorem dvB_ok {K : PySem.W.Frag} : ∀ (n : Nat) (d : PyData) (u : Value), dvB K n d u = true → ∃ v, RelV v u ∧ ∀ uu H, Dv K uu H v d := by
  intro n
  induction n with
  | zero =>
    intro d u h
    cases d with
    | none => cases u <;> first | exact ⟨.non, rfl, fun _ _ => .non⟩ | cases h
    | bool b => cases u <;> first | (rename_i c; exact ⟨.bl c, rfl, fun _ _ => by have e : b = c := eq_of_beq h; rw [e]; exact .bl c⟩) | cases h
    | int i => cases u <;> first | (rename_i j t; exact ⟨.int j, ⟨t, rfl⟩, fun _ _ => by have e : i = j := of_decide_eq_true h; rw [e]; exact .int j⟩) | cases h
    | str x => cases u <;> first | (rename_i y t; exact ⟨.str y, ⟨t, rfl⟩, fun _ _ => by have e : x = y := of_decide_eq_true h; rw [e]; exact .str y⟩) | cases h
    | _ => cases u <;> cases h
  | succ n ih =>
    intro d u h
    cases d with
    | none => cases u <;> first | exact ⟨.non, rfl, fun _ _ => .non⟩ | cases h
    | bool b => cases u <;> first | (rename_i c; exact ⟨.bl c, rfl, fun _ _ => by have e : b = c := eq_of_beq h; rw [e]; exact .bl c⟩) | cases h
    | int i => cases u <;> first | (rename_i j t; exact ⟨.int j, ⟨t, rfl⟩, fun _ _ => by have e : i = j := of_decide_eq_true h; rw [e]; exact .int j⟩) | cases h
    | str x => cases u <;> first | (rename_i y t; exact ⟨.str y, ⟨t, rfl⟩, fun _ _ => by have e : x = y := of_decide_eq_true h; rw [e]; exact .str y⟩) | cases h
    | tuple ds =>
      cases u with
      | ref a =>
        have h : (match K.lookup a with
          | some ⟨.type c, _, .seq its _, _⟩ => decide (c = "tuple") && (decide (its.size ≤ sizeLine) && allB2 (dvB K n) ds its.toList)
          | _ => false) = true := h
        cases q : K.lookup a with
        | none => rw [q] at h; cases h
        | some o =>
          obtain ⟨oc, od, dt, osl⟩ := o
          rw [q] at h
          cases oc with
          | type c =>
            cases dt with
            | seq its m =>
              obtain ⟨h1, h2⟩ := He.ba (show (decide (c = "tuple") && (decide (its.size ≤ sizeLine) && allB2 (dvB K n) ds its.toList)) = true from h)
              obtain ⟨h3, h4⟩ := He.ba h2
              obtain ⟨vs, b1, b2⟩ := allB2_ok ih h4
              exact ⟨.ref a, rfl, fun uu H => .tup (.inr ⟨_, its, m, q, congrArg Value.type (of_decide_eq_true h1), rfl, of_decide_eq_true h3, b1⟩) (b2 uu H)⟩
            | _ => cases h
          | _ => cases dt <;> cases h
      | _ => cases h
    | _ => cases u <;> cases h
theorem conB_ok {K : PySem.W.Frag} {h : Heap} {mg : Str → Option Value} {x : Str} {d : PyData} (X : K.In h) (G : h.Ns mainGlobals mg) (c : conB K x d = true) : Con K mg x d := by
  unfold conB at c
  cases e : PySem.W.nsIn K mainGlobals x with
  | none => rw [e] at c; cases c
  | some r =>
    rw [e] at c
    cases r with
    | none => cases c
    | some u =>
      obtain ⟨v, h1, h2⟩ := dvB_ok 3 d u c
      exact ⟨v, u, PySem.W.mg_of X G e, h1, h2⟩
/-! ### tables -/
theorem dic_none {K : PySem.W.Frag} {P : Params} {a : Addr} {ks : List Str} (h : He.dicW K a = some (He.keysIn P ks)) {z : Str} (hz : z ∉ ks) : PySem.W.nsIn K a z = some none := by
  unfold He.dicW at h
  cases q : K.lookup a with
  | none => rw [q] at h; cases h
  | some o =>
    obtain ⟨oc, od, dt, osl⟩ := o
    rw [q] at h
    cases oc with
    | type c =>
      cases od with
      | none =>
        cases dt with
        | dict es n =>
          have h1 : (match decide (c = "dict") && (osl.isEmpty && !(a == sysModules)) with
            | true => some (es.toList.map He.keyOf)
            | false => none) = some (He.keysIn P ks) := h
          have h2 : es.toList.map He.keyOf = He.keysIn P ks := by
            cases y : decide (c = "dict") && (osl.isEmpty && !(a == sysModules)) with
            | false => rw [y] at h1; cases h1
            | true => rw [y] at h1; exact Option.some.inj h1
          have key : ∀ e ∈ es.toList, ∃ k t, e.key = .str k t ∧ k ∈ ks := fun e he => by
            have m : He.keyOf e ∈ He.keysIn P ks := by rw [← h2]; exact List.mem_map_of_mem he
            obtain ⟨k, hk, e2⟩ := List.mem_map.mp m
            unfold He.keyOf at e2
            split at e2
            · rename_i x t hx
              have e3 := (Prod.mk.inj (Option.some.inj e2)).1
              exact ⟨x, t, hx, e3 ▸ hk⟩
            · cases e2
          unfold PySem.W.nsIn
          rw [q]
          have f1 : es.toList.find? (·.key.isStr z) = none := List.find?_eq_none.mpr fun e he hh => by
            obtain ⟨k, t, ek, hk⟩ := key e he
            rw [ek] at hh
            have : k = z := by simpa [Value.isStr] using hh
            exact hz (this ▸ hk)
          have f2 : es.toList.any (·.refKey) = false := by
            rw [List.any_eq_false]
            intro e he
            obtain ⟨k, t, ek, _⟩ := key e he
            simp [DictEntry.refKey, ek]
          show (match es.toList.find? (·.key.isStr z) with
            | some e => some (some e.val)
            | none => if es.toList.any (·.refKey) then none else some none) = _
          rw [f1, f2]
          rfl
        | _ => cases h
      | some b => cases dt <;> cases h
    | _ => cases od <;> cases dt <;> cases h
theorem cGet_mem {tab : CM} {z : Str} {d : PyData} (h : cGet tab z = some d) : (z, d) ∈ tab := by
  unfold cGet at h
  obtain ⟨p, hp, rfl⟩ := Option.map_eq_some_iff.mp h
  have h1 := List.find?_some hp
  have h2 : p.1 = z := by simpa using h1
  rw [← h2]
  exact List.mem_of_find?_eq_some hp
theorem cGet_none {tab : CM} {z : Str} (h : cGet tab z = none) : z ∉ tab.map (·.1) := fun m => by
  obtain ⟨p, hp, rfl⟩ := List.mem_map.mp m
  unfold cGet at h
  have := Option.map_eq_none_iff.mp h
  exact absurd (List.find?_eq_none.mp this p hp) (by simp)
theorem tab_ok {K : PySem.W.Frag} {w : World} {h : Heap} {mg : Str → Option Value} {x : Str} {tab : CM} (X : K.In h) (G : h.Ns mainGlobals mg) (hg : mg x = some (.ref (He.ga K x))) (hk : He.dicW K (He.ga K x) = some (He.keysIn w.params (tab.map (·.1)))) (c : tabB K (He.ga K x) tab = true) : Tab K w mg x tab := by
  refine ⟨He.ga K x, hg, He.dicW_ok hk, fun z => ?_⟩
  cases e : cGet tab z with
  | none => exact dic_none hk (cGet_none e)
  | some p =>
    have m := List.all_eq_true.mp c _ (cGet_mem e)
    dsimp only at m
    cases q : PySem.W.nsIn K (He.ga K x) z with
    | none => rw [q] at m; cases m
    | some r =>
      rw [q] at m
      cases r with
      | none => cases m
      | some u =>
        obtain ⟨v, h1, h2⟩ := dvB_ok 1 p u m
        exact ⟨u, v, rfl, h1, h2⟩
end Kq
/-! K36: the exception's class behind the top. -/
namespace Kq
open PySem PySem.Spec PyProof.Rows L2
theorem oexB_ok {K : PySem.W.Frag} {C : Addr} (h : oexB K C = true) : ∃ nm q N bs bm sn sub ab col dd k0 k1 k2 k3 k5, K.lookup C = some (excClassObj nm q C N bs bm true sn sub ab col dd k0 k1 k2 k3 k5 "ValueError.__new__") ∧ PySem.HandSPX.refsVE bm = true := by
  unfold oexB at h
  cases q : K.lookup C with
  | none => rw [q] at h; cases h
  | some o =>
    obtain ⟨oc, od, dt, osl⟩ := o
    rw [q] at h
    cases oc with
    | type t =>
      cases dt with
      | cls cd =>
        obtain ⟨h1, h2⟩ := He.ba h
        have e1 : t = "type" := of_decide_eq_true h1
        subst e1
        obtain ⟨l⟩ := osl
        obtain ⟨nm, bs, mro, ns, qn, hd, sn, sb, ab, col, del⟩ := cd
        match mro, l, h2 with
        | .ref C' :: bm, [k0, k1, k2, k3, some (.builtin n), k5], h2 =>
          obtain ⟨h3, h4⟩ := He.ba h2
          obtain ⟨h5, h6⟩ := He.ba h4
          obtain ⟨h7, h8⟩ := He.ba h6
          obtain ⟨h9, h10⟩ := He.ba h8
          have e2 : C' = C := of_decide_eq_true h3
          have e3 : n = "ValueError.__new__" := of_decide_eq_true h5
          have e4 : del = false := by simpa using h7
          have e5 : hd = true := h9
          subst e2 e3 e4 e5
          exact ⟨nm, qn, ns, bs, bm, sn, sb, ab, col, od, k0, k1, k2, k3, k5, q ▸ rfl, h10⟩
      | _ => cases h
    | _ => cases dt <;> cases h
theorem wt1_ok {K : PySem.W.Frag} (h : wtB1 K = true) (e : iniW K = iniV) : ∃ (oc : Value) (od : Option Addr) (osl : Array (Option Value)) (kV doc pm ct : Value) (an : Option Addr) (cc cda : Addr),
    K.lookup (wtF K) = some ⟨oc, od, .func (PySem.W.ksFn "__init__" "WrongTerm.__init__" (defArgs s_WT) (defBody s_WT) (defScope s_WT) .none kV doc pm an (.ref cda) ct cc), osl⟩ ∧ PySem.W.codeIn K (.ref cda) "WrongTerm.__init__" = true ∧
    (∃ ccl cdd vs ccs file tf, K.lookup cda = some ⟨ccl, cdd, .fields vs, ccs⟩ ∧ vs[2]? = some (.str file tf) ∧ ((PP.main.file : Str) == file) = true) ∧ ∃ cl cld csl, K.lookup cc = some ⟨cl, cld, .cell (some (.ref (wtA K))), csl⟩ := by
  unfold wtB1 at h
  unfold iniW at e
  cases q : K.lookup (wtF K) with
  | none => rw [q] at h; cases h
  | some o =>
    obtain ⟨oc, od, dt, osl⟩ := o
    rw [q] at h e
    cases dt with
    | func fd =>
      obtain ⟨n1, n2, n3, n4, n5, n6, n7, n8, n9, n10, n11, n12, n13, n14, n15⟩ := fd
      have e2 : (some (n1, n2, n3, n4, n5, n6, n15) : IniV) = (some ("__init__", "WrongTerm.__init__", defArgs s_WT, .stmts (defBody s_WT), defScope s_WT, mainGlobals, builtinsNs) : IniV) := e
      simp only [Option.some.injEq, Prod.mk.injEq] at e2
      obtain ⟨a1, a2, a3, a4, a5, a6, a7⟩ := e2
      subst a1 a2 a3 a4 a5 a6 a7
      match n7, n13, n8, h with
      | [(nm, cc)], .ref cda, .none, h =>
        obtain ⟨h1, h2⟩ := He.ba h
        obtain ⟨h3, h4⟩ := He.ba h2
        obtain ⟨h5, h6⟩ := He.ba h4
        have e1 : nm = "__class__" := of_decide_eq_true h1
        subst e1
        refine ⟨oc, od, osl, n9, n10, n11, n14, n12, cc, cda, rfl, h3, ?_, ?_⟩
        · cases q2 : K.lookup cda with
          | none => rw [q2] at h5; cases h5
          | some o =>
            obtain ⟨ccl, cdd, dt, ccs⟩ := o
            rw [q2] at h5
            cases dt with
            | fields vs =>
              dsimp only at h5
              cases q3 : vs[2]? with
              | none => rw [q3] at h5; cases h5
              | some v =>
                rw [q3] at h5
                cases v with
                | str file tf => exact ⟨ccl, cdd, vs, ccs, file, tf, rfl, q3, h5⟩
                | _ => cases h5
            | _ => cases h5
        · cases q2 : K.lookup cc with
          | none => rw [q2] at h6; cases h6
          | some o =>
            obtain ⟨ccl, cdd, dt, ccs⟩ := o
            rw [q2] at h6
            cases dt with
            | cell v =>
              cases v with
              | none => cases h6
              | some v =>
                cases v with
                | ref D =>
                  have e3 : D = wtA K := of_decide_eq_true h6
                  subst e3
                  exact ⟨ccl, cdd, ccs, rfl⟩
                | _ => cases h6
            | _ => cases h6
    | _ => cases h
end Kq
/-! K37: WrongTerm, whole. -/
namespace Kq
open PySem PySem.Spec PyProof.Rows L2
theorem wt_names : ∀ p ∈ (defScope s_WT).names, (p.2 = .cell ∨ p.2 = .free) → p.1 = "__class__" := by decide +kernel
theorem wtK_ok {w : World} {K : PySem.W.Frag} {mg : Str → Option Value} {base : Heap} (h : wtB K = true) (e : iniW K = iniV) (hg : mg "WrongTerm" = some (.ref (wtA K))) (hs : mg "super" = none) : WtK PP w K mg base "WrongTerm" "place" (wtA K) := by
  obtain ⟨h1, h2⟩ := He.ba h
  obtain ⟨a1, h1⟩ := He.ba h1
  obtain ⟨a2, h1⟩ := He.ba h1
  obtain ⟨a3, h1⟩ := He.ba h1
  obtain ⟨a4, h1⟩ := He.ba h1
  obtain ⟨a5, h1⟩ := He.ba h1
  obtain ⟨a6, h1⟩ := He.ba h1
  obtain ⟨a7, a8⟩ := He.ba h1
  obtain ⟨b1, h2⟩ := He.ba h2
  obtain ⟨b2, h2⟩ := He.ba h2
  obtain ⟨b3, h2⟩ := He.ba h2
  obtain ⟨b4, h2⟩ := He.ba h2
  obtain ⟨b5, h2⟩ := He.ba h2
  obtain ⟨b6, h2⟩ := He.ba h2
  obtain ⟨b7, h2⟩ := He.ba h2
  obtain ⟨b8, b9⟩ := He.ba h2
  have ox : OexC K (wtA K) := ⟨oexB_ok a2, He.eqO_ok a3, of_decide_eq_true a4, of_decide_eq_true a5, a6⟩
  obtain ⟨oc, od, osl, kV, doc, pm, ct, an, cc, cda, lk, hcd, hcode, hcell⟩ := wt1_ok a1 e
  have S : WtC PP K mg (defScope s_WT) (wtA K) cc cda "place" := {
    kind := rfl
    co := rfl
    gen := rfl
    cells := by decide +kernel
    free := fun y hy => by
      rcases hy with hy | hy
      · exact wt_names _ (PySem.mem_of_lookup hy) (.inl rfl)
      · exact wt_names _ (PySem.mem_of_lookup hy) (.inr rfl)
    sup := by decide +kernel
    cls := by decide +kernel
    self := by decide +kernel
    par := by decide +kernel
    code := hcode
    cell := hcell
    dat := Option.isSome_iff_exists.mp b4
    sub := of_decide_eq_true b5
    ve := of_decide_eq_true b6
    supI := He.eqO_ok b7
    any := He.eqO_ok b8
    mgs := hs
    top := by decide +kernel
    ini := b9
    fld := He.eqO_ok a8
    oex := ox }
  refine ⟨hg, ox, xfB_ok a7, He.eqO_ok a8, of_decide_eq_true b1, wtF K, _, He.eqO_ok b2, of_decide_eq_true b3, wti_ok (k := 0) (params := defArgs s_WT) (ar := ((defArgs s_WT).args.head (by decide +kernel))) S (by rfl) (by rfl) (by decide +kernel) (by decide +kernel) (by decide +kernel) lk hcd (fun L => by rfl) (fun L => by rfl), ?_⟩
  refine Binds.all fun us hl => ?_
  match us, hl with
  | [_, _], _ => rfl
end Kq
/-! M4: what the generators promise of kinds. -/
namespace Kq
open PySem
/-- the most names that a flat term of this kind holds -/
def Kd.np : Kd → Nat
  | .va => 1 | .vb => 1 | .unit => 1 | .num => 1
  | .pair a b => a.np + b.np | .either a b => max a.np b.np | .list _ => 1 | .func _ b => b.np
structure K4 (k : Kd) : Prop where
  dp : k.dp ≤ 4
  np : k.np ≤ 4
theorem Kd.np_pos (k : Kd) : 1 ≤ k.np := by induction k <;> simp [Kd.np] <;> omega
end Kq
/-! M5: what can be told of can. -/
namespace Kq
open PySem
theorem vis_iff {Γ : Ctx} {k : Kd} : vis Γ k = true ↔ ∃ x, look Γ x = some k := by
  unfold vis
  rw [List.any_eq_true]
  constructor
  · rintro ⟨p, hp, h⟩
    simp only [Bool.and_eq_true, decide_eq_true_eq] at h
    exact ⟨p.1, by rw [h.1, h.2]⟩
  · rintro ⟨x, h⟩
    have hm : (x, k) ∈ Γ := by
      unfold look at h
      have h2 := List.mem_of_getLast? h
      obtain ⟨p, hp, rfl⟩ := List.mem_map.mp h2
      obtain ⟨h3, h4⟩ := List.mem_filter.mp hp
      have : p.1 = x := by simpa using h4
      rw [← this]
      exact h3
    exact ⟨(x, k), hm, by simp [h]⟩
/-- all that the one shows the other shows -/
def Shows (Γ Δ : Ctx) : Prop := ∀ k, vis Γ k = true → vis Δ k = true
theorem Shows.snoc {Γ Δ : Ctx} (h : Shows Γ Δ) {x y : Str} {a : Kd} (hy : look Δ y = none) : Shows (Γ ++ [(x, a)]) (Δ ++ [(y, a)]) := by
  intro k hk
  obtain ⟨z, hz⟩ := vis_iff.mp hk
  rw [look_snoc] at hz
  split at hz
  · cases hz
    exact vis_iff.mpr ⟨y, by rw [look_snoc, if_pos rfl]⟩
  · obtain ⟨z', hz'⟩ := vis_iff.mp (h k (vis_iff.mpr ⟨z, hz⟩))
    refine vis_iff.mpr ⟨z', ?_⟩
    rw [look_snoc, if_neg (fun e => by rw [← e, hy] at hz'; cases hz')]
    exact hz'
def wnv (x : Str) : Nat := (x.cps.toList.drop 1).foldl (fun a c => 10 * a + (c - 48)) 0
theorem wnv_wn : ∀ n < 300, wnv (wn n) = n := by decide +kernel
theorem wn_inj {m n : Nat} (hm : m < 300) (hn : n < 300) (e : wn m = wn n) : m = n := by rw [← wnv_wn m hm, e, wnv_wn n hn]
theorem look_none {Γ : Ctx} {x : Str} (h : ∀ p ∈ Γ, p.1 ≠ x) : look Γ x = none := by
  unfold look
  have : Γ.filter (fun p => decide (p.1 = x)) = [] := by
    rw [List.filter_eq_nil_iff]
    intro p hp
    simpa using h p hp
  rw [this]
  rfl
/-- no name of the context is w with its length or more -/
def Fresh (Γ : Ctx) : Prop := ∀ m, Γ.length ≤ m → m < 300 → ∀ p ∈ Γ, p.1 ≠ wn m
theorem Fresh.look {Γ : Ctx} (h : Fresh Γ) (hl : Γ.length < 300) : look Γ (wn Γ.length) = none := look_none fun p hp => h _ (Nat.le_refl _) hl p hp
theorem Fresh.w {Γ : Ctx} (h : Fresh Γ) {a : Kd} : Fresh (Γ ++ [(wn Γ.length, a)]) := fun m hm hm2 p hp => by
  rw [List.length_append, List.length_singleton] at hm
  rcases List.mem_append.mp hp with hp | hp
  · exact h m (by omega) hm2 p hp
  · rw [List.mem_singleton.mp hp]
    intro e
    have := wn_inj (by omega) hm2 e
    omega
theorem Fresh.snoc {Γ : Ctx} (h : Fresh Γ) {x : Str} {a : Kd} (hx : ∀ m < 300, x ≠ wn m) : Fresh (Γ ++ [(x, a)]) := fun m hm hm2 p hp => by
  rw [List.length_append, List.length_singleton] at hm
  rcases List.mem_append.mp hp with hp | hp
  · exact h m (by omega) hm2 p hp
  · rw [List.mem_singleton.mp hp]
    exact hx m hm2
theorem can_mono : ∀ {k : Kd} {Γ Δ : Ctx}, Shows Γ Δ → Fresh Δ → Δ.length + k.dp < 300 → can Γ k = true → can Δ k = true := by
  intro k
  induction k with
  | va => intro Γ Δ h _ _ c; exact h _ c
  | vb => intro Γ Δ h _ _ c; exact h _ c
  | unit => intro Γ Δ _ _ _ _; rfl
  | num => intro Γ Δ _ _ _ _; rfl
  | list a _ => intro Γ Δ _ _ _ _; rfl
  | pair a b iha ihb =>
    intro Γ Δ h f l c
    simp only [Kd.dp] at l
    simp only [can, Bool.or_eq_true, Bool.and_eq_true] at c ⊢
    rcases c with c | ⟨c1, c2⟩
    · exact .inl (h _ c)
    · exact .inr ⟨iha h f (by omega) c1, ihb h f (by omega) c2⟩
  | either a b iha ihb =>
    intro Γ Δ h f l c
    simp only [Kd.dp] at l
    simp only [can, Bool.or_eq_true] at c ⊢
    rcases c with c | c | c
    · exact .inl (h _ c)
    · exact .inr (.inl (iha h f (by omega) c))
    · exact .inr (.inr (ihb h f (by omega) c))
  | func a b iha ihb =>
    intro Γ Δ h f l c
    simp only [Kd.dp] at l
    simp only [can, Bool.or_eq_true] at c ⊢
    rcases c with c | c
    · exact .inl (h _ c)
    · exact .inr (ihb (h.snoc (f.look (by omega))) f.w (by rw [List.length_append, List.length_singleton]; omega) c)
/-- under the fresh name all stays shown -/
theorem shows_w {Γ : Ctx} (h : Fresh Γ) (hl : Γ.length < 300) {a : Kd} : Shows Γ (Γ ++ [(wn Γ.length, a)]) := fun k hk => by
  obtain ⟨x, hx⟩ := vis_iff.mp hk
  refine vis_iff.mpr ⟨x, ?_⟩
  rw [look_snoc, if_neg (fun e => by rw [← e, h.look hl] at hx; cases hx)]
  exact hx
end Kq
/-! M6: terms with a kind from before the bends. -/
namespace Kq
open PySem
def nmL0 : List Str := ["x", "y", "z", "u", "v1", "n", "a", "b", "q", "w1", "h", "r"]
def nmL : List Str := nmL0 ++ (List.range 300).map wn
def Nm (x : Str) : Prop := x ∈ nmL
/-- a flat term: its names at most m; it and what it writes at most d deep -/
inductive Fl : Nat → Nat → Tm → Prop
  | name {m d : Nat} {x : Str} : 1 ≤ m → Nm x → Fl m (d + 1) (.name x)
  | unit {m d : Nat} : 1 ≤ m → Fl m (d + 1) .unit
  | number {m d : Nat} {i : Int} : 1 ≤ m → i.natAbs < 100 → Fl m (d + 1) (.number i)
  | nil {m d : Nat} {k : Kd} : 1 ≤ m → k.dp ≤ d → Fl m (d + 1) (.nil k)
  | cons {m d : Nat} {a : Tm} {k : Kd} : k.dp ≤ d → Fl m d a → Fl m (d + 1) (.cons a (.nil k))
  | fn {m d : Nat} {x : Str} {k : Kd} {b : Tm} : Nm x → k.dp ≤ d → Fl m d b → Fl m (d + 1) (.fn x k b)
  | pair {m l d : Nat} {a b : Tm} : Fl l d a → Fl m d b → Fl (l + m) (d + 1) (.pair a b)
  | left {m d : Nat} {a : Tm} {k : Kd} : k.dp ≤ d → Fl m d a → Fl m (d + 1) (.left a k)
  | right {m d : Nat} {a : Tm} {k : Kd} : k.dp ≤ d → Fl m d a → Fl m (d + 1) (.right k a)
/-- a flat part of a bend -/
def FlB (t : Tm) : Prop := Fl 4 4 t
inductive G : Nat → Ctx → Tm → Kd → Prop
  | name {n : Nat} {Γ : Ctx} {x : Str} {k : Kd} : look Γ x = some k → Nm x → G n Γ (.name x) k
  | unit {n : Nat} {Γ : Ctx} : G n Γ .unit .unit
  | number {n : Nat} {Γ : Ctx} {i : Int} : i.natAbs < 100 → G n Γ (.number i) .num
  | nil {n : Nat} {Γ : Ctx} {k : Kd} : k.dp ≤ 4 → G n Γ (.nil k) (.list k)
  | fn {n : Nat} {Γ : Ctx} {x : Str} {a k : Kd} {b : Tm} : Nm x → a.dp ≤ 4 → k.dp ≤ 5 → G n (Γ ++ [(x, a)]) b k → G n Γ (.fn x a b) (.func a k)
  | call {n i j : Nat} {Γ : Ctx} {f t : Tm} {a k : Kd} : (Kd.func a k).dp ≤ 5 → G i Γ f (.func a k) → G j Γ t a → i + j ≤ n → G n Γ (.call f t) k
  | lete {n i j : Nat} {Γ : Ctx} {x : Str} {a b : Tm} {ka k : Kd} : Nm x → ka.dp ≤ 4 → k.dp ≤ 5 → G i Γ a ka → G j (Γ ++ [(x, ka)]) b k → i + j ≤ n → G n Γ (.lete x a b) k
  | plus {n i j : Nat} {Γ : Ctx} {a b : Tm} : G i Γ a .num → G j Γ b .num → i + j ≤ n → G n Γ (.plus a b) .num
  | times {n i j : Nat} {Γ : Ctx} {a b : Tm} : G i Γ a .num → G j Γ b .num → i + j ≤ n → G n Γ (.times a b) .num
  | minus {n : Nat} {Γ : Ctx} {a : Tm} : G n Γ a .num → G n Γ (.minus a) .num
  | is {n i j : Nat} {Γ : Ctx} {s : Str} {a b : Tm} : s ∈ (["<", "<=", "=="] : List Str) → G i Γ a .num → G j Γ b .num → i + j ≤ n → G n Γ (.is s a b) truthK
  | pair {n i j : Nat} {Γ : Ctx} {a b : Tm} {ka kb : Kd} : (Kd.pair ka kb).dp ≤ 5 → G i Γ a ka → G j Γ b kb → i + j ≤ n → G n Γ (.pair a b) (.pair ka kb)
  | first {n : Nat} {Γ : Ctx} {a : Tm} {x y : Kd} : (Kd.pair x y).dp ≤ 5 → G n Γ a (.pair x y) → G n Γ (.first a) x
  | second {n : Nat} {Γ : Ctx} {a : Tm} {x y : Kd} : (Kd.pair x y).dp ≤ 5 → G n Γ a (.pair x y) → G n Γ (.second a) y
  | left {n : Nat} {Γ : Ctx} {a : Tm} {x y : Kd} : (Kd.either x y).dp ≤ 5 → G n Γ a x → G n Γ (.left a y) (.either x y)
  | right {n : Nat} {Γ : Ctx} {a : Tm} {x y : Kd} : (Kd.either x y).dp ≤ 5 → G n Γ a y → G n Γ (.right x a) (.either x y)
  | case {n i j l : Nat} {Γ : Ctx} {s a b : Tm} {x y : Str} {p q k : Kd} : Nm x → Nm y → (Kd.either p q).dp ≤ 5 → k.dp ≤ 5 → G i Γ s (.either p q) → G j (Γ ++ [(x, p)]) a k → G l (Γ ++ [(y, q)]) b k → i + j + l ≤ n → G n Γ (.case s x a y b) k
  | cons {n i j : Nat} {Γ : Ctx} {a b : Tm} {k : Kd} : (Kd.list k).dp ≤ 5 → G i Γ a k → G j Γ b (.list k) → i + j ≤ n → G n Γ (.cons a b) (.list k)
  | fold {n i j l : Nat} {Γ : Ctx} {f a b : Tm} {x k : Kd} : (Kd.func x (.func k k)).dp ≤ 6 → (Kd.list x).dp ≤ 5 → k.dp ≤ 5 → G i Γ f (.func x (.func k k)) → G j Γ a k → G l Γ b (.list x) → i + j + l ≤ n → G n Γ (.fold f a b) k
theorem G.mono {n m : Nat} {Γ : Ctx} {t : Tm} {k : Kd} (h : G n Γ t k) (e : n ≤ m) : G m Γ t k := by
  induction h generalizing m with
  | name a b => exact .name a b
  | unit => exact .unit
  | number a => exact .number a
  | nil a => exact .nil a
  | fn a b c _ ih => exact .fn a b c (ih e)
  | call a h1 h2 b _ _ => exact .call a h1 h2 (by omega)
  | lete a b c h1 h2 d _ _ => exact .lete a b c h1 h2 (by omega)
  | plus h1 h2 d _ _ => exact .plus h1 h2 (by omega)
  | times h1 h2 d _ _ => exact .times h1 h2 (by omega)
  | minus _ ih => exact .minus (ih e)
  | is a h1 h2 d _ _ => exact .is a h1 h2 (by omega)
  | pair a h1 h2 d _ _ => exact .pair a h1 h2 (by omega)
  | first a _ ih => exact .first a (ih e)
  | second a _ ih => exact .second a (ih e)
  | left a _ ih => exact .left a (ih e)
  | right a _ ih => exact .right a (ih e)
  | case a b c d h1 h2 h3 e' _ _ _ => exact .case a b c d h1 h2 h3 (by omega)
  | cons a h1 h2 d _ _ => exact .cons a h1 h2 (by omega)
  | fold a b c h1 h2 h3 d _ _ _ => exact .fold a b c h1 h2 h3 (by omega)
end Kq
/-! M7: a term that was not bent has its kind. -/
namespace Kq
open PySem
theorem g0_walk {n : Nat} {Γ : Ctx} {t : Tm} {k : Kd} (h : G n Γ t k) : n = 0 → walk Γ t = .ok k := by
  induction h with
  | name a b => intro _; simp only [walk, a]
  | unit => intro _; rfl
  | number a => intro _; rfl
  | nil a => intro _; rfl
  | fn a b c _ ih => intro e; simp only [walk, ih e, at1]
  | call a h1 h2 b i1 i2 => intro e; simp only [walk, i1 (by omega), i2 (by omega), at1, callK, if_pos, fin]
  | lete a b c h1 h2 d i1 i2 => intro e; simp only [walk, i1 (by omega), i2 (by omega), at1]
  | plus h1 h2 d i1 i2 => intro e; simp only [walk, i1 (by omega), i2 (by omega), at1]; rfl
  | times h1 h2 d i1 i2 => intro e; simp only [walk, i1 (by omega), i2 (by omega), at1]; rfl
  | minus _ ih => intro e; simp only [walk, ih e, at1]; rfl
  | is a h1 h2 d i1 i2 => intro e; simp only [walk, i1 (by omega), i2 (by omega), at1]; rfl
  | pair a h1 h2 d i1 i2 => intro e; simp only [walk, i1 (by omega), i2 (by omega), at1]
  | first a _ ih => intro e; simp only [walk, ih e, at1]; rfl
  | second a _ ih => intro e; simp only [walk, ih e, at1]; rfl
  | left a _ ih => intro e; simp only [walk, ih e, at1]
  | right a _ ih => intro e; simp only [walk, ih e, at1]
  | case a b c d h1 h2 h3 e' i1 i2 i3 => intro e; simp only [walk, i1 (by omega), i2 (by omega), i3 (by omega), at1, if_pos]
  | cons a h1 h2 d i1 i2 => intro e; simp only [walk, i1 (by omega), i2 (by omega), at1, consK, if_pos, fin]
  | fold a b c h1 h2 h3 d i1 i2 i3 => intro e; simp only [walk, i1 (by omega), i2 (by omega), i3 (by omega), at1, foldK, ne_eq, not_true_eq_false, if_false, fin]
end Kq
/-! M8: what a bend can do to a kind. -/
namespace Kq
open PySem
/-- a kind with some parts exchanged for others -/
inductive Rel (P : Kd → Prop) : Kd → Kd → Prop
  | same {k : Kd} : Rel P k k
  | big {K k : Kd} : P k → Rel P K k
  | pair {a b c d : Kd} : Rel P a c → Rel P b d → Rel P (.pair a b) (.pair c d)
  | either {a b c d : Kd} : Rel P a c → Rel P b d → Rel P (.either a b) (.either c d)
  | list {a c : Kd} : Rel P a c → Rel P (.list a) (.list c)
  | func {a b c d : Kd} : Rel P a c → Rel P b d → Rel P (.func a b) (.func c d)
structure Comp (P : Kd → Prop) : Prop where
  pair : ∀ {a b}, P (.pair a b) → P a ∧ P b
  either : ∀ {a b}, P (.either a b) → P a ∧ P b
  list : ∀ {a}, P (.list a) → P a
  func : ∀ {a b}, P (.func a b) → P a ∧ P b
section
variable {P P' : Kd → Prop} {a b c d K k : Kd}
theorem Rel.imp (h : Rel P K k) (i : ∀ k, P k → P' k) : Rel P' K k := by
  induction h with
  | same => exact .same
  | big p => exact .big (i _ p)
  | pair _ _ x y => exact .pair x y
  | either _ _ x y => exact .either x y
  | list _ x => exact .list x
  | func _ _ x y => exact .func x y
theorem Rel.un_pair (C : Comp P) (h : Rel P (.pair a b) (.pair c d)) : Rel P a c ∧ Rel P b d := by
  cases h with
  | same => exact ⟨.same, .same⟩
  | big p => exact ⟨.big (C.pair p).1, .big (C.pair p).2⟩
  | pair x y => exact ⟨x, y⟩
theorem Rel.un_either (C : Comp P) (h : Rel P (.either a b) (.either c d)) : Rel P a c ∧ Rel P b d := by
  cases h with
  | same => exact ⟨.same, .same⟩
  | big p => exact ⟨.big (C.either p).1, .big (C.either p).2⟩
  | either x y => exact ⟨x, y⟩
theorem Rel.un_func (C : Comp P) (h : Rel P (.func a b) (.func c d)) : Rel P a c ∧ Rel P b d := by
  cases h with
  | same => exact ⟨.same, .same⟩
  | big p => exact ⟨.big (C.func p).1, .big (C.func p).2⟩
  | func x y => exact ⟨x, y⟩
/-- how deep it is -/
theorem Rel.dp {e : Nat} (h : Rel P K k) (he : 1 ≤ e) (hp : ∀ k, P k → k.dp ≤ e) : k.dp + 1 ≤ K.dp + e := by
  induction h with
  | same => omega
  | @big K k p => have := hp _ p; have := K.dp_pos; omega
  | pair _ _ x y => simp only [Kd.dp]; omega
  | either _ _ x y => simp only [Kd.dp]; omega
  | list _ x => simp only [Kd.dp]; omega
  | func _ _ x y => simp only [Kd.dp]; omega
end
/-- how long its text is -/
def Kd.tl : Kd → Nat
  | .va => 12 | .vb => 12 | .unit => 9 | .num => 8
  | .pair a b => 12 + a.tl + b.tl | .either a b => 14 + a.tl + b.tl | .list a => 10 + a.tl | .func a b => 11 + a.tl + b.tl
def tau : Nat → Nat
  | 0 => 0
  | 1 => 12
  | n + 2 => 2 * tau (n + 1) + 14
def lf : Nat → Nat
  | 0 => 0
  | 1 => 1
  | n + 2 => 2 * lf (n + 1)
theorem tau_step {n : Nat} (h : 1 ≤ n) : tau (n + 1) = 2 * tau n + 14 := by
  obtain ⟨m, rfl⟩ : ∃ m, n = m + 1 := ⟨n - 1, by omega⟩
  rfl
theorem tau_mono {m n : Nat} (h : m ≤ n) : tau m ≤ tau n := by
  induction n with
  | zero => have : m = 0 := by omega
            subst this; exact Nat.le_refl _
  | succ n ih =>
    by_cases e : m = n + 1
    · subst e; exact Nat.le_refl _
    · have := ih (by omega)
      by_cases h0 : n = 0
      · subst h0; have : m = 0 := by omega
        subst this; exact Nat.zero_le _
      · rw [tau_step (by omega)]; omega
theorem lf_step (n : Nat) : 2 * lf n ≤ lf (n + 1) := by
  cases n with
  | zero => simp [lf]
  | succ n => simp [lf]
theorem lf_mono {m n : Nat} (h : m ≤ n) : lf m ≤ lf n := by
  induction n with
  | zero => have : m = 0 := by omega
            subst this; exact Nat.le_refl _
  | succ n ih =>
    by_cases e : m = n + 1
    · subst e; exact Nat.le_refl _
    · have := ih (by omega)
      have := lf_step n
      omega
theorem lf_pos {n : Nat} (h : 1 ≤ n) : 1 ≤ lf n := by
  have := lf_mono h
  exact this
theorem tl_le {d : Nat} : ∀ {k : Kd}, k.dp ≤ d → k.tl ≤ tau d := by
  intro k
  induction k generalizing d with
  | va => intro h; have := tau_mono (m := 1) h; simp only [tau, Kd.tl] at *; omega
  | vb => intro h; have := tau_mono (m := 1) h; simp only [tau, Kd.tl] at *; omega
  | unit => intro h; have := tau_mono (m := 1) h; simp only [tau, Kd.tl] at *; omega
  | num => intro h; have := tau_mono (m := 1) h; simp only [tau, Kd.tl] at *; omega
  | pair a b x y =>
    intro h
    obtain ⟨e, rfl⟩ : ∃ e, d = e + 1 := ⟨d - 1, by simp only [Kd.dp] at h; omega⟩
    simp only [Kd.dp] at h
    have := x (d := e) (by omega); have := y (d := e) (by omega)
    rw [tau_step (by have := a.dp_pos; omega)]; simp only [Kd.tl]; omega
  | either a b x y =>
    intro h
    obtain ⟨e, rfl⟩ : ∃ e, d = e + 1 := ⟨d - 1, by simp only [Kd.dp] at h; omega⟩
    simp only [Kd.dp] at h
    have := x (d := e) (by omega); have := y (d := e) (by omega)
    rw [tau_step (by have := a.dp_pos; omega)]; simp only [Kd.tl]; omega
  | list a x =>
    intro h
    obtain ⟨e, rfl⟩ : ∃ e, d = e + 1 := ⟨d - 1, by simp only [Kd.dp] at h; omega⟩
    simp only [Kd.dp] at h
    have := x (d := e) (by omega)
    rw [tau_step (by have := a.dp_pos; omega)]; simp only [Kd.tl]; omega
  | func a b x y =>
    intro h
    obtain ⟨e, rfl⟩ : ∃ e, d = e + 1 := ⟨d - 1, by simp only [Kd.dp] at h; omega⟩
    simp only [Kd.dp] at h
    have := x (d := e) (by omega); have := y (d := e) (by omega)
    rw [tau_step (by have := a.dp_pos; omega)]; simp only [Kd.tl]; omega
theorem rel_tl {P : Kd → Prop} {M : Nat} {K k : Kd} (h : Rel P K k) (hp : ∀ k, P k → k.tl ≤ M) : ∀ {d : Nat}, K.dp ≤ d → k.tl ≤ tau d + lf d * M := by
  induction h with
  | same => intro d h; have := tl_le h; omega
  | @big K k p =>
    intro d h
    have h1 := hp _ p
    have h2 := lf_pos (n := d) (by have := K.dp_pos; omega)
    have := Nat.mul_le_mul_right M h2
    omega
  | @pair a b c d _ _ x y =>
    intro d h
    obtain ⟨e, rfl⟩ : ∃ e, d = e + 1 := ⟨d - 1, by simp only [Kd.dp] at h; omega⟩
    simp only [Kd.dp] at h
    have := x (d := e) (by omega); have := y (d := e) (by omega)
    have := Nat.mul_le_mul_right M (lf_step e)
    rw [Nat.mul_assoc] at this
    rw [tau_step (by have := a.dp_pos; omega)]; simp only [Kd.tl]; omega
  | @either a b c d _ _ x y =>
    intro d h
    obtain ⟨e, rfl⟩ : ∃ e, d = e + 1 := ⟨d - 1, by simp only [Kd.dp] at h; omega⟩
    simp only [Kd.dp] at h
    have := x (d := e) (by omega); have := y (d := e) (by omega)
    have := Nat.mul_le_mul_right M (lf_step e)
    rw [Nat.mul_assoc] at this
    rw [tau_step (by have := a.dp_pos; omega)]; simp only [Kd.tl]; omega
  | @func a b c d _ _ x y =>
    intro d h
    obtain ⟨e, rfl⟩ : ∃ e, d = e + 1 := ⟨d - 1, by simp only [Kd.dp] at h; omega⟩
    simp only [Kd.dp] at h
    have := x (d := e) (by omega); have := y (d := e) (by omega)
    have := Nat.mul_le_mul_right M (lf_step e)
    rw [Nat.mul_assoc] at this
    rw [tau_step (by have := a.dp_pos; omega)]; simp only [Kd.tl]; omega
  | @list a c _ x =>
    intro d h
    obtain ⟨e, rfl⟩ : ∃ e, d = e + 1 := ⟨d - 1, by simp only [Kd.dp] at h; omega⟩
    simp only [Kd.dp] at h
    have := x (d := e) (by omega)
    have := Nat.mul_le_mul_right M (lf_step e)
    rw [Nat.mul_assoc] at this
    rw [tau_step (by have := a.dp_pos; omega)]; simp only [Kd.tl]; omega
theorem callK_ok {f a k : Kd} (h : callK f a = .ok k) : f = .func a k := by
  unfold callK at h
  split at h
  · split at h
    · cases h; rename_i e; rw [e]
    · cases h
  · cases h
theorem numK_ok {n : Nat} {a b r k : Kd} (h : numK n a b r = .ok k) : k = r := by
  unfold numK at h
  split at h
  · cases h
  · split at h <;> cases h
    rfl
theorem minusK_ok {a k : Kd} (h : minusK a = .ok k) : k = .num := by
  unfold minusK at h
  split at h <;> cases h
  rfl
theorem firstK_ok {a k : Kd} (h : firstK a = .ok k) : ∃ y, a = .pair k y := by
  unfold firstK at h
  split at h <;> cases h
  exact ⟨_, rfl⟩
theorem secondK_ok {a k : Kd} (h : secondK a = .ok k) : ∃ x, a = .pair x k := by
  unfold secondK at h
  split at h <;> cases h
  exact ⟨_, rfl⟩
theorem consK_ok {a b k : Kd} (h : consK a b = .ok k) : b = k ∧ k = .list a := by
  unfold consK at h
  split at h <;> cases h
  rename_i e
  exact ⟨rfl, e⟩
theorem foldK_ok {f a b k : Kd} (h : foldK f a b = .ok k) : a = k ∧ ∃ x, f = .func x (.func k k) ∧ b = .list x := by
  unfold foldK at h
  split at h
  · rename_i x y z
    split at h
    · cases h
    · split at h
      · cases h
      · split at h
        · cases h
        · cases h
          rename_i e3 e1 e2
          have e1 : k = z := by simpa using e1
          have e2 : a = k := by simpa using e2
          have e3 : b = .list x := by simpa using e3
          exact ⟨e2, x, by rw [← e1], e3⟩
  · cases h
theorem name_ok {Γ : Ctx} {x : Str} {k : Kd} (h : walk Γ (.name x) = .ok k) : look Γ x = some k := by
  unfold walk at h
  split at h <;> cases h
  assumption
end Kq
/-! M9: what every drawn term keeps. -/
namespace Kq
open PySem
/-- names of the list, small numbers, kinds of at most five levels, signs -/
def Wf : Tm → Prop
  | .name x => Nm x
  | .unit => True | .number i => i.natAbs < 100 | .nil k => k.dp ≤ 5
  | .fn x k b => Nm x ∧ k.dp ≤ 5 ∧ Wf b
  | .minus a => Wf a | .first a => Wf a | .second a => Wf a | .left a k => Wf a ∧ k.dp ≤ 5 | .right k a => k.dp ≤ 5 ∧ Wf a
  | .call f a => Wf f ∧ Wf a | .plus a b => Wf a ∧ Wf b | .times a b => Wf a ∧ Wf b | .is s a b => s ∈ (["<", "<=", "=="] : List Str) ∧ Wf a ∧ Wf b | .pair a b => Wf a ∧ Wf b | .cons a b => Wf a ∧ Wf b
  | .lete x a b => Nm x ∧ Wf a ∧ Wf b
  | .case s x a y b => Wf s ∧ Nm x ∧ Wf a ∧ Nm y ∧ Wf b
  | .fold f a b => Wf f ∧ Wf a ∧ Wf b
theorem nm0 {x : Str} (h : x ∈ nmL0) : Nm x := List.mem_append_left _ h
theorem Fl.wf {m d : Nat} {t : Tm} (h : Fl m d t) (hd : d ≤ 5) : Wf t := by
  induction h with
  | name a b => exact b
  | unit _ => trivial
  | number _ a => exact a
  | nil _ a => simp only [Wf]; omega
  | cons a _ ih => exact ⟨ih (by omega), by simp only [Wf]; omega⟩
  | fn a b _ ih => exact ⟨a, by omega, ih (by omega)⟩
  | pair _ _ x y => exact ⟨x (by omega), y (by omega)⟩
  | left a _ ih => exact ⟨ih (by omega), by omega⟩
  | right a _ ih => exact ⟨by omega, ih (by omega)⟩
theorem G.wf {n : Nat} {Γ : Ctx} {t : Tm} {k : Kd} (h : G n Γ t k) : Wf t := by
  induction h with
  | name a b => exact b
  | unit => trivial
  | number a => exact a
  | nil a => simp only [Wf]; omega
  | fn a b c _ ih => exact ⟨a, by omega, ih⟩
  | call a h1 h2 b i1 i2 => exact ⟨i1, i2⟩
  | lete a b c h1 h2 d i1 i2 => exact ⟨a, i1, i2⟩
  | plus h1 h2 d i1 i2 => exact ⟨i1, i2⟩
  | times h1 h2 d i1 i2 => exact ⟨i1, i2⟩
  | minus _ ih => exact ih
  | is a h1 h2 d i1 i2 => exact ⟨a, i1, i2⟩
  | pair a h1 h2 d i1 i2 => exact ⟨i1, i2⟩
  | first a _ ih => exact ih
  | second a _ ih => exact ih
  | left a _ ih => exact ⟨ih, by simp only [Kd.dp] at a; omega⟩
  | right a _ ih => exact ⟨by simp only [Kd.dp] at a; omega, ih⟩
  | case a b c d h1 h2 h3 e i1 i2 i3 => exact ⟨i1, a, i2, b, i3⟩
  | cons a h1 h2 d i1 i2 => exact ⟨i1, i2⟩
  | fold a b c h1 h2 h3 d i1 i2 i3 => exact ⟨i1, i2, i3⟩
theorem nm_str : ∀ x ∈ nmL, PyData.strOk x = true := by decide +kernel
theorem Wf.nmOk : ∀ {t : Tm}, Wf t → NmOk t := by
  intro t
  induction t with
  | name x => exact nm_str x
  | unit => exact id
  | number i => exact fun _ => trivial
  | nil k => exact fun _ => trivial
  | fn x k b ih => exact fun h => ⟨nm_str x h.1, ih h.2.2⟩
  | minus a ih => exact ih
  | first a ih => exact ih
  | second a ih => exact ih
  | left a k ih => exact fun h => ih h.1
  | right k a ih => exact fun h => ih h.2
  | call a b x y => exact fun h => ⟨x h.1, y h.2⟩
  | plus a b x y => exact fun h => ⟨x h.1, y h.2⟩
  | times a b x y => exact fun h => ⟨x h.1, y h.2⟩
  | is s a b x y => exact fun h => ⟨x h.2.1, y h.2.2⟩
  | pair a b x y => exact fun h => ⟨x h.1, y h.2⟩
  | cons a b x y => exact fun h => ⟨x h.1, y h.2⟩
  | lete x a b p q => exact fun h => ⟨nm_str x h.1, p h.2.1, q h.2.2⟩
  | case s x a y b p q r => exact fun h => ⟨p h.1, nm_str x h.2.1, q h.2.2.1, nm_str y h.2.2.2.1, r h.2.2.2.2⟩
  | fold f a b p q r => exact fun h => ⟨p h.1, q h.2.1, r h.2.2⟩
end Kq
/-! M10: terms that were bent: a judgement that every bend keeps. -/
namespace Kq
open PySem
/-- what is known of a name: nothing, a kind that is low outright, a kind with parts exchanged -/
inductive Ent where
  | no | wild | is (k : Kd)
abbrev GC := Str → Ent
def GC.put (γ : GC) (x : Str) (e : Ent) : GC := fun y => if y = x then e else γ y
/-- of a kind; or flat: names, levels -/
inductive Md where
  | s (K : Kd) | f (m dd : Nat)
def Fit (d n : Nat) (K : Kd) : Prop := d + K.dp ≤ 7 * n + 7
def FitF (d n : Nat) : Prop := d ≤ 7 * n + 3
/-- how much a text may grow, how much a depth, how many bends -/
inductive S : Md → Bool → Nat → Nat → Nat → GC → Tm → Prop
  | mono {μ : Md} {fl : Bool} {c c' d d' n n' : Nat} {γ : GC} {t : Tm} : S μ fl c d n γ t → c ≤ c' → d ≤ d' → n ≤ n' → (∀ K, μ = .s K → Fit d n K) → (∀ m dd, μ = .f m dd → FitF d n) → S μ fl c' d' n' γ t
  | name {fl : Bool} {γ : GC} {x : Str} {k : Kd} : (γ x = .is k ∨ γ x = .wild) → S (.s k) fl 1 0 0 γ (.name x)
  | unit {fl : Bool} {γ : GC} : S (.s .unit) fl 1 0 0 γ .unit
  | number {fl : Bool} {γ : GC} {i : Int} : S (.s .num) fl 1 0 0 γ (.number i)
  | nil {fl : Bool} {γ : GC} {k : Kd} : k.dp ≤ 4 → S (.s (.list k)) fl 1 0 0 γ (.nil k)
  | fn {fl : Bool} {c d n : Nat} {γ : GC} {x : Str} {a k : Kd} {b : Tm} : a.dp ≤ 4 → S (.s k) fl c d n (γ.put x (.is a)) b → S (.s (.func a k)) fl c d n γ (.fn x a b)
  | call {fl fl2 : Bool} {c d n c2 d2 : Nat} {γ : GC} {f t : Tm} {a k : Kd} : (Kd.func a k).dp ≤ 5 → Fit d n (.func a k) → S (.s (.func a k)) fl c d n γ f → S (.s a) fl2 c2 d2 n γ t → Fit d2 n a → S (.s k) fl c d n γ (.call f t)
  | lete {fl : Bool} {c1 d1 n1 c2 d2 n2 : Nat} {γ : GC} {x : Str} {a b : Tm} {ka k : Kd} : ka.dp ≤ 4 → S (.s ka) fl c1 d1 n1 γ a → Fit d1 n1 ka → d1 ≤ 7 * n1 → S (.s k) fl c2 d2 n2 (γ.put x (.is ka)) b → Fit d2 n2 k → S (.s k) fl (c1 * c2) (d1 + d2) (n1 + n2) γ (.lete x a b)
  | plus {fl f1 f2 : Bool} {n c1 d1 c2 d2 : Nat} {γ : GC} {a b : Tm} {K1 K2 : Kd} : K1.dp ≤ 6 → K2.dp ≤ 6 → S (.s K1) f1 c1 d1 n γ a → Fit d1 n K1 → S (.s K2) f2 c2 d2 n γ b → Fit d2 n K2 → S (.s .num) fl 1 0 n γ (.plus a b)
  | times {fl f1 f2 : Bool} {n c1 d1 c2 d2 : Nat} {γ : GC} {a b : Tm} {K1 K2 : Kd} : K1.dp ≤ 6 → K2.dp ≤ 6 → S (.s K1) f1 c1 d1 n γ a → Fit d1 n K1 → S (.s K2) f2 c2 d2 n γ b → Fit d2 n K2 → S (.s .num) fl 1 0 n γ (.times a b)
  | is {fl f1 f2 : Bool} {n c1 d1 c2 d2 : Nat} {γ : GC} {s : Str} {a b : Tm} {K1 K2 : Kd} : K1.dp ≤ 6 → K2.dp ≤ 6 → S (.s K1) f1 c1 d1 n γ a → Fit d1 n K1 → S (.s K2) f2 c2 d2 n γ b → Fit d2 n K2 → S (.s truthK) fl 1 0 n γ (.is s a b)
  | minus {fl f1 : Bool} {n c1 d1 : Nat} {γ : GC} {a : Tm} {K1 : Kd} : K1.dp ≤ 6 → S (.s K1) f1 c1 d1 n γ a → Fit d1 n K1 → S (.s .num) fl 1 0 n γ (.minus a)
  | pair {fl : Bool} {c d n : Nat} {γ : GC} {a b : Tm} {ka kb : Kd} : S (.s ka) fl c d n γ a → S (.s kb) fl c d n γ b → S (.s (.pair ka kb)) fl c d n γ (.pair a b)
  | first {fl : Bool} {c d n : Nat} {γ : GC} {a : Tm} {x y : Kd} : (Kd.pair x y).dp ≤ 5 → Fit d n (.pair x y) → S (.s (.pair x y)) fl c d n γ a → S (.s x) fl c d n γ (.first a)
  | second {fl : Bool} {c d n : Nat} {γ : GC} {a : Tm} {x y : Kd} : (Kd.pair x y).dp ≤ 5 → Fit d n (.pair x y) → S (.s (.pair x y)) fl c d n γ a → S (.s y) fl c d n γ (.second a)
  | left {fl : Bool} {c d n : Nat} {γ : GC} {a : Tm} {x y : Kd} : S (.s x) fl c d n γ a → S (.s (.either x y)) fl c d n γ (.left a y)
  | right {fl : Bool} {c d n : Nat} {γ : GC} {a : Tm} {x y : Kd} : S (.s y) fl c d n γ a → S (.s (.either x y)) fl c d n γ (.right x a)
  | case {fl : Bool} {c1 d1 n1 c2 d2 n2 : Nat} {γ : GC} {s a b : Tm} {x y : Str} {p q k : Kd} : p.dp ≤ 4 → q.dp ≤ 4 → S (.s (.either p q)) fl c1 d1 n1 γ s → Fit d1 n1 (.either p q) → d1 ≤ 7 * n1 → S (.s k) fl c2 d2 n2 (γ.put x (.is p)) a → Fit d2 n2 k → S (.s k) fl c2 d2 n2 (γ.put y (.is q)) b → S (.s k) fl (c1 * c2) (d1 + d2) (n1 + n2) γ (.case s x a y b)
  | cons {fl f1 : Bool} {c d n c1 d1 : Nat} {γ : GC} {a b : Tm} {K1 k : Kd} : K1.dp ≤ 6 → S (.s K1) f1 c1 d1 n γ a → Fit d1 n K1 → S (.s k) fl c d n γ b → S (.s k) fl c d n γ (.cons a b)
  | fold {fl f1 f2 : Bool} {c d n c1 d1 c2 d2 : Nat} {γ : GC} {f a b : Tm} {K1 K2 k : Kd} : K1.dp ≤ 6 → S (.s K1) f1 c1 d1 n γ f → Fit d1 n K1 → S (.s k) fl c d n γ a → K2.dp ≤ 6 → S (.s K2) f2 c2 d2 n γ b → Fit d2 n K2 → S (.s k) fl c d n γ (.fold f a b)
  -- what a bend leaves
  | drop {fl : Bool} {c d n c' d' : Nat} {γ : GC} {t : Tm} {K K' : Kd} : K.dp ≤ 6 → (fl = true → K.dp ≤ 5) → S (.s K) fl c d n γ t → lf K.dp * c ≤ c' → d + K.dp ≤ d' + 1 → S (.s K') fl c' d' n γ t
  | wName {fl : Bool} {γ : GC} {x : Str} {k : Kd} : S (.s k) fl 8 3 1 γ (.name x)
  | wFirst {fl : Bool} {c d n : Nat} {γ : GC} {t : Tm} : S (.s .num) fl c d n γ t → S (.s .num) fl c d n γ (.first t)
  | wSecond {fl : Bool} {c d n : Nat} {γ : GC} {t : Tm} : S (.s .num) fl c d n γ t → S (.s .num) fl c d n γ (.second t)
  | wCall {fl f2 : Bool} {c d n c2 d2 : Nat} {γ : GC} {f t : Tm} {K2 : Kd} : S (.s .num) fl c d n γ f → K2.dp ≤ 6 → S (.s K2) f2 c2 d2 n γ t → Fit d2 n K2 → S (.s .num) fl c d n γ (.call f t)
  | wPair {fl : Bool} {c1 c2 d n : Nat} {γ : GC} {a b : Tm} : S (.s .num) fl c1 d n γ a → S (.s .num) fl c2 d n γ b → S (.s .num) fl (c1 + c2) (d + 1) n γ (.pair a b)
  | wCase {fl : Bool} {c1 d1 n1 c2 d2 n2 n : Nat} {γ : GC} {s a b : Tm} {x y : Str} : S (.s .num) fl c1 d1 n1 γ s → Fit d1 n1 .num → S (.s .num) fl c2 d2 n2 (γ.put x .wild) a → Fit d2 n2 .num → S (.s .num) fl c2 d2 n2 (γ.put y .wild) b → n1 ≤ n → n2 ≤ n → S (.s .num) fl (c1 * c2) (d1 + d2) (n + 1) γ (.case s x a y b)
  | wLet {fl : Bool} {c1 d1 n1 c2 d2 n2 n : Nat} {γ : GC} {a b : Tm} {x : Str} : S (.s .num) fl c1 d1 n1 γ a → Fit d1 n1 .num → S (.s .num) fl c2 d2 n2 (γ.put x .wild) b → Fit d2 n2 .num → n1 ≤ n → n2 ≤ n → S (.s .num) fl (c1 * c2) (d1 + d2) (n + 1) γ (.lete x a b)
  | wFn {f1 : Bool} {c c' d n n' : Nat} {γ : GC} {x : Str} {a K1 : Kd} {b : Tm} : a.dp ≤ 4 → K1.dp ≤ 6 → S (.s K1) f1 c d n (γ.put x .wild) b → Fit d n K1 → n ≤ n' → 1 ≤ c' → Fit (d + K1.dp) n' .num → S (.s .num) false c' (d + K1.dp) n' γ (.fn x a b)
  | flat {fl : Bool} {c d n : Nat} {γ : GC} {t : Tm} : S (.f 4 4) fl c d n γ t → FitF d n → S (.s .num) fl (4 * c) (d + 3) n γ t
  -- flat terms
  | fName {fl : Bool} {c d n m dd : Nat} {γ : GC} {x : Str} : 8 ≤ c → 3 ≤ d → 1 ≤ n → 1 ≤ m → S (.f m (dd + 1)) fl c d n γ (.name x)
  | fUnit {fl : Bool} {c d n m dd : Nat} {γ : GC} : 1 ≤ c → 1 ≤ m → S (.f m (dd + 1)) fl c d n γ .unit
  | fNumber {fl : Bool} {c d n m dd : Nat} {γ : GC} {i : Int} : 1 ≤ c → 1 ≤ m → S (.f m (dd + 1)) fl c d n γ (.number i)
  | fNil {fl : Bool} {c d n m dd : Nat} {γ : GC} {k : Kd} : 1 ≤ c → 1 ≤ m → k.dp ≤ dd → S (.f m (dd + 1)) fl c d n γ (.nil k)
  | fCons {fl f1 : Bool} {c d n m dd c1 d1 m1 dd1 : Nat} {γ : GC} {a b : Tm} : dd1 ≤ 4 → m1 ≤ 4 → FitF d1 n → S (.f m1 dd1) f1 c1 d1 n γ a → S (.f m dd) fl c d n γ b → S (.f m dd) fl c d n γ (.cons a b)
  | fFn {fl : Bool} {c d n m dd : Nat} {γ : GC} {x : Str} {k : Kd} {b : Tm} : k.dp ≤ dd → S (.f m dd) fl c d n (γ.put x (.is k)) b → S (.f m (dd + 1)) fl c d n γ (.fn x k b)
  | fPair {fl : Bool} {c d n l m dd : Nat} {γ : GC} {a b : Tm} : S (.f l dd) fl c d n γ a → S (.f m dd) fl c d n γ b → S (.f (l + m) (dd + 1)) fl c d n γ (.pair a b)
  | fLeft {fl : Bool} {c d n m dd : Nat} {γ : GC} {a : Tm} {k : Kd} : k.dp ≤ dd → S (.f m dd) fl c d n γ a → S (.f m (dd + 1)) fl c d n γ (.left a k)
  | fRight {fl : Bool} {c d n m dd : Nat} {γ : GC} {a : Tm} {k : Kd} : k.dp ≤ dd → S (.f m dd) fl c d n γ a → S (.f m (dd + 1)) fl c d n γ (.right k a)
  | fBent {fl : Bool} {c d n m dd : Nat} {γ : GC} {t : Tm} : Fit d n .num → 1 ≤ m → S (.s .num) fl c d n γ t → S (.f m (dd + 1)) fl c d n γ t
theorem S.pos {μ : Md} {fl : Bool} {c d n : Nat} {γ : GC} {t : Tm} (h : S μ fl c d n γ t) : 1 ≤ c := by
  induction h with
  | lete _ _ _ _ _ _ x y => exact Nat.mul_pos x y
  | case _ _ _ _ _ _ _ _ x y _ => exact Nat.mul_pos x y
  | wCase _ _ _ _ _ _ _ x y _ => exact Nat.mul_pos x y
  | wLet _ _ _ _ _ _ x y => exact Nat.mul_pos x y
  | @drop _ _ _ _ _ _ _ _ K _ _ _ _ h _ x =>
    have h1 : 1 ≤ lf K.dp := lf_pos K.dp_pos
    have := Nat.mul_le_mul h1 x
    omega
  | _ => omega
/-- less is asked of names -/
def Wk (γ δ : GC) : Prop := ∀ x, δ x = γ x ∨ δ x = .wild
theorem Wk.put {γ δ : GC} (h : Wk γ δ) (x : Str) (e : Ent) : Wk (γ.put x e) (δ.put x e) := fun y => by
  unfold GC.put
  split
  · exact .inl rfl
  · exact h y
theorem Wk.wild (γ : GC) (x : Str) : Wk γ (γ.put x .wild) := fun y => by
  unfold GC.put
  split
  · exact .inr rfl
  · exact .inl rfl
theorem S.wk {μ : Md} {fl : Bool} {c d n : Nat} {γ : GC} {t : Tm} (h : S μ fl c d n γ t) : ∀ {δ : GC}, Wk γ δ → S μ fl c d n δ t := by
  induction h with
  | mono _ a b c e f ih => intro δ w; exact .mono (ih w) a b c e f
  | name a =>
    intro δ w
    rename_i x k
    rcases w x with e | e
    · exact .name (by rw [e]; exact a)
    · exact .name (.inr e)
  | unit => intro δ w; exact .unit
  | number => intro δ w; exact .number
  | nil a => intro δ w; exact .nil a
  | fn a _ ih => intro δ w; exact .fn a (ih (w.put _ _))
  | call a b _ _ c x y => intro δ w; exact .call a b (x w) (y w) c
  | lete a _ b c _ d x y => intro δ w; exact .lete a (x w) b c (y (w.put _ _)) d
  | plus a b _ c _ d x y => intro δ w; exact .plus a b (x w) c (y w) d
  | times a b _ c _ d x y => intro δ w; exact .times a b (x w) c (y w) d
  | is a b _ c _ d x y => intro δ w; exact .is a b (x w) c (y w) d
  | minus a _ b x => intro δ w; exact .minus a (x w) b
  | pair _ _ x y => intro δ w; exact .pair (x w) (y w)
  | first a b _ x => intro δ w; exact .first a b (x w)
  | second a b _ x => intro δ w; exact .second a b (x w)
  | left _ x => intro δ w; exact .left (x w)
  | right _ x => intro δ w; exact .right (x w)
  | case a b _ c d _ e _ x y z => intro δ w; exact .case a b (x w) c d (y (w.put _ _)) e (z (w.put _ _))
  | cons a _ b _ x y => intro δ w; exact .cons a (x w) b (y w)
  | fold a _ b _ c _ d x y z => intro δ w; exact .fold a (x w) b (y w) c (z w) d
  | drop a e _ b c x => intro δ w; exact .drop a e (x w) b c
  | wName => intro δ w; exact .wName
  | wFirst _ x => intro δ w; exact .wFirst (x w)
  | wSecond _ x => intro δ w; exact .wSecond (x w)
  | wCall _ a _ b x y => intro δ w; exact .wCall (x w) a (y w) b
  | wPair _ _ x y => intro δ w; exact .wPair (x w) (y w)
  | wCase _ a _ b _ c d x y z => intro δ w; exact .wCase (x w) a (y (w.put _ _)) b (z (w.put _ _)) c d
  | wLet _ a _ b c d x y => intro δ w; exact .wLet (x w) a (y (w.put _ _)) b c d
  | wFn a b _ c d e f x => intro δ w; exact .wFn a b (x (w.put _ _)) c d e f
  | flat _ a x => intro δ w; exact .flat (x w) a
  | fName a b c d => intro δ w; exact .fName a b c d
  | fUnit a b => intro δ w; exact .fUnit a b
  | fNumber a b => intro δ w; exact .fNumber a b
  | fNil a b c => intro δ w; exact .fNil a b c
  | fCons a b c _ _ x y => intro δ w; exact .fCons a b c (x w) (y w)
  | fFn a _ x => intro δ w; exact .fFn a (x (w.put _ _))
  | fPair _ _ x y => intro δ w; exact .fPair (x w) (y w)
  | fLeft a _ x => intro δ w; exact .fLeft a (x w)
  | fRight a _ x => intro δ w; exact .fRight a (x w)
  | fBent a b _ x => intro δ w; exact .fBent a b (x w)
/-- the text is let go -/
theorem S.fls {μ : Md} {fl : Bool} {c d n : Nat} {γ : GC} {t : Tm} (h : S μ fl c d n γ t) : S μ false c d n γ t := by
  induction h with
  | mono _ a b c e f ih => exact .mono ih a b c e f
  | name a => exact .name a
  | unit => exact .unit
  | number => exact .number
  | nil a => exact .nil a
  | fn a _ ih => exact .fn a ih
  | call a b _ _ c x y => exact .call a b x y c
  | lete a _ b c _ d x y => exact .lete a x b c y d
  | plus a b _ c _ d x y => exact .plus a b x c y d
  | times a b _ c _ d x y => exact .times a b x c y d
  | is a b _ c _ d x y => exact .is a b x c y d
  | minus a _ b x => exact .minus a x b
  | pair _ _ x y => exact .pair x y
  | first a b _ x => exact .first a b x
  | second a b _ x => exact .second a b x
  | left _ x => exact .left x
  | right _ x => exact .right x
  | case a b _ c d _ e _ x y z => exact .case a b x c d y e z
  | cons a _ b _ x y => exact .cons a x b y
  | fold a _ b _ c _ d x y z => exact .fold a x b y c z d
  | drop a e _ b c x => exact .drop a (fun h => by cases h) x b c
  | wName => exact .wName
  | wFirst _ x => exact .wFirst x
  | wSecond _ x => exact .wSecond x
  | wCall _ a _ b x y => exact .wCall x a y b
  | wPair _ _ x y => exact .wPair x y
  | wCase _ a _ b _ c d x y z => exact .wCase x a y b z c d
  | wLet _ a _ b c d x y => exact .wLet x a y b c d
  | wFn a b _ c d e f x => exact .wFn a b x c d e f
  | flat _ a x => exact .flat x a
  | fName a b c d => exact .fName a b c d
  | fUnit a b => exact .fUnit a b
  | fNumber a b => exact .fNumber a b
  | fNil a b c => exact .fNil a b c
  | fCons a b c _ _ x y => exact .fCons a b c x y
  | fFn a _ x => exact .fFn a x
  | fPair _ _ x y => exact .fPair x y
  | fLeft a _ x => exact .fLeft a x
  | fRight a _ x => exact .fRight a x
  | fBent a b _ x => exact .fBent a b x
end Kq
/-! M11: a bend; what it leaves. -/
namespace Kq
open PySem
/-- a part exchanged -/
inductive Oth : Tm → Tm → Prop
  | flat {t f : Tm} : FlB f → Oth t f
  | name {t : Tm} {x : Str} : Nm x → Oth t (.name x)
  | first {t : Tm} : Oth t (.first t)
  | second {t : Tm} : Oth t (.second t)
  | minus {t : Tm} : Oth t (.minus t)
  | call {t : Tm} : Oth t (.call t t)
  | plus {t : Tm} : Oth t (.plus t t)
  | times {t : Tm} : Oth t (.times t t)
  | pair {t : Tm} : Oth t (.pair t t)
  | cons {t : Tm} : Oth t (.cons t t)
  | case {t : Tm} : Oth t (.case t "x" (.name "x") "y" (.name "y"))
  | fold {t body init : Tm} {kd : Kd} : kd.dp ≤ 4 → (body = t ∨ body = .name "r" ∨ body = .name "h") → (init = t ∨ FlB init) → Oth t (.fold (.fn "h" kd (.fn "r" kd body)) init (.cons t (.nil kd)))
  | is {t : Tm} : Oth t (.is "<" (.number 1) t)
  | lete {t : Tm} : Oth t (.lete "x" t (.plus (.name "x") t))
/-- a bend: here, or in a part -/
inductive Bnd : Bool → Tm → Tm → Prop
  | root {t t' : Tm} : Oth t t' → Bnd true t t'
  | fn {r : Bool} {x : Str} {k : Kd} {b b' : Tm} : Bnd r b b' → Bnd false (.fn x k b) (.fn x k b')
  | call1 {r : Bool} {a a' b : Tm} : Bnd r a a' → Bnd false (.call a b) (.call a' b)
  | call2 {r : Bool} {a b b' : Tm} : Bnd r b b' → Bnd false (.call a b) (.call a b')
  | let1 {r : Bool} {x : Str} {a a' b : Tm} : Bnd r a a' → Bnd false (.lete x a b) (.lete x a' b)
  | let2 {r : Bool} {x : Str} {a b b' : Tm} : Bnd r b b' → Bnd false (.lete x a b) (.lete x a b')
  | plus1 {r : Bool} {a a' b : Tm} : Bnd r a a' → Bnd false (.plus a b) (.plus a' b)
  | plus2 {r : Bool} {a b b' : Tm} : Bnd r b b' → Bnd false (.plus a b) (.plus a b')
  | times1 {r : Bool} {a a' b : Tm} : Bnd r a a' → Bnd false (.times a b) (.times a' b)
  | times2 {r : Bool} {a b b' : Tm} : Bnd r b b' → Bnd false (.times a b) (.times a b')
  | minus {r : Bool} {a a' : Tm} : Bnd r a a' → Bnd false (.minus a) (.minus a')
  | is1 {r : Bool} {s : Str} {a a' b : Tm} : Bnd r a a' → Bnd false (.is s a b) (.is s a' b)
  | is2 {r : Bool} {s : Str} {a b b' : Tm} : Bnd r b b' → Bnd false (.is s a b) (.is s a b')
  | pair1 {r : Bool} {a a' b : Tm} : Bnd r a a' → Bnd false (.pair a b) (.pair a' b)
  | pair2 {r : Bool} {a b b' : Tm} : Bnd r b b' → Bnd false (.pair a b) (.pair a b')
  | first {r : Bool} {a a' : Tm} : Bnd r a a' → Bnd false (.first a) (.first a')
  | second {r : Bool} {a a' : Tm} : Bnd r a a' → Bnd false (.second a) (.second a')
  | left {r : Bool} {a a' : Tm} {k : Kd} : Bnd r a a' → Bnd false (.left a k) (.left a' k)
  | right {r : Bool} {a a' : Tm} {k : Kd} : Bnd r a a' → Bnd false (.right k a) (.right k a')
  | case1 {r : Bool} {s s' a b : Tm} {x y : Str} : Bnd r s s' → Bnd false (.case s x a y b) (.case s' x a y b)
  | case2 {r : Bool} {s a a' b : Tm} {x y : Str} : Bnd r a a' → Bnd false (.case s x a y b) (.case s x a' y b)
  | case3 {r : Bool} {s a b b' : Tm} {x y : Str} : Bnd r b b' → Bnd false (.case s x a y b) (.case s x a y b')
  | cons1 {r : Bool} {a a' b : Tm} : Bnd r a a' → Bnd false (.cons a b) (.cons a' b)
  | cons2 {r : Bool} {a b b' : Tm} : Bnd r b b' → Bnd false (.cons a b) (.cons a b')
  | fold1 {r : Bool} {f f' a b : Tm} : Bnd r f f' → Bnd false (.fold f a b) (.fold f' a b)
  | fold2 {r : Bool} {f a a' b : Tm} : Bnd r a a' → Bnd false (.fold f a b) (.fold f a' b)
  | fold3 {r : Bool} {f a b b' : Tm} : Bnd r b b' → Bnd false (.fold f a b) (.fold f a b')
section
variable {μ : Md} {fl : Bool} {c d n : Nat} {γ : GC} {t t' : Tm} {K : Kd}
theorem S.eq {c' d' n' : Nat} (h : S μ fl c d n γ t) (a : c = c') (b : d = d') (e : n = n') : S μ fl c' d' n' γ t := by
  subst a; subst b; subst e; exact h
theorem S.le {c' d' n' : Nat} (h : S (.s K) fl c d n γ t) (f : Fit d n K) (a : c ≤ c') (b : d ≤ d') (e : n ≤ n') : S (.s K) fl c' d' n' γ t :=
  .mono h a b e (fun K' z => by cases z; exact f) (fun m dd z => by cases z)
theorem S.leF {c' d' n' m dd : Nat} (h : S (.f m dd) fl c d n γ t) (f : FitF d n) (a : c ≤ c') (b : d ≤ d') (e : n ≤ n') : S (.f m dd) fl c' d' n' γ t :=
  .mono h a b e (fun K' z => by cases z) (fun m dd z => f)
theorem Fit.up {d' n' : Nat} (f : Fit d n K) (h : d' ≤ d + 7 * (n' - n)) (hn : n ≤ n') : Fit d' n' K := by unfold Fit at *; omega
theorem Fl.mpos {m dd : Nat} (h : Fl m dd t) : 1 ≤ m := by induction h <;> omega
theorem S.mpos (h : S μ fl c d n γ t) : ∀ {m dd : Nat}, μ = .f m dd → 1 ≤ m ∧ 1 ≤ dd := by
  induction h with
  | mono _ _ _ _ _ _ ih => exact ih
  | fName _ _ _ a => intro m dd z; cases z; omega
  | fUnit _ a => intro m dd z; cases z; omega
  | fNumber _ a => intro m dd z; cases z; omega
  | fNil _ a => intro m dd z; cases z; omega
  | fCons _ _ _ _ _ _ x => intro m dd z; cases z; exact x rfl
  | fFn _ _ x => intro m dd z; cases z; have := x rfl; omega
  | fPair _ _ x y => intro m dd z; cases z; have := x rfl; have := y rfl; omega
  | fLeft _ _ x => intro m dd z; cases z; have := x rfl; omega
  | fRight _ _ x => intro m dd z; cases z; have := x rfl; omega
  | fBent _ a => intro m dd z; cases z; omega
  | _ => intro m dd z; cases z
theorem Fl.toS {m dd : Nat} (h : Fl m dd t) (hd : dd ≤ 5) (hm : m ≤ 4) : ∀ γ : GC, S (.f m dd) fl 8 3 1 γ t := by
  induction h with
  | name a b => intro γ; exact .fName (by omega) (by omega) (by omega) a
  | unit a => intro γ; exact .fUnit (by omega) a
  | number a b => intro γ; exact .fNumber (by omega) a
  | nil a b => intro γ; exact .fNil (by omega) a b
  | @cons m dd a k hk h ih => intro γ; exact .fCons (by omega) hm (by unfold FitF; omega) (ih (by omega) hm γ) (.fNil (by omega) h.mpos hk)
  | fn a b _ ih => intro γ; exact .fFn b (ih (by omega) hm _)
  | pair _ _ x y => intro γ; exact .fPair (x (by omega) (by omega) γ) (y (by omega) (by omega) γ)
  | left a _ x => intro γ; exact .fLeft a (x (by omega) hm γ)
  | right a _ x => intro γ; exact .fRight a (x (by omega) hm γ)
theorem S.fle (h : S μ fl c d n γ t) : ∀ {m dd m' dd' : Nat}, μ = .f m dd → m ≤ m' → dd ≤ dd' → S (.f m' dd') fl c d n γ t := by
  induction h with
  | mono _ a b c e f ih => intro m dd m' dd' z p q; subst z; exact .leF (ih rfl p q) (f _ _ rfl) a b c
  | fName a b c d => intro m dd m' dd' z p q; cases z; obtain ⟨e, rfl⟩ : ∃ e, dd' = e + 1 := ⟨dd' - 1, by omega⟩; exact .fName a b c (by omega)
  | fUnit a b => intro m dd m' dd' z p q; cases z; obtain ⟨e, rfl⟩ : ∃ e, dd' = e + 1 := ⟨dd' - 1, by omega⟩; exact .fUnit a (by omega)
  | fNumber a b => intro m dd m' dd' z p q; cases z; obtain ⟨e, rfl⟩ : ∃ e, dd' = e + 1 := ⟨dd' - 1, by omega⟩; exact .fNumber a (by omega)
  | fNil a b c => intro m dd m' dd' z p q; cases z; obtain ⟨e, rfl⟩ : ∃ e, dd' = e + 1 := ⟨dd' - 1, by omega⟩; exact .fNil a (by omega) (by omega)
  | fCons a b c h _ x y => intro m dd m' dd' z p q; cases z; exact .fCons a b c h (y rfl p q)
  | fFn a _ x => intro m dd m' dd' z p q; cases z; obtain ⟨e, rfl⟩ : ∃ e, dd' = e + 1 := ⟨dd' - 1, by omega⟩; exact .fFn (by omega) (x rfl p (by omega))
  | @fPair fl c d n l m0 dd0 γ a b _ _ x y =>
    intro m dd m' dd' z p q; cases z; obtain ⟨e, rfl⟩ : ∃ e, dd' = e + 1 := ⟨dd' - 1, by omega⟩
    have := S.fPair (x (m' := m' - m0) rfl (by omega) (by omega : dd0 ≤ e)) (y (m' := m0) rfl (Nat.le_refl _) (by omega : dd0 ≤ e))
    rwa [show m' - m0 + m0 = m' by omega] at this
  | fLeft a _ x => intro m dd m' dd' z p q; cases z; obtain ⟨e, rfl⟩ : ∃ e, dd' = e + 1 := ⟨dd' - 1, by omega⟩; exact .fLeft (by omega) (x rfl p (by omega))
  | fRight a _ x => intro m dd m' dd' z p q; cases z; obtain ⟨e, rfl⟩ : ∃ e, dd' = e + 1 := ⟨dd' - 1, by omega⟩; exact .fRight (by omega) (x rfl p (by omega))
  | fBent a b h _ => intro m dd m' dd' z p q; cases z; obtain ⟨e, rfl⟩ : ∃ e, dd' = e + 1 := ⟨dd' - 1, by omega⟩; exact .fBent a (by omega) h
  | _ => intro m dd m' dd' z; cases z
theorem num_dp : (Kd.num).dp = 1 := rfl
theorem lf1 : lf (Kd.num).dp = 1 := rfl
/-- a bend here -/
theorem root_bend (h : S (.s K) fl c d n γ t) (hK : K.dp ≤ 6) (h5 : fl = true → K.dp ≤ 5) (hf : Fit d n K) (o : Oth t t') : ∃ c' d', c ≤ c' ∧ c' ≤ max (2 * (lf K.dp * c)) 32 ∧ d' ≤ max (d + K.dp) 6 ∧ S (.s .num) fl c' d' (n + 1) γ t' := by
  have hp := K.dp_pos
  have hc := h.pos
  have hlf : 1 ≤ lf K.dp := lf_pos hp
  have h1 : S (.s .num) fl (lf K.dp * c) (d + K.dp - 1) n γ t := .drop hK h5 h (Nat.le_refl _) (by omega)
  have hC : c ≤ lf K.dp * c := Nat.le_mul_of_pos_left c hlf
  generalize lf K.dp * c = C at h1 hC ⊢
  unfold Fit at hf
  have f1 : Fit (d + K.dp - 1) n .num := by unfold Fit; rw [num_dp]; omega
  have tt2 : ∀ {x : Str}, S (.s .num) fl 1 0 0 (γ.put x .wild) (.name x) := fun {x} => .name (.inr (by unfold GC.put; rw [if_pos rfl]))
  have f0 : ∀ {m : Nat}, Fit 0 m .num := fun {m} => by unfold Fit; rw [num_dp]; omega
  have same : ∀ {u : Tm}, S (.s .num) fl C (d + K.dp - 1) n γ u → ∃ c' d', c ≤ c' ∧ c' ≤ max (2 * C) 32 ∧ d' ≤ max (d + K.dp) 6 ∧ S (.s .num) fl c' d' (n + 1) γ u := fun {u} h => ⟨C, d + K.dp - 1, hC, by omega, by omega, h.le f1 (Nat.le_refl _) (Nat.le_refl _) (by omega)⟩
  have numb : ∀ {u : Tm}, S (.s .num) fl 1 0 n γ u → ∃ c' d', c ≤ c' ∧ c' ≤ max (2 * C) 32 ∧ d' ≤ max (d + K.dp) 6 ∧ S (.s .num) fl c' d' (n + 1) γ u := fun {u} h => ⟨C, 0, hC, by omega, by omega, h.le f0 (by omega) (Nat.le_refl _) (by omega)⟩
  have flatS : ∀ {f : Tm}, FlB f → S (.s .num) fl 32 6 1 γ f := fun {f} h => .flat (Fl.toS h (by decide) (by decide) γ) (by unfold FitF; omega)
  have f61 : Fit 6 1 .num := by unfold Fit; rw [num_dp]; omega
  cases o with
  | flat a => exact ⟨max C 32, 6, by omega, by omega, by omega, (flatS a).le f61 (by omega) (Nat.le_refl _) (by omega)⟩
  | name a => exact ⟨max C 8, 6, by omega, by omega, by omega, (S.wName (k := .num)).le (by unfold Fit; rw [num_dp]; omega) (by omega) (by omega) (by omega)⟩
  | first => exact same h1.wFirst
  | second => exact same h1.wSecond
  | minus => exact numb (.minus hK h hf)
  | call => exact same (.wCall h1 (by decide) h1 f1)
  | plus => exact numb (.plus hK hK h hf h hf)
  | times => exact numb (.times hK hK h hf h hf)
  | pair => exact ⟨C + C, d + K.dp - 1 + 1, by omega, by omega, by omega, S.wPair (h1.le f1 (Nat.le_refl _) (Nat.le_refl _) (by omega)) (h1.le f1 (Nat.le_refl _) (Nat.le_refl _) (by omega))⟩
  | cons => exact same (.cons hK h hf h1)
  | case => exact ⟨C * 1, d + K.dp - 1 + 0, by omega, by omega, by omega, S.wCase (n2 := 0) h1 f1 tt2 f0 tt2 (Nat.le_refl _) (by omega)⟩
  | @fold body init kd a b e =>
    have hb : ∃ f1 c1 d1 K1, K1.dp ≤ 6 ∧ S (.s K1) f1 c1 d1 n ((γ.put "h" .wild).put "r" .wild) body ∧ d1 + K1.dp ≤ 7 * n + 7 := by
      rcases b with rfl | rfl | rfl
      · exact ⟨fl, c, d, K, hK, (h.wk (Wk.wild _ _)).wk (Wk.wild _ _), hf⟩
      · exact ⟨fl, 1, 0, .num, by decide, S.le (S.name (.inr rfl)) f0 (Nat.le_refl _) (Nat.le_refl _) (by omega), by rw [num_dp]; omega⟩
      · exact ⟨fl, 1, 0, .num, by decide, S.le (S.name (.inr rfl)) f0 (Nat.le_refl _) (Nat.le_refl _) (by omega), by rw [num_dp]; omega⟩
    obtain ⟨fb, c1, d1, K1, hK1, sb, hd1⟩ := hb
    have s1 : S (.s .num) false 1 (d1 + K1.dp) (n + 1) (γ.put "h" .wild) (.fn "r" kd body) := .wFn a hK1 sb hd1 (by omega) (by omega) (by unfold Fit; rw [num_dp]; omega)
    have s2 : S (.s .num) false 1 (d1 + K1.dp + 1) (n + 1) γ (.fn "h" kd (.fn "r" kd body)) := .wFn a (by decide) s1 (by unfold Fit; rw [num_dp]; omega) (Nat.le_refl _) (by omega) (by unfold Fit; rw [num_dp]; omega)
    have f2 : Fit (d1 + K1.dp + 1) (n + 1) .num := by unfold Fit; rw [num_dp]; omega
    have sl : S (.s (.list kd)) true 1 0 (n + 1) γ (.cons t (.nil kd)) := .cons hK (h.le hf (Nat.le_refl _) (Nat.le_refl _) (by omega)) (by unfold Fit; omega) (S.le (S.nil a) (by unfold Fit; simp only [Kd.dp]; omega) (Nat.le_refl _) (Nat.le_refl _) (by omega))
    have fll : Fit 0 (n + 1) (.list kd) := by unfold Fit; simp only [Kd.dp]; omega
    have dl : (Kd.list kd).dp ≤ 6 := by simp only [Kd.dp]; omega
    rcases e with rfl | e
    · exact ⟨C, d + K.dp - 1, hC, by omega, by omega, .fold (by decide) s2 f2 (h1.le f1 (Nat.le_refl _) (Nat.le_refl _) (by omega)) dl sl fll⟩
    · exact ⟨max C 32, 6, by omega, by omega, by omega, .fold (by decide) s2 f2 ((flatS e).le f61 (by omega) (Nat.le_refl _) (by omega)) dl sl fll⟩
  | is =>
    have := S.is (s := "<") (fl := fl) (K1 := .num) (by decide) hK (S.le (S.number (fl := fl) (γ := γ) (i := 1)) f0 (Nat.le_refl _) (Nat.le_refl _) (by omega : 0 ≤ n)) f0 h hf
    exact ⟨max C 2, 1, by omega, by omega, by omega, (S.drop (K' := .num) (c' := 2) (d' := 1) (by decide) (fun _ => by decide) this (by decide) (by decide)).le (by unfold Fit; rw [num_dp]; omega) (by omega) (Nat.le_refl _) (by omega)⟩
  | lete =>
    have hw := h.wk (Wk.wild γ "x")
    have : S (.s .num) fl 1 0 n (γ.put "x" .wild) (.plus (.name "x") t) := .plus (K1 := .num) (by decide) hK (S.le tt2 f0 (Nat.le_refl _) (Nat.le_refl _) (by omega)) f0 hw hf
    exact ⟨C * 1, d + K.dp - 1 + 0, by omega, by omega, by omega, .wLet h1 f1 this f0 (Nat.le_refl _) (Nat.le_refl _)⟩
end
end Kq
/-! M12: every bend keeps the judgement (printed by wip/gen/gen12.py). -/
namespace Kq
open PySem
def Res12 : Md → Bool → Nat → Nat → Nat → GC → Tm → Prop
  | .s K, fl, c, d, n, γ, t' => K.dp ≤ 6 → Fit d n K → ∃ fl' c', (fl' = fl ∨ (fl' = false ∧ K.dp = 6)) ∧ c ≤ c' ∧ (fl' = true → c' ≤ 32 * c) ∧ S (.s K) fl' c' (d + 7) (n + 1) γ t'
  | .f m dd, fl, c, d, n, γ, t' => dd ≤ 4 → m ≤ 4 → FitF d n → ∃ c', c ≤ c' ∧ (fl = true → c' ≤ 32 * c) ∧ S (.f m dd) fl c' (d + 7) (n + 1) γ t'
section
variable {μ : Md} {fl : Bool} {c d n : Nat} {γ : GC} {t t' : Tm} {K : Kd}
theorem lf16 {d : Nat} (h : d ≤ 5) : lf d ≤ 16 := by have := lf_mono h; exact this
theorem rootR (h : S μ fl c d n γ t) (o : Oth t t') : Res12 μ fl c d n γ t' := by
  have hc := h.pos
  cases μ with
  | s K =>
    intro hK hf
    have hp := K.dp_pos
    obtain ⟨fl', e1, h⟩ : ∃ fl', (fl' = fl ∨ (fl' = false ∧ K.dp = 6)) ∧ S (.s K) fl' c d n γ t ∧ (fl' = true → K.dp ≤ 5) := by
      by_cases h5 : K.dp ≤ 5
      · exact ⟨fl, .inl rfl, h, fun _ => h5⟩
      · exact ⟨false, .inr ⟨rfl, by omega⟩, h.fls, fun z => by cases z⟩
    obtain ⟨c', d', h1, h2, h3, h4⟩ := root_bend h.1 hK h.2 hf o
    unfold Fit at hf
    have hf' : Fit d' (n + 1) .num := by unfold Fit; rw [num_dp]; omega
    refine ⟨fl', c', e1, h1, fun z => ?_, .drop (by decide) (fun _ => by decide) (h4.le hf' (Nat.le_refl _) (by omega : d' ≤ d + 7) (Nat.le_refl _)) (by rw [lf1]; omega) (by rw [num_dp]; omega)⟩
    have := Nat.mul_le_mul_right c (lf16 (h.2 z))
    omega
  | f m dd =>
    intro hdd hm hf
    obtain ⟨m1, m2⟩ := h.mpos rfl
    have h' : S (.s .num) fl (4 * c) (d + 3) n γ t := .flat (h.fle rfl hm hdd) hf
    unfold FitF at hf
    obtain ⟨c', d', h1, h2, h3, h4⟩ := root_bend h' (by decide) (fun _ => by decide) (by unfold Fit; rw [num_dp]; omega) o
    rw [lf1] at h2
    rw [num_dp] at h3
    have hf' : Fit d' (n + 1) .num := by unfold Fit; rw [num_dp]; omega
    obtain ⟨e, rfl⟩ : ∃ e, dd = e + 1 := ⟨dd - 1, by omega⟩
    refine ⟨max c' c, by omega, fun _ => by omega, .fBent (by unfold Fit; rw [num_dp]; omega) m1 (h4.le hf' (by omega) (by omega : d' ≤ d + 7) (Nat.le_refl _))⟩
theorem both {r : Bool} (h : S μ fl c d n γ t) (ih : ∀ {t'}, Bnd false t t' → Res12 μ fl c d n γ t') (b : Bnd r t t') : Res12 μ fl c d n γ t' := by
  cases r with
  | false => exact ih b
  | true =>
    cases b with
    | root o => exact rootR h o
theorem S.fl' (h : S μ fl c d n γ t) {fl' : Bool} (e : fl' = fl ∨ fl' = false) : S μ fl' c d n γ t := by
  rcases e with rfl | rfl
  · exact h
  · exact h.fls
theorem Fit.n1 (f : Fit d n K) : Fit d (n + 1) K := by unfold Fit at *; omega
theorem Fit.b (f : Fit d n K) : Fit (d + 7) (n + 1) K := by unfold Fit at *; omega
theorem FitF.n1 (f : FitF d n) : FitF d (n + 1) := by unfold FitF at *; omega
theorem FitF.b (f : FitF d n) : FitF (d + 7) (n + 1) := by unfold FitF at *; omega
theorem Fit.sub {k : Kd} (f : Fit d n K) (h : k.dp ≤ K.dp) : Fit d n k := by unfold Fit at *; omega
theorem S.n1 (h : S (.s K) fl c d n γ t) (f : Fit d n K) : S (.s K) fl c d (n + 1) γ t := h.le f (Nat.le_refl _) (Nat.le_refl _) (by omega)
theorem S.b (h : S (.s K) fl c d n γ t) (f : Fit d n K) {c' : Nat} (e : c ≤ c') : S (.s K) fl c' (d + 7) (n + 1) γ t := h.le f e (by omega) (by omega)
theorem S.bF {m dd : Nat} (h : S (.f m dd) fl c d n γ t) (f : FitF d n) {c' : Nat} (e : c ≤ c') : S (.f m dd) fl c' (d + 7) (n + 1) γ t := h.leF f e (by omega) (by omega)
theorem S.n1F {m dd : Nat} (h : S (.f m dd) fl c d n γ t) (f : FitF d n) : S (.f m dd) fl c d (n + 1) γ t := h.leF f (Nat.le_refl _) (Nat.le_refl _) (by omega)
end
theorem bend0 {μ : Md} {fl : Bool} {c d n : Nat} {γ : GC} {t : Tm} (h : S μ fl c d n γ t) : ∀ {t' : Tm}, Bnd false t t' → Res12 μ fl c d n γ t' := by
  induction h with
  | @mono μ fl c c' d d' n n' γ t h a b e f1 f2 ih =>
    intro t' x
    have y := ih x
    cases μ with
    | s K =>
      intro hK hf
      obtain ⟨fl1, c1, h0, h1, h2, h3⟩ := y hK (f1 K rfl)
      exact ⟨fl1, max c1 c', h0, by omega, fun p => by have := h2 p; omega, h3.le (f1 K rfl).b (by omega) (by omega) (by omega)⟩
    | f m dd =>
      intro hd hm hf
      obtain ⟨c1, h1, h2, h3⟩ := y hd hm (f2 m dd rfl)
      refine ⟨max c1 c', by omega, fun p => by have := h2 p; omega, h3.leF (f2 m dd rfl).b (by omega) (by omega) (by omega)⟩
  | name _ => intro t' x; cases x
  | unit => intro t' x; cases x
  | number => intro t' x; cases x
  | nil _ => intro t' x; cases x
  | wName => intro t' x; cases x
  | fName _ _ _ _ => intro t' x; cases x
  | fUnit _ _ => intro t' x; cases x
  | fNumber _ _ => intro t' x; cases x
  | fNil _ _ _ => intro t' x; cases x
  | @fn fl c d n γ x a k b ha h ih =>
    intro t' z
    cases z with
    | fn z =>
      intro hK hf
      simp only [Kd.dp] at hK
      obtain ⟨fl1, c1, h0, h1, h2, h3⟩ := both h ih z (by omega) (hf.sub (by simp only [Kd.dp]; omega))
      exact ⟨fl1, c1, .inl (h0.resolve_right (by omega)), h1, h2, .fn ha h3⟩
  | @call fl fl2 c d n c2 d2 γ f t a k hd hff h1 h2 hf2 i1 i2 =>
    intro t' z
    have hd' := hd
    simp only [Kd.dp] at hd'
    cases z with
    | call1 z =>
      intro hK hf
      obtain ⟨fl1, c1, e0, e1, e2, e3⟩ := both h1 i1 z (by omega) hff
      exact ⟨fl1, c1, .inl (e0.resolve_right (by omega)), e1, e2, .call hd hff.b e3 (h2.n1 hf2) hf2.n1⟩
    | call2 z =>
      intro hK hf
      obtain ⟨fl1, c1, e0, e1, e2, e3⟩ := both h2 i2 z (by omega) hf2
      exact ⟨fl, c, .inl rfl, Nat.le_refl _, fun _ => by omega, .call hd hff.b (h1.b hff (Nat.le_refl _)) e3 hf2.b⟩
  | @lete fl c1 d1 n1 c2 d2 n2 γ x a b ka k hd h1 hf1 hd1 h2 hf2 i1 i2 =>
    intro t' z
    have p1 := h1.pos
    have p2 := h2.pos
    cases z with
    | let1 z =>
      intro hK hf
      obtain ⟨fl1, c', e0, e1, e2, e3⟩ := both h1 i1 z (by omega) hf1
      have e0 := e0.resolve_right (by omega)
      subst e0
      refine ⟨fl1, c' * c2, .inl rfl, Nat.mul_le_mul_right _ e1, fun p => ?_, (S.lete hd e3 hf1.b (by omega) h2 hf2).eq rfl (by omega) (by omega)⟩
      have := Nat.mul_le_mul_right c2 (e2 p)
      rwa [Nat.mul_assoc] at this
    | let2 z =>
      intro hK hf
      obtain ⟨fl1, c', e0, e1, e2, e3⟩ := both h2 i2 z hK hf2
      refine ⟨fl1, c1 * c', e0, Nat.mul_le_mul_left _ e1, fun p => ?_, (S.lete hd (h1.fl' (e0.imp id (·.1))) hf1 hd1 e3 hf2.b).eq rfl (by omega) (by omega)⟩
      have := Nat.mul_le_mul_left c1 (e2 p)
      rwa [Nat.mul_left_comm] at this
  | @plus fl f1 f2 n c1 d1 c2 d2 γ a b K1 K2 k1 k2 h1 hf1 h2 hf2 i1 i2 =>
    intro t' z
    have f0 : ∀ {K : Kd} {m : Nat}, K.dp ≤ 6 → Fit 0 m K := fun {K m} h => by unfold Fit; omega
    cases z with
    | plus1 z =>
      intro hK hf
      obtain ⟨fl1, c', e0, e1, e2, e3⟩ := both h1 i1 z k1 hf1
      exact ⟨fl, 1, .inl rfl, Nat.le_refl _, fun _ => by omega, S.le (.plus k1 k2 e3 hf1.b (h2.n1 hf2) hf2.n1) (f0 hK) (Nat.le_refl _) (by omega) (Nat.le_refl _)⟩
    | plus2 z =>
      intro hK hf
      obtain ⟨fl1, c', e0, e1, e2, e3⟩ := both h2 i2 z k2 hf2
      exact ⟨fl, 1, .inl rfl, Nat.le_refl _, fun _ => by omega, S.le (.plus k1 k2 (h1.n1 hf1) hf1.n1 e3 hf2.b) (f0 hK) (Nat.le_refl _) (by omega) (Nat.le_refl _)⟩
  | @times fl f1 f2 n c1 d1 c2 d2 γ a b K1 K2 k1 k2 h1 hf1 h2 hf2 i1 i2 =>
    intro t' z
    have f0 : ∀ {K : Kd} {m : Nat}, K.dp ≤ 6 → Fit 0 m K := fun {K m} h => by unfold Fit; omega
    cases z with
    | times1 z =>
      intro hK hf
      obtain ⟨fl1, c', e0, e1, e2, e3⟩ := both h1 i1 z k1 hf1
      exact ⟨fl, 1, .inl rfl, Nat.le_refl _, fun _ => by omega, S.le (.times k1 k2 e3 hf1.b (h2.n1 hf2) hf2.n1) (f0 hK) (Nat.le_refl _) (by omega) (Nat.le_refl _)⟩
    | times2 z =>
      intro hK hf
      obtain ⟨fl1, c', e0, e1, e2, e3⟩ := both h2 i2 z k2 hf2
      exact ⟨fl, 1, .inl rfl, Nat.le_refl _, fun _ => by omega, S.le (.times k1 k2 (h1.n1 hf1) hf1.n1 e3 hf2.b) (f0 hK) (Nat.le_refl _) (by omega) (Nat.le_refl _)⟩
  | @is fl f1 f2 n c1 d1 c2 d2 γ s a b K1 K2 k1 k2 h1 hf1 h2 hf2 i1 i2 =>
    intro t' z
    have f0 : ∀ {K : Kd} {m : Nat}, K.dp ≤ 6 → Fit 0 m K := fun {K m} h => by unfold Fit; omega
    cases z with
    | is1 z =>
      intro hK hf
      obtain ⟨fl1, c', e0, e1, e2, e3⟩ := both h1 i1 z k1 hf1
      exact ⟨fl, 1, .inl rfl, Nat.le_refl _, fun _ => by omega, S.le (.is k1 k2 e3 hf1.b (h2.n1 hf2) hf2.n1) (f0 hK) (Nat.le_refl _) (by omega) (Nat.le_refl _)⟩
    | is2 z =>
      intro hK hf
      obtain ⟨fl1, c', e0, e1, e2, e3⟩ := both h2 i2 z k2 hf2
      exact ⟨fl, 1, .inl rfl, Nat.le_refl _, fun _ => by omega, S.le (.is k1 k2 (h1.n1 hf1) hf1.n1 e3 hf2.b) (f0 hK) (Nat.le_refl _) (by omega) (Nat.le_refl _)⟩
  | @minus fl f1 n c1 d1 γ a K1 k1 h1 hf1 i1 =>
    intro t' z
    have f0 : ∀ {K : Kd} {m : Nat}, K.dp ≤ 6 → Fit 0 m K := fun {K m} h => by unfold Fit; omega
    cases z with
    | minus z =>
      intro hK hf
      obtain ⟨fl1, c', e0, e1, e2, e3⟩ := both h1 i1 z k1 hf1
      exact ⟨fl, 1, .inl rfl, Nat.le_refl _, fun _ => by omega, S.le (.minus k1 e3 hf1.b) (f0 hK) (Nat.le_refl _) (by omega) (Nat.le_refl _)⟩
  | @pair fl c d n γ a b ka kb h1 h2 i1 i2 =>
    intro t' z
    cases z with
    | pair1 z =>
      intro hK hf
      have f1 := hf.sub (k := ka) (by simp only [Kd.dp]; omega)
      have f2 := hf.sub (k := kb) (by simp only [Kd.dp]; omega)
      simp only [Kd.dp] at hK
      obtain ⟨fl1, c', e0, e1, e2, e3⟩ := both h1 i1 z (by omega) f1
      have e0 := e0.resolve_right (by omega)
      subst e0
      exact ⟨fl1, c', .inl rfl, e1, e2, .pair e3 (h2.b f2 e1)⟩
    | pair2 z =>
      intro hK hf
      have f1 := hf.sub (k := ka) (by simp only [Kd.dp]; omega)
      have f2 := hf.sub (k := kb) (by simp only [Kd.dp]; omega)
      simp only [Kd.dp] at hK
      obtain ⟨fl1, c', e0, e1, e2, e3⟩ := both h2 i2 z (by omega) f2
      have e0 := e0.resolve_right (by omega)
      subst e0
      exact ⟨fl1, c', .inl rfl, e1, e2, .pair (h1.b f1 e1) e3⟩
  | @first fl c d n γ a x y hd hff h1 i1 =>
    intro t' z
    cases z with
    | first z =>
      intro hK hf
      obtain ⟨fl1, c', e0, e1, e2, e3⟩ := both h1 i1 z (by omega) hff
      exact ⟨fl1, c', .inl (e0.resolve_right (by omega)), e1, e2, .first hd hff.b e3⟩
  | @second fl c d n γ a x y hd hff h1 i1 =>
    intro t' z
    cases z with
    | second z =>
      intro hK hf
      obtain ⟨fl1, c', e0, e1, e2, e3⟩ := both h1 i1 z (by omega) hff
      exact ⟨fl1, c', .inl (e0.resolve_right (by omega)), e1, e2, .second hd hff.b e3⟩
  | @left fl c d n γ a x y h1 i1 =>
    intro t' z
    cases z with
    | left z =>
      intro hK hf
      have f1 := hf.sub (k := x) (by simp only [Kd.dp]; omega)
      simp only [Kd.dp] at hK
      obtain ⟨fl1, c', e0, e1, e2, e3⟩ := both h1 i1 z (by omega) f1
      exact ⟨fl1, c', .inl (e0.resolve_right (by omega)), e1, e2, .left e3⟩
  | @right fl c d n γ a x y h1 i1 =>
    intro t' z
    cases z with
    | right z =>
      intro hK hf
      have f1 := hf.sub (k := y) (by simp only [Kd.dp]; omega)
      simp only [Kd.dp] at hK
      obtain ⟨fl1, c', e0, e1, e2, e3⟩ := both h1 i1 z (by omega) f1
      exact ⟨fl1, c', .inl (e0.resolve_right (by omega)), e1, e2, .right e3⟩
  | @case fl c1 d1 n1 c2 d2 n2 γ s a b x y p q k hp hq h1 hf1 hd1 h2 hf2 h3 i1 i2 i3 =>
    intro t' z
    cases z with
    | case1 z =>
      intro hK hf
      obtain ⟨fl1, c', e0, e1, e2, e3⟩ := both h1 i1 z (by simp only [Kd.dp]; omega) hf1
      have e0 := e0.resolve_right (by simp only [Kd.dp]; omega)
      subst e0
      refine ⟨fl1, c' * c2, .inl rfl, Nat.mul_le_mul_right _ e1, fun u => ?_, (S.case hp hq e3 hf1.b (by omega) h2 hf2 h3).eq rfl (by omega) (by omega)⟩
      have := Nat.mul_le_mul_right c2 (e2 u)
      rwa [Nat.mul_assoc] at this
    | case2 z =>
      intro hK hf
      obtain ⟨fl1, c', e0, e1, e2, e3⟩ := both h2 i2 z hK hf2
      refine ⟨fl1, c1 * c', e0, Nat.mul_le_mul_left _ e1, fun u => ?_, (S.case hp hq (h1.fl' (e0.imp id (·.1))) hf1 hd1 e3 hf2.b ((h3.fl' (e0.imp id (·.1))).b hf2 e1)).eq rfl (by omega) (by omega)⟩
      have := Nat.mul_le_mul_left c1 (e2 u)
      rwa [Nat.mul_left_comm] at this
    | case3 z =>
      intro hK hf
      obtain ⟨fl1, c', e0, e1, e2, e3⟩ := both h3 i3 z hK hf2
      refine ⟨fl1, c1 * c', e0, Nat.mul_le_mul_left _ e1, fun u => ?_, (S.case hp hq (h1.fl' (e0.imp id (·.1))) hf1 hd1 ((h2.fl' (e0.imp id (·.1))).b hf2 e1) hf2.b e3).eq rfl (by omega) (by omega)⟩
      have := Nat.mul_le_mul_left c1 (e2 u)
      rwa [Nat.mul_left_comm] at this
  | @cons fl f1 c d n c1 d1 γ a b K1 k k1 h1 hf1 h2 i1 i2 =>
    intro t' z
    cases z with
    | cons1 z =>
      intro hK hf
      obtain ⟨fl1, c', e0, e1, e2, e3⟩ := both h1 i1 z k1 hf1
      exact ⟨fl, c, .inl rfl, Nat.le_refl _, fun _ => by omega, .cons k1 e3 hf1.b (h2.b hf (Nat.le_refl _))⟩
    | cons2 z =>
      intro hK hf
      obtain ⟨fl1, c', e0, e1, e2, e3⟩ := both h2 i2 z hK hf
      exact ⟨fl1, c', e0, e1, e2, .cons k1 (h1.n1 hf1) hf1.n1 e3⟩
  | @fold fl f1 f2 c d n c1 d1 c2 d2 γ f a b K1 K2 k k1 h1 hf1 h2 k2 h3 hf3 i1 i2 i3 =>
    intro t' z
    cases z with
    | fold1 z =>
      intro hK hf
      obtain ⟨fl1, c', e0, e1, e2, e3⟩ := both h1 i1 z k1 hf1
      exact ⟨fl, c, .inl rfl, Nat.le_refl _, fun _ => by omega, .fold k1 e3 hf1.b (h2.b hf (Nat.le_refl _)) k2 (h3.n1 hf3) hf3.n1⟩
    | fold2 z =>
      intro hK hf
      obtain ⟨fl1, c', e0, e1, e2, e3⟩ := both h2 i2 z hK hf
      exact ⟨fl1, c', e0, e1, e2, .fold k1 (h1.n1 hf1) hf1.n1 e3 k2 (h3.n1 hf3) hf3.n1⟩
    | fold3 z =>
      intro hK hf
      obtain ⟨fl1, c', e0, e1, e2, e3⟩ := both h3 i3 z k2 hf3
      exact ⟨fl, c, .inl rfl, Nat.le_refl _, fun _ => by omega, .fold k1 (h1.n1 hf1) hf1.n1 (h2.b hf (Nat.le_refl _)) k2 e3 hf3.b⟩
  | @drop fl c d n c' d' γ t K K' k1 k5 h1 hl hd i1 =>
    intro t' z
    intro hK hf
    have hp := K'.dp_pos
    have f1 : Fit d n K := by unfold Fit at *; omega
    obtain ⟨fl1, c1, e0, e1, e2, e3⟩ := i1 z k1 f1
    cases hb : fl1 with
    | true =>
      have hfl : fl = true := by
        rcases e0 with e0 | e0
        · rw [← e0, hb]
        · rw [hb] at e0; cases e0.1
      subst hb
      have h6 := Nat.mul_le_mul_left (lf K.dp) (e2 rfl)
      rw [Nat.mul_left_comm] at h6
      exact ⟨true, max c' (lf K.dp * c1), .inl hfl.symm, by omega, fun _ => by omega, .drop k1 (fun _ => k5 hfl) e3 (by omega) (by omega)⟩
    | false =>
      subst hb
      have hfl : fl = false := by
        rcases e0 with e0 | e0
        · exact e0.symm
        · cases h : fl with
          | false => rfl
          | true => have := k5 h; omega
      exact ⟨false, max c' (lf K.dp * c1), .inl hfl.symm, by omega, (fun z => by cases z), .drop k1 (fun z => by cases z) e3 (by omega) (by omega)⟩
  | @wFirst fl c d n γ t h1 i1 =>
    intro t' z
    cases z with
    | first z =>
      intro hK hf
      obtain ⟨fl1, c', e0, e1, e2, e3⟩ := both h1 i1 z (by decide) hf
      exact ⟨fl1, c', e0, e1, e2, .wFirst e3⟩
  | @wSecond fl c d n γ t h1 i1 =>
    intro t' z
    cases z with
    | second z =>
      intro hK hf
      obtain ⟨fl1, c', e0, e1, e2, e3⟩ := both h1 i1 z (by decide) hf
      exact ⟨fl1, c', e0, e1, e2, .wSecond e3⟩
  | @wCall fl f2 c d n c2 d2 γ f t K2 h1 k2 h2 hf2 i1 i2 =>
    intro t' z
    cases z with
    | call1 z =>
      intro hK hf
      obtain ⟨fl1, c', e0, e1, e2, e3⟩ := both h1 i1 z (by decide) hf
      exact ⟨fl1, c', e0, e1, e2, .wCall e3 k2 (h2.n1 hf2) hf2.n1⟩
    | call2 z =>
      intro hK hf
      obtain ⟨fl1, c', e0, e1, e2, e3⟩ := both h2 i2 z k2 hf2
      exact ⟨fl, c, .inl rfl, Nat.le_refl _, fun _ => by omega, .wCall (h1.b hf (Nat.le_refl _)) k2 e3 hf2.b⟩
  | @wPair fl c1 c2 d n γ a b h1 h2 i1 i2 =>
    intro t' z
    have fs : Fit (d + 1) n .num → Fit d n .num := fun h => by unfold Fit at *; omega
    cases z with
    | pair1 z =>
      intro hK hf
      obtain ⟨fl1, c', e0, e1, e2, e3⟩ := both h1 i1 z (by decide) (fs hf)
      have e0 := e0.resolve_right (by rw [num_dp]; omega)
      subst e0
      exact ⟨fl1, c' + c2, .inl rfl, by omega, fun p => by have := e2 p; omega, (S.wPair e3 (h2.b (fs hf) (Nat.le_refl _))).eq rfl (by omega) rfl⟩
    | pair2 z =>
      intro hK hf
      obtain ⟨fl1, c', e0, e1, e2, e3⟩ := both h2 i2 z (by decide) (fs hf)
      have e0 := e0.resolve_right (by rw [num_dp]; omega)
      subst e0
      exact ⟨fl1, c1 + c', .inl rfl, by omega, fun p => by have := e2 p; omega, (S.wPair (h1.b (fs hf) (Nat.le_refl _)) e3).eq rfl (by omega) rfl⟩
  | @wCase fl c1 d1 n1 c2 d2 n2 n γ s a b x y h1 hf1 h2 hf2 h3 m1 m2 i1 i2 i3 =>
    intro t' z
    cases z with
    | case1 z =>
      intro hK hf
      obtain ⟨fl1, c', e0, e1, e2, e3⟩ := both h1 i1 z (by decide) hf1
      have e0 := e0.resolve_right (by rw [num_dp]; omega)
      subst e0
      refine ⟨fl1, c' * c2, .inl rfl, Nat.mul_le_mul_right _ e1, fun u => ?_, (S.wCase (n := n + 1) e3 hf1.b h2 hf2 h3 (by omega) (by omega)).eq rfl (by omega) rfl⟩
      have := Nat.mul_le_mul_right c2 (e2 u)
      rwa [Nat.mul_assoc] at this
    | case2 z =>
      intro hK hf
      obtain ⟨fl1, c', e0, e1, e2, e3⟩ := both h2 i2 z (by decide) hf2
      have e0 := e0.resolve_right (by rw [num_dp]; omega)
      subst e0
      refine ⟨fl1, c1 * c', .inl rfl, Nat.mul_le_mul_left _ e1, fun u => ?_, (S.wCase (n := n + 1) h1 hf1 e3 hf2.b (h3.b hf2 e1) (by omega) (by omega)).eq rfl (by omega) rfl⟩
      have := Nat.mul_le_mul_left c1 (e2 u)
      rwa [Nat.mul_left_comm] at this
    | case3 z =>
      intro hK hf
      obtain ⟨fl1, c', e0, e1, e2, e3⟩ := both h3 i3 z (by decide) hf2
      have e0 := e0.resolve_right (by rw [num_dp]; omega)
      subst e0
      refine ⟨fl1, c1 * c', .inl rfl, Nat.mul_le_mul_left _ e1, fun u => ?_, (S.wCase (n := n + 1) h1 hf1 (h2.b hf2 e1) hf2.b e3 (by omega) (by omega)).eq rfl (by omega) rfl⟩
      have := Nat.mul_le_mul_left c1 (e2 u)
      rwa [Nat.mul_left_comm] at this
  | @wLet fl c1 d1 n1 c2 d2 n2 n γ a b x h1 hf1 h2 hf2 m1 m2 i1 i2 =>
    intro t' z
    cases z with
    | let1 z =>
      intro hK hf
      obtain ⟨fl1, c', e0, e1, e2, e3⟩ := both h1 i1 z (by decide) hf1
      have e0 := e0.resolve_right (by rw [num_dp]; omega)
      subst e0
      refine ⟨fl1, c' * c2, .inl rfl, Nat.mul_le_mul_right _ e1, fun u => ?_, (S.wLet (n := n + 1) e3 hf1.b h2 hf2 (by omega) (by omega)).eq rfl (by omega) rfl⟩
      have := Nat.mul_le_mul_right c2 (e2 u)
      rwa [Nat.mul_assoc] at this
    | let2 z =>
      intro hK hf
      obtain ⟨fl1, c', e0, e1, e2, e3⟩ := both h2 i2 z (by decide) hf2
      have e0 := e0.resolve_right (by rw [num_dp]; omega)
      subst e0
      refine ⟨fl1, c1 * c', .inl rfl, Nat.mul_le_mul_left _ e1, fun u => ?_, (S.wLet (n := n + 1) h1 hf1 e3 hf2.b (by omega) (by omega)).eq rfl (by omega) rfl⟩
      have := Nat.mul_le_mul_left c1 (e2 u)
      rwa [Nat.mul_left_comm] at this
  | @wFn f1 c c' d n n' γ x a K1 b ha k1 h1 hf1 hn hc hff i1 =>
    intro t' z
    cases z with
    | fn z =>
      intro hK hf
      obtain ⟨fl1, c1, e0, e1, e2, e3⟩ := both h1 i1 z k1 hf1
      exact ⟨false, c', .inl rfl, Nat.le_refl _, (fun u => by cases u), (S.wFn ha k1 e3 hf1.b (by omega) hc (by unfold Fit at *; omega)).eq rfl (by omega) rfl⟩
  | @flat fl c d n γ t h1 hff i1 =>
    intro t' z
    intro hK hf
    obtain ⟨c', e1, e2, e3⟩ := i1 z (by decide) (by decide) hff
    exact ⟨fl, 4 * c', .inl rfl, by omega, fun u => by have := e2 u; omega, (S.flat e3 hff.b).eq rfl (by omega) rfl⟩
  | @fCons fl f1 c d n m dd c1 d1 m1 dd1 γ a b k1 k2 hf1 h1 h2 i1 i2 =>
    intro t' z
    cases z with
    | cons1 z =>
      intro hd hm hf
      obtain ⟨c', e1, e2, e3⟩ := both h1 i1 z k1 k2 hf1
      exact ⟨c, Nat.le_refl _, fun _ => by omega, .fCons k1 k2 hf1.b e3 (h2.bF hf (Nat.le_refl _))⟩
    | cons2 z =>
      intro hd hm hf
      obtain ⟨c', e1, e2, e3⟩ := both h2 i2 z hd hm hf
      exact ⟨c', e1, e2, .fCons k1 k2 hf1.n1 (h1.n1F hf1) e3⟩
  | @fFn fl c d n m dd γ x k b hk h1 i1 =>
    intro t' z
    cases z with
    | fn z =>
      intro hd hm hf
      obtain ⟨c', e1, e2, e3⟩ := both h1 i1 z (by omega) hm hf
      exact ⟨c', e1, e2, .fFn hk e3⟩
  | @fPair fl c d n l m dd γ a b h1 h2 i1 i2 =>
    intro t' z
    cases z with
    | pair1 z =>
      intro hd hm hf
      obtain ⟨c', e1, e2, e3⟩ := both h1 i1 z (by omega) (by omega) hf
      exact ⟨c', e1, e2, .fPair e3 (h2.bF hf e1)⟩
    | pair2 z =>
      intro hd hm hf
      obtain ⟨c', e1, e2, e3⟩ := both h2 i2 z (by omega) (by omega) hf
      exact ⟨c', e1, e2, .fPair (h1.bF hf e1) e3⟩
  | @fLeft fl c d n m dd γ a k hk h1 i1 =>
    intro t' z
    cases z with
    | left z =>
      intro hd hm hf
      obtain ⟨c', e1, e2, e3⟩ := both h1 i1 z (by omega) hm hf
      exact ⟨c', e1, e2, .fLeft hk e3⟩
  | @fRight fl c d n m dd γ a k hk h1 i1 =>
    intro t' z
    cases z with
    | right z =>
      intro hd hm hf
      obtain ⟨c', e1, e2, e3⟩ := both h1 i1 z (by omega) hm hf
      exact ⟨c', e1, e2, .fRight hk e3⟩
  | @fBent fl c d n m dd γ t hff hm1 h1 i1 =>
    intro t' z
    intro hd hm hf
    obtain ⟨fl1, c', e0, e1, e2, e3⟩ := i1 z (by decide) hff
    have e0 := e0.resolve_right (by rw [num_dp]; omega)
    subst e0
    exact ⟨c', e1, e2, .fBent hff.b hm1 e3⟩
/-- a bend of a term -/
theorem bend {fl : Bool} {c d n : Nat} {γ : GC} {t t' : Tm} {K : Kd} {r : Bool} (h : S (.s K) fl c d n γ t) (hK : K.dp ≤ 5) (hf : Fit d n K) (b : Bnd r t t') : ∃ c', c' ≤ 32 * c ∧ (fl = true → S (.s K) fl c' (d + 7) (n + 1) γ t') := by
  obtain ⟨fl1, c', e0, e1, e2, e3⟩ := both h (fun b => bend0 h b) b (by omega) hf
  have e0 := e0.resolve_right (by omega)
  subst e0
  cases fl1 with
  | true => exact ⟨c', e2 rfl, fun _ => e3⟩
  | false => exact ⟨0, by omega, fun z => by cases z⟩
end Kq
/-! M13: the kind that the walk finds, beside the one of the judgement. -/
namespace Kq
open PySem
structure Lev (act : Nat → Nat → Nat → Nat) (P : Nat → Kd → Prop) (F : Nat → Nat → Nat → Kd → Prop) (b0 : Nat) (al : Prop) : Prop where
  one : ∀ B, act B 1 0 = B
  mon : ∀ {B c c' d d'}, c ≤ c' → d ≤ d' → act B c d ≤ act B c' d'
  asc : ∀ B c1 d1 c2 d2, act (act B c1 d1) c2 d2 = act B (c1 * c2) (d1 + d2)
  up : ∀ {B B' k}, B ≤ B' → P B k → P B' k
  fup : ∀ {B B' m dd k}, B ≤ B' → F B m dd k → F B' m dd k
  cmp : ∀ B, Comp (P B)
  atom : ∀ {B k}, b0 ≤ B → k.dp ≤ 1 → P B k
  drop : ∀ {B c d c' d' K k}, b0 ≤ B → 1 ≤ c → K.dp ≤ 6 → Rel (P (act B c d)) K k → lf K.dp * c ≤ c' → d + K.dp ≤ d' + 1 → P (act B c' d') k
  nam : ∀ {B K k}, b0 ≤ B → K.dp ≤ 4 → Rel (P B) K k → P (act B 8 3) k
  pr : ∀ {B c1 c2 d a b}, b0 ≤ B → 1 ≤ c1 → 1 ≤ c2 → P (act B c1 d) a → P (act B c2 d) b → P (act B (c1 + c2) (d + 1)) (.pair a b)
  wf : al → ∀ {B c c' d K a k}, b0 ≤ B → a.dp ≤ 4 → Rel (P (act B c d)) K k → P (act B c' (d + K.dp)) (.func a k)
  wild : al → ∀ {B k}, b0 ≤ B → k.dp ≤ 4 → P B k
  fP : ∀ {B m dd k}, b0 ≤ B → 1 ≤ m → P B k → F B m (dd + 1) k
  fA : ∀ {B m dd k}, b0 ≤ B → 1 ≤ m → k.dp ≤ dd → F B m dd k
  fF : ∀ {B m dd k r}, b0 ≤ B → k.dp ≤ dd → F B m dd r → F B m (dd + 1) (.func k r)
  fPr : ∀ {B l m dd a b}, b0 ≤ B → F B l dd a → F B m dd b → 1 ≤ dd → F B (l + m) (dd + 1) (.pair a b)
  fE1 : ∀ {B m dd k r}, b0 ≤ B → k.dp ≤ dd → F B m dd r → F B m (dd + 1) (.either r k)
  fE2 : ∀ {B m dd k r}, b0 ≤ B → k.dp ≤ dd → F B m dd r → F B m (dd + 1) (.either k r)
  fin : ∀ {B c d k}, b0 ≤ B → 1 ≤ c → F (act B c d) 4 4 k → P (act B (4 * c) (d + 3)) k
/-- a context of the walk beside what is known of its names -/
structure CR (P : Kd → Prop) (γ : GC) (Δ : Ctx) : Prop where
  low : ∀ x k, look Δ x = some k → ∃ K : Kd, K.dp ≤ 4 ∧ Rel P K k
  is_ : ∀ x k K, look Δ x = some k → γ x = .is K → Rel P K k
  wild : ∀ x k, look Δ x = some k → γ x = .wild → P k
section
variable {P P' : Kd → Prop} {γ : GC} {Δ : Ctx}
theorem CR.put (h : CR P γ Δ) {x : Str} {K k : Kd} (hK : K.dp ≤ 4) (r : Rel P K k) : CR P (γ.put x (.is K)) (Δ ++ [(x, k)]) := by
  refine ⟨fun y k' e => ?_, fun y k' K' e1 e2 => ?_, fun y k' e1 e2 => ?_⟩
  · rw [look_snoc] at e
    split at e
    · cases e; exact ⟨K, hK, r⟩
    · exact h.low y k' e
  · rw [look_snoc] at e1
    unfold GC.put at e2
    split at e1
    · rename_i hy; rw [if_pos hy.symm] at e2; cases e1; cases e2; exact r
    · rename_i hy; rw [if_neg (fun z => hy z.symm)] at e2; exact h.is_ y k' K' e1 e2
  · rw [look_snoc] at e1
    unfold GC.put at e2
    split at e1
    · rename_i hy; rw [if_pos hy.symm] at e2; cases e2
    · rename_i hy; rw [if_neg (fun z => hy z.symm)] at e2; exact h.wild y k' e1 e2
theorem CR.putW (h : CR P γ Δ) {x : Str} {k : Kd} (p : P k) : CR P (γ.put x .wild) (Δ ++ [(x, k)]) := by
  refine ⟨fun y k' e => ?_, fun y k' K' e1 e2 => ?_, fun y k' e1 e2 => ?_⟩
  · rw [look_snoc] at e
    split at e
    · cases e; exact ⟨.num, by decide, .big p⟩
    · exact h.low y k' e
  · rw [look_snoc] at e1
    unfold GC.put at e2
    split at e1
    · rename_i hy; rw [if_pos hy.symm] at e2; cases e2
    · rename_i hy; rw [if_neg (fun z => hy z.symm)] at e2; exact h.is_ y k' K' e1 e2
  · rw [look_snoc] at e1
    unfold GC.put at e2
    split at e1
    · cases e1; exact p
    · rename_i hy; rw [if_neg (fun z => hy z.symm)] at e2; exact h.wild y k' e1 e2
theorem CR.imp (h : CR P γ Δ) (i : ∀ k, P k → P' k) : CR P' γ Δ :=
  ⟨fun y k' e => let ⟨K, a, b⟩ := h.low y k' e; ⟨K, a, b.imp i⟩, fun y k' K' e1 e2 => (h.is_ y k' K' e1 e2).imp i, fun y k' e1 e2 => i _ (h.wild y k' e1 e2)⟩
/-- the names of a context as they are -/
def ofCtx (Γ : Ctx) : GC := fun x => match look Γ x with | some k => .is k | none => .no
theorem CR.refl {Γ : Ctx} (h : ∀ p ∈ Γ, p.2.dp ≤ 4) : CR P (ofCtx Γ) Γ := by
  refine ⟨fun y k' e => ⟨k', ?_, .same⟩, fun y k' K' e1 e2 => ?_, fun y k' e1 e2 => ?_⟩
  · unfold look at e
    have h2 := List.mem_of_getLast? e
    obtain ⟨p, hp, rfl⟩ := List.mem_map.mp h2
    exact h p (List.mem_filter.mp hp).1
  · unfold ofCtx at e2; rw [e1] at e2; cases e2; exact .same
  · unfold ofCtx at e2; rw [e1] at e2; cases e2
end
def RelS (act : Nat → Nat → Nat → Nat) (P : Nat → Kd → Prop) (F : Nat → Nat → Nat → Kd → Prop) (b0 : Nat) (al : Prop) : Md → Bool → Nat → Nat → Nat → GC → Tm → Prop
  | .s K, fl, c, d, _, γ, t => (fl = true ∨ al) → ∀ {Δ : Ctx} {B : Nat} {k : Kd}, b0 ≤ B → CR (P B) γ Δ → K.dp ≤ 6 → walk Δ t = .ok k → Rel (P (act B c d)) K k
  | .f m dd, fl, c, d, _, γ, t => (fl = true ∨ al) → ∀ {Δ : Ctx} {B : Nat} {k : Kd}, b0 ≤ B → CR (P B) γ Δ → dd ≤ 4 → walk Δ t = .ok k → F (act B c d) m dd k
theorem caseK {ka kb k : Kd} (h : (if ka = kb then Except.ok ka else Except.error [5] : Res) = .ok k) : ka = k := by
  split at h <;> cases h
  rfl
/-- THE THEOREM OF LEVELS -/
theorem rel_walk {act : Nat → Nat → Nat → Nat} {P : Nat → Kd → Prop} {F : Nat → Nat → Nat → Kd → Prop} {b0 : Nat} {al : Prop} (L : Lev act P F b0 al)
    {μ : Md} {fl : Bool} {c d n : Nat} {γ : GC} {t : Tm} (h : S μ fl c d n γ t) : RelS act P F b0 al μ fl c d n γ t := by
  have ge : ∀ {B c d}, b0 ≤ B → 1 ≤ c → b0 ≤ act B c d := fun {B c d} h1 h2 => Nat.le_trans (by rw [L.one]; exact h1) (L.mon (B := B) (c := 1) (d := 0) h2 (Nat.zero_le d))
  have le : ∀ {B c d}, 1 ≤ c → B ≤ act B c d := fun {B c d} h2 => Nat.le_trans (by rw [L.one]; exact Nat.le_refl _) (L.mon (B := B) (c := 1) (d := 0) h2 (Nat.zero_le d))
  have ofn : ∀ {B k}, b0 ≤ B → Rel (P B) .num k → P B k := fun {B k} h1 r => by
    cases r with
    | same => exact L.atom h1 (by decide)
    | big p => exact p
  induction h with
  | @mono μ fl c c' d d' n n' γ t h a b e f1 f2 ih =>
    cases μ with
    | s K => exact fun z {Δ B k} hB cr hK e => (ih z hB cr hK e).imp fun _ p => L.up (L.mon a b) p
    | f m dd => exact fun z {Δ B k} hB cr hK e => L.fup (L.mon a b) (ih z hB cr hK e)
  | name a =>
    intro z Δ B k' hB cr hK e
    rw [L.one]
    rcases a with a | a
    · exact cr.is_ _ _ _ (name_ok e) a
    · exact .big (cr.wild _ _ (name_ok e) a)
  | unit => intro z Δ B k' hB cr hK e; cases e; exact .same
  | number => intro z Δ B k' hB cr hK e; cases e; exact .same
  | nil a => intro z Δ B k' hB cr hK e; cases e; exact .same
  | fn a _ ih =>
    intro z Δ B k' hB cr hK e
    obtain ⟨r, h1, h2⟩ := at1_ok e
    cases h2
    simp only [Kd.dp] at hK
    exact .func .same (ih z hB (cr.put a .same) (by omega) h1)
  | call hd hff h1 h2 hf2 i1 i2 =>
    intro z Δ B k' hB cr hK e
    obtain ⟨kf, e1, e⟩ := at1_ok e
    obtain ⟨ka, e2, e⟩ := at1_ok e
    have e := callK_ok (fin_ok e)
    subst e
    exact ((i1 z hB cr (by omega) e1).un_func (L.cmp _)).2
  | lete hd h1 hf1 hd1 h2 hf2 i1 i2 =>
    intro z Δ B k' hB cr hK e
    obtain ⟨ka, e1, e⟩ := at1_ok e
    obtain ⟨kb, e2, e⟩ := at1_ok e
    cases e
    have r1 := i1 z hB cr (by omega) e1
    have r2 := i2 z (ge hB h1.pos) ((cr.imp fun _ p => L.up (le h1.pos) p).put hd r1) hK e2
    rwa [L.asc] at r2
  | plus k1 k2 h1 hf1 h2 hf2 i1 i2 =>
    intro z Δ B k' hB cr hK e
    obtain ⟨ka, e1, e⟩ := at1_ok e
    obtain ⟨kb, e2, e⟩ := at1_ok e
    rw [numK_ok (fin_ok e)]; exact .same
  | times k1 k2 h1 hf1 h2 hf2 i1 i2 =>
    intro z Δ B k' hB cr hK e
    obtain ⟨ka, e1, e⟩ := at1_ok e
    obtain ⟨kb, e2, e⟩ := at1_ok e
    rw [numK_ok (fin_ok e)]; exact .same
  | is k1 k2 h1 hf1 h2 hf2 i1 i2 =>
    intro z Δ B k' hB cr hK e
    obtain ⟨ka, e1, e⟩ := at1_ok e
    obtain ⟨kb, e2, e⟩ := at1_ok e
    rw [numK_ok (fin_ok e)]; exact .same
  | minus k1 h1 hf1 i1 =>
    intro z Δ B k' hB cr hK e
    obtain ⟨ka, e1, e⟩ := at1_ok e
    rw [minusK_ok (fin_ok e)]; exact .same
  | pair h1 h2 i1 i2 =>
    intro z Δ B k' hB cr hK e
    obtain ⟨ka, e1, e⟩ := at1_ok e
    obtain ⟨kb, e2, e⟩ := at1_ok e
    cases e
    simp only [Kd.dp] at hK
    exact .pair (i1 z hB cr (by omega) e1) (i2 z hB cr (by omega) e2)
  | first hd hff h1 i1 =>
    intro z Δ B k' hB cr hK e
    obtain ⟨ka, e1, e⟩ := at1_ok e
    obtain ⟨y, rfl⟩ := firstK_ok (fin_ok e)
    exact ((i1 z hB cr (by omega) e1).un_pair (L.cmp _)).1
  | second hd hff h1 i1 =>
    intro z Δ B k' hB cr hK e
    obtain ⟨ka, e1, e⟩ := at1_ok e
    obtain ⟨y, rfl⟩ := secondK_ok (fin_ok e)
    exact ((i1 z hB cr (by omega) e1).un_pair (L.cmp _)).2
  | left h1 i1 =>
    intro z Δ B k' hB cr hK e
    obtain ⟨ka, e1, e⟩ := at1_ok e
    cases e
    simp only [Kd.dp] at hK
    exact .either (i1 z hB cr (by omega) e1) .same
  | right h1 i1 =>
    intro z Δ B k' hB cr hK e
    obtain ⟨ka, e1, e⟩ := at1_ok e
    cases e
    simp only [Kd.dp] at hK
    exact .either .same (i1 z hB cr (by omega) e1)
  | case hp hq h1 hf1 hd1 h2 hf2 h3 i1 i2 i3 =>
    intro z Δ B k' hB cr hK e
    obtain ⟨ks, e1, e⟩ := at1_ok e
    cases ks with
    | either l r =>
      obtain ⟨ka, e2, e⟩ := at1_ok e
      obtain ⟨kb, e3, e⟩ := at1_ok e
      have r1 := (i1 z hB cr (by simp only [Kd.dp]; omega) e1).un_either (L.cmp _)
      have e := caseK e
      subst e
      have r2 := i2 z (ge hB h1.pos) ((cr.imp fun _ p => L.up (le h1.pos) p).put hp r1.1) hK e2
      rwa [L.asc] at r2
    | _ => cases e
  | cons k1 h1 hf1 h2 i1 i2 =>
    intro z Δ B k' hB cr hK e
    obtain ⟨ka, e1, e⟩ := at1_ok e
    obtain ⟨kb, e2, e⟩ := at1_ok e
    obtain ⟨rfl, _⟩ := consK_ok (fin_ok e)
    exact i2 z hB cr hK e2
  | fold k1 h1 hf1 h2 k2 h3 hf3 i1 i2 i3 =>
    intro z Δ B k' hB cr hK e
    obtain ⟨kf, e1, e⟩ := at1_ok e
    obtain ⟨ka, e2, e⟩ := at1_ok e
    obtain ⟨kb, e3, e⟩ := at1_ok e
    obtain ⟨rfl, _⟩ := foldK_ok (fin_ok e)
    exact i2 z hB cr hK e2
  | drop k1 k5 h1 hl hd i1 =>
    intro z Δ B k' hB cr hK e
    exact .big (L.drop hB h1.pos k1 (i1 z hB cr k1 e) hl hd)
  | wName =>
    intro z Δ B k' hB cr hK e
    obtain ⟨K, h1, h2⟩ := cr.low _ _ (name_ok e)
    exact .big (L.nam hB h1 h2)
  | wFirst h1 i1 =>
    intro z Δ B k' hB cr hK e
    obtain ⟨ka, e1, e⟩ := at1_ok e
    obtain ⟨y, rfl⟩ := firstK_ok (fin_ok e)
    exact .big ((L.cmp _).pair (ofn (ge hB h1.pos) (i1 z hB cr hK e1))).1
  | wSecond h1 i1 =>
    intro z Δ B k' hB cr hK e
    obtain ⟨ka, e1, e⟩ := at1_ok e
    obtain ⟨y, rfl⟩ := secondK_ok (fin_ok e)
    exact .big ((L.cmp _).pair (ofn (ge hB h1.pos) (i1 z hB cr hK e1))).2
  | wCall h1 k2 h2 hf2 i1 i2 =>
    intro z Δ B k' hB cr hK e
    obtain ⟨kf, e1, e⟩ := at1_ok e
    obtain ⟨ka, e2, e⟩ := at1_ok e
    have e := callK_ok (fin_ok e)
    subst e
    exact .big ((L.cmp _).func (ofn (ge hB h1.pos) (i1 z hB cr hK e1))).2
  | wPair h1 h2 i1 i2 =>
    intro z Δ B k' hB cr hK e
    obtain ⟨ka, e1, e⟩ := at1_ok e
    obtain ⟨kb, e2, e⟩ := at1_ok e
    cases e
    exact .big (L.pr hB h1.pos h2.pos (ofn (ge hB h1.pos) (i1 z hB cr hK e1)) (ofn (ge hB h2.pos) (i2 z hB cr hK e2)))
  | wCase h1 hf1 h2 hf2 h3 m1 m2 i1 i2 i3 =>
    intro z Δ B k' hB cr hK e
    obtain ⟨ks, e1, e⟩ := at1_ok e
    cases ks with
    | either l r =>
      obtain ⟨ka, e2, e⟩ := at1_ok e
      obtain ⟨kb, e3, e⟩ := at1_ok e
      have r1 := (L.cmp _).either (ofn (ge hB h1.pos) (i1 z hB cr (by decide) e1))
      have e := caseK e
      subst e
      have r2 := i2 z (ge hB h1.pos) ((cr.imp fun _ p => L.up (le h1.pos) p).putW r1.1) hK e2
      rwa [L.asc] at r2
    | _ => cases e
  | wLet h1 hf1 h2 hf2 m1 m2 i1 i2 =>
    intro z Δ B k' hB cr hK e
    obtain ⟨ka, e1, e⟩ := at1_ok e
    obtain ⟨kb, e2, e⟩ := at1_ok e
    cases e
    have r1 := ofn (ge hB h1.pos) (i1 z hB cr (by decide) e1)
    have r2 := i2 z (ge hB h1.pos) ((cr.imp fun _ p => L.up (le h1.pos) p).putW r1) hK e2
    rwa [L.asc] at r2
  | wFn ha k1 h1 hf1 hn hc hff i1 =>
    intro z Δ B k' hB cr hK e
    have hal : al := z.resolve_left (by decide)
    obtain ⟨r, h1, h2⟩ := at1_ok e
    cases h2
    exact .big (L.wf hal hB ha (i1 (.inr hal) hB (cr.putW (L.wild hal hB ha)) k1 h1))
  | flat h1 hff i1 =>
    intro z Δ B k' hB cr hK e
    exact .big (L.fin hB h1.pos (i1 z hB cr (by decide) e))
  | fName a b c' d' =>
    intro z Δ B k' hB cr hK e
    obtain ⟨K, h1, h2⟩ := cr.low _ _ (name_ok e)
    exact L.fP (ge hB (by omega)) d' (L.up (L.mon a b) (L.nam hB h1 h2))
  | fUnit a b =>
    intro z Δ B k' hB cr hK e
    cases e
    exact L.fA (ge hB a) b (by simp only [Kd.dp]; omega)
  | fNumber a b =>
    intro z Δ B k' hB cr hK e
    cases e
    exact L.fA (ge hB a) b (by simp only [Kd.dp]; omega)
  | fNil a b c' =>
    intro z Δ B k' hB cr hK e
    cases e
    exact L.fA (ge hB a) b (by simp only [Kd.dp]; omega)
  | fCons k1 k2 hf1 h1 h2 i1 i2 =>
    intro z Δ B k' hB cr hK e
    obtain ⟨ka, e1, e⟩ := at1_ok e
    obtain ⟨kb, e2, e⟩ := at1_ok e
    obtain ⟨rfl, _⟩ := consK_ok (fin_ok e)
    exact i2 z hB cr hK e2
  | fFn hk h1 i1 =>
    intro z Δ B k' hB cr hK e
    obtain ⟨r, e1, e2⟩ := at1_ok e
    cases e2
    exact L.fF (ge hB h1.pos) hk (i1 z hB (cr.put (by omega) .same) (by omega) e1)
  | fPair h1 h2 i1 i2 =>
    intro z Δ B k' hB cr hK e
    obtain ⟨ka, e1, e⟩ := at1_ok e
    obtain ⟨kb, e2, e⟩ := at1_ok e
    cases e
    exact L.fPr (ge hB h1.pos) (i1 z hB cr (by omega) e1) (i2 z hB cr (by omega) e2) (h1.mpos rfl).2
  | fLeft hk h1 i1 =>
    intro z Δ B k' hB cr hK e
    obtain ⟨ka, e1, e⟩ := at1_ok e
    cases e
    exact L.fE1 (ge hB h1.pos) hk (i1 z hB cr (by omega) e1)
  | fRight hk h1 i1 =>
    intro z Δ B k' hB cr hK e
    obtain ⟨ka, e1, e⟩ := at1_ok e
    cases e
    exact L.fE2 (ge hB h1.pos) hk (i1 z hB cr (by omega) e1)
  | fBent hff hm h1 i1 =>
    intro z Δ B k' hB cr hK e
    exact L.fP (ge hB h1.pos) hm (ofn (ge hB h1.pos) (i1 z hB cr (by decide) e))
end Kq
/-! M14: texts and depths; every kind that is met is low. -/
namespace Kq
open PySem
def Pt (B : Nat) (k : Kd) : Prop := k.tl + 49 ≤ B
def Ft (N m dd : Nat) (k : Kd) : Prop := k.tl + m * 61 ≤ tau dd + m * N
def Pd (e : Nat) (k : Kd) : Prop := k.dp ≤ e
def Fd (N m dd : Nat) (k : Kd) : Prop := k.dp + 1 ≤ N + dd
theorem tauLf : ∀ d : Nat, tau (d + 1) + 49 ≤ 61 * lf (d + 1)
  | 0 => by decide
  | d + 1 => by
    have h := tauLf d
    have e1 : tau (d + 2) = 2 * tau (d + 1) + 14 := rfl
    have e2 : lf (d + 2) = 2 * lf (d + 1) := rfl
    rw [e1, e2]
    omega
theorem lf_two {x y : Nat} (hx : 1 ≤ x) (hy : 1 ≤ y) : lf x + lf y ≤ lf (1 + max x y) := by
  have h1 := lf_mono (Nat.le_max_left x y)
  have h2 := lf_mono (Nat.le_max_right x y)
  obtain ⟨m, hm⟩ : ∃ m, max x y = m + 1 := ⟨max x y - 1, by omega⟩
  rw [hm] at h1 h2 ⊢
  have e : lf (1 + (m + 1)) = 2 * lf (m + 1) := by rw [Nat.add_comm]; rfl
  rw [e]; omega
theorem relT {M : Nat} (hM : 61 ≤ M) {K k : Kd} (h : Rel (Pt M) K k) : k.tl + 49 ≤ lf K.dp * M := by
  induction h with
  | @same k =>
    have h1 := tl_le (Nat.le_refl k.dp)
    obtain ⟨d, hd⟩ : ∃ d, k.dp = d + 1 := ⟨k.dp - 1, by have := k.dp_pos; omega⟩
    rw [hd] at h1 ⊢
    have h2 := tauLf d
    have h3 := Nat.mul_le_mul_left (lf (d + 1)) hM
    rw [Nat.mul_comm] at h2
    omega
  | @big K k p =>
    have h1 := Nat.mul_le_mul_right M (lf_pos K.dp_pos)
    unfold Pt at p
    omega
  | @pair a b c d _ _ x y =>
    have h1 := Nat.mul_le_mul_right M (lf_two a.dp_pos b.dp_pos)
    rw [Nat.add_mul] at h1
    simp only [Kd.dp, Kd.tl]; omega
  | @either a b c d _ _ x y =>
    have h1 := Nat.mul_le_mul_right M (lf_two a.dp_pos b.dp_pos)
    rw [Nat.add_mul] at h1
    simp only [Kd.dp, Kd.tl]; omega
  | @func a b c d _ _ x y =>
    have h1 := Nat.mul_le_mul_right M (lf_two a.dp_pos b.dp_pos)
    rw [Nat.add_mul] at h1
    simp only [Kd.dp, Kd.tl]; omega
  | @list a c _ x =>
    have h1 := Nat.mul_le_mul_right M (lf_two a.dp_pos a.dp_pos)
    rw [Nat.add_mul, Nat.max_self] at h1
    simp only [Kd.dp, Kd.tl]; omega
theorem levT : Lev (fun B c _ => c * B) Pt Ft 61 False where
  one := fun B => Nat.one_mul B
  mon := fun {B c c' d d'} h _ => Nat.mul_le_mul_right B h
  asc := fun B c1 d1 c2 d2 => by rw [← Nat.mul_assoc, Nat.mul_comm c2 c1]
  up := fun {B B' k} h p => Nat.le_trans p h
  fup := fun {B B' m dd k} h p => by
    have := Nat.mul_le_mul_left m h
    unfold Ft at *; omega
  cmp := fun B => ⟨fun {a b} h => by unfold Pt at *; simp only [Kd.tl] at h; omega, fun {a b} h => by unfold Pt at *; simp only [Kd.tl] at h; omega, fun {a} h => by unfold Pt at *; simp only [Kd.tl] at h; omega, fun {a b} h => by unfold Pt at *; simp only [Kd.tl] at h; omega⟩
  atom := fun {B k} h hk => by
    have : k.tl ≤ 12 := tl_le (d := 1) hk
    unfold Pt; omega
  drop := fun {B c d c' d' K k} hB hc _ r hl _ => by
    have h1 : 61 ≤ c * B := Nat.le_trans hB (Nat.le_mul_of_pos_left B hc)
    have h2 := relT h1 r
    have h3 := Nat.mul_le_mul_right B hl
    rw [Nat.mul_assoc] at h3
    exact Nat.le_trans h2 h3
  nam := fun {B K k} hB hK r => by
    have h2 := relT hB r
    have h3 : lf K.dp ≤ 8 := lf_mono hK
    have h4 := Nat.mul_le_mul_right B h3
    exact Nat.le_trans h2 h4
  pr := fun {B c1 c2 d a b} _ _ _ h1 h2 => by
    unfold Pt at *
    have h1 : a.tl + 49 ≤ c1 * B := h1
    have h2 : b.tl + 49 ≤ c2 * B := h2
    show (Kd.pair a b).tl + 49 ≤ (c1 + c2) * B
    rw [Nat.add_mul]
    simp only [Kd.tl]; omega
  wf := fun h => h.elim
  wild := fun h => h.elim
  fP := fun {B m dd k} hB hm p => by
    unfold Ft; unfold Pt at p
    have h1 : 12 ≤ tau (dd + 1) := tau_mono (m := 1) (n := dd + 1) (by omega)
    obtain ⟨m, rfl⟩ : ∃ m', m = m' + 1 := ⟨m - 1, by omega⟩
    have := Nat.mul_le_mul_left m hB
    rw [Nat.add_mul, Nat.add_mul]; omega
  fA := fun {B m dd k} hB hm hk => by
    unfold Ft
    have := tl_le hk
    have := Nat.mul_le_mul_left m hB
    omega
  fF := fun {B m dd k r} hB hk h => by
    unfold Ft at *
    have := tl_le hk
    rw [tau_step (by have := k.dp_pos; omega)]
    simp only [Kd.tl]; omega
  fPr := fun {B l m dd a b} hB h1 h2 hd => by
    unfold Ft at *
    rw [tau_step hd, Nat.add_mul, Nat.add_mul]
    simp only [Kd.tl]; omega
  fE1 := fun {B m dd k r} hB hk h => by
    unfold Ft at *
    have := tl_le hk
    rw [tau_step (by have := k.dp_pos; omega)]
    simp only [Kd.tl]; omega
  fE2 := fun {B m dd k r} hB hk h => by
    unfold Ft at *
    have := tl_le hk
    rw [tau_step (by have := k.dp_pos; omega)]
    simp only [Kd.tl]; omega
  fin := fun {B c d k} hB hc h => by
    unfold Ft at h; unfold Pt
    have h : k.tl + 4 * 61 ≤ tau 4 + 4 * (c * B) := h
    show k.tl + 49 ≤ 4 * c * B
    have e : tau 4 = 194 := rfl
    rw [Nat.mul_assoc]; omega
theorem relD {e : Nat} (he : 1 ≤ e) {K k : Kd} (h : Rel (Pd e) K k) : k.dp + 1 ≤ K.dp + e := h.dp he fun _ p => p
theorem levD : Lev (fun e _ d => e + d) Pd Fd 4 True where
  one := fun B => rfl
  mon := fun {B c c' d d'} _ h => Nat.add_le_add_left h B
  asc := fun B c1 d1 c2 d2 => by omega
  up := fun {B B' k} h p => Nat.le_trans p h
  fup := fun {B B' m dd k} h p => by unfold Fd at *; omega
  cmp := fun B => ⟨fun {a b} h => by unfold Pd at *; simp only [Kd.dp] at h; omega, fun {a b} h => by unfold Pd at *; simp only [Kd.dp] at h; omega, fun {a} h => by unfold Pd at *; simp only [Kd.dp] at h; omega, fun {a b} h => by unfold Pd at *; simp only [Kd.dp] at h; omega⟩
  atom := fun {B k} h hk => by unfold Pd; omega
  drop := fun {B c d c' d' K k} hB hc _ r _ hd => by
    have h2 := relD (by omega : 1 ≤ B + d) r
    unfold Pd; omega
  nam := fun {B K k} hB hK r => by
    have h2 := relD (by omega : 1 ≤ B) r
    unfold Pd; omega
  pr := fun {B c1 c2 d a b} _ _ _ h1 h2 => by
    unfold Pd at *
    have h1 : a.dp ≤ B + d := h1
    have h2 : b.dp ≤ B + d := h2
    simp only [Kd.dp]; omega
  wf := fun _ {B c c' d K a k} hB ha r => by
    have h2 := relD (by omega : 1 ≤ B + d) r
    have := K.dp_pos
    unfold Pd
    simp only [Kd.dp]; omega
  wild := fun _ {B k} hB hk => Nat.le_trans hk hB
  fP := fun {B m dd k} hB hm p => by unfold Fd; unfold Pd at p; omega
  fA := fun {B m dd k} hB hm hk => by unfold Fd; omega
  fF := fun {B m dd k r} hB hk h => by unfold Fd at *; simp only [Kd.dp]; omega
  fPr := fun {B l m dd a b} hB h1 h2 hd => by unfold Fd at *; simp only [Kd.dp]; omega
  fE1 := fun {B m dd k r} hB hk h => by unfold Fd at *; simp only [Kd.dp]; omega
  fE2 := fun {B m dd k r} hB hk h => by unfold Fd at *; simp only [Kd.dp]; omega
  fin := fun {B c d k} hB hc h => by
    unfold Fd at h; unfold Pd
    have h : k.dp + 1 ≤ B + d + 4 := h
    show k.dp ≤ B + (d + 3)
    omega
/-! ### every kind that is met -/
def Tr : Nat → Nat
  | 0 => 0
  | n + 1 => Tr n + (n + 1)
theorem le_Tr : ∀ n, n ≤ Tr n
  | 0 => Nat.le_refl _
  | n + 1 => by unfold Tr; omega
theorem Tr_mono {m n : Nat} (h : m ≤ n) : Tr m ≤ Tr n := by
  induction n with
  | zero => have : m = 0 := by omega
            subst this; exact Nat.le_refl _
  | succ n ih =>
    by_cases e : m = n + 1
    · subst e; exact Nat.le_refl _
    · have := ih (by omega)
      have e2 : Tr (n + 1) = Tr n + (n + 1) := rfl
      omega
theorem Tr_add (a b : Nat) : a + Tr b ≤ Tr (a + b) := by
  induction a with
  | zero => simp
  | succ a ih =>
    have e : Tr (a + 1 + b) = Tr (a + b) + (a + b + 1) := by rw [show a + 1 + b = (a + b) + 1 by omega]; rfl
    rw [e]; omega
theorem ok1_i {r : Res} {f : Kd → Prop} (h : ∀ k, r = .ok k → f k) : ok1 r f := by
  unfold ok1
  split
  · exact h _ rfl
  · trivial
section
variable {fl : Bool} {c d n m dd : Nat} {γ : GC} {t : Tm} {K : Kd} {Δ : Ctx} {e : Nat}
theorem depS (h : S (.s K) fl c d n γ t) (hK : K.dp ≤ 6) (hf : Fit d n K) (he : 4 ≤ e) (hn : e + 7 * Tr n + 6 ≤ 60) (cr : CR (Pd e) γ Δ) : ok1 (walk Δ t) (·.dp ≤ 60) := ok1_i fun k hk => by
  have r : Rel (Pd (e + d)) K k := rel_walk levD h (.inr trivial) he cr hK hk
  have := relD (by omega) r
  have := le_Tr n
  unfold Fit at hf
  omega
theorem depF (h : S (.f m dd) fl c d n γ t) (hd : dd ≤ 4) (hf : FitF d n) (he : 4 ≤ e) (hn : e + 7 * Tr n + 6 ≤ 60) (cr : CR (Pd e) γ Δ) : ok1 (walk Δ t) (·.dp ≤ 60) := ok1_i fun k hk => by
  have r := rel_walk levD h (.inr trivial) he cr hd hk
  have := le_Tr n
  unfold Fd at r
  unfold FitF at hf
  have r : k.dp + 1 ≤ e + d + dd := r
  omega
end
def LowS : Md → Nat → Nat → GC → Tm → Prop
  | .s K, d, n, γ, t => K.dp ≤ 6 → Fit d n K → ∀ {Δ : Ctx} {e : Nat}, 4 ≤ e → e + 7 * Tr n + 6 ≤ 60 → CR (Pd e) γ Δ → Low 60 Δ t
  | .f _ dd, d, n, γ, t => dd ≤ 4 → FitF d n → ∀ {Δ : Ctx} {e : Nat}, 4 ≤ e → e + 7 * Tr n + 6 ≤ 60 → CR (Pd e) γ Δ → Low 60 Δ t
theorem CR.upD {e e' : Nat} {γ : GC} {Δ : Ctx} (h : CR (Pd e) γ Δ) (a : e ≤ e') : CR (Pd e') γ Δ := h.imp fun _ p => Nat.le_trans p a
theorem low_walk {μ : Md} {fl : Bool} {c d n : Nat} {γ : GC} {t : Tm} (h : S μ fl c d n γ t) : LowS μ d n γ t := by
  induction h with
  | @mono μ fl c c' d d' n n' γ t h a b e f1 f2 ih =>
    have hT := Tr_mono e
    cases μ with
    | s K => exact fun hK hf {Δ e} he hn cr => ih hK (f1 K rfl) he (by omega) cr
    | f m dd => exact fun hK hf {Δ e} he hn cr => ih hK (f2 m dd rfl) he (by omega) cr
  | name a => exact fun hK hf {Δ e} he hn cr => depS (S.name (fl := true) a) hK hf he hn cr
  | unit => exact fun hK hf {Δ e} he hn cr => trivial
  | number => exact fun hK hf {Δ e} he hn cr => trivial
  | nil a => exact fun hK hf {Δ e} he hn cr => by simp only [Low]; omega
  | fn a h1 ih =>
    intro hK hf Δ e he hn cr
    refine ⟨by omega, ih (by simp only [Kd.dp] at hK; omega) (hf.sub (by simp only [Kd.dp]; omega)) he hn (cr.put a .same), depS (S.fn a h1) hK hf he hn cr⟩
  | call hd hff h1 h2 hf2 i1 i2 =>
    intro hK hf Δ e he hn cr
    exact ⟨i1 (by omega) hff he hn cr, ok1_i fun _ _ => i2 (by simp only [Kd.dp] at hd; omega) hf2 he hn cr⟩
  | @lete fl c1 d1 n1 c2 d2 n2 γ x a b ka k hd h1 hf1 hd1 h2 hf2 i1 i2 =>
    intro hK hf Δ e he hn cr
    have t1 := Tr_add n1 n2
    have t2 := Tr_mono (Nat.le_add_right n1 n2)
    refine ⟨i1 (by omega) hf1 he (by omega) cr, ok1_i fun k1 e1 => ?_⟩
    have r := rel_walk levD h1 (.inr trivial) he cr (by omega) e1
    exact i2 hK hf2 (e := e + d1) (by omega) (by omega) ((cr.upD (by omega)).put hd r)
  | plus k1 k2 h1 hf1 h2 hf2 i1 i2 => exact fun hK hf {Δ e} he hn cr => ⟨i1 k1 hf1 he hn cr, ok1_i fun _ _ => i2 k2 hf2 he hn cr⟩
  | times k1 k2 h1 hf1 h2 hf2 i1 i2 => exact fun hK hf {Δ e} he hn cr => ⟨i1 k1 hf1 he hn cr, ok1_i fun _ _ => i2 k2 hf2 he hn cr⟩
  | is k1 k2 h1 hf1 h2 hf2 i1 i2 => exact fun hK hf {Δ e} he hn cr => ⟨i1 k1 hf1 he hn cr, ok1_i fun _ _ => i2 k2 hf2 he hn cr⟩
  | minus k1 h1 hf1 i1 => exact fun hK hf {Δ e} he hn cr => i1 k1 hf1 he hn cr
  | pair h1 h2 i1 i2 =>
    intro hK hf Δ e he hn cr
    have hK' := hK
    simp only [Kd.dp] at hK'
    exact ⟨⟨i1 (by omega) (hf.sub (by simp only [Kd.dp]; omega)) he hn cr, ok1_i fun _ _ => i2 (by omega) (hf.sub (by simp only [Kd.dp]; omega)) he hn cr⟩, depS (S.pair h1 h2) hK hf he hn cr⟩
  | first hd hff h1 i1 => exact fun hK hf {Δ e} he hn cr => i1 (by omega) hff he hn cr
  | second hd hff h1 i1 => exact fun hK hf {Δ e} he hn cr => i1 (by omega) hff he hn cr
  | left h1 i1 =>
    intro hK hf Δ e he hn cr
    have hK' := hK
    simp only [Kd.dp] at hK'
    exact ⟨by omega, i1 (by omega) (hf.sub (by simp only [Kd.dp]; omega)) he hn cr, depS (S.left h1) hK hf he hn cr⟩
  | right h1 i1 =>
    intro hK hf Δ e he hn cr
    have hK' := hK
    simp only [Kd.dp] at hK'
    exact ⟨by omega, i1 (by omega) (hf.sub (by simp only [Kd.dp]; omega)) he hn cr, depS (S.right h1) hK hf he hn cr⟩
  | @case fl c1 d1 n1 c2 d2 n2 γ s a b x y p q k hp hq h1 hf1 hd1 h2 hf2 h3 i1 i2 i3 =>
    intro hK hf Δ e he hn cr
    have t1 := Tr_add n1 n2
    have t2 := Tr_mono (Nat.le_add_right n1 n2)
    refine ⟨i1 (by simp only [Kd.dp]; omega) hf1 he (by omega) cr, ok1_i fun ks e1 => ?_⟩
    have r := rel_walk levD h1 (.inr trivial) he cr (by simp only [Kd.dp]; omega) e1
    cases ks with
    | either l r' =>
      have r := r.un_either (levD.cmp _)
      exact ⟨i2 hK hf2 (e := e + d1) (by omega) (by omega) ((cr.upD (by omega)).put hp r.1), ok1_i fun _ _ => i3 hK hf2 (e := e + d1) (by omega) (by omega) ((cr.upD (by omega)).put hq r.2)⟩
    | _ => trivial
  | cons k1 h1 hf1 h2 i1 i2 => exact fun hK hf {Δ e} he hn cr => ⟨i1 k1 hf1 he hn cr, ok1_i fun _ _ => i2 hK hf he hn cr⟩
  | fold k1 h1 hf1 h2 k2 h3 hf3 i1 i2 i3 => exact fun hK hf {Δ e} he hn cr => ⟨i1 k1 hf1 he hn cr, ok1_i fun _ _ => ⟨i2 hK hf he hn cr, ok1_i fun _ _ => i3 k2 hf3 he hn cr⟩⟩
  | @drop fl c d n c' d' γ t K K' k1 k5 h1 hl hd i1 =>
    intro hK hf Δ e he hn cr
    have := K'.dp_pos
    exact i1 k1 (by unfold Fit at *; omega) he hn cr
  | wName => exact fun hK hf {Δ e} he hn cr => depS (S.wName (fl := true)) hK hf he hn cr
  | wFirst h1 i1 => exact fun hK hf {Δ e} he hn cr => i1 hK hf he hn cr
  | wSecond h1 i1 => exact fun hK hf {Δ e} he hn cr => i1 hK hf he hn cr
  | wCall h1 k2 h2 hf2 i1 i2 => exact fun hK hf {Δ e} he hn cr => ⟨i1 hK hf he hn cr, ok1_i fun _ _ => i2 k2 hf2 he hn cr⟩
  | wPair h1 h2 i1 i2 =>
    intro hK hf Δ e he hn cr
    have hf1 := hf
    unfold Fit at hf1
    exact ⟨⟨i1 (by decide) (by unfold Fit; omega) he hn cr, ok1_i fun _ _ => i2 (by decide) (by unfold Fit; omega) he hn cr⟩, depS (S.wPair h1 h2) hK hf he hn cr⟩
  | @wCase fl c1 d1 n1 c2 d2 n2 n γ s a b x y h1 hf1 h2 hf2 h3 m1 m2 i1 i2 i3 =>
    intro hK hf Δ e he hn cr
    have e1 : Tr (n + 1) = Tr n + (n + 1) := rfl
    have t1 := Tr_mono m1
    have t2 := Tr_mono m2
    have hf1' := hf1
    unfold Fit at hf1'
    rw [num_dp] at hf1'
    refine ⟨i1 (by decide) hf1 he (by omega) cr, ok1_i fun ks e1 => ?_⟩
    have r := rel_walk levD h1 (.inr trivial) he cr (by decide) e1
    cases ks with
    | either l r' =>
      have p : Pd (e + d1) (.either l r') := by
        cases r with
        | big p => exact p
      have p := (levD.cmp _).either p
      exact ⟨i2 (by decide) hf2 (e := e + d1) (by omega) (by omega) ((cr.upD (by omega)).putW p.1), ok1_i fun _ _ => i3 (by decide) hf2 (e := e + d1) (by omega) (by omega) ((cr.upD (by omega)).putW p.2)⟩
    | _ => trivial
  | @wLet fl c1 d1 n1 c2 d2 n2 n γ a b x h1 hf1 h2 hf2 m1 m2 i1 i2 =>
    intro hK hf Δ e he hn cr
    have e1 : Tr (n + 1) = Tr n + (n + 1) := rfl
    have t1 := Tr_mono m1
    have t2 := Tr_mono m2
    have hf1' := hf1
    unfold Fit at hf1'
    rw [num_dp] at hf1'
    refine ⟨i1 (by decide) hf1 he (by omega) cr, ok1_i fun ks e1 => ?_⟩
    have r := rel_walk levD h1 (.inr trivial) he cr (by decide) e1
    have p : Pd (e + d1) ks := by
      cases r with
      | same => unfold Pd; rw [num_dp]; omega
      | big p => exact p
    exact i2 (by decide) hf2 (e := e + d1) (by omega) (by omega) ((cr.upD (by omega)).putW p)
  | @wFn f1 c c' d n n' γ x a K1 b ha k1 h1 hf1 hn1 hc hff i1 =>
    intro hK hf Δ e he hn cr
    have t1 := Tr_mono hn1
    exact ⟨by omega, i1 k1 hf1 he (by omega) (cr.putW (levD.wild trivial he ha)), depS (S.wFn ha k1 h1 hf1 hn1 hc hff) hK hf he hn cr⟩
  | flat h1 hff i1 => exact fun hK hf {Δ e} he hn cr => i1 (by decide) hff he hn cr
  | fName a b c' d' => exact fun hK hf {Δ e} he hn cr => depF (S.fName (fl := true) a b c' d') hK hf he hn cr
  | fUnit a b => exact fun hK hf {Δ e} he hn cr => trivial
  | fNumber a b => exact fun hK hf {Δ e} he hn cr => trivial
  | fNil a b c' => exact fun hK hf {Δ e} he hn cr => by simp only [Low]; omega
  | fCons k1 k2 hf1 h1 h2 i1 i2 => exact fun hK hf {Δ e} he hn cr => ⟨i1 k1 hf1 he hn cr, ok1_i fun _ _ => i2 hK hf he hn cr⟩
  | fFn hk h1 i1 => exact fun hK hf {Δ e} he hn cr => ⟨by omega, i1 (by omega) hf he hn (cr.put (by omega) .same), depF (S.fFn hk h1) hK hf he hn cr⟩
  | fPair h1 h2 i1 i2 => exact fun hK hf {Δ e} he hn cr => ⟨⟨i1 (by omega) hf he hn cr, ok1_i fun _ _ => i2 (by omega) hf he hn cr⟩, depF (S.fPair h1 h2) hK hf he hn cr⟩
  | fLeft hk h1 i1 => exact fun hK hf {Δ e} he hn cr => ⟨by omega, i1 (by omega) hf he hn cr, depF (S.fLeft hk h1) hK hf he hn cr⟩
  | fRight hk h1 i1 => exact fun hK hf {Δ e} he hn cr => ⟨by omega, i1 (by omega) hf he hn cr, depF (S.fRight hk h1) hK hf he hn cr⟩
  | fBent hff hm h1 i1 => exact fun hK hf {Δ e} he hn cr => i1 (by decide) hff he hn cr
end Kq
/-! M15: a drawn term and its bends: what is known of them. -/
namespace Kq
open PySem
theorem ofCtx_snoc (Γ : Ctx) (x : Str) (k : Kd) : ofCtx (Γ ++ [(x, k)]) = (ofCtx Γ).put x (.is k) := by
  funext y
  unfold ofCtx GC.put
  rw [look_snoc]
  by_cases h : x = y
  · rw [if_pos h, if_pos h.symm]
  · rw [if_neg h, if_neg (fun z => h z.symm)]
theorem Fit.zero {K : Kd} (h : K.dp ≤ 7) : Fit 0 0 K := by unfold Fit; omega
theorem G.toS {n : Nat} {Γ : Ctx} {t : Tm} {k : Kd} (h : G n Γ t k) : n = 0 → k.dp ≤ 6 → S (.s k) true 1 0 0 (ofCtx Γ) t := by
  induction h with
  | name a b => intro _ _; exact .name (.inl (by unfold ofCtx; rw [a]))
  | unit => intro _ _; exact .unit
  | number a => intro _ _; exact .number
  | nil a => intro _ _; exact .nil a
  | fn a b c _ ih => intro e _; exact .fn b (by rw [← ofCtx_snoc]; exact ih e (by omega))
  | call a h1 h2 b i1 i2 =>
    intro e _
    have a' := a
    simp only [Kd.dp] at a'
    exact .call a (.zero (by omega)) (i1 (by omega) (by omega)) (i2 (by omega) (by omega)) (.zero (by omega))
  | lete a b c h1 h2 d i1 i2 =>
    intro e _
    exact .lete b (i1 (by omega) (by omega)) (.zero (by omega)) (Nat.le_refl _) (by rw [← ofCtx_snoc]; exact i2 (by omega) (by omega)) (.zero (by omega))
  | plus h1 h2 d i1 i2 => intro e _; exact .plus (by decide) (by decide) (i1 (by omega) (by decide)) (.zero (by decide)) (i2 (by omega) (by decide)) (.zero (by decide))
  | times h1 h2 d i1 i2 => intro e _; exact .times (by decide) (by decide) (i1 (by omega) (by decide)) (.zero (by decide)) (i2 (by omega) (by decide)) (.zero (by decide))
  | minus _ ih => intro e _; exact .minus (by decide) (ih e (by decide)) (.zero (by decide))
  | is a h1 h2 d i1 i2 => intro e _; exact .is (by decide) (by decide) (i1 (by omega) (by decide)) (.zero (by decide)) (i2 (by omega) (by decide)) (.zero (by decide))
  | pair a h1 h2 d i1 i2 =>
    intro e _
    simp only [Kd.dp] at a
    exact .pair (i1 (by omega) (by omega)) (i2 (by omega) (by omega))
  | first a _ ih => intro e _; exact .first a (.zero (by omega)) (ih e (by omega))
  | second a _ ih => intro e _; exact .second a (.zero (by omega)) (ih e (by omega))
  | left a _ ih => intro e _; simp only [Kd.dp] at a; exact .left (ih e (by omega))
  | right a _ ih => intro e _; simp only [Kd.dp] at a; exact .right (ih e (by omega))
  | case a b c d h1 h2 h3 e' i1 i2 i3 =>
    intro e _
    have c' := c
    simp only [Kd.dp] at c'
    exact .case (by omega) (by omega) (i1 (by omega) (by omega)) (.zero (by omega)) (Nat.le_refl _) (by rw [← ofCtx_snoc]; exact i2 (by omega) (by omega)) (.zero (by omega)) (by rw [← ofCtx_snoc]; exact i3 (by omega) (by omega))
  | cons a h1 h2 d i1 i2 =>
    intro e _
    have a' := a
    simp only [Kd.dp] at a'
    exact .cons (by omega) (i1 (by omega) (by omega)) (.zero (by omega)) (i2 (by omega) (by omega))
  | fold a b c h1 h2 h3 d i1 i2 i3 => intro e _; exact .fold a (i1 (by omega) (by omega)) (.zero (by omega)) (i2 (by omega) (by omega)) (by omega) (i3 (by omega) (by omega)) (.zero (by omega))
/-- the term, bent n times -/
structure Kept (n : Nat) (Γ : Ctx) (t : Tm) (k : Kd) : Prop where
  s : ∃ c, c ≤ 32 ^ n ∧ S (.s k) true c (7 * n) n (ofCtx Γ) t
  wf : Wf t
  dp : t.dp ≤ 12 + 4 * n
theorem Kept.low {n : Nat} {Γ : Ctx} {t : Tm} {k : Kd} (h : Kept n Γ t k) (hn : n ≤ 3) (hk : k.dp ≤ 4) (hΓ : ∀ p ∈ Γ, p.2.dp ≤ 4) : Low 60 Γ t := by
  obtain ⟨c, _, s⟩ := h.s
  have e : Tr n ≤ 6 := Tr_mono hn
  exact low_walk s (by omega) (by unfold Fit; omega) (e := 4) (by omega) (by omega) (CR.refl hΓ)
theorem Kept.tl {n : Nat} {Γ : Ctx} {t : Tm} {k k' : Kd} (h : Kept n Γ t k) (hn : n ≤ 3) (hk : k.dp ≤ 4) (hΓ : ∀ p ∈ Γ, p.2.dp ≤ 4) (e : walk Γ t = .ok k') : k'.tl ≤ 16000000 ∧ k'.dp ≤ 60 := by
  have hl := h.low hn hk hΓ
  obtain ⟨c, hc, s⟩ := h.s
  refine ⟨?_, low_ok (by decide) hl e⟩
  have r : Rel (Pt (c * 61)) k k' := rel_walk levT s (.inl rfl) (B := 61) (Nat.le_refl _) (CR.refl hΓ) (by omega) e
  have h1 := s.pos
  have h2 := relT (by omega) r
  have h3 : lf k.dp ≤ 8 := lf_mono hk
  have h4 : (32 : Nat) ^ n ≤ 32 ^ 3 := Nat.pow_le_pow_right (by decide) hn
  have h5 : c * 61 ≤ 32768 * 61 := Nat.mul_le_mul_right 61 (by omega)
  have h6 := Nat.mul_le_mul h3 h5
  omega
theorem Fl.dpB {m d : Nat} {t : Tm} (h : Fl m d t) : t.dp ≤ d := by
  induction h with
  | name a b => simp [Tm.dp]
  | unit a => simp [Tm.dp]
  | number a b => simp [Tm.dp]
  | nil a b => simp [Tm.dp]
  | @cons m d a k hk h ih => have := a.dp_pos; simp only [Tm.dp]; omega
  | fn a b _ ih => simp only [Tm.dp]; omega
  | pair _ _ x y => simp only [Tm.dp]; omega
  | left _ _ x => simp only [Tm.dp]; omega
  | right _ _ x => simp only [Tm.dp]; omega
theorem Oth.dp {t t' : Tm} (o : Oth t t') : t'.dp ≤ t.dp + 4 := by
  have := t.dp_pos
  cases o with
  | flat a => have := Fl.dpB a; omega
  | fold a b e =>
    rename_i kd
    rcases b with rfl | rfl | rfl <;> rcases e with rfl | e <;> first | (have := Fl.dpB e; simp only [Tm.dp]; omega) | (simp only [Tm.dp]; omega)
  | _ => simp only [Tm.dp]; omega
theorem Bnd.dp {r : Bool} {t t' : Tm} (b : Bnd r t t') : t'.dp ≤ t.dp + 4 := by
  induction b with
  | root o => exact o.dp
  | _ => simp only [Tm.dp]; omega
theorem Oth.wf {t t' : Tm} (o : Oth t t') (h : Wf t) : Wf t' := by
  have nx : Nm "x" := nm0 (by decide +kernel)
  have ny : Nm "y" := nm0 (by decide +kernel)
  cases o with
  | flat a => exact Fl.wf a (by decide)
  | name a => exact a
  | first => exact h
  | second => exact h
  | minus => exact h
  | call => exact ⟨h, h⟩
  | plus => exact ⟨h, h⟩
  | times => exact ⟨h, h⟩
  | pair => exact ⟨h, h⟩
  | cons => exact ⟨h, h⟩
  | case => exact ⟨h, nx, nx, ny, ny⟩
  | fold a b e =>
    have hb : ∀ {body : Tm}, (body = t ∨ body = .name "r" ∨ body = .name "h") → Wf body := fun {body} b => by
      rcases b with rfl | rfl | rfl
      · exact h
      · exact nm0 (by decide +kernel)
      · exact nm0 (by decide +kernel)
    refine ⟨⟨nm0 (by decide +kernel), by omega, nm0 (by decide +kernel), by omega, hb b⟩, ?_, h, by simp only [Wf]; omega⟩
    rcases e with rfl | e
    · exact h
    · exact Fl.wf e (by decide)
  | is => exact ⟨by decide +kernel, by simp only [Wf]; decide, h⟩
  | lete => exact ⟨nx, h, nx, h⟩
theorem Bnd.wf {r : Bool} {t t' : Tm} (b : Bnd r t t') : Wf t → Wf t' := by
  induction b with
  | root o => exact o.wf
  | fn _ ih => exact fun h => ⟨h.1, h.2.1, ih h.2.2⟩
  | call1 _ ih => exact fun h => ⟨ih h.1, h.2⟩
  | call2 _ ih => exact fun h => ⟨h.1, ih h.2⟩
  | let1 _ ih => exact fun h => ⟨h.1, ih h.2.1, h.2.2⟩
  | let2 _ ih => exact fun h => ⟨h.1, h.2.1, ih h.2.2⟩
  | plus1 _ ih => exact fun h => ⟨ih h.1, h.2⟩
  | plus2 _ ih => exact fun h => ⟨h.1, ih h.2⟩
  | times1 _ ih => exact fun h => ⟨ih h.1, h.2⟩
  | times2 _ ih => exact fun h => ⟨h.1, ih h.2⟩
  | minus _ ih => exact ih
  | is1 _ ih => exact fun h => ⟨h.1, ih h.2.1, h.2.2⟩
  | is2 _ ih => exact fun h => ⟨h.1, h.2.1, ih h.2.2⟩
  | pair1 _ ih => exact fun h => ⟨ih h.1, h.2⟩
  | pair2 _ ih => exact fun h => ⟨h.1, ih h.2⟩
  | first _ ih => exact ih
  | second _ ih => exact ih
  | left _ ih => exact fun h => ⟨ih h.1, h.2⟩
  | right _ ih => exact fun h => ⟨h.1, ih h.2⟩
  | case1 _ ih => exact fun h => ⟨ih h.1, h.2⟩
  | case2 _ ih => exact fun h => ⟨h.1, h.2.1, ih h.2.2.1, h.2.2.2⟩
  | case3 _ ih => exact fun h => ⟨h.1, h.2.1, h.2.2.1, h.2.2.2.1, ih h.2.2.2.2⟩
  | cons1 _ ih => exact fun h => ⟨ih h.1, h.2⟩
  | cons2 _ ih => exact fun h => ⟨h.1, ih h.2⟩
  | fold1 _ ih => exact fun h => ⟨ih h.1, h.2⟩
  | fold2 _ ih => exact fun h => ⟨h.1, ih h.2.1, h.2.2⟩
  | fold3 _ ih => exact fun h => ⟨h.1, h.2.1, ih h.2.2⟩
theorem Kept.bent {n : Nat} {Γ : Ctx} {t t' : Tm} {k : Kd} {r : Bool} (h : Kept n Γ t k) (hk : k.dp ≤ 4) (b : Bnd r t t') : Kept (n + 1) Γ t' k := by
  obtain ⟨c, hc, s⟩ := h.s
  obtain ⟨c', h1, h2⟩ := bend s (by omega) (by unfold Fit; omega) b
  refine ⟨⟨c', ?_, (h2 rfl).eq rfl (by omega) rfl⟩, b.wf h.wf, ?_⟩
  · have := Nat.mul_le_mul_left 32 hc
    rw [Nat.pow_succ, Nat.mul_comm]
    omega
  · have := b.dp
    have := h.dp
    omega
theorem Kept.first {Γ : Ctx} {t : Tm} {k : Kd} (g : G 0 Γ t k) (hk : k.dp ≤ 4) (hd : t.dp ≤ 12) : Kept 0 Γ t k := ⟨⟨1, Nat.le_refl _, g.toS rfl (by omega)⟩, g.wf, hd⟩
end Kq
/-! M16: the texts of kinds and of paths. -/
namespace Kq
open PySem PyProof.Rows
theorem tupT1 (x : Str) : (tupleText [x]).length = x.length + 3 := by
  have h := join_length_add [x] (by simp)
  simp only [piled_cons, piled_nil] at h
  unfold tupleText
  rw [strLen_append, strLen_append]
  have e : ((if ([x] : List Str).length == 1 then ",)" else ")" : String) : Str).length = 2 := rfl
  have e2 : ("(" : Str).length = 1 := rfl
  rw [e, e2]
  omega
theorem tupT2 (x y : Str) (l : List Str) : (tupleText (x :: y :: l)).length = piled (x :: y :: l) := by
  have h := join_length_add (x :: y :: l) (by simp)
  unfold tupleText
  rw [strLen_append, strLen_append]
  have e : ((if ((x :: y :: l) : List Str).length == 1 then ",)" else ")" : String) : Str).length = 1 := by
    rw [if_neg (by simp)]
    rfl
  have e2 : ("(" : Str).length = 1 := rfl
  rw [e, e2]
  omega
theorem rl_var : (reprText "var").length = 5 := by decide +kernel
theorem rl_a : (reprText "a").length = 3 := by decide +kernel
theorem rl_b : (reprText "b").length = 3 := by decide +kernel
theorem rl_unit : (reprText "unit").length = 6 := by decide +kernel
theorem rl_num : (reprText "num").length = 5 := by decide +kernel
theorem rl_pair : (reprText "pair").length = 6 := by decide +kernel
theorem rl_either : (reprText "either").length = 8 := by decide +kernel
theorem rl_list : (reprText "list").length = 6 := by decide +kernel
theorem rl_fun : (reprText "fun").length = 5 := by decide +kernel
theorem rl_kind : (reprText "kind").length = 6 := by decide +kernel
theorem rl_wrong : (reprText "wrong").length = 7 := by decide +kernel
theorem shown_kD : ∀ k : Kd, (kD k).shown.length = k.tl
  | .va => by simp only [kD, PyData.shown, PyData.shownAll, tupT2, piled_cons, piled_nil, rl_var, rl_a, Kd.tl]
  | .vb => by simp only [kD, PyData.shown, PyData.shownAll, tupT2, piled_cons, piled_nil, rl_var, rl_b, Kd.tl]
  | .unit => by simp only [kD, PyData.shown, PyData.shownAll, tupT1, rl_unit, Kd.tl]
  | .num => by simp only [kD, PyData.shown, PyData.shownAll, tupT1, rl_num, Kd.tl]
  | .pair a b => by simp only [kD, PyData.shown, PyData.shownAll, tupT2, piled_cons, piled_nil, rl_pair, Kd.tl, shown_kD a, shown_kD b]; omega
  | .either a b => by simp only [kD, PyData.shown, PyData.shownAll, tupT2, piled_cons, piled_nil, rl_either, Kd.tl, shown_kD a, shown_kD b]; omega
  | .list a => by simp only [kD, PyData.shown, PyData.shownAll, tupT2, piled_cons, piled_nil, rl_list, Kd.tl, shown_kD a]; omega
  | .func a b => by simp only [kD, PyData.shown, PyData.shownAll, tupT2, piled_cons, piled_nil, rl_fun, Kd.tl, shown_kD a, shown_kD b]; omega
theorem showable_kD : ∀ k : Kd, (kD k).showable = true
  | .va => rfl | .vb => rfl | .unit => rfl | .num => rfl
  | .pair a b => by simp [kD, PyData.showable, PyData.showableAll, showable_kD a, showable_kD b]
  | .either a b => by simp [kD, PyData.showable, PyData.showableAll, showable_kD a, showable_kD b]
  | .list a => by simp [kD, PyData.showable, PyData.showableAll, showable_kD a]
  | .func a b => by simp [kD, PyData.showable, PyData.showableAll, showable_kD a, showable_kD b]
theorem noDict_kD : ∀ k : Kd, (kD k).hasDict = false
  | .va => rfl | .vb => rfl | .unit => rfl | .num => rfl
  | .pair a b => by simp [kD, PyData.hasDict, PyData.hasDictAll, noDict_kD a, noDict_kD b]
  | .either a b => by simp [kD, PyData.hasDict, PyData.hasDictAll, noDict_kD a, noDict_kD b]
  | .list a => by simp [kD, PyData.hasDict, PyData.hasDictAll, noDict_kD a]
  | .func a b => by simp [kD, PyData.hasDict, PyData.hasDictAll, noDict_kD a, noDict_kD b]
/-- what a comparison of texts asks of the lists -/
structure IsOk (ds : List PyData) : Prop where
  show_ : (PyData.list ds).showable = true
  dict : (PyData.list ds).hasDict = false
  deep : (PyData.list ds).depth ≤ 62
  len : (PyData.list ds).shown.length ≤ sizeLine
theorem IsOk.two {a b : PyData} (sa : a.showable = true) (sb : b.showable = true) (da : a.hasDict = false) (db : b.hasDict = false) (ha : a.depth ≤ 61) (hb : b.depth ≤ 61) (hl : a.shown.length + b.shown.length ≤ 16500000) : IsOk [a, b] := by
  refine ⟨by simp [PyData.showable, PyData.showableAll, sa, sb], by simp [PyData.hasDict, PyData.hasDictAll, da, db], ?_, ?_⟩
  · simp only [PyData.depth, PyData.depthAll]; omega
  · have h := listText_len_le [a.shown, b.shown]
    simp only [PyData.shown, PyData.shownAll]
    rw [sizeLine_eq]
    simp at h
    omega
theorem IsOk.kinds {k : Kd} (h : k.dp ≤ 60) (hl : k.tl ≤ 8000000) : IsOk [kD k, kD k] := by
  have := kD_depth k
  exact .two (showable_kD k) (showable_kD k) (noDict_kD k) (noDict_kD k) (by omega) (by omega) (by rw [shown_kD]; omega)
theorem IsOk.kind {k : Kd} (h : k.dp ≤ 60) (hl : k.tl ≤ 16000000) : IsOk [.str "kind", kD k] := by
  have := kD_depth k
  exact .two rfl (showable_kD k) rfl (noDict_kD k) (by simp [PyData.depth]) (by omega) (by rw [shown_kD]; show (reprText "kind").length + _ ≤ _; rw [rl_kind]; omega)
/-! ### paths -/
def Good (d : Nat) (p : List Nat) : Prop := p.length ≤ d ∧ ∀ n ∈ p, n ≤ 5
theorem Good.cons {d n : Nat} {p : List Nat} (h : Good d p) (hn : n ≤ 5) : Good (1 + d) (n :: p) := ⟨by rw [List.length_cons]; have := h.1; omega, fun m hm => by
  rcases List.mem_cons.mp hm with rfl | hm
  · exact hn
  · exact h.2 m hm⟩
theorem Good.mono {d e : Nat} {p : List Nat} (h : Good d p) (g : d ≤ e) : Good e p := ⟨Nat.le_trans h.1 g, h.2⟩
theorem Good.one {d n : Nat} (hn : n ≤ 5) : Good (1 + d) [n] := ⟨by simp, fun m hm => by rw [List.mem_singleton.mp hm]; exact hn⟩
theorem at1_bad {n : Nat} {r : Res} {f : Kd → Res} {q : List Nat} (h : at1 n r f = .error q) : (∃ p, r = .error p ∧ q = n :: p) ∨ ∃ k, r = .ok k ∧ f k = .error q := by
  cases r with
  | ok k => exact .inr ⟨k, rfl, h⟩
  | error p => cases h; exact .inl ⟨p, rfl, rfl⟩
theorem fin_bad {r : Except Nat Kd} {q : List Nat} (h : fin r = .error q) : ∃ n, r = .error n ∧ q = [n] := by
  cases r with
  | ok k => cases h
  | error n => cases h; exact ⟨n, rfl, rfl⟩
theorem numK_err {f n : Nat} {a b r : Kd} (h : numK f a b r = .error n) : n ≤ f + 1 := by
  unfold numK at h
  split at h
  · cases h; omega
  · split at h
    · cases h; omega
    · cases h
theorem callK_err {a b : Kd} {n : Nat} (h : callK a b = .error n) : n ≤ 2 := by
  unfold callK at h
  split at h
  · split at h
    · cases h
    · cases h; omega
  · cases h; omega
theorem firstK_err {a : Kd} {n : Nat} (h : firstK a = .error n) : n ≤ 2 := by unfold firstK at h; split at h <;> cases h; omega
theorem secondK_err {a : Kd} {n : Nat} (h : secondK a = .error n) : n ≤ 2 := by unfold secondK at h; split at h <;> cases h; omega
theorem minusK_err {a : Kd} {n : Nat} (h : minusK a = .error n) : n ≤ 2 := by unfold minusK at h; split at h <;> cases h; omega
theorem consK_err {a b : Kd} {n : Nat} (h : consK a b = .error n) : n ≤ 2 := by unfold consK at h; split at h <;> cases h; omega
theorem foldK_err {a b c : Kd} {n : Nat} (h : foldK a b c = .error n) : n ≤ 3 := by
  unfold foldK at h
  split at h
  · split at h
    · cases h; omega
    · split at h
      · cases h; omega
      · split at h
        · cases h; omega
        · cases h
  · cases h; omega
theorem path_good : ∀ (t : Tm) (Γ : Ctx) (q : List Nat), walk Γ t = .error q → Good t.dp q := by
  intro t
  have two : ∀ {t u : Tm} {i j : Nat} {Γ : Ctx} {g : Kd → Kd → Except Nat Kd} {q : List Nat}, (∀ Γ q, walk Γ t = .error q → Good t.dp q) → (∀ Γ q, walk Γ u = .error q → Good u.dp q) → i ≤ 5 → j ≤ 5 → (∀ a b n, g a b = .error n → n ≤ 5) → at1 i (walk Γ t) (fun a => at1 j (walk Γ u) fun b => fin (g a b)) = .error q → Good (1 + max t.dp u.dp) q := by
    intro t u i j Γ g q h1 h2 hi hj hg e
    rcases at1_bad e with ⟨p, ep, rfl⟩ | ⟨a, _, e⟩
    · exact ((h1 _ _ ep).mono (Nat.le_max_left _ _)).cons hi
    · rcases at1_bad e with ⟨p, ep, rfl⟩ | ⟨b, _, e⟩
      · exact ((h2 _ _ ep).mono (Nat.le_max_right _ _)).cons hj
      · obtain ⟨n, ep, rfl⟩ := fin_bad e
        exact .one (hg _ _ _ ep)
  have one : ∀ {t : Tm} {i : Nat} {Γ : Ctx} {g : Kd → Except Nat Kd} {q : List Nat}, (∀ Γ q, walk Γ t = .error q → Good t.dp q) → i ≤ 5 → (∀ a n, g a = .error n → n ≤ 5) → at1 i (walk Γ t) (fun a => fin (g a)) = .error q → Good (1 + t.dp) q := by
    intro t i Γ g q h1 hi hg e
    rcases at1_bad e with ⟨p, ep, rfl⟩ | ⟨a, _, e⟩
    · exact (h1 _ _ ep).cons hi
    · obtain ⟨n, ep, rfl⟩ := fin_bad e
      exact .one (hg _ _ ep)
  induction t with
  | name x =>
    intro Γ q e
    simp only [walk] at e
    split at e
    · cases e
    · cases e; exact ⟨by simp, by simp⟩
  | fn x k b ih =>
    intro Γ q e
    rcases at1_bad e with ⟨p, ep, rfl⟩ | ⟨a, _, e⟩
    · exact (ih _ _ ep).cons (by omega)
    · cases e
  | lete x a b i1 i2 =>
    intro Γ q e
    rcases at1_bad e with ⟨p, ep, rfl⟩ | ⟨k, _, e⟩
    · exact ((i1 _ _ ep).mono (Nat.le_max_left _ _)).cons (by omega)
    · rcases at1_bad e with ⟨p, ep, rfl⟩ | ⟨k, _, e⟩
      · exact ((i2 _ _ ep).mono (Nat.le_max_right _ _)).cons (by omega)
      · cases e
  | unit => intro Γ q e; cases e
  | number i => intro Γ q e; cases e
  | nil k => intro Γ q e; cases e
  | call a b i1 i2 => intro Γ q e; exact two i1 i2 (by omega) (by omega) (fun a b n h => by have := callK_err h; omega) e
  | plus a b i1 i2 => intro Γ q e; exact two (g := fun a b => numK 1 a b .num) i1 i2 (by omega) (by omega) (fun a b n h => by have := numK_err h; omega) e
  | times a b i1 i2 => intro Γ q e; exact two (g := fun a b => numK 1 a b .num) i1 i2 (by omega) (by omega) (fun a b n h => by have := numK_err h; omega) e
  | is s a b i1 i2 => intro Γ q e; exact two (g := fun a b => numK 2 a b truthK) i1 i2 (by omega) (by omega) (fun a b n h => by have := numK_err h; omega) e
  | cons a b i1 i2 => intro Γ q e; exact two i1 i2 (by omega) (by omega) (fun a b n h => by have := consK_err h; omega) e
  | pair a b i1 i2 => intro Γ q e; exact two (g := fun a b => .ok (.pair a b)) i1 i2 (by omega) (by omega) (fun a b n h => by cases h) e
  | minus a ih => intro Γ q e; exact one ih (by omega) (fun a n h => by have := minusK_err h; omega) e
  | first a ih => intro Γ q e; exact one ih (by omega) (fun a n h => by have := firstK_err h; omega) e
  | second a ih => intro Γ q e; exact one ih (by omega) (fun a n h => by have := secondK_err h; omega) e
  | left a k ih => intro Γ q e; exact one (g := fun a => .ok (.either a k)) ih (by omega) (fun a n h => by cases h) e
  | right k a ih => intro Γ q e; exact one (g := fun a => .ok (.either k a)) ih (by omega) (fun a n h => by cases h) e
  | case sc x a y b i0 i1 i2 =>
    intro Γ q e
    rcases at1_bad e with ⟨p, ep, rfl⟩ | ⟨k, _, e⟩
    · exact ((i0 _ _ ep).mono (Nat.le_max_left _ _)).cons (by omega)
    · cases k with
      | either l r =>
        rcases at1_bad e with ⟨p, ep, rfl⟩ | ⟨k1, _, e⟩
        · exact ((i1 _ _ ep).mono (by omega)).cons (by omega)
        · rcases at1_bad e with ⟨p, ep, rfl⟩ | ⟨k2, _, e⟩
          · exact ((i2 _ _ ep).mono (by omega)).cons (by omega)
          · have e : (if k1 = k2 then Except.ok k1 else Except.error [5]) = Except.error q := e
            split at e
            · cases e
            · cases e; exact .one (by omega)
      | _ => cases e; exact .one (by omega)
  | fold a b c i0 i1 i2 =>
    intro Γ q e
    rcases at1_bad e with ⟨p, ep, rfl⟩ | ⟨k, _, e⟩
    · exact ((i0 _ _ ep).mono (Nat.le_max_left _ _)).cons (by omega)
    · rcases at1_bad e with ⟨p, ep, rfl⟩ | ⟨k1, _, e⟩
      · exact ((i1 _ _ ep).mono (by omega)).cons (by omega)
      · rcases at1_bad e with ⟨p, ep, rfl⟩ | ⟨k2, _, e⟩
        · exact ((i2 _ _ ep).mono (by omega)).cons (by omega)
        · obtain ⟨n, ep, rfl⟩ := fin_bad e
          exact .one (by have := foldK_err ep; omega)
theorem small_int : ∀ n : Nat, n ≤ 5 → (PyData.int (n : Int)).shown.length ≤ 1 ∧ (PyData.int (n : Int)).showable = true
  | 0, _ => by decide +kernel
  | 1, _ => by decide +kernel
  | 2, _ => by decide +kernel
  | 3, _ => by decide +kernel
  | 4, _ => by decide +kernel
  | 5, _ => by decide +kernel
  | n + 6, h => by omega
theorem good_all : ∀ {p : List Nat}, (∀ n ∈ p, n ≤ 5) → PyData.showableAll (ptL p) = true ∧ PyData.hasDictAll (ptL p) = false ∧ ((PyData.shownAll (ptL p)).map (·.length)).sum ≤ p.length ∧ (PyData.shownAll (ptL p)).length = p.length
  | [], _ => ⟨rfl, rfl, Nat.le_refl _, rfl⟩
  | n :: p, h => by
    obtain ⟨h1, h2, h3, h4⟩ := good_all (p := p) fun m hm => h m (List.mem_cons_of_mem _ hm)
    obtain ⟨h5, h6⟩ := small_int n (h n List.mem_cons_self)
    have e : ptL (n :: p) = .int (n : Int) :: ptL p := rfl
    rw [e]
    refine ⟨by simp only [PyData.showableAll, h6, h1]; rfl, by simp only [PyData.hasDictAll, PyData.hasDict, h2]; rfl, ?_, ?_⟩
    · simp only [PyData.shownAll, List.map_cons, List.sum_cons, List.length_cons]; omega
    · simp only [PyData.shownAll, List.length_cons, h4]
theorem IsOk.wrong {p : List Nat} {d : Nat} (h : Good d p) (hd : d ≤ 1000) : IsOk [.str "wrong", ptD p] := by
  obtain ⟨h1, h2, h3, h4⟩ := good_all h.2
  have hp := path_dep p
  have hl := tupleText_len_le (PyData.shownAll (ptL p))
  have h0 := h.1
  refine .two rfl (by show PyData.showableAll (ptL p) = true; exact h1) rfl (by show PyData.hasDictAll (ptL p) = false; exact h2) (by simp [PyData.depth]) (by omega) ?_
  show (reprText "wrong").length + (tupleText (PyData.shownAll (ptL p))).length ≤ _
  rw [rl_wrong]
  omega
end Kq
namespace Kq
open PySem PySem.Spec PyProof.Rows L2
local macro_rules | `(tactic| wtm_at "q.slot") => `(tactic| ((repeat (with_reducible refine slot_ne rfl ?_)); first | (with_reducible refine slot_eq ?_) | refine slot_base rfl ?_))
local macro_rules | `(tactic| wtm_at "q.bt") => `(tactic| exact (by decide +kernel))
local macro_rules | `(tactic| wtm_at "q.sh") => `(tactic| first | assumption | exact kD_shaped (by omega) | decide +kernel)
local macro_rules | `(tactic| wtm_at "q.call") => `(tactic| first
  | ((with_reducible refine ec_is "len" ?_); refine ed_bi (id := "len") (Bi.len_ (by assumption)) bt_len ?_)
  | ((with_reducible refine ec_is "max" ?_); refine ed_bi (id := "max") (Bi.max_ (by assumption)) bt_max ?_)
  | ((with_reducible refine ec_is "min" ?_); refine ed_bi (id := "min") (Bi.min_ (by assumption)) bt_min ?_)
  | ((with_reducible refine ec_is "sum" ?_); refine ed_bi (id := "sum") (Bi.sum_ (by assumption)) bt_sum ?_)
  | ((with_reducible refine ec_is "all" ?_); refine ed_bi (id := "all") (Bi.all_ (by assumption)) bt_all ?_)
  | ((with_reducible refine ec_is "abs" ?_); refine ed_bi (id := "abs") (Bi.abs_ (by assumption)) bt_abs ?_)
  | ((with_reducible refine ec_is "divmod" ?_); refine ed_bi (id := "divmod") (Bi.divmod_ (by assumption)) bt_divmod ?_)
  | ((with_reducible refine ec_is "repr" ?_); refine ed_bi (id := "repr") (Bi.repr_ (by assumption)) bt_repr ?_)
  | ((with_reducible refine ec_is "int" ?_); refine ed_ty (T := "int") (Bi.int_ (by assumption)) bt_int ?_)
  | ((with_reducible refine ec_is "str" ?_); refine ed_ty (T := "str") (Bi.str_ (by assumption)) bt_str ?_)
  | ((with_reducible refine ec_is "bool" ?_); refine ed_ty (T := "bool") (Bi.bool_ (by assumption)) bt_bool ?_)
  | ((with_reducible refine ec_is "dict" ?_); refine ed_ty (T := "dict") (Bi.dict_ (by assumption)) bt_dict ?_)
  | ((with_reducible refine ec_is "tuple" ?_); refine ed_ty (T := "tuple") (Bi.tuple_ (by assumption)) bt_tuple ?_)
  | ((with_reducible refine ec_is "list" ?_); refine ed_ty (T := "list") (Bi.list_ (by assumption)) bt_list ?_)
  | ((with_reducible refine ec_is "isinstance" ?_); refine ed_isi rfl (Bi.isinstance_ (by assumption)) rfl (by first | exact Bi.int_ (by assumption) | exact Bi.str_ (by assumption) | exact Bi.bool_ (by assumption) | exact Bi.tuple_ (by assumption) | exact Bi.list_ (by assumption)) (by first | exact bt_int | exact bt_str | exact bt_bool | exact bt_tuple | exact bt_list) ?_))
local macro_rules | `(tactic| wtm_at "q.so") => `(tactic| first | decide +kernel | exact word_ok _ | exact tword_ok _ | assumption)
local macro_rules | `(tactic| wtm_at "q.dp") => `(tactic| first | omega | (simp only [Kd.dp, truthK]; omega))
local macro_rules | `(tactic| wtm_at "q.od") => `(tactic| first
  | ((with_reducible refine od_isC .Eq ?_); first | refine od_eqI (by assumption) ?_ | refine od_eqS (by assumption) (by wtm_at "q.so") (by wtm_at "q.so") ?_ | refine od_eqK (by assumption) (by wtm_at "q.dp") (by wtm_at "q.dp") ?_ | refine od_eqK (b := .num) (by assumption) (by wtm_at "q.dp") (by decide) ?_ | refine od_eqK (b := .list _) (by assumption) (by wtm_at "q.dp") (by wtm_at "q.dp") ?_)
  | ((with_reducible refine od_isC .NotEq ?_); first | refine od_neS (by assumption) (by wtm_at "q.so") (by wtm_at "q.so") ?_ | refine od_neL (by assumption) (shaped_l (kk63 (by assumption))) ?_ | refine od_neK (by assumption) (by wtm_at "q.dp") (by wtm_at "q.dp") ?_ | refine od_neK (b := .num) (by assumption) (by wtm_at "q.dp") (by decide) ?_ | refine od_neK (b := .list _) (by assumption) (by wtm_at "q.dp") (by wtm_at "q.dp") ?_)
  | ((with_reducible refine od_isC .In ?_); refine od_inT (ru65 (by assumption)) (shaped_s (by wtm_at "q.so")) (by decide +kernel) ?_)
  | ((with_reducible refine od_isB .Add ?_); first | refine od_add ?_ | refine od_catL (sz_n (Nat.le_of_ble_eq_true rfl)) ?_ | refine od_catT (sz_n (Nat.le_of_ble_eq_true rfl)) ?_)
  | ((with_reducible refine od_isB .Sub ?_); refine od_sub ?_)
  | ((with_reducible refine od_isC .Lt ?_); refine od_lt ?_) | ((with_reducible refine od_isC .LtE ?_); refine od_le ?_)
  | ((with_reducible refine od_isC .Gt ?_); refine od_gt ?_) | ((with_reducible refine od_isC .GtE ?_); refine od_ge ?_)
  | ((with_reducible refine od_isC .Is ?_); first | refine od_isN0 ?_ | refine od_isNt ?_ | refine od_isNk ?_ | refine od_isN ?_) | ((with_reducible refine od_isC .IsNot ?_); first | refine od_notN0 ?_ | refine od_notNt ?_ | refine od_notNk ?_ | refine od_notN ?_))
local macro_rules | `(tactic| wtm_at "q.dd") => `(tactic| first | (with_reducible refine br_tt ?_) | (with_reducible refine br_ff ?_) | (with_reducible refine br_nt ?_) | (with_reducible refine br_nf ?_) | ((with_reducible refine br_isE ?_); first | refine br_cons ?_ | refine br_nil ?_) | refine br_t (by decide +kernel) ?_ | refine br_f (by decide +kernel) ?_)
local macro_rules | `(tactic| wtm_at "q.run") => `(tactic| repeat (first | (refine ite_is0 ?_; wtm_at "q.dd") | wtm_at "q.go1"))
local macro_rules | `(tactic| wtm_at "q.ret1") => `(tactic| refine ⟨_, rfl, ?_⟩)
local macro_rules | `(tactic| wtm_at "q.sz") => `(tactic| refine ⟨_, rfl, sz_ok (Nat.le_of_ble_eq_true rfl), ?_⟩)
local macro_rules | `(tactic| wtm_at "q.e") => `(tactic| first
  | (refine ed_isName ?_; wtm_at "q.nm")
  | refine ed_str ?_ | refine ed_int ?_ | refine ed_ix ?_ | (refine ed_isCall ?_; wtm_at "q.call")
  | refine ed_tup ?_ | refine ed_lst ?_ | refine ed_bin ?_ | refine ed_if ?_ | refine ed_and ?_ | refine ed_or ?_ | refine ed_one ?_ | refine ed_notV ?_ | refine ed_neg ?_ | refine ed_bl ?_ | refine ed_non ?_ | refine ed_cmp ?_ rfl)
local macro_rules | `(tactic| wtm_at "q.go1") => `(tactic| first
  | (refine ed_is0 ?_; wtm_at "q.e")
  | (refine od_is0 ?_; wtm_at "q.od")
  | (refine id_is0 ?_; first | refine id_tup rfl ?_ | refine id_lst rfl ?_ | refine id_k0 ?_ | refine id_t0 ?_)
  | (refine ad_is0 ?_; first | refine ad_c ?_ | refine ad_nil ?_)
  | (refine td_is0 ?_; first | refine td_cmp ?_ rfl | refine td_w ?_ | refine td_not ?_ | refine td_isCall ?_ | refine td_isSub ?_ | refine td_isName ?_)
  | (refine sds_is0 ?_; first | refine sds_cons ?_ | refine sds_nil ?_)
  | (refine sd_is0 ?_; first | refine sd_if ?_ | refine sd_ret ?_ | wtm_at "q.set" | refine sd_asgT ?_)
  | (refine wd_is0 ?_; first | refine wd_and ?_ | refine wd_or ?_ | refine wd_and1 ?_ | refine wd_or1 ?_)
  | (refine cd_is0 ?_; first | refine cd_lenL ?_ | refine cd_lenT ?_ | refine cd_int ?_ | refine cd_tupleL ?_)
  | (refine gds_is0 ?_; first | refine gds_nil ?_ | (refine gds_cons ?_; wtm_at "q.gnm"))
  | (refine gd_is0 ?_; refine gd_tup ?_ rfl)
  | (refine fd_is0 ?_; first | refine fd_nil ?_ | refine fd_one ?_)
  | wtm_at "q.sz" | wtm_at "q.ret1")
local macro_rules | `(tactic| wtm_at "q.go") => `(tactic| repeat wtm_at "q.go1")
local macro_rules | `(tactic| wtm_at "q.br") => `(tactic| first
  | refine br_dec (fun h => ?_) (fun h => ?_) | refine br_nd (fun h => ?_) (fun h => ?_) | refine br_b (fun h => ?_) (fun h => ?_))
local macro_rules | `(tactic| wtm_at "q.no") => `(tactic| exact absurd (by assumption) (by decide +kernel))
section
/-! W1: the urn; _law_truth, _law_deep, _law_shape. -/
section
variable {P : Program} {w : World} {K : PySem.W.Frag} {mg : Str → Option Value} {base : Heap} {k : Nat}
section
local macro_rules | `(tactic| wtm_at "q.nm") => `(tactic| first
  | ((with_reducible refine ed_is "_law_urn_here" ?_); refine ed_vi 0 ?_; wtm_at "q.slot")
  | ((with_reducible refine ed_is "_law_top" ?_); refine ed_vi 1 ?_; wtm_at "q.slot")
  | ((with_reducible refine ed_is "_law_digit" ?_); refine ed_vi 2 ?_; wtm_at "q.slot")
  | ((with_reducible refine ed_is "_law_seed" ?_); refine ed_vi 3 ?_; wtm_at "q.slot")
  | fail)
local macro_rules | `(tactic| wtm_at "q.set") => `(tactic| first
  | ((with_reducible refine sd_is "_law_urn_here" ?_); refine sd_v 0 (by assumption) ?_)
  | ((with_reducible refine sd_is "_law_top" ?_); refine sd_v 1 (by assumption) ?_)
  | ((with_reducible refine sd_is "_law_digit" ?_); refine sd_v 2 (by assumption) ?_)
  | ((with_reducible refine sd_is "_law_seed" ?_); refine sd_v 3 (by assumption) ?_)
  | fail)
local macro_rules | `(tactic| wtm_at "q.gnm") => `(tactic| first
  | ((with_reducible refine gd_is "_law_urn_here" ?_); refine gd_v 0 (by assumption) ?_)
  | ((with_reducible refine gd_is "_law_top" ?_); refine gd_v 1 (by assumption) ?_)
  | ((with_reducible refine gd_is "_law_digit" ?_); refine gd_v 2 (by assumption) ?_)
  | ((with_reducible refine gd_is "_law_seed" ?_); refine gd_v 3 (by assumption) ?_)
  | fail)
theorem pull_ok (D : Hd K mg "_law_pull" s_law_pull p_law_pull []) (B : Bi mg) : Fc P w K mg base (k + 1) "_law_pull" [] F_pull := by
  refine D.go sc_law_pull (fun W s xs Q h => ?_) (fun f cdv A outer s0 H0 E hr W s xs Q h => ?_)
  · obtain ⟨a, n, rfl, _⟩ := h
    rfl
  obtain ⟨a, n, rfl, C, h0, h1, q⟩ := h
  have nd := sc_law_pull.nd
  wtm_at "q.go"
  refine id_cap0 C fun b hb => ?_
  wtm_at "q.go"
  wtm_at "q.br"
  · wtm_at "q.go"
    refine id_cap0 C fun b2 hb2 => ?_
    wtm_at "q.go"
    refine cd_divmod ⟨h0, by omega⟩ ?_
    refine gd_tup ?_ rfl
    refine gds_cons ?_
    refine gd_sub ?_
    wtm_at "q.go"
    refine set_cap C (fun b3 sd3 c3 h3 => ⟨b2 / n, sd3, c3, ⟨Int.ediv_nonneg hb2 (by omega), h3.2⟩, 0, rfl, rfl⟩) ?_
    wtm_at "q.go"
    exact q _ (Int.emod_nonneg _ (by omega)) (Int.emod_lt_of_pos _ h0)
  · wtm_at "q.go"
    refine sd_asg ?_
    wtm_at "q.go"
    refine id_cap2 C fun c => ?_
    wtm_at "q.go"
    refine gd_sub ?_
    wtm_at "q.go"
    refine set_cap C (fun b3 sd3 c3 h3 => ⟨b3, sd3, c + 1, h3, 2, rfl, rfl⟩) ?_
    wtm_at "q.go"
    refine id_cap1 C fun sd hs1 hs2 => ?_
    wtm_at "q.go"
    refine od_mul (.inr ⟨by decide, by decide⟩) ?_
    wtm_at "q.go"
    refine id_cap2 C fun c2 => ?_
    wtm_at "q.go"
    refine od_mul (.inr ⟨by decide, by decide⟩) ?_
    wtm_at "q.go"
    refine od_mod (by decide) ?_
    have e1 : 0 ≤ (sd * 39373 + c2 * 50021 + 11) % 2147483563 := Int.emod_nonneg _ (by decide)
    have e2 : (sd * 39373 + c2 * 50021 + 11) % 2147483563 < 2147483563 := Int.emod_lt_of_pos _ (by decide)
    generalize (sd * 39373 + c2 * 50021 + 11) % 2147483563 = sd' at e1 e2
    wtm_at "q.go"
    refine sd_asg ?_
    wtm_at "q.go"
    refine gd_sub ?_
    wtm_at "q.go"
    refine set_cap C (fun b3 sd3 c3 h3 => ⟨b3, sd', c3, ⟨h3.1, e1, e2⟩, 1, rfl, rfl⟩) ?_
    wtm_at "q.go"
    refine od_mod (by decide) ?_
    wtm_at "q.go"
    refine od_mul (.inl ⟨by omega, by omega⟩) ?_
    wtm_at "q.go"
    refine od_mod (by decide) ?_
    wtm_at "q.go"
    refine od_fdiv ⟨by decide, by decide⟩ ?_
    wtm_at "q.go"
    refine od_mod h0 ?_
    exact q _ (Int.emod_nonneg _ (by omega)) (Int.emod_lt_of_pos _ h0)
end
section
local macro_rules | `(tactic| wtm_at "q.nm") => `(tactic| first
  | ((with_reducible refine ed_is "_law_urn_here" ?_); refine ed_vi 0 ?_; wtm_at "q.slot")
  | ((with_reducible refine ed_is "_law_some" ?_); refine ed_vi 1 ?_; wtm_at "q.slot")
  | fail)
local macro_rules | `(tactic| wtm_at "q.set") => `(tactic| first
  | ((with_reducible refine sd_is "_law_urn_here" ?_); refine sd_v 0 (by assumption) ?_)
  | ((with_reducible refine sd_is "_law_some" ?_); refine sd_v 1 (by assumption) ?_)
  | fail)
local macro_rules | `(tactic| wtm_at "q.gnm") => `(tactic| first
  | ((with_reducible refine gd_is "_law_urn_here" ?_); refine gd_v 0 (by assumption) ?_)
  | ((with_reducible refine gd_is "_law_some" ?_); refine gd_v 1 (by assumption) ?_)
  | fail)
theorem one_ok (D : Hd K mg "_law_one" s_law_one p_law_one []) (B : Bi mg) (C1 : Fc P w K mg base k "_law_pull" [] F_pull) : Fc P w K mg base (k + 1) "_law_one" [] F_one := by
  refine D.go sc_law_one (fun W s xs Q h => ?_) (fun f cdv A outer s0 H0 E hr W s xs Q h => ?_)
  · obtain ⟨a, ds, rfl | rfl, _⟩ := h <;> rfl
  obtain ⟨a, ds, hx, hc, h0, hl, q⟩ := h
  have hl1 : ds.length ≠ 0 := fun z => h0 (List.length_eq_zero_iff.mp z)
  have fin : ∀ (k : Int), 0 ≤ k → k < (ds.length : Int) → ∃ d, atI ds k = some d ∧ d ∈ ds := by
    intro k h1 h2
    have hk : k.toNat < ds.length := by omega
    refine ⟨ds[k.toNat], ?_, List.getElem_mem hk⟩
    have e : k = ((k.toNat : Nat) : Int) := by omega
    generalize hn : k.toNat = n at e hk
    subst e
    exact atI_nat (List.getElem?_eq_getElem hk)
  rcases hx with rfl | rfl
  · wtm_at "q.go"
    refine ed_fn C1 hr ?_
    wtm_at "q.go"
    refine ⟨a, _, rfl, hc, by omega, by omega, fun k h1 h2 => ?_⟩
    obtain ⟨d, h3, h4⟩ := fin k h1 h2
    exact id_lst h3 (q d h4)
  · wtm_at "q.go"
    refine ed_fn C1 hr ?_
    wtm_at "q.go"
    refine ⟨a, _, rfl, hc, by omega, by omega, fun k h1 h2 => ?_⟩
    obtain ⟨d, h3, h4⟩ := fin k h1 h2
    exact id_tup h3 (q d h4)
end
def F_truth : FT := fun W s xs Q => xs = [] ∧ Q s (.d (kD truthK))
section
local macro_rules | `(tactic| wtm_at "q.nm") => `(tactic| first

  | fail)
local macro_rules | `(tactic| wtm_at "q.set") => `(tactic| first

  | fail)
local macro_rules | `(tactic| wtm_at "q.gnm") => `(tactic| first

  | fail)
theorem truth_ok (D : Hd K mg "_law_truth" s_law_truth p_law_truth []) : Fc P w K mg base (k + 1) "_law_truth" [] F_truth := by
  refine D.go sc_law_truth (fun W s xs Q h => ?_) (fun f cdv A outer s0 H0 E hr W s xs Q h => ?_)
  · obtain ⟨rfl, _⟩ := h
    rfl
  obtain ⟨rfl, q⟩ := h
  wtm_at "q.go"
  exact q
end
def F_deep (n : Nat) : FT := fun W s xs Q => ∃ k : Kd, xs = [.d (kD k)] ∧ k.dp ≤ n ∧ Q s (.d (.int k.dp))
end
end
section
/-! W2: _law_deep, _law_shape, _law_seen. -/
section
variable {P : Program} {w : World} {K : PySem.W.Frag} {mg : Str → Option Value} {base : Heap} {k : Nat}
theorem imax (a b : Nat) : (if (b : Int) > a then (b : Int) else a) = ((max a b : Nat) : Int) := by
  by_cases h : (b : Int) > a
  · rw [if_pos h]; congr 1; omega
  · rw [if_neg h]; congr 1; omega
theorem cd_maxI {X : Cx} {W : Wd} {s : W.St} {Q : W.St → Sv → Prop} {ds : List PyData} (ns : List Int) (e : ds = ns.map .int) (h0 : 0 < ns.length) (m : Int) (hm : m ∈ ns) (hy : ∀ y ∈ ns, y ≤ m) (q : Q s (.d (.int m))) (hc : X.calm = true := by rfl) : CD X W (.builtin "max") [.d (.list ds)] s Q := by
  subst e
  refine cd_max h0 (fun m' h1 h2 => ?_) hc
  have := hy m' h1
  have := h2 m hm
  have e : m' = m := by omega
  subst e
  exact q
def Kd.isVar : Kd → Bool
  | .va => true | .vb => true | _ => false
theorem wvar (k : Kd) : decide (k.word = "var") = k.isVar := by cases k <;> kernel_rfl
section
local macro_rules | `(tactic| wtm_at "q.nm") => `(tactic| first
  | ((with_reducible refine ed_is "_law_kind" ?_); refine ed_vi 0 ?_; wtm_at "q.slot")
  | ((with_reducible refine ed_is "_law_each" ?_); refine ed_vi 1 ?_; wtm_at "q.slot")
  | fail)
local macro_rules | `(tactic| wtm_at "q.set") => `(tactic| first
  | ((with_reducible refine sd_is "_law_kind" ?_); refine sd_v 0 (by assumption) ?_)
  | ((with_reducible refine sd_is "_law_each" ?_); refine sd_v 1 (by assumption) ?_)
  | fail)
local macro_rules | `(tactic| wtm_at "q.gnm") => `(tactic| first
  | ((with_reducible refine gd_is "_law_kind" ?_); refine gd_v 0 (by assumption) ?_)
  | ((with_reducible refine gd_is "_law_each" ?_); refine gd_v 1 (by assumption) ?_)
  | fail)
theorem deep_ok (D : Hd K mg "_law_deep" s_law_deep p_law_deep []) (B : Bi mg) : ∀ n, Fc P w K mg base (n + 1) "_law_deep" [] (F_deep n)
  | 0 => D.go sc_law_deep (fun W s xs Q h => by obtain ⟨k, rfl, _⟩ := h; rfl) (fun f cdv A outer s0 H0 E hr W s xs Q h => by
    obtain ⟨k, rfl, hk, q⟩ := h
    have := k.dp_pos
    omega)
  | n + 1 => by
    have C1 := deep_ok D B n
    refine D.go sc_law_deep (fun W s xs Q h => ?_) (fun f cdv A outer s0 H0 E hr W s xs Q h => ?_)
    · obtain ⟨k, rfl, _⟩ := h
      rfl
    obtain ⟨k, rfl, hk, q⟩ := h
    have nd := sc_law_deep.nd
    wtm_at "q.go"
    refine ed_cl1 1 nd ?_
    refine jd_tup ?_
    refine ed_restK (k := k) ?_
    wtm_at "q.nm"
    refine ⟨rfl, pd_some ?_⟩
    wtm_at "q.go"
    refine ⟨rfl, _, rfl, sz_ok (by cases k <;> exact Nat.le_of_ble_eq_true rfl), ?_⟩
    refine cl1_map (fun d => if k.isVar = true then [] else [.int d.depth]) _ _ _ (fun d hd acc Nx hN p => ?_) ?_
    · wtm_at "q.go"
      rw [wvar]
      by_cases hw : k.isVar = true
      · rw [if_pos hw, List.append_nil] at hN
        rw [if_neg (by simp [hw])]
        exact hN
      · rw [if_neg hw] at hN
        rw [if_pos (by simp [hw])]
        intro p'
        obtain ⟨a, rfl, ha⟩ : ∃ a : Kd, d = kD a ∧ a.dp < k.dp := by
          cases k <;> simp [Kd.rest, Kd.isVar] at hd hw
          · rcases hd with rfl | rfl
            · exact ⟨_, rfl, by simp only [Kd.dp]; omega⟩
            · exact ⟨_, rfl, by simp only [Kd.dp]; omega⟩
          · rcases hd with rfl | rfl
            · exact ⟨_, rfl, by simp only [Kd.dp]; omega⟩
            · exact ⟨_, rfl, by simp only [Kd.dp]; omega⟩
          · subst hd
            exact ⟨_, rfl, by simp only [Kd.dp]; omega⟩
          · rcases hd with rfl | rfl
            · exact ⟨_, rfl, by simp only [Kd.dp]; omega⟩
            · exact ⟨_, rfl, by simp only [Kd.dp]; omega⟩
        refine ed_fn C1 hr ?_
        wtm_at "q.go"
        refine ⟨by omega, ?_⟩
        rw [kD_depth] at hN
        exact ⟨_, rfl, rfl, hN⟩
    rw [List.nil_append]
    refine od_catL (by
      have : (k.rest.flatMap fun d => if k.isVar = true then [] else [PyData.int d.depth]).length ≤ 2 := by cases k <;> simp [Kd.rest, Kd.isVar]
      rw [sizeLine_eq]
      show 1 + _ ≤ _
      omega) ?_
    wtm_at "q.go"
    refine cd_maxI (0 :: (if k.isVar = true then [] else k.rest.map fun d => (d.depth : Int))) ?_ (by simp) (k.dp - 1) ?_ ?_ ?_
    · by_cases hw : k.isVar = true
      · simp [hw]
      · simp only [if_neg hw, List.map_cons, List.map_map]
        refine congrArg _ ?_
        induction k.rest with
        | nil => rfl
        | cons x xs ih => simp [ih]
    · cases k <;> simp [Kd.isVar, Kd.rest, Kd.dp, kD_depth] <;> omega
    · intro y hy
      cases k <;> simp [Kd.isVar, Kd.rest, Kd.dp, kD_depth] at hy ⊢ <;> omega
    · wtm_at "q.go"
      have e : (1 : Int) + ((k.dp : Int) - 1) = k.dp := by omega
      rw [e]
      exact q
end
end
end
section
/-! W3: _law_shape, _law_seen. -/
section
variable {P : Program} {w : World} {K : PySem.W.Frag} {mg : Str → Option Value} {base : Heap} {k : Nat}
def F_shape : FT := fun W s xs Q => ∃ t : Tm, xs = [.d (.str t.word)] ∧ Q s (.d (.str t.shape))
def shapesL : List (Str × Str) := [("name", "x"), ("fn", "xkt"), ("call", "tt"), ("let", "xtt"), ("unit", ""), ("number", "n"), ("plus", "tt"), ("times", "tt"), ("minus", "t"), ("is", "stt"), ("pair", "tt"), ("first", "t"), ("second", "t"), ("left", "tk"), ("right", "kt"), ("case", "txtxt"), ("nil", "k"), ("cons", "tt"), ("fold", "ttt")]
theorem shapes_get (t : Tm) : (shapesL.find? fun p => decide (p.1 = t.word)).map (fun p => PyData.str p.2) = some (.str t.shape) := by
  cases t <;> kernel_rfl
section
local macro_rules | `(tactic| wtm_at "q.nm") => `(tactic| first
  | ((with_reducible refine ed_is "_law_word" ?_); refine ed_vi 0 ?_; wtm_at "q.slot")
  | fail)
local macro_rules | `(tactic| wtm_at "q.set") => `(tactic| first
  | ((with_reducible refine sd_is "_law_word" ?_); refine sd_v 0 (by assumption) ?_)
  | fail)
local macro_rules | `(tactic| wtm_at "q.gnm") => `(tactic| first
  | ((with_reducible refine gd_is "_law_word" ?_); refine gd_v 0 (by assumption) ?_)
  | fail)
theorem shape_ok (D : Hd K mg "_law_shape" s_law_shape p_law_shape []) : Fc P w K mg base (k + 1) "_law_shape" [] F_shape := by
  refine D.go sc_law_shape (fun W s xs Q h => ?_) (fun f cdv A outer s0 H0 E hr W s xs Q h => ?_)
  · obtain ⟨t, rfl, _⟩ := h
    rfl
  obtain ⟨t, rfl, q⟩ := h
  have nd := sc_law_shape.nd
  wtm_at "q.go"
  refine ed_getLong (ps := shapesL) (by kernel_rfl) (by decide +kernel) (by decide +kernel) (by kernel_rfl) (ru1 hr) ⟨rfl, rfl, rfl, rfl⟩ ?_
  wtm_at "q.nm"
  refine ed_non ?_
  refine ⟨_, _, rfl, rfl, ?_⟩
  rw [shapes_get]
  exact q
end
end
end
section
/-! W4: _law_seen, _law_can. -/
theorem noL_kD : ∀ k : Kd, noL (kD k) = true
  | .va => rfl | .vb => rfl | .unit => rfl | .num => rfl
  | .pair a b => by simp [kD, noL, noLs, noL_kD a, noL_kD b]
  | .either a b => by simp [kD, noL, noLs, noL_kD a, noL_kD b]
  | .list a => by simp [kD, noL, noLs, noL_kD a]
  | .func a b => by simp [kD, noL, noLs, noL_kD a, noL_kD b]
structure CtxOk (D : Nat) (Γ : Ctx) : Prop where
  names : ∀ p ∈ Γ, PyData.strOk p.1 = true
  deep : ∀ p ∈ Γ, p.2.dp ≤ D
  few : Γ.length ≤ 300
theorem CtxOk.snoc {D : Nat} {Γ : Ctx} {x : Str} {k : Kd} (h : CtxOk D Γ) (hx : PyData.strOk x = true) (hk : k.dp ≤ D) (hl : Γ.length < 300) : CtxOk D (Γ ++ [(x, k)]) :=
  ⟨fun p hp => by
    rcases List.mem_append.mp hp with hp | hp
    · exact h.names p hp
    · rw [List.mem_singleton.mp hp]; exact hx, fun p hp => by
    rcases List.mem_append.mp hp with hp | hp
    · exact h.deep p hp
    · rw [List.mem_singleton.mp hp]; exact hk, by rw [List.length_append, List.length_singleton]; omega⟩
theorem CtxOk.mono {D E : Nat} {Γ : Ctx} (h : CtxOk D Γ) (e : D ≤ E) : CtxOk E Γ := ⟨h.names, fun p hp => Nat.le_trans (h.deep p hp) e, h.few⟩
theorem ctx_len {Γ : Ctx} {D : Nat} (h : CtxOk D Γ) : (Γ.map pairK).length ≤ sizeLine := by
  have := h.few
  rw [List.length_map, sizeLine_eq]
  omega
def seenD (r : Option Kd) : PyData := match r with | some k => kD k | none => .none
section
variable {P : Program} {w : World} {K : PySem.W.Frag} {mg : Str → Option Value} {base : Heap} {k : Nat}
def F_seen : FT := fun W s xs Q => ∃ (Γ : Ctx) (x : Str), xs = [.d (ctxD Γ), .d (.str x)] ∧ CtxOk 63 Γ ∧ PyData.strOk x = true ∧ Q s (.d (seenD (look Γ x)))
section
local macro_rules | `(tactic| wtm_at "q.nm") => `(tactic| first
  | ((with_reducible refine ed_is "_law_context" ?_); refine ed_vi 0 ?_; wtm_at "q.slot")
  | ((with_reducible refine ed_is "_law_name" ?_); refine ed_vi 1 ?_; wtm_at "q.slot")
  | ((with_reducible refine ed_is "_law_found" ?_); refine ed_vi 2 ?_; wtm_at "q.slot")
  | ((with_reducible refine ed_is "_law_each" ?_); refine ed_vi 3 ?_; wtm_at "q.slot")
  | ((with_reducible refine ed_is "_law_kind" ?_); refine ed_vi 4 ?_; wtm_at "q.slot")
  | fail)
local macro_rules | `(tactic| wtm_at "q.set") => `(tactic| first
  | ((with_reducible refine sd_is "_law_context" ?_); refine sd_v 0 (by assumption) ?_)
  | ((with_reducible refine sd_is "_law_name" ?_); refine sd_v 1 (by assumption) ?_)
  | ((with_reducible refine sd_is "_law_found" ?_); refine sd_v 2 (by assumption) ?_)
  | ((with_reducible refine sd_is "_law_each" ?_); refine sd_v 3 (by assumption) ?_)
  | ((with_reducible refine sd_is "_law_kind" ?_); refine sd_v 4 (by assumption) ?_)
  | fail)
local macro_rules | `(tactic| wtm_at "q.gnm") => `(tactic| first
  | ((with_reducible refine gd_is "_law_context" ?_); refine gd_v 0 (by assumption) ?_)
  | ((with_reducible refine gd_is "_law_name" ?_); refine gd_v 1 (by assumption) ?_)
  | ((with_reducible refine gd_is "_law_found" ?_); refine gd_v 2 (by assumption) ?_)
  | ((with_reducible refine gd_is "_law_each" ?_); refine gd_v 3 (by assumption) ?_)
  | ((with_reducible refine gd_is "_law_kind" ?_); refine gd_v 4 (by assumption) ?_)
  | fail)
theorem seen_ok (D : Hd K mg "_law_seen" s_law_seen p_law_seen []) : Fc P w K mg base (k + 1) "_law_seen" [] F_seen := by
  refine D.go sc_law_seen (fun W s xs Q h => ?_) (fun f cdv A outer s0 H0 E hr W s xs Q h => ?_)
  · obtain ⟨Γ, x, rfl, _⟩ := h
    rfl
  obtain ⟨Γ, x, rfl, ok, hx, q⟩ := h
  have nd := sc_law_seen.nd
  refine sds_cons ?_
  refine sd_cl2 2 3 4 nd ?_
  refine jd_list ?_
  wtm_at "q.nm"
  refine ⟨_, rfl, ctx_len ok, ?_⟩
  refine cl2_map pairK (fun p => .str p.1) (fun p => kD p.2) (fun _ => rfl) (fun p => if p.1 = x then [kD p.2] else []) _ _ _ (fun a ha acc Nx hN p => ?_) ?_
  · have hxa := ok.names a ha
    wtm_at "q.go"
    refine br_dec (fun h => ?_) (fun h => ?_)
    · intro p'
      wtm_at "q.go"
      rw [if_pos h] at hN
      exact ⟨noL_kD _, hN⟩
    · rw [if_neg h, List.append_nil] at hN
      exact hN
  have e : ∀ Γ : Ctx, (Γ.flatMap fun p => if p.1 = x then [kD p.2] else []) = ((Γ.filter fun p => decide (p.1 = x)).map (·.2)).map kD := by
    intro Γ
    induction Γ with
    | nil => rfl
    | cons p Γ ih =>
      rw [List.flatMap_cons, ih]
      by_cases h : p.1 = x
      · rw [if_pos h, List.filter_cons_of_pos (by simpa using h)]
        rfl
      · rw [if_neg h, List.filter_cons_of_neg (by simpa using h)]
        rfl
  rw [List.nil_append, e]
  have hk : ∀ k ∈ (Γ.filter fun p => decide (p.1 = x)).map (·.2), k.dp ≤ 63 := fun k hk => by
    obtain ⟨p, hp, rfl⟩ := List.mem_map.mp hk
    exact ok.deep p (List.mem_filter.mp hp).1
  wtm_at "q.go"
  refine br_e (fun h => ?_) (fun h => ?_)
  · wtm_at "q.go"
    have e2 : ∃ k', look Γ x = some k' := by
      unfold look
      cases e3 : ((Γ.filter fun p => decide (p.1 = x)).map (·.2)).getLast? with
      | none =>
        rw [List.getLast?_eq_none_iff] at e3
        rw [e3] at h
        exact absurd rfl h
      | some k' => exact ⟨k', rfl⟩
    obtain ⟨k', e2⟩ := e2
    rw [e2] at q
    refine id_lst ?_ q
    rw [atI_last h, List.getLast?_map]
    unfold look at e2
    rw [e2]
    rfl
  · wtm_at "q.go"
    have : look Γ x = none := by
      unfold look
      have h2 : (Γ.filter fun p => decide (p.1 = x)).map (·.2) = [] := List.map_eq_nil_iff.mp h
      rw [h2]
      rfl
    rw [this] at q
    exact q
end
end
end
section
/-! W5: _law_can. -/
theorem eqv_seen (r : Option Kd) (k : Kd) : PyData.eqv (seenD r) (kD k) = decide (r = some k) := by
  cases r with
  | none => rw [kD_eq]; rfl
  | some a => rw [seenD, eqv_kD]; simp
theorem shaped_seen {r : Option Kd} (h : ∀ k, r = some k → k.dp ≤ 63) : SeqAt.shaped (seenD r) = true := by
  cases r with
  | none => rfl
  | some a => exact kD_shaped (by have := h a rfl; omega)
theorem look_mem {Γ : Ctx} {x : Str} {k : Kd} (h : look Γ x = some k) : (x, k) ∈ Γ := by
  unfold look at h
  have h2 := List.mem_of_getLast? h
  obtain ⟨p, hp, rfl⟩ := List.mem_map.mp h2
  obtain ⟨h3, h4⟩ := List.mem_filter.mp hp
  have : p.1 = x := by simpa using h4
  rw [← this]
  exact h3
theorem CtxOk.look {D : Nat} {Γ : Ctx} (h : CtxOk D Γ) {x : Str} {k : Kd} (e : look Γ x = some k) : k.dp ≤ D := h.deep _ (look_mem e)
theorem wn_ok : ∀ n < 301, PyData.strOk (wn n) = true := by decide +kernel
theorem wn_len : ∀ n : Nat, n < 301 → ("w" : Str).length + (Str.ofString (toString (n : Int))).length ≤ 1000 := by decide +kernel
theorem wn_log : ∀ n : Nat, n < 301 → ((n : Int).natAbs.log2 < 1920) := by decide +kernel
theorem can_vis (Γ : Ctx) (k : Kd) : ((Γ.flatMap fun p => if look Γ p.1 = some p.2 then [kD p.2] else []).any fun z => PyData.eqv z (kD k)) = vis Γ k := by
  unfold vis
  have : ∀ L : Ctx, ((L.flatMap fun p => if look Γ p.1 = some p.2 then [kD p.2] else []).any fun z => PyData.eqv z (kD k)) = L.any fun p => decide (look Γ p.1 = some p.2) && decide (p.2 = k) := by
    intro L
    induction L with
    | nil => rfl
    | cons p L ih =>
      rw [List.flatMap_cons, List.any_append, ih, List.any_cons]
      by_cases h : look Γ p.1 = some p.2
      · rw [if_pos h, List.any_cons, List.any_nil, eqv_kD]
        simp [h]
      · rw [if_neg h]
        simp [h]
  exact this Γ
theorem can_of_vis {Γ : Ctx} {k : Kd} (h : vis Γ k = true) : can Γ k = true := by
  cases k <;> simp [can, h]
section
variable {P : Program} {w : World} {K : PySem.W.Frag} {mg : Str → Option Value} {base : Heap} {k : Nat}
def F_can (n : Nat) : FT := fun W s xs Q => ∃ (k : Kd) (Γ : Ctx), xs = [.d (kD k), .d (ctxD Γ)] ∧ k.dp ≤ n ∧ k.dp ≤ 60 ∧ CtxOk 60 Γ ∧ Γ.length + n ≤ 290 ∧ Q s (.d (.bool (can Γ k)))
section
local macro_rules | `(tactic| wtm_at "q.nm") => `(tactic| first
  | ((with_reducible refine ed_is "_law_kind" ?_); refine ed_vi 0 ?_; wtm_at "q.slot")
  | ((with_reducible refine ed_is "_law_context" ?_); refine ed_vi 1 ?_; wtm_at "q.slot")
  | ((with_reducible refine ed_is "_law_name" ?_); refine ed_vi 2 ?_; wtm_at "q.slot")
  | ((with_reducible refine ed_is "_law_each" ?_); refine ed_vi 3 ?_; wtm_at "q.slot")
  | fail)
local macro_rules | `(tactic| wtm_at "q.set") => `(tactic| first
  | ((with_reducible refine sd_is "_law_kind" ?_); refine sd_v 0 (by assumption) ?_)
  | ((with_reducible refine sd_is "_law_context" ?_); refine sd_v 1 (by assumption) ?_)
  | ((with_reducible refine sd_is "_law_name" ?_); refine sd_v 2 (by assumption) ?_)
  | ((with_reducible refine sd_is "_law_each" ?_); refine sd_v 3 (by assumption) ?_)
  | fail)
local macro_rules | `(tactic| wtm_at "q.gnm") => `(tactic| first
  | ((with_reducible refine gd_is "_law_kind" ?_); refine gd_v 0 (by assumption) ?_)
  | ((with_reducible refine gd_is "_law_context" ?_); refine gd_v 1 (by assumption) ?_)
  | ((with_reducible refine gd_is "_law_name" ?_); refine gd_v 2 (by assumption) ?_)
  | ((with_reducible refine gd_is "_law_each" ?_); refine gd_v 3 (by assumption) ?_)
  | fail)
theorem can_ok (D : Hd K mg "_law_can" s_law_can p_law_can []) (B : Bi mg) (CS : ∀ k, Fc P w K mg base (k + 1) "_law_seen" [] F_seen) : ∀ n, Fc P w K mg base (n + 2) "_law_can" [] (F_can n)
  | 0 => D.go sc_law_can (fun W s xs Q h => by obtain ⟨k, Γ, rfl, _⟩ := h; rfl) (fun f cdv A outer s0 H0 E hr W s xs Q h => by
    obtain ⟨k, Γ, rfl, hk, q⟩ := h
    have := k.dp_pos
    omega)
  | n + 1 => by
    have C1 := can_ok D B CS n
    refine D.go sc_law_can (fun W s xs Q h => ?_) (fun f cdv A outer s0 H0 E hr W s xs Q h => ?_)
    · obtain ⟨k, Γ, rfl, _⟩ := h
      rfl
    obtain ⟨k, Γ, rfl, hk, hk2, ok, hn, q⟩ := h
    have nd := sc_law_can.nd
    have ok63 : CtxOk 63 Γ := ok.mono (by omega)
    wtm_at "q.go"
    refine ed_cl2 2 3 nd ?_
    refine jd_list ?_
    wtm_at "q.nm"
    refine ⟨_, rfl, ctx_len ok, ?_⟩
    refine cl2_map pairK (fun p => .str p.1) (fun p => kD p.2) (fun _ => rfl) (fun p => if look Γ p.1 = some p.2 then [kD p.2] else []) _ _ _ (fun a ha acc Nx hN p => ?_) ?_
    · wtm_at "q.go"
      refine ed_fn (CS _) hr ?_
      wtm_at "q.go"
      refine ⟨Γ, a.1, rfl, ok63, ok.names a ha, ?_⟩
      wtm_at "q.go"
      refine od_eq (ru64 hr) (shaped_seen fun k e => by have := ok.look e; omega) (kD_shaped (by have := ok.deep a ha; omega)) ?_
      rw [eqv_seen]
      wtm_at "q.go"
      refine br_dec (fun h => ?_) (fun h => ?_)
      · intro p'
        wtm_at "q.go"
        rw [if_pos h] at hN
        exact ⟨noL_kD _, hN⟩
      · rw [if_neg h, List.append_nil] at hN
        exact hN
    rw [List.nil_append]
    refine od_inL (ru65 hr) (kD_shaped (by omega)) (shaped_l fun d hd => ?_) ?_
    · obtain ⟨p, hp, hd⟩ := List.mem_flatMap.mp hd
      have := ok.deep p hp
      split at hd
      · rw [List.mem_singleton.mp hd]
        exact ⟨kD_lay _, by rw [kD_depth]; omega⟩
      · cases hd
    rw [can_vis]
    wtm_at "q.go"
    refine br_b (fun h => ?_) (fun h => ?_)
    · wtm_at "q.go"
      rw [can_of_vis h] at q
      exact q
    wtm_at "q.go"
    have sub : ∀ (a : Kd) (s : W.St) (Q : W.St → Sv → Prop), a.dp < k.dp → Q s (.d (.bool (can Γ a))) → F_can n W s [.d (kD a), .d (ctxD Γ)] Q := fun a s Q h1 h2 => ⟨a, Γ, rfl, by omega, by omega, ok, by omega, h2⟩
    cases k with
    | pair a b =>
      wtm_at "q.run"
      refine ed_fn C1 hr ?_
      wtm_at "q.go"
      refine sub a _ _ (by simp only [Kd.dp]; omega) ?_
      wtm_at "q.go"
      refine br_b (fun h1 => ?_) (fun h1 => ?_)
      · wtm_at "q.run"
        refine ed_fn C1 hr ?_
        wtm_at "q.go"
        refine sub b _ _ (by simp only [Kd.dp]; omega) ?_
        simpa [can, h, h1] using q
      · simpa [can, h, h1] using q
    | either a b =>
      wtm_at "q.run"
      refine ed_fn C1 hr ?_
      wtm_at "q.go"
      refine sub a _ _ (by simp only [Kd.dp]; omega) ?_
      wtm_at "q.go"
      refine br_b (fun h1 => ?_) (fun h1 => ?_)
      · simpa [can, h, h1] using q
      · wtm_at "q.run"
        refine ed_fn C1 hr ?_
        wtm_at "q.go"
        refine sub b _ _ (by simp only [Kd.dp]; omega) ?_
        simpa [can, h, h1] using q
    | func a b =>
      wtm_at "q.run"
      refine ed_fn C1 hr ?_
      wtm_at "q.run"
      refine cd_str ?_ ?_
      · rw [List.length_map]
        exact wn_log _ (by omega)
      wtm_at "q.run"
      refine od_addS ?_ ?_
      · rw [List.length_map]
        have := wn_len Γ.length (by omega)
        rw [sizeLine_eq]
        omega
      wtm_at "q.run"
      refine od_catL ?_ ?_
      · rw [List.length_map, sizeLine_eq]
        show Γ.length + 1 ≤ _
        omega
      wtm_at "q.run"
      rw [List.length_map]
      refine ⟨b, Γ ++ [(wn Γ.length, a)], by simp [ctxD, pairK, wn], by simp only [Kd.dp] at hk; omega, by simp only [Kd.dp] at hk2; omega, ok.snoc (wn_ok _ (by omega)) (by simp only [Kd.dp] at hk2; omega) (by omega), by rw [List.length_append, List.length_singleton]; omega, ?_⟩
      simpa [can, h] using q
    | va =>
      wtm_at "q.run"
      simpa [can, h] using q
    | vb =>
      wtm_at "q.run"
      simpa [can, h] using q
    | _ =>
      wtm_at "q.run"
      simpa [can, h] using q
end
end
end
section
/-! W6: _law_made_kind. -/
def madeD : Except Nat Kd → PyData
  | .ok k => kD k
  | .error n => .list [.int n]
theorem kd_fun (f : Kd) : (∃ a b, f = .func a b) ∨ ¬ f.word = "fun" := by
  cases f <;> first | exact .inl ⟨_, _, rfl⟩ | exact .inr (by simp only [Kd.word]; decide +kernel)
theorem kd_pair (f : Kd) : (∃ a b, f = .pair a b) ∨ ¬ f.word = "pair" := by
  cases f <;> first | exact .inl ⟨_, _, rfl⟩ | exact .inr (by simp only [Kd.word]; decide +kernel)
theorem kd_either (f : Kd) : (∃ a b, f = .either a b) ∨ ¬ f.word = "either" := by
  cases f <;> first | exact .inl ⟨_, _, rfl⟩ | exact .inr (by simp only [Kd.word]; decide +kernel)
theorem callK_no {f a : Kd} (h : ¬ f.word = "fun") : callK f a = .error 1 := by cases f <;> first | rfl | exact absurd rfl h
theorem firstK_no {f : Kd} (h : ¬ f.word = "pair") : firstK f = .error 1 := by cases f <;> first | rfl | exact absurd rfl h
theorem secondK_no {f : Kd} (h : ¬ f.word = "pair") : secondK f = .error 1 := by cases f <;> first | rfl | exact absurd rfl h
theorem foldK_no {f a b : Kd} (h : ¬ f.word = "fun") : foldK f a b = .error 1 := by cases f <;> first | rfl | exact absurd rfl h
theorem foldK_no2 {x y a b : Kd} (h : ¬ y.word = "fun") : foldK (.func x y) a b = .error 1 := by cases y <;> first | rfl | exact absurd rfl h
section
variable {P : Program} {w : World} {K : PySem.W.Frag} {mg : Str → Option Value} {base : Heap} {k : Nat}
def F_made : FT := fun W s xs Q => ∃ (t : Tm) (ks : List Kd) (r : Except Nat Kd), xs = [.d (tD t), .d (.list (ks.map kD))] ∧ made t ks = some r ∧ (∀ k ∈ ks, k.dp ≤ 60) ∧ Q s (.d (madeD r))
section
local macro_rules | `(tactic| wtm_at "q.nm") => `(tactic| first
  | ((with_reducible refine ed_is "_law_term_here" ?_); refine ed_vi 0 ?_; wtm_at "q.slot")
  | ((with_reducible refine ed_is "_law_kinds" ?_); refine ed_vi 1 ?_; wtm_at "q.slot")
  | ((with_reducible refine ed_is "_law_word" ?_); refine ed_vi 2 ?_; wtm_at "q.slot")
  | ((with_reducible refine ed_is "_law_num" ?_); refine ed_vi 3 ?_; wtm_at "q.slot")
  | ((with_reducible refine ed_is "_law_one_here" ?_); refine ed_vi 4 ?_; wtm_at "q.slot")
  | ((with_reducible refine ed_is "_law_two" ?_); refine ed_vi 5 ?_; wtm_at "q.slot")
  | ((with_reducible refine ed_is "_law_spot" ?_); refine ed_vi 6 ?_; wtm_at "q.slot")
  | fail)
local macro_rules | `(tactic| wtm_at "q.set") => `(tactic| first
  | ((with_reducible refine sd_is "_law_term_here" ?_); refine sd_v 0 (by assumption) ?_)
  | ((with_reducible refine sd_is "_law_kinds" ?_); refine sd_v 1 (by assumption) ?_)
  | ((with_reducible refine sd_is "_law_word" ?_); refine sd_v 2 (by assumption) ?_)
  | ((with_reducible refine sd_is "_law_num" ?_); refine sd_v 3 (by assumption) ?_)
  | ((with_reducible refine sd_is "_law_one_here" ?_); refine sd_v 4 (by assumption) ?_)
  | ((with_reducible refine sd_is "_law_two" ?_); refine sd_v 5 (by assumption) ?_)
  | ((with_reducible refine sd_is "_law_spot" ?_); refine sd_v 6 (by assumption) ?_)
  | fail)
local macro_rules | `(tactic| wtm_at "q.gnm") => `(tactic| first
  | ((with_reducible refine gd_is "_law_term_here" ?_); refine gd_v 0 (by assumption) ?_)
  | ((with_reducible refine gd_is "_law_kinds" ?_); refine gd_v 1 (by assumption) ?_)
  | ((with_reducible refine gd_is "_law_word" ?_); refine gd_v 2 (by assumption) ?_)
  | ((with_reducible refine gd_is "_law_num" ?_); refine gd_v 3 (by assumption) ?_)
  | ((with_reducible refine gd_is "_law_one_here" ?_); refine gd_v 4 (by assumption) ?_)
  | ((with_reducible refine gd_is "_law_two" ?_); refine gd_v 5 (by assumption) ?_)
  | ((with_reducible refine gd_is "_law_spot" ?_); refine gd_v 6 (by assumption) ?_)
  | fail)
theorem made_ok (D : Hd K mg "_law_made_kind" s_law_made_kind p_law_made_kind []) (CT : ∀ k, Fc P w K mg base (k + 1) "_law_truth" [] F_truth) : Fc P w K mg base (k + 2) "_law_made_kind" [] F_made := by
  refine D.go sc_law_made_kind (fun W s xs Q h => ?_) (fun f cdv A outer s0 H0 E hr W s xs Q h => ?_)
  · obtain ⟨t, ks, r, rfl, _⟩ := h
    rfl
  obtain ⟨t, ks, r, rfl, hm, hk, q⟩ := h
  have nd := sc_law_made_kind.nd
  have hk63 : ∀ k ∈ ks, k.dp ≤ 63 := fun k h => Nat.le_trans (hk k h) (by decide)
  cases t <;> rcases ks with _ | ⟨a, _ | ⟨b, _ | ⟨c, _ | ⟨d, ks⟩⟩⟩⟩ <;> simp only [made, reduceCtorEq, Option.some.injEq] at hm
  all_goals subst hm
  case call.cons.cons.nil =>
    have ha := hk a (by simp)
    have hb := hk b (by simp)
    rcases kd_fun a with ⟨x, y, rfl⟩ | hw
    · simp only [Kd.dp] at ha
      wtm_at "q.run"
      simp only [callK] at q
      refine br_nd (fun h1 => ?_) (fun h1 => ?_)
      · rw [if_neg h1] at q
        wtm_at "q.run"
        exact q
      · rw [if_pos h1] at q
        wtm_at "q.run"
        exact q
    · rw [callK_no hw] at q
      wtm_at "q.run"
      refine br_nd (fun _ => ?_) (fun h => absurd h hw)
      wtm_at "q.run"
      exact q
  case unit.nil =>
    wtm_at "q.run"
    exact q
  case number.nil =>
    wtm_at "q.run"
    exact q
  case nil.nil =>
    wtm_at "q.run"
    exact q
  case plus.cons.cons.nil =>
    have ha := hk a (by simp)
    have hb := hk b (by simp)
    unfold numK at q
    wtm_at "q.run"
    refine br_nd (fun h1 => ?_) (fun h1 => ?_)
    · rw [if_pos h1] at q
      wtm_at "q.run"
      refine br_nd (fun h2 => ?_) (fun h2 => absurd h2 h1)
      wtm_at "q.run"
      exact q
    rw [if_neg (not_not_intro h1)] at q
    wtm_at "q.run"
    refine br_nd (fun h1 => ?_) (fun h1 => ?_)
    · rw [if_pos h1] at q
      wtm_at "q.run"
      refine br_nd (fun h2 => absurd ‹a = Kd.num› h2) (fun h2 => ?_)
      wtm_at "q.run"
      exact q
    rw [if_neg (not_not_intro h1)] at q
    wtm_at "q.run"
    exact q
  case times.cons.cons.nil =>
    have ha := hk a (by simp)
    have hb := hk b (by simp)
    unfold numK at q
    wtm_at "q.run"
    refine br_nd (fun h1 => ?_) (fun h1 => ?_)
    · rw [if_pos h1] at q
      wtm_at "q.run"
      refine br_nd (fun h2 => ?_) (fun h2 => absurd h2 h1)
      wtm_at "q.run"
      exact q
    rw [if_neg (not_not_intro h1)] at q
    wtm_at "q.run"
    refine br_nd (fun h1 => ?_) (fun h1 => ?_)
    · rw [if_pos h1] at q
      wtm_at "q.run"
      refine br_nd (fun h2 => absurd ‹a = Kd.num› h2) (fun h2 => ?_)
      wtm_at "q.run"
      exact q
    rw [if_neg (not_not_intro h1)] at q
    wtm_at "q.run"
    exact q
  case is.cons.cons.nil =>
    have ha := hk a (by simp)
    have hb := hk b (by simp)
    unfold numK at q
    wtm_at "q.run"
    refine br_nd (fun h1 => ?_) (fun h1 => ?_)
    · rw [if_pos h1] at q
      wtm_at "q.run"
      refine br_nd (fun h2 => ?_) (fun h2 => absurd h2 h1)
      wtm_at "q.run"
      exact q
    rw [if_neg (not_not_intro h1)] at q
    wtm_at "q.run"
    refine br_nd (fun h1 => ?_) (fun h1 => ?_)
    · rw [if_pos h1] at q
      wtm_at "q.run"
      refine br_nd (fun h2 => absurd ‹a = Kd.num› h2) (fun h2 => ?_)
      wtm_at "q.run"
      exact q
    rw [if_neg (not_not_intro h1)] at q
    wtm_at "q.run"
    refine ed_fn0 (CT _) hr ?_
    exact ⟨rfl, q⟩
  case minus.cons.nil =>
    have ha := hk a (by simp)
    unfold minusK at q
    wtm_at "q.run"
    refine br_nd (fun h1 => ?_) (fun h1 => ?_)
    · rw [if_pos h1] at q
      wtm_at "q.run"
      refine br_nd (fun h2 => ?_) (fun h2 => absurd h2 h1)
      wtm_at "q.run"
      exact q
    rw [if_neg (not_not_intro h1)] at q
    wtm_at "q.run"
    refine br_nd (fun h2 => absurd h1 h2) (fun h1 => ?_)
    wtm_at "q.run"
    exact q
  case pair.cons.cons.nil =>
    wtm_at "q.run"
    exact q
  case first.cons.nil =>
    have ha := hk a (by simp)
    rcases kd_pair a with ⟨x, y, rfl⟩ | hw
    · wtm_at "q.run"
      exact q
    · rw [firstK_no hw] at q
      wtm_at "q.run"
      refine br_nd (fun _ => ?_) (fun h => absurd h hw)
      wtm_at "q.run"
      exact q
  case second.cons.nil =>
    have ha := hk a (by simp)
    rcases kd_pair a with ⟨x, y, rfl⟩ | hw
    · wtm_at "q.run"
      exact q
    · rw [secondK_no hw] at q
      wtm_at "q.run"
      refine br_nd (fun _ => ?_) (fun h => absurd h hw)
      wtm_at "q.run"
      exact q
  case left.cons.nil =>
    wtm_at "q.run"
    exact q
  case right.cons.nil =>
    wtm_at "q.run"
    exact q
  case cons.cons.cons.nil =>
    have ha := hk a (by simp)
    have hb := hk b (by simp)
    unfold consK at q
    wtm_at "q.run"
    refine br_nd (fun h1 => ?_) (fun h1 => ?_)
    · rw [if_neg h1] at q
      wtm_at "q.run"
      exact q
    · rw [if_pos h1] at q
      wtm_at "q.run"
      exact q
  case fold.cons.cons.cons.nil =>
    have ha := hk a (by simp)
    have hb := hk b (by simp)
    have hc := hk c (by simp)
    rcases kd_fun a with ⟨x, a2, rfl⟩ | hw
    · simp only [Kd.dp] at ha
      rcases kd_fun a2 with ⟨y, z, rfl⟩ | hw
      · simp only [Kd.dp] at ha
        simp only [foldK] at q
        wtm_at "q.run"
        refine br_nd (fun h1 => ?_) (fun h1 => ?_)
        · rw [if_pos h1] at q
          wtm_at "q.run"
          exact q
        rw [if_neg (not_not_intro h1)] at q
        wtm_at "q.run"
        refine br_nd (fun h1 => ?_) (fun h1 => ?_)
        · rw [if_pos h1] at q
          wtm_at "q.run"
          exact q
        rw [if_neg (not_not_intro h1)] at q
        wtm_at "q.run"
        refine br_nd (fun h1 => ?_) (fun h1 => ?_)
        · rw [if_pos h1] at q
          wtm_at "q.run"
          exact q
        rw [if_neg (not_not_intro h1)] at q
        wtm_at "q.run"
        exact q
      · rw [foldK_no2 hw] at q
        wtm_at "q.run"
        refine br_nd (fun _ => ?_) (fun h => absurd h hw)
        wtm_at "q.run"
        exact q
    · rw [foldK_no hw] at q
      wtm_at "q.run"
      refine br_nd (fun _ => ?_) (fun h => absurd h hw)
      wtm_at "q.run"
      exact q
end
end
end
section
/-! W7: _law_walk_case, _law_walk. -/
def pathD (p : List Nat) : PyData := .tuple (p.map fun (n : Nat) => PyData.int (n : Int))
def resD : Res → PyData
  | .ok k => .tuple [kD k, .none]
  | .error p => .tuple [.none, pathD p]
structure WOk (n : Nat) (Γ : Ctx) (t : Tm) : Prop where
  dp : t.dp ≤ n
  nm : NmOk t
  ctx : CtxOk 60 Γ
  len : Γ.length + n ≤ 290
  low : Low 60 Γ t
def F_walk (n : Nat) : FT := fun W s xs Q => ∃ (t : Tm) (Γ : Ctx), xs = [.d (tD t), .d (ctxD Γ)] ∧ WOk n Γ t ∧ Q s (.d (resD (walk Γ t)))
def F_walkC (n : Nat) : FT := fun W s xs Q => ∃ (u : Tm) (x : Str) (a : Tm) (y : Str) (b : Tm) (Γ : Ctx), xs = [.d (tD (.case u x a y b)), .d (ctxD Γ)] ∧ WOk n Γ (.case u x a y b) ∧ Q s (.d (resD (walk Γ (.case u x a y b))))
section
variable {P : Program} {w : World} {K : PySem.W.Frag} {mg : Str → Option Value} {base : Heap} {k : Nat}
section
local macro_rules | `(tactic| wtm_at "q.nm") => `(tactic| first
  | ((with_reducible refine ed_is "_law_term_here" ?_); refine ed_vi 0 ?_; wtm_at "q.slot")
  | ((with_reducible refine ed_is "_law_context" ?_); refine ed_vi 1 ?_; wtm_at "q.slot")
  | ((with_reducible refine ed_is "_law_kind" ?_); refine ed_vi 2 ?_; wtm_at "q.slot")
  | ((with_reducible refine ed_is "_law_path" ?_); refine ed_vi 3 ?_; wtm_at "q.slot")
  | ((with_reducible refine ed_is "_law_one_here" ?_); refine ed_vi 4 ?_; wtm_at "q.slot")
  | ((with_reducible refine ed_is "_law_two" ?_); refine ed_vi 5 ?_; wtm_at "q.slot")
  | fail)
local macro_rules | `(tactic| wtm_at "q.set") => `(tactic| first
  | ((with_reducible refine sd_is "_law_term_here" ?_); refine sd_v 0 (by assumption) ?_)
  | ((with_reducible refine sd_is "_law_context" ?_); refine sd_v 1 (by assumption) ?_)
  | ((with_reducible refine sd_is "_law_kind" ?_); refine sd_v 2 (by assumption) ?_)
  | ((with_reducible refine sd_is "_law_path" ?_); refine sd_v 3 (by assumption) ?_)
  | ((with_reducible refine sd_is "_law_one_here" ?_); refine sd_v 4 (by assumption) ?_)
  | ((with_reducible refine sd_is "_law_two" ?_); refine sd_v 5 (by assumption) ?_)
  | fail)
local macro_rules | `(tactic| wtm_at "q.gnm") => `(tactic| first
  | ((with_reducible refine gd_is "_law_term_here" ?_); refine gd_v 0 (by assumption) ?_)
  | ((with_reducible refine gd_is "_law_context" ?_); refine gd_v 1 (by assumption) ?_)
  | ((with_reducible refine gd_is "_law_kind" ?_); refine gd_v 2 (by assumption) ?_)
  | ((with_reducible refine gd_is "_law_path" ?_); refine gd_v 3 (by assumption) ?_)
  | ((with_reducible refine gd_is "_law_one_here" ?_); refine gd_v 4 (by assumption) ?_)
  | ((with_reducible refine gd_is "_law_two" ?_); refine gd_v 5 (by assumption) ?_)
  | fail)
theorem walkC_ok (D : Hd K mg "_law_walk_case" s_law_walk_case p_law_walk_case []) {n : Nat} (C1 : Fc P w K mg base k "_law_walk" [] (F_walk n)) : Fc P w K mg base (k + 1) "_law_walk_case" [] (F_walkC (n + 1)) := by
  refine D.go sc_law_walk_case (fun W s xs Q h => ?_) (fun f cdv A outer s0 H0 E hr W s xs Q h => ?_)
  · obtain ⟨u, x, a, y, b, Γ, rfl, _⟩ := h
    rfl
  obtain ⟨u, x, a, y, b, Γ, rfl, ok, q⟩ := h
  have nd := sc_law_walk_case.nd
  obtain ⟨hdp, hnm, hctx, hlen, hlow⟩ := ok
  simp only [Tm.dp] at hdp
  obtain ⟨n1, n2, n3, n4, n5⟩ := hnm
  unfold walk at q
  wtm_at "q.run"
  refine ed_fn C1 hr ?_
  wtm_at "q.run"
  refine ⟨u, Γ, rfl, ⟨by omega, n1, hctx, by omega, hlow.1⟩, ?_⟩
  cases e1 : walk Γ u with
  | error p =>
    have hp := walk_len e1
    rw [e1] at q
    wtm_at "q.run"
    refine od_catT (sz_n (by simp only [List.length_singleton, List.length_map]; omega)) ?_
    wtm_at "q.run"
    exact q
  | ok ks =>
    have l2 := ok1_of hlow.2 e1
    have d1 := low_ok (by decide) hlow.1 e1
    rw [e1] at q
    rcases kd_either ks with ⟨l, r, rfl⟩ | hw
    · simp only [Kd.dp] at d1
      wtm_at "q.run"
      refine ed_fn C1 hr ?_
      wtm_at "q.run"
      refine od_catL (sz_n (by rw [List.length_map]; show Γ.length + 1 ≤ _; omega)) ?_
      wtm_at "q.run"
      refine ⟨a, Γ ++ [(x, l)], by simp [ctxD, pairK], ⟨by omega, n3, hctx.snoc n2 (by omega) (by omega), by rw [List.length_append, List.length_singleton]; omega, l2.1⟩, ?_⟩
      cases e2 : walk (Γ ++ [(x, l)]) a with
      | error p =>
        have hp := walk_len e2
        simp only [at1, e2] at q
        wtm_at "q.run"
        refine od_catT (sz_n (by simp only [List.length_singleton, List.length_map]; omega)) ?_
        wtm_at "q.run"
        exact q
      | ok ka =>
        have l3 := ok1_of l2.2 e2
        have d2 := low_ok (by decide) l2.1 e2
        simp only [at1, e2] at q
        wtm_at "q.run"
        refine ed_fn C1 hr ?_
        wtm_at "q.run"
        refine od_catL (sz_n (by rw [List.length_map]; show Γ.length + 1 ≤ _; omega)) ?_
        wtm_at "q.run"
        refine ⟨b, Γ ++ [(y, r)], by simp [ctxD, pairK], ⟨by omega, n5, hctx.snoc n4 (by omega) (by omega), by rw [List.length_append, List.length_singleton]; omega, l3⟩, ?_⟩
        cases e3 : walk (Γ ++ [(y, r)]) b with
        | error p =>
          have hp := walk_len e3
          simp only [e3] at q
          wtm_at "q.run"
          refine od_catT (sz_n (by simp only [List.length_singleton, List.length_map]; omega)) ?_
          wtm_at "q.run"
          exact q
        | ok kb =>
          have d3 := low_ok (by decide) l3 e3
          simp only [e3] at q
          wtm_at "q.run"
          refine br_nd (fun h1 => ?_) (fun h1 => ?_)
          · rw [if_neg h1] at q
            wtm_at "q.run"
            exact q
          · rw [if_pos h1] at q
            wtm_at "q.run"
            exact q
    · have q : Q s (.d (resD (.error [1]))) := by
        cases ks <;> first | exact q | exact absurd rfl hw
      wtm_at "q.run"
      refine br_nd (fun h1 => ?_) (fun h1 => absurd h1 hw)
      wtm_at "q.run"
      exact q
end
section
local macro_rules | `(tactic| wtm_at "q.nm") => `(tactic| first
  | ((with_reducible refine ed_is "_law_term_here" ?_); refine ed_vi 0 ?_; wtm_at "q.slot")
  | ((with_reducible refine ed_is "_law_context" ?_); refine ed_vi 1 ?_; wtm_at "q.slot")
  | ((with_reducible refine ed_is "_law_kind" ?_); refine ed_vi 2 ?_; wtm_at "q.slot")
  | ((with_reducible refine ed_is "_law_kinds" ?_); refine ed_vi 3 ?_; wtm_at "q.slot")
  | ((with_reducible refine ed_is "_law_inner_here" ?_); refine ed_vi 4 ?_; wtm_at "q.slot")
  | ((with_reducible refine ed_is "_law_at" ?_); refine ed_vi 5 ?_; wtm_at "q.slot")
  | ((with_reducible refine ed_is "_law_sort" ?_); refine ed_vi 6 ?_; wtm_at "q.slot")
  | ((with_reducible refine ed_is "_law_path" ?_); refine ed_vi 7 ?_; wtm_at "q.slot")
  | fail)
local macro_rules | `(tactic| wtm_at "q.set") => `(tactic| first
  | ((with_reducible refine sd_is "_law_term_here" ?_); refine sd_v 0 (by assumption) ?_)
  | ((with_reducible refine sd_is "_law_context" ?_); refine sd_v 1 (by assumption) ?_)
  | ((with_reducible refine sd_is "_law_kind" ?_); refine sd_v 2 (by assumption) ?_)
  | ((with_reducible refine sd_is "_law_kinds" ?_); refine sd_v 3 (by assumption) ?_)
  | ((with_reducible refine sd_is "_law_inner_here" ?_); refine sd_v 4 (by assumption) ?_)
  | ((with_reducible refine sd_is "_law_at" ?_); refine sd_v 5 (by assumption) ?_)
  | ((with_reducible refine sd_is "_law_sort" ?_); refine sd_v 6 (by assumption) ?_)
  | ((with_reducible refine sd_is "_law_path" ?_); refine sd_v 7 (by assumption) ?_)
  | fail)
local macro_rules | `(tactic| wtm_at "q.gnm") => `(tactic| first
  | ((with_reducible refine gd_is "_law_term_here" ?_); refine gd_v 0 (by assumption) ?_)
  | ((with_reducible refine gd_is "_law_context" ?_); refine gd_v 1 (by assumption) ?_)
  | ((with_reducible refine gd_is "_law_kind" ?_); refine gd_v 2 (by assumption) ?_)
  | ((with_reducible refine gd_is "_law_kinds" ?_); refine gd_v 3 (by assumption) ?_)
  | ((with_reducible refine gd_is "_law_inner_here" ?_); refine gd_v 4 (by assumption) ?_)
  | ((with_reducible refine gd_is "_law_at" ?_); refine gd_v 5 (by assumption) ?_)
  | ((with_reducible refine gd_is "_law_sort" ?_); refine gd_v 6 (by assumption) ?_)
  | ((with_reducible refine gd_is "_law_path" ?_); refine gd_v 7 (by assumption) ?_)
  | fail)
theorem goW_ok (D : Hd K mg "_law_walk" s_law_walk p_law_walk []) : True := trivial
end
end
end
section
/-! W8: _law_walk. -/
theorem in_fnlet (t : Tm) : ([PyData.str "fn", .str "let"].any fun z => PyData.eqv z (.str t.word)) = t.binder := by cases t <;> kernel_rfl
theorem plain_word {t : Tm} (h : t.plain = true) : ¬ t.word = "name" ∧ ¬ t.word = "case" := by
  cases t <;> first | (have h' : false = true := h; cases h') | exact ⟨by simp only [Tm.word]; decide +kernel, by simp only [Tm.word]; decide +kernel⟩
theorem binder_fn {t : Tm} (h : t.binder = true) : (∃ x k b, t = .fn x k b) ∨ ∃ x a b, t = .lete x a b := by
  cases t <;> first | (have h' : false = true := h; cases h') | exact .inl ⟨_, _, _, rfl⟩ | exact .inr ⟨_, _, _, rfl⟩
section
variable {P : Program} {w : World} {K : PySem.W.Frag} {mg : Str → Option Value} {base : Heap} {k : Nat}
section
local macro_rules | `(tactic| wtm_at "q.nm") => `(tactic| first
  | ((with_reducible refine ed_is "_law_term_here" ?_); refine ed_vi 0 ?_; wtm_at "q.slot")
  | ((with_reducible refine ed_is "_law_context" ?_); refine ed_vi 1 ?_; wtm_at "q.slot")
  | ((with_reducible refine ed_is "_law_kind" ?_); refine ed_vi 2 ?_; wtm_at "q.slot")
  | ((with_reducible refine ed_is "_law_kinds" ?_); refine ed_vi 3 ?_; wtm_at "q.slot")
  | ((with_reducible refine ed_is "_law_inner_here" ?_); refine ed_vi 4 ?_; wtm_at "q.slot")
  | ((with_reducible refine ed_is "_law_at" ?_); refine ed_vi 5 ?_; wtm_at "q.slot")
  | ((with_reducible refine ed_is "_law_sort" ?_); refine ed_vi 6 ?_; wtm_at "q.slot")
  | ((with_reducible refine ed_is "_law_path" ?_); refine ed_vi 7 ?_; wtm_at "q.slot")
  | fail)
local macro_rules | `(tactic| wtm_at "q.set") => `(tactic| first
  | ((with_reducible refine sd_is "_law_term_here" ?_); refine sd_v 0 (by assumption) ?_)
  | ((with_reducible refine sd_is "_law_context" ?_); refine sd_v 1 (by assumption) ?_)
  | ((with_reducible refine sd_is "_law_kind" ?_); refine sd_v 2 (by assumption) ?_)
  | ((with_reducible refine sd_is "_law_kinds" ?_); refine sd_v 3 (by assumption) ?_)
  | ((with_reducible refine sd_is "_law_inner_here" ?_); refine sd_v 4 (by assumption) ?_)
  | ((with_reducible refine sd_is "_law_at" ?_); refine sd_v 5 (by assumption) ?_)
  | ((with_reducible refine sd_is "_law_sort" ?_); refine sd_v 6 (by assumption) ?_)
  | ((with_reducible refine sd_is "_law_path" ?_); refine sd_v 7 (by assumption) ?_)
  | fail)
local macro_rules | `(tactic| wtm_at "q.gnm") => `(tactic| first
  | ((with_reducible refine gd_is "_law_term_here" ?_); refine gd_v 0 (by assumption) ?_)
  | ((with_reducible refine gd_is "_law_context" ?_); refine gd_v 1 (by assumption) ?_)
  | ((with_reducible refine gd_is "_law_kind" ?_); refine gd_v 2 (by assumption) ?_)
  | ((with_reducible refine gd_is "_law_kinds" ?_); refine gd_v 3 (by assumption) ?_)
  | ((with_reducible refine gd_is "_law_inner_here" ?_); refine gd_v 4 (by assumption) ?_)
  | ((with_reducible refine gd_is "_law_at" ?_); refine gd_v 5 (by assumption) ?_)
  | ((with_reducible refine gd_is "_law_sort" ?_); refine gd_v 6 (by assumption) ?_)
  | ((with_reducible refine gd_is "_law_path" ?_); refine gd_v 7 (by assumption) ?_)
  | fail)
theorem walkS_ok (D : Hd K mg "_law_walk" s_law_walk p_law_walk []) (B : Bi mg) {n : Nat} (C1 : Fc P w K mg base k "_law_walk" [] (F_walk n)) (CC : Fc P w K mg base k "_law_walk_case" [] (F_walkC (n + 1)))
    (CS : Fc P w K mg base k "_law_seen" [] F_seen) (CH : Fc P w K mg base k "_law_shape" [] F_shape) (CM : Fc P w K mg base k "_law_made_kind" [] F_made) : Fc P w K mg base (k + 1) "_law_walk" [] (F_walk (n + 1)) := by
  refine D.go sc_law_walk (fun W s xs Q h => ?_) (fun f cdv A outer s0 H0 E hr W s xs Q h => ?_)
  · obtain ⟨t, Γ, rfl, _⟩ := h
    rfl
  obtain ⟨t, Γ, rfl, ok, q⟩ := h
  have nd := sc_law_walk.nd
  obtain ⟨hdp, hnm, hctx, hlen, hlow⟩ := ok
  cases hp : t.plain with
  | false =>
    cases t <;> first | (have h' : true = false := hp; cases h') | skip
    · rename_i x
      wtm_at "q.run"
      refine ed_fn CS hr ?_
      wtm_at "q.run"
      refine ⟨Γ, x, rfl, hctx.mono (by decide), hnm, ?_⟩
      unfold walk at q
      cases e : look Γ x with
      | none =>
        rw [e] at q
        rw [show seenD none = PyData.none from rfl]
        wtm_at "q.run"
        exact q
      | some r =>
        rw [e] at q
        rw [show seenD (some r) = kD r from rfl]
        wtm_at "q.run"
        exact q
    · rename_i u x a y b
      wtm_at "q.run"
      refine ed_fn CC hr ?_
      wtm_at "q.run"
      exact ⟨u, x, a, y, b, Γ, rfl, ⟨hdp, hnm, hctx, hlen, hlow⟩, q⟩
  | true =>
    obtain ⟨w1, w2⟩ := plain_word hp
    wtm_at "q.run"
    refine br_dec (fun h => absurd h w1) (fun _ => ?_)
    wtm_at "q.run"
    refine br_dec (fun h => absurd h w2) (fun _ => ?_)
    refine sds_nil ?_
    refine sds_ownPar 3 4 nd (by decide) rfl fun p np => ?_
    wtm_at "q.nm"
    refine sds_cons ?_
    refine sd_for (jd_enumS rfl B.enumerate_ ?_)
    refine ed_fn CH hr ?_
    wtm_at "q.run"
    refine ⟨fun i st δ' => ∃ (ks : List Kd) (Γi : Ctx) (v2 v5 v6 v7 : Option Sv), st = W.mkS _ p s (ks.map kD) ∧ δ' = [some (.d (tD t)), some (.d (ctxD Γ)), v2, some (.o p), some (.d (ctxD Γi)), v5, v6, v7] ∧
      (noX v2 && noX v5 && noX v6 && noX v7) = true ∧ goW Γ t i (t.parts.drop i) ks = goW Γ t 0 t.parts [] ∧ (∀ k ∈ ks, k.dp ≤ 60) ∧ ks.length = cntP (t.parts.take i) ∧ (i ≤ 2 ∨ t.binder = false → Γi = Γ) ∧ lowW 60 Γ t i (t.parts.drop i) ks ∧ i ≤ t.parts.length, ?_, ?_, ?_⟩
    · exact ⟨[], Γ, none, none, none, none, rfl, rfl, rfl, rfl, fun k h => by simp at h, rfl, fun _ => rfl, low_W hp hlow, Nat.zero_le _⟩
    · rintro i d st δ' hd ⟨ks, Γi, v2, v5, v6, v7, rfl, rfl, hv, hg, hk, hl, hΓ, hlw, _⟩
      simp only [Bool.and_eq_true] at hv
      obtain ⟨⟨⟨hv2, hv5⟩, hv6⟩, hv7⟩ := hv
      obtain ⟨c, hc, rfl⟩ := enum_shape hd
      have hi : i < t.parts.length := by
        rw [← ltr_len]
        exact (List.getElem?_eq_some_iff.mp hc).1
      have hcok : PyData.strOk ⟨#[c]⟩ = true := ltr_ok t c (List.mem_of_getElem? hc)
      rw [List.drop_eq_getElem_cons hi] at hg hlw
      wtm_at "q.run"
      cases e : t.parts[i] with
      | none =>
        obtain ⟨c', hc', hne⟩ := part_none (i := i) (t := t) (by rw [List.getElem?_eq_getElem hi, e])
        rw [hc] at hc'
        cases hc'
        rw [e] at hg hlw
        refine br_dec (fun h => absurd ((sgn_t c).mp h) hne) (fun h => ?_)
        wtm_at "q.run"
        exact ⟨ks, Γi, v2, _, _, v7, rfl, rfl, by rw [hv2, hv7]; rfl, hg, hk, by rw [cnt_none hi e]; exact hl, fun h => hΓ (h.imp (fun h => by omega) id), hlw, hi⟩
      | some u =>
        obtain ⟨hc', hr', hu⟩ := part_some (i := i) (t := t) (u := u) (by rw [List.getElem?_eq_getElem hi, e])
        rw [hc] at hc'
        cases hc'
        rw [e] at hg hlw
        refine br_dec (fun h => ?_) (fun h => absurd ((sgn_t 116).mpr rfl) h)
        refine sds_cut (fun s' δ' => s' = W.mkS _ p s (ks.map kD) ∧ δ' = [some (.d (tD t)), some (.d (ctxD Γ)), v2, some (.o p), some (.d (ctxD (ctxAt Γ t i ks))), some (.d (.int (i : Int))), some (.d (.str ⟨#[116]⟩)), v7]) ?_ ?_
        · wtm_at "q.run"
          refine br_b (fun hb => ?_) (fun hb => ?_)
          · have hb : t.binder = true := (in_fnlet t).symm.trans hb
            wtm_at "q.run"
            refine br_dec (fun h2 => ?_) (fun h2 => ?_)
            · have h2 : i = 2 := by omega
              subst h2
              rcases binder_fn hb with ⟨x, kx, bb, rfl⟩ | ⟨x, aa, bb, rfl⟩
              · wtm_at "q.run"
                refine od_catL (sz_n (by rw [List.length_map]; show Γ.length + 1 ≤ _; omega)) ?_
                wtm_at "q.run"
                exact ⟨rfl, by simp [ctxAt, ctxD, pairK]⟩
              · obtain ⟨k1, rfl⟩ : ∃ k1, ks = [k1] := by
                  have hl2 : ks.length = 1 := hl
                  rcases ks with _ | ⟨k1, _ | ⟨k2, ks⟩⟩
                  · simp at hl2
                  · exact ⟨k1, rfl⟩
                  · simp at hl2
                wtm_at "q.run"
                refine id_own (t := W.mkS _ p s ([k1].map kD)) rfl ?_
                wtm_at "q.run"
                refine od_catL (sz_n (by rw [List.length_map]; show Γ.length + 1 ≤ _; omega)) ?_
                wtm_at "q.run"
                exact ⟨rfl, by simp [ctxAt, ctxD, pairK]⟩
            · have hb3 : t.parts.length = 3 := by rcases binder_fn hb with ⟨x, kx, bb, rfl⟩ | ⟨x, aa, bb, rfl⟩ <;> rfl
              have h3 : i ≠ 2 := fun h => h2 (by omega)
              wtm_at "q.run"
              rw [ctxAt_lo h3]
              rw [hΓ (.inl (by omega))]
              exact ⟨rfl, rfl⟩
          · have hb : t.binder = false := (in_fnlet t).symm.trans hb
            wtm_at "q.run"
            rw [ctxAt_no hb]
            rw [hΓ (.inr hb)]
            exact ⟨rfl, rfl⟩
        · rintro s' δ' ⟨rfl, rfl⟩
          have hcA : CtxOk 60 (ctxAt Γ t i ks) ∧ (ctxAt Γ t i ks).length ≤ Γ.length + 1 := by
            cases hb : t.binder with
            | false => rw [ctxAt_no hb]; exact ⟨hctx, by omega⟩
            | true =>
              by_cases h2 : i = 2
              · subst h2
                rcases binder_fn hb with ⟨x, kx, bb, rfl⟩ | ⟨x, aa, bb, rfl⟩
                · exact ⟨hctx.snoc hnm.1 hlow.1 (by omega), by simp [ctxAt]⟩
                · rcases ks with _ | ⟨k1, ks⟩
                  · exact ⟨hctx, by simp [ctxAt]⟩
                  · exact ⟨hctx.snoc hnm.1 (hk k1 (by simp)) (by omega), by simp [ctxAt]⟩
              · rw [ctxAt_lo h2]; exact ⟨hctx, by omega⟩
          wtm_at "q.run"
          refine ed_fn C1 hr ?_
          wtm_at "q.run"
          refine id_trest rfl hr' ?_
          wtm_at "q.run"
          refine ⟨u, ctxAt Γ t i ks, rfl, ⟨by omega, nm_part hnm (by rw [List.getElem?_eq_getElem hi, e]), hcA.1, by omega, hlw.1⟩, ?_⟩
          simp only [goW] at hg
          cases e3 : walk (ctxAt Γ t i ks) u with
          | error pp =>
            have hpl := walk_len e3
            rw [e3] at hg
            wtm_at "q.run"
            refine od_catT (sz_n (by simp only [List.length_singleton, List.length_map]; omega)) ?_
            wtm_at "q.run"
            refine ⟨rfl, ?_⟩
            rw [walk_go hp, ← hg] at q
            exact q
          | ok kk =>
            have dk := low_ok (by decide) hlw.1 e3
            rw [e3] at hg
            wtm_at "q.run"
            refine sd_append np ?_
            wtm_at "q.nm"
            refine ⟨rfl, ?_⟩
            wtm_at "q.nm"
            have hl5 := parts_le t
            have hl6 := cnt_le t.parts i
            refine ⟨_, rfl, noL_kD _, by show (ks.map kD).length < _; rw [List.length_map]; omega, ?_⟩
            wtm_at "q.run"
            refine ⟨ks ++ [kk], ctxAt Γ t i ks, _, _, _, _, by simp only [Wd.mkS, List.map_append]; rfl, rfl, rfl, hg, fun k h => ?_, by rw [cnt_some hi e, List.length_append, hl]; rfl, fun h => ctxAt_of h, ok1_of hlw.2 e3, hi⟩
            rcases List.mem_append.mp h with h | h
            · exact hk k h
            · rw [List.mem_singleton.mp h]; exact dk
    · rintro st δ' ⟨ks, Γi, v2, v5, v6, v7, rfl, rfl, hv, hg, hk, hl, _, _, _⟩
      simp only [Bool.and_eq_true] at hv
      obtain ⟨⟨⟨hv2, hv5⟩, hv6⟩, hv7⟩ := hv
      rw [enum_len, List.drop_length] at hg
      have hg : goW Γ t 0 t.parts [] = .ok ks := hg.symm
      rw [walk_go hp, hg] at q
      wtm_at "q.run"
      refine br_b (fun hb => ?_) (fun hb => ?_)
      · have hb : t.binder = true := (in_fnlet t).symm.trans hb
        rcases binder_fn hb with ⟨x, kx, bb, rfl⟩ | ⟨x, aa, bb, rfl⟩
        · obtain ⟨r, rfl⟩ := fn_of hg
          wtm_at "q.run"
          refine id_own (t := W.mkS _ p s ([r].map kD)) rfl ?_
          wtm_at "q.run"
          exact ⟨rfl, q⟩
        · obtain ⟨r, r2, rfl⟩ := let_of hg
          wtm_at "q.run"
          refine id_own (t := W.mkS _ p s ([r, r2].map kD)) rfl ?_
          wtm_at "q.run"
          exact ⟨rfl, q⟩
      · have hb : t.binder = false := (in_fnlet t).symm.trans hb
        obtain ⟨r, hm, hf⟩ := made_of hp hb hg
        have q : Q s (.d (resD (finW t ks))) := q
        rw [hf] at q
        refine sds_nil ?_
        refine sds_freeze 3 np rfl (by simp only [List.all_cons, List.all_nil, hv2, hv5, hv6, hv7]; rfl) ?_
        wtm_at "q.run"
        refine ed_fn CM hr ?_
        wtm_at "q.run"
        refine ⟨t, ks, r, rfl, hm, hk, ?_⟩
        cases r with
        | ok k2 =>
          rw [show madeD (.ok k2) = kD k2 from rfl, kD_eq]
          wtm_at "q.run"
          rw [← kD_eq]
          exact ⟨⟨_, rfl, by show (noL (kD k2) && true) = true; rw [noL_kD]; rfl⟩, rfl, q⟩
        | error nn =>
          wtm_at "q.run"
          exact ⟨⟨_, rfl, rfl⟩, rfl, q⟩
theorem walk_ok (D : Hd K mg "_law_walk" s_law_walk p_law_walk []) (DC : Hd K mg "_law_walk_case" s_law_walk_case p_law_walk_case []) (B : Bi mg)
    (CS : ∀ k, Fc P w K mg base (k + 1) "_law_seen" [] F_seen) (CH : ∀ k, Fc P w K mg base (k + 1) "_law_shape" [] F_shape) (CM : ∀ k, Fc P w K mg base (k + 2) "_law_made_kind" [] F_made) : ∀ n, Fc P w K mg base (2 * n + 3) "_law_walk" [] (F_walk n)
  | 0 => by
    refine D.go sc_law_walk (fun W s xs Q h => ?_) (fun f cdv A outer s0 H0 E hr W s xs Q h => ?_)
    · obtain ⟨t, Γ, rfl, _⟩ := h
      rfl
    · obtain ⟨t, Γ, rfl, ok, q⟩ := h
      have := ok.dp
      have := t.dp_pos
      omega
  | n + 1 => by
    have C1 := walk_ok D DC B CS CH CM n
    have CC : Fc P w K mg base (2 * n + 4) "_law_walk_case" [] (F_walkC (n + 1)) := walkC_ok DC C1
    exact walkS_ok D B (C1.mono (by omega)) CC ((CS 0).mono (by omega)) ((CH 0).mono (by omega)) ((CM 0).mono (by omega))
end
end
end
section
/-! W9: _law_inner. -/
def Tm.inner : Tm → List (Tm × Str)
  | .name _ => [] | .unit => [] | .number _ => [] | .nil _ => []
  | .fn x _ b => [(b, x)] | .lete x a b => [(a, ""), (b, x)] | .case s x a y b => [(s, ""), (a, x), (b, y)]
  | .minus a => [(a, "")] | .first a => [(a, "")] | .second a => [(a, "")] | .left a _ => [(a, "")] | .right _ a => [(a, "")]
  | .call f a => [(f, ""), (a, "")] | .plus a b => [(a, ""), (b, "")] | .times a b => [(a, ""), (b, "")] | .is _ a b => [(a, ""), (b, "")] | .pair a b => [(a, ""), (b, "")] | .cons a b => [(a, ""), (b, "")]
  | .fold f a b => [(f, ""), (a, ""), (b, "")]
def innerD (p : Tm × Str) : PyData := .tuple [tD p.1, .str p.2]
theorem noL_tD : ∀ t : Tm, noL (tD t) = true
  | .name x => rfl | .unit => rfl | .number i => rfl
  | .nil k => by simp [tD, noL, noLs, noL_kD]
  | .fn x k b => by simp [tD, noL, noLs, noL_kD, noL_tD b]
  | .lete x a b => by simp [tD, noL, noLs, noL_tD a, noL_tD b]
  | .minus a => by simp [tD, noL, noLs, noL_tD a]
  | .first a => by simp [tD, noL, noLs, noL_tD a]
  | .second a => by simp [tD, noL, noLs, noL_tD a]
  | .left a k => by simp [tD, noL, noLs, noL_tD a, noL_kD]
  | .right k a => by simp [tD, noL, noLs, noL_tD a, noL_kD]
  | .call f a => by simp [tD, noL, noLs, noL_tD f, noL_tD a]
  | .plus a b => by simp [tD, noL, noLs, noL_tD a, noL_tD b]
  | .times a b => by simp [tD, noL, noLs, noL_tD a, noL_tD b]
  | .is s a b => by simp [tD, noL, noLs, noL_tD a, noL_tD b]
  | .pair a b => by simp [tD, noL, noLs, noL_tD a, noL_tD b]
  | .cons a b => by simp [tD, noL, noLs, noL_tD a, noL_tD b]
  | .case s x a y b => by simp [tD, noL, noLs, noL_tD s, noL_tD a, noL_tD b]
  | .fold f a b => by simp [tD, noL, noLs, noL_tD f, noL_tD a, noL_tD b]
theorem noL_rest {t : Tm} {j : Nat} {d : PyData} (h : t.rest[j]? = some d) : noL d = true := by
  have e : noL (tD t) = true := noL_tD t
  rw [tD_eq] at e
  have e : noLs t.rest = true := by simpa [noL, noLs] using e
  have : ∀ {ds : List PyData} {j : Nat} {d : PyData}, noLs ds = true → ds[j]? = some d → noL d = true := by
    intro ds
    induction ds with
    | nil => intro j d _ e; simp at e
    | cons x xs ih =>
      intro j d hn e
      simp only [noLs, Bool.and_eq_true] at hn
      cases j with
      | zero => simp at e; subst e; exact hn.1
      | succ j => exact ih hn.2 (by simpa using e)
  exact this e h
theorem cd_lenTm {X : Cx} {W : Wd} {s : W.St} {Q : W.St → Sv → Prop} {t : Tm} (q : Q s (.d (.int ((t.rest.length + 1 : Nat) : Int)))) : CD X W (.builtin "len") [.d (tD t)] s Q := by
  rw [tD_eq]
  exact cd_lenT q
/-- the places of the letter t -/
def spotF (t : Tm) : PyData → List PyData
  | .int i => if t.ltr[i.toNat]? = some 116 then [.int i] else []
  | _ => []
theorem range_mem {n : Nat} {d : PyData} (h : d ∈ rangeD n) : ∃ i : Nat, d = .int (i : Int) ∧ i < n := by
  unfold rangeD at h
  obtain ⟨i, hi, rfl⟩ := List.mem_map.mp h
  exact ⟨i, rfl, List.mem_range.mp hi⟩
theorem shape_len (t : Tm) : t.shape.length ≤ sizeLine := by
  have : t.shape.length ≤ 10 := by
    unfold Str.length
    rw [← Array.length_toList, shape_ltr]
    cases t <;> simp [Tm.ltr]
  rw [sizeLine_eq]
  omega
def partF (t : Tm) : PyData → List PyData
  | .int i => (t.rest[i.toNat]?.map fun d => PyData.tuple [d, .str ""]).toList
  | _ => []
theorem inner_of {t : Tm} (hc : t.word ≠ "case") (hb : t.binder = false) : ((rangeD t.rest.length).flatMap (spotF t)).flatMap (partF t) = t.inner.map innerD := by
  cases t <;> first | rfl | (exact absurd rfl hc) | (have h' : true = false := hb; cases h')
section
variable {P : Program} {w : World} {K : PySem.W.Frag} {mg : Str → Option Value} {base : Heap} {k : Nat}
def F_inner : FT := fun W s xs Q => ∃ t : Tm, xs = [.d (tD t)] ∧ Q s (.d (.list (t.inner.map innerD)))
section
local macro_rules | `(tactic| wtm_at "q.nm") => `(tactic| first
  | ((with_reducible refine ed_is "_law_term_here" ?_); refine ed_vi 0 ?_; wtm_at "q.slot")
  | ((with_reducible refine ed_is "_law_spots" ?_); refine ed_vi 1 ?_; wtm_at "q.slot")
  | ((with_reducible refine ed_is "_law_k" ?_); refine ed_vi 2 ?_; wtm_at "q.slot")
  | fail)
local macro_rules | `(tactic| wtm_at "q.set") => `(tactic| first
  | ((with_reducible refine sd_is "_law_term_here" ?_); refine sd_v 0 (by assumption) ?_)
  | ((with_reducible refine sd_is "_law_spots" ?_); refine sd_v 1 (by assumption) ?_)
  | ((with_reducible refine sd_is "_law_k" ?_); refine sd_v 2 (by assumption) ?_)
  | fail)
local macro_rules | `(tactic| wtm_at "q.gnm") => `(tactic| first
  | ((with_reducible refine gd_is "_law_term_here" ?_); refine gd_v 0 (by assumption) ?_)
  | ((with_reducible refine gd_is "_law_spots" ?_); refine gd_v 1 (by assumption) ?_)
  | ((with_reducible refine gd_is "_law_k" ?_); refine gd_v 2 (by assumption) ?_)
  | fail)
theorem inner_ok (D : Hd K mg "_law_inner" s_law_inner p_law_inner []) (B : Bi mg) (CH : Fc P w K mg base k "_law_shape" [] F_shape) : Fc P w K mg base (k + 1) "_law_inner" [] F_inner := by
  refine D.go sc_law_inner (fun W s xs Q h => ?_) (fun f cdv A outer s0 H0 E hr W s xs Q h => ?_)
  · obtain ⟨t, rfl, _⟩ := h
    rfl
  obtain ⟨t, rfl, q⟩ := h
  have nd := sc_law_inner.nd
  wtm_at "q.run"
  refine br_b (fun hb => ?_) (fun hb => ?_)
  · have hb : t.binder = true := (in_fnlet t).symm.trans hb
    rcases binder_fn hb with ⟨x, kx, bb, rfl⟩ | ⟨x, aa, bb, rfl⟩
    · wtm_at "q.run"
      exact q
    · wtm_at "q.run"
      exact q
  · have hb : t.binder = false := (in_fnlet t).symm.trans hb
    wtm_at "q.run"
    refine br_dec (fun hc => ?_) (fun hc => ?_)
    · cases t <;> first | (exact absurd hc (by simp only [Tm.word]; decide +kernel)) | skip
      wtm_at "q.run"
      exact q
    · refine sds_nil ?_
      refine sds_cons ?_
      refine sd_cl1 1 2 nd ?_
      refine jd_range rfl B.range_ ?_
      wtm_at "q.run"
      refine cd_lenTm ?_
      wtm_at "q.run"
      have e1 : (((t.rest.length + 1 : Nat) : Int) - 1).toNat = t.rest.length := by omega
      have hl5 := parts_le t
      have hl6 := rest_len t
      refine ⟨by omega, by omega, ?_⟩
      rw [e1]
      refine ⟨sz_n (by unfold rangeD; rw [List.length_map, List.length_range]; omega), ?_⟩
      refine cl1_map (spotF t) _ _ _ (fun d hd acc Nx hN p => ?_) ?_
      · obtain ⟨i, rfl, hi⟩ := range_mem hd
        have hi2 : i < t.ltr.length := by rw [ltr_len]; omega
        wtm_at "q.run"
        refine ed_fn CH hr ?_
        wtm_at "q.run"
        refine id_str (shape_len t) (atI_nat (j := i) (by rw [shape_ltr]; exact List.getElem?_eq_getElem hi2)) ?_
        have hcok := ltr_ok t _ (List.getElem_mem hi2)
        wtm_at "q.run"
        refine br_dec (fun h => ?_) (fun h => ?_)
        · intro p'
          wtm_at "q.run"
          have e2 : t.ltr[i]? = some 116 := by rw [List.getElem?_eq_getElem hi2, (sgn_t _).mp h]
          refine ⟨rfl, ?_⟩
          have e3 : spotF t (.int (i : Int)) = [.int (i : Int)] := by
            show (if t.ltr[i]? = some 116 then _ else _) = _
            rw [if_pos e2]
          rw [e3] at hN
          exact hN
        · have e2 : ¬ t.ltr[i]? = some 116 := fun h2 => by
            rw [List.getElem?_eq_getElem hi2] at h2
            exact h ((sgn_t _).mpr (Option.some.inj h2))
          have e3 : spotF t (.int (i : Int)) = [] := by
            show (if t.ltr[i]? = some 116 then _ else _) = _
            rw [if_neg e2]
          rw [e3, List.append_nil] at hN
          exact hN
      rw [List.nil_append]
      wtm_at "q.run"
      refine ed_cl1 2 nd ?_
      refine jd_list ?_
      wtm_at "q.run"
      have hspot : ∀ d ∈ (rangeD t.rest.length).flatMap (spotF t), ∃ i : Nat, d = .int (i : Int) ∧ i < t.rest.length := fun d hd => by
        obtain ⟨e, he, hd⟩ := List.mem_flatMap.mp hd
        obtain ⟨i, rfl, hi⟩ := range_mem he
        have hd : d ∈ (if t.ltr[i]? = some 116 then [PyData.int (i : Int)] else []) := hd
        split at hd
        · exact ⟨i, List.mem_singleton.mp hd, hi⟩
        · cases hd
      refine ⟨sz_n (by
        cases t <;> exact Nat.le_of_ble_eq_true rfl), ?_⟩
      refine cl1_map (partF t) _ _ _ (fun d hd acc Nx hN p => ?_) ?_
      · obtain ⟨i, rfl, hi⟩ := hspot d hd
        wtm_at "q.run"
        intro p'
        wtm_at "q.run"
        have hg : t.rest[i]? = some t.rest[i] := List.getElem?_eq_getElem hi
        refine id_trest (j := i) (by omega) hg ?_
        wtm_at "q.run"
        refine ⟨by simp [noL, noLs, noL_rest hg], ?_⟩
        have e3 : partF t (.int (i : Int)) = [.tuple [t.rest[i], .str ""]] := by
          show (t.rest[i]?.map fun d => PyData.tuple [d, .str ""]).toList = _
          rw [hg]
          rfl
        rw [e3] at hN
        exact hN
      rw [List.nil_append, inner_of hc hb]
      exact q
end
end
end
section
/-! W10: _law_sizes, _law_is_small. -/
def Tm.sz : Tm → Nat
  | .name _ => 1 | .unit => 1 | .number _ => 1 | .nil _ => 1
  | .fn _ _ b => 1 + b.sz | .minus a => 1 + a.sz | .first a => 1 + a.sz | .second a => 1 + a.sz | .left a _ => 1 + a.sz | .right _ a => 1 + a.sz
  | .call f a => 1 + (f.sz + a.sz) | .lete _ a b => 1 + (a.sz + b.sz) | .plus a b => 1 + (a.sz + b.sz) | .times a b => 1 + (a.sz + b.sz) | .is _ a b => 1 + (a.sz + b.sz) | .pair a b => 1 + (a.sz + b.sz) | .cons a b => 1 + (a.sz + b.sz)
  | .case s _ a _ b => 1 + (s.sz + (a.sz + b.sz)) | .fold f a b => 1 + (f.sz + (a.sz + b.sz))
/-- the deepest kind that is written in it -/
def Tm.kd : Tm → Nat
  | .name _ => 0 | .unit => 0 | .number _ => 0 | .nil k => k.dp
  | .fn _ k b => max k.dp b.kd | .minus a => a.kd | .first a => a.kd | .second a => a.kd | .left a k => max k.dp a.kd | .right k a => max k.dp a.kd
  | .call f a => max f.kd a.kd | .lete _ a b => max a.kd b.kd | .plus a b => max a.kd b.kd | .times a b => max a.kd b.kd | .is _ a b => max a.kd b.kd | .pair a b => max a.kd b.kd | .cons a b => max a.kd b.kd
  | .case s _ a _ b => max s.kd (max a.kd b.kd) | .fold f a b => max f.kd (max a.kd b.kd)
def Tm.ownC : Tm → Nat
  | .call _ _ => 1 | .fold _ _ _ => 1 | .times _ _ => 1 | _ => 0
def Tm.oft : Tm → Nat
  | .name _ => 0 | .unit => 0 | .number _ => 0 | .nil _ => 0
  | .fn _ _ b => b.oft | .minus a => a.oft | .first a => a.oft | .second a => a.oft | .left a _ => a.oft | .right _ a => a.oft
  | .call f a => 1 + (f.oft + a.oft) | .lete _ a b => a.oft + b.oft | .plus a b => a.oft + b.oft | .times a b => 1 + (a.oft + b.oft) | .is _ a b => a.oft + b.oft | .pair a b => a.oft + b.oft | .cons a b => a.oft + b.oft
  | .case s _ a _ b => s.oft + (a.oft + b.oft) | .fold f a b => 1 + (f.oft + (a.oft + b.oft))
def szD (t : Tm) : PyData := .tuple [.int t.dp, .int t.sz, .int t.kd, .int t.oft]
theorem in_ownC (t : Tm) : ([PyData.str "call", .str "fold", .str "times"].any fun z => PyData.eqv z (.str t.word)) = (t.ownC == 1) := by cases t <;> kernel_rfl
theorem ed_restT {X : Cx} {W : Wd} {s : W.St} {δ : De} {Q : W.St → Sv → Prop} {a lo : Expr} {p2 pos : Pos} {t : Tm} (h : ED X W a s δ fun s1 x => x = .d (tD t) ∧ PD X W (some lo) s1 δ fun s2 l => l = some 1 ∧ Q s2 (.d (.tuple t.rest))) : ED X W (.Subscript a (.Slice (some lo) none none p2) pos) s δ Q :=
  ed_sliceT (ed_imp h fun s1 x q => by
    obtain ⟨rfl, q⟩ := q
    refine .mk fun σ H R hI hS hR => q σ H R hI hS fun o H' s' m i q => hR o H' s' m i ?_
    obtain ⟨rfl, q⟩ := q
    refine pd_none ⟨_, by rw [tD_eq], ?_⟩
    rw [cut1]
    exact q)
def zipL (t : Tm) : List (Nat × PyData) := t.ltr.zip t.rest
def zmk (p : Nat × PyData) : PyData := .tuple [.str ⟨#[p.1]⟩, p.2]
theorem zip_shape (t : Tm) : zipD (signs t.shape) t.rest = (zipL t).map zmk := by
  unfold signs zipL
  rw [shape_ltr]
  cases t <;> rfl
theorem zip_k {t : Tm} {p : Nat × PyData} (h : p ∈ zipL t) : PyData.strOk ⟨#[p.1]⟩ = true ∧ (p.1 = 107 → ∃ k, p.2 = kD k ∧ k.dp ≤ t.kd) := by
  refine ⟨ltr_ok t _ (List.of_mem_zip h).1, fun h107 => ?_⟩
  obtain ⟨c, d⟩ := p
  simp only at h107
  subst h107
  cases t <;> simp [zipL, Tm.ltr, Tm.rest] at h
  · exact ⟨_, h, by simp only [Tm.kd]; omega⟩
  · exact ⟨_, h, by simp only [Tm.kd]; omega⟩
  · exact ⟨_, h, by simp only [Tm.kd]; omega⟩
  · exact ⟨_, h, by simp only [Tm.kd]; omega⟩
def kF (p : Nat × PyData) : List PyData := if p.1 = 107 then [.int p.2.depth] else []
theorem sgn_k (c : Nat) : ((⟨#[c]⟩ : Str) = "k") ↔ c = 107 := by
  have e : ("k" : Str) = ⟨#[107]⟩ := by decide +kernel
  rw [e]
  simp
theorem inner_all (t : Tm) : ∀ p ∈ t.inner, p.1.dp < t.dp ∧ p.1.kd ≤ t.kd := by cases t <;> simp [Tm.inner, Tm.dp, Tm.kd] <;> omega
theorem inner_len (t : Tm) : t.inner.length ≤ 3 := by cases t <;> simp [Tm.inner]
section
variable {P : Program} {w : World} {K : PySem.W.Frag} {mg : Str → Option Value} {base : Heap} {k : Nat}
def F_sizes (n : Nat) : FT := fun W s xs Q => ∃ t : Tm, xs = [.d (tD t)] ∧ t.dp ≤ n ∧ t.kd ≤ 60 ∧ Q s (.d (szD t))
theorem maxL_nat {X : Cx} {W : Wd} {s : W.St} {Q : W.St → Sv → Prop} {ds : List PyData} (ns : List Nat) (e : ds = ns.map fun n : Nat => PyData.int (n : Int)) (h0 : 0 < ns.length) (m : Nat) (hm : m ∈ ns) (hy : ∀ y ∈ ns, y ≤ m) (q : Q s (.d (.int (m : Int)))) (hc : X.calm = true := by rfl) : CD X W (.builtin "max") [.d (.list ds)] s Q := by
  refine cd_maxI (ns.map fun n : Nat => (n : Int)) (by rw [e, List.map_map]; rfl) (by rw [List.length_map]; exact h0) (m : Int) (List.mem_map.mpr ⟨m, hm, rfl⟩) (fun y h => ?_) q hc
  obtain ⟨z, hz, rfl⟩ := List.mem_map.mp h
  exact Int.ofNat_le.mpr (hy z hz)
theorem sumL_nat {X : Cx} {W : Wd} {s : W.St} {Q : W.St → Sv → Prop} {ds : List PyData} (ns : List Nat) (e : ds = ns.map fun n : Nat => PyData.int (n : Int)) (q : Q s (.d (.int (ns.sum : Nat)))) (hc : X.calm = true := by rfl) : CD X W (.builtin "sum") [.d (.list ds)] s Q := by
  subst e
  have : (ns.map fun n : Nat => PyData.int (n : Int)) = (ns.map fun n : Nat => (n : Int)).map PyData.int := by rw [List.map_map]; rfl
  rw [this]
  refine cd_sum ?_ hc
  have e2 : (ns.map fun n : Nat => (n : Int)).sum = ((ns.sum : Nat) : Int) := by
    clear q this
    induction ns with
    | nil => rfl
    | cons n ns ih => simp [ih]
  rw [e2]
  exact q
def colF (j : Nat) : PyData → List PyData
  | .tuple ds => (ds[j]?).toList
  | _ => []
theorem col_of (t : Tm) (j : Nat) (g : Tm → Nat) (h : ∀ u, colF j (szD u) = [.int (g u)]) : (t.inner.map fun p => szD p.1).flatMap (colF j) = (t.inner.map fun p => g p.1).map fun n : Nat => PyData.int (n : Int) := by
  induction t.inner with
  | nil => rfl
  | cons p l ih => rw [List.map_cons, List.flatMap_cons, ih, h]; rfl
def kkL : Tm → List Nat
  | .fn _ k _ => [k.dp] | .nil k => [k.dp] | .left _ k => [k.dp] | .right k _ => [k.dp] | _ => []
theorem kk_of (t : Tm) : (zipL t).flatMap kF = (kkL t).map fun n : Nat => PyData.int (n : Int) := by
  cases t <;> simp [zipL, Tm.ltr, Tm.rest, kF, kkL, kD_depth]
section
local macro_rules | `(tactic| wtm_at "q.nm") => `(tactic| first
  | ((with_reducible refine ed_is "_law_term_here" ?_); refine ed_vi 0 ?_; wtm_at "q.slot")
  | ((with_reducible refine ed_is "_law_some" ?_); refine ed_vi 1 ?_; wtm_at "q.slot")
  | ((with_reducible refine ed_is "_law_kinds" ?_); refine ed_vi 2 ?_; wtm_at "q.slot")
  | ((with_reducible refine ed_is "_law_own" ?_); refine ed_vi 3 ?_; wtm_at "q.slot")
  | ((with_reducible refine ed_is "_law_deep_here" ?_); refine ed_vi 4 ?_; wtm_at "q.slot")
  | ((with_reducible refine ed_is "_law_deepest" ?_); refine ed_vi 5 ?_; wtm_at "q.slot")
  | ((with_reducible refine ed_is "_law_each" ?_); refine ed_vi 6 ?_; wtm_at "q.slot")
  | ((with_reducible refine ed_is "_law_bound_here" ?_); refine ed_vi 7 ?_; wtm_at "q.slot")
  | ((with_reducible refine ed_is "_law_sort" ?_); refine ed_vi 8 ?_; wtm_at "q.slot")
  | fail)
local macro_rules | `(tactic| wtm_at "q.set") => `(tactic| first
  | ((with_reducible refine sd_is "_law_term_here" ?_); refine sd_v 0 (by assumption) ?_)
  | ((with_reducible refine sd_is "_law_some" ?_); refine sd_v 1 (by assumption) ?_)
  | ((with_reducible refine sd_is "_law_kinds" ?_); refine sd_v 2 (by assumption) ?_)
  | ((with_reducible refine sd_is "_law_own" ?_); refine sd_v 3 (by assumption) ?_)
  | ((with_reducible refine sd_is "_law_deep_here" ?_); refine sd_v 4 (by assumption) ?_)
  | ((with_reducible refine sd_is "_law_deepest" ?_); refine sd_v 5 (by assumption) ?_)
  | ((with_reducible refine sd_is "_law_each" ?_); refine sd_v 6 (by assumption) ?_)
  | ((with_reducible refine sd_is "_law_bound_here" ?_); refine sd_v 7 (by assumption) ?_)
  | ((with_reducible refine sd_is "_law_sort" ?_); refine sd_v 8 (by assumption) ?_)
  | fail)
local macro_rules | `(tactic| wtm_at "q.gnm") => `(tactic| first
  | ((with_reducible refine gd_is "_law_term_here" ?_); refine gd_v 0 (by assumption) ?_)
  | ((with_reducible refine gd_is "_law_some" ?_); refine gd_v 1 (by assumption) ?_)
  | ((with_reducible refine gd_is "_law_kinds" ?_); refine gd_v 2 (by assumption) ?_)
  | ((with_reducible refine gd_is "_law_own" ?_); refine gd_v 3 (by assumption) ?_)
  | ((with_reducible refine gd_is "_law_deep_here" ?_); refine gd_v 4 (by assumption) ?_)
  | ((with_reducible refine gd_is "_law_deepest" ?_); refine gd_v 5 (by assumption) ?_)
  | ((with_reducible refine gd_is "_law_each" ?_); refine gd_v 6 (by assumption) ?_)
  | ((with_reducible refine gd_is "_law_bound_here" ?_); refine gd_v 7 (by assumption) ?_)
  | ((with_reducible refine gd_is "_law_sort" ?_); refine gd_v 8 (by assumption) ?_)
  | fail)
theorem sizes_ok (D : Hd K mg "_law_sizes" s_law_sizes p_law_sizes []) (B : Bi mg) (CH : ∀ k, Fc P w K mg base (k + 1) "_law_shape" [] F_shape) (CI : ∀ k, Fc P w K mg base (k + 2) "_law_inner" [] F_inner) (CD' : Fc P w K mg base 61 "_law_deep" [] (F_deep 60)) : ∀ n, Fc P w K mg base (n + 62) "_law_sizes" [] (F_sizes n)
  | 0 => D.go sc_law_sizes (fun W s xs Q h => by obtain ⟨t, rfl, _⟩ := h; rfl) (fun f cdv A outer s0 H0 E hr W s xs Q h => by
    obtain ⟨t, rfl, hk, q⟩ := h
    have := t.dp_pos
    omega)
  | n + 1 => by
    have C1 := sizes_ok D B CH CI CD' n
    refine D.go sc_law_sizes (fun W s xs Q h => ?_) (fun f cdv A outer s0 H0 E hr W s xs Q h => ?_)
    · obtain ⟨t, rfl, _⟩ := h
      rfl
    obtain ⟨t, rfl, hdp, hkd, q⟩ := h
    have nd := sc_law_sizes.nd
    have il := inner_len t
    refine sds_cons ?_
    refine sd_cl2 1 6 7 nd ?_
    refine jd_list ?_
    refine ed_fn ((CI 0).mono (Nat.le_add_left 2 _) : Fc P w K mg base (n + 62) _ _ _) hr ?_
    wtm_at "q.run"
    refine ⟨sz_n (by rw [List.length_map]; omega), ?_⟩
    refine cl2_map innerD (fun p => tD p.1) (fun p => .str p.2) (fun _ => rfl) (fun p => [szD p.1]) _ _ _ (fun a ha acc Nx hN p => ?_) ?_
    · have ia := inner_all t a ha
      wtm_at "q.run"
      intro p'
      refine ed_fn C1 hr ?_
      wtm_at "q.run"
      exact ⟨by omega, by omega, _, rfl, rfl, hN⟩
    rw [List.nil_append]
    refine sds_cons ?_
    refine sd_cl2 2 8 6 nd ?_
    refine jd_zipS rfl B.zip_ ?_
    refine ed_fn ((CH 0).mono (by omega) : Fc P w K mg base (n + 62) _ _ _) hr ?_
    wtm_at "q.run"
    refine ed_restT (t := t) ?_
    wtm_at "q.nm"
    refine ⟨rfl, pd_some ?_⟩
    wtm_at "q.run"
    refine ⟨rfl, _, _, rfl, rfl, ?_⟩
    rw [zip_shape]
    refine ⟨sz_n (by cases t <;> exact Nat.le_of_ble_eq_true rfl), ?_⟩
    refine cl2_map zmk (fun p => .str ⟨#[p.1]⟩) (fun p => p.2) (fun _ => rfl) kF _ _ _ (fun a ha acc Nx hN p => ?_) ?_
    · obtain ⟨hs, hk⟩ := zip_k ha
      wtm_at "q.run"
      refine br_dec (fun h => ?_) (fun h => ?_)
      · have h7 := (sgn_k _).mp h
        obtain ⟨kk, e1, e2⟩ := hk h7
        have e3 : kF a = [.int kk.dp] := by
          unfold kF
          rw [if_pos h7, e1, kD_depth]
        rw [e3] at hN
        intro p'
        rw [e1]
        refine ed_fn (CD'.mono (by omega) : Fc P w K mg base (n + 62) _ _ _) hr ?_
        wtm_at "q.run"
        exact ⟨by omega, _, rfl, rfl, hN⟩
      · have h7 : ¬ a.1 = 107 := fun z => h ((sgn_k _).mpr z)
        have e3 : kF a = [] := by
          unfold kF
          rw [if_neg h7]
        rw [e3, List.append_nil] at hN
        exact hN
    rw [List.nil_append]
    have es : (t.inner.flatMap fun p => [szD p.1]) = t.inner.map fun p => szD p.1 := by
      induction t.inner with
      | nil => rfl
      | cons p l ih => rw [List.flatMap_cons, ih]; rfl
    rw [es]
    refine sds_cut (fun s' δ' => s' = s ∧ δ' = [some (.d (tD t)), some (.d (.list (t.inner.map fun p => szD p.1))), some (.d (.list ((zipL t).flatMap kF))), some (.d (.int t.ownC)), none, none, none, none, none]) ?_ ?_
    · wtm_at "q.run"
      refine br_b (fun ho => ?_) (fun ho => ?_)
      · have ho : (t.ownC == 1) = true := (in_ownC t).symm.trans ho
        have ho : t.ownC = 1 := by simpa using ho
        wtm_at "q.run"
        exact ⟨rfl, by rw [ho]; rfl⟩
      · have ho : (t.ownC == 1) = false := (in_ownC t).symm.trans ho
        have ho : t.ownC = 0 := by
          cases t <;> first | rfl | cases ho
        wtm_at "q.run"
        exact ⟨rfl, by rw [ho]; rfl⟩
    rintro s' δ' ⟨rfl, rfl⟩
    have col : ∀ (δ : De) (i : Nat) (g : Tm → Nat), True := fun _ _ _ => trivial
    refine sds_cons ?_
    refine sd_par 4 5 nd rfl rfl (by decide) (locB_ok (by kernel_rfl)) (locB_ok (by kernel_rfl)) ?_ rfl
    wtm_at "q.run"
    refine ed_cl1 6 nd ?_
    refine jd_list ?_
    wtm_at "q.run"
    refine ⟨sz_n (by rw [List.length_map]; omega), ?_⟩
    refine cl1_map (colF 0) _ _ _ (fun d hd acc Nx hN p => ?_) ?_
    · obtain ⟨u, hu, rfl⟩ := List.mem_map.mp hd
      wtm_at "q.run"
      intro p'
      wtm_at "q.run"
      exact ⟨rfl, hN⟩
    rw [List.nil_append]
    rw [col_of t 0 Tm.dp fun _ => rfl]
    refine od_catL (sz_n (by rw [List.length_map, List.length_map]; show 1 + _ ≤ _; omega)) ?_
    wtm_at "q.run"
    refine maxL_nat (0 :: t.inner.map fun p => p.1.dp) rfl (by simp) (t.dp - 1) (by cases t <;> simp [Tm.inner, Tm.dp] <;> omega) (by cases t <;> simp [Tm.inner, Tm.dp] <;> omega) ?_
    wtm_at "q.run"
    rw [kk_of]
    have kl : (kkL t).length ≤ 1 := by cases t <;> simp [kkL]
    refine od_catL (sz_n (by rw [List.length_map]; show 1 + _ ≤ _; omega)) ?_
    refine ed_cl1 6 nd ?_
    refine jd_list ?_
    wtm_at "q.run"
    refine ⟨sz_n (by rw [List.length_map]; omega), ?_⟩
    refine cl1_map (colF 2) _ _ _ (fun d hd acc Nx hN p => ?_) ?_
    · obtain ⟨u, hu, rfl⟩ := List.mem_map.mp hd
      wtm_at "q.run"
      intro p'
      wtm_at "q.run"
      exact ⟨rfl, hN⟩
    rw [List.nil_append]
    rw [col_of t 2 Tm.kd fun _ => rfl]
    refine od_catL (sz_n (by simp only [List.length_append, List.length_map, List.length_cons, List.length_nil]; omega)) ?_
    wtm_at "q.run"
    refine maxL_nat (0 :: (kkL t ++ t.inner.map fun p => p.1.kd)) (by simp) (by simp) t.kd (by cases t <;> simp [Tm.inner, Tm.kd, kkL] <;> omega) (by cases t <;> simp [Tm.inner, Tm.kd, kkL] <;> omega) ?_
    wtm_at "q.run"
    refine ed_cl1 6 nd ?_
    refine jd_list ?_
    wtm_at "q.run"
    refine ⟨sz_n (by rw [List.length_map]; omega), ?_⟩
    refine cl1_map (colF 1) _ _ _ (fun d hd acc Nx hN p => ?_) ?_
    · obtain ⟨u, hu, rfl⟩ := List.mem_map.mp hd
      wtm_at "q.run"
      intro p'
      wtm_at "q.run"
      exact ⟨rfl, hN⟩
    rw [List.nil_append]
    rw [col_of t 1 Tm.sz fun _ => rfl]
    wtm_at "q.run"
    refine sumL_nat _ rfl ?_
    wtm_at "q.run"
    refine ed_cl1 6 nd ?_
    refine jd_list ?_
    wtm_at "q.run"
    refine ⟨sz_n (by rw [List.length_map]; omega), ?_⟩
    refine cl1_map (colF 3) _ _ _ (fun d hd acc Nx hN p => ?_) ?_
    · obtain ⟨u, hu, rfl⟩ := List.mem_map.mp hd
      wtm_at "q.run"
      intro p'
      wtm_at "q.run"
      exact ⟨rfl, hN⟩
    rw [List.nil_append]
    rw [col_of t 3 Tm.oft fun _ => rfl]
    wtm_at "q.run"
    refine sumL_nat _ rfl ?_
    wtm_at "q.run"
    have f1 : (1 : Int) + ((t.dp - 1 : Nat) : Int) = t.dp := by have := t.dp_pos; omega
    have f2 : (1 : Int) + (((t.inner.map fun p => p.1.sz).sum : Nat) : Int) = t.sz := by cases t <;> simp [Tm.inner, Tm.sz] <;> omega
    have f3 : ((t.ownC : Nat) : Int) + (((t.inner.map fun p => p.1.oft).sum : Nat) : Int) = t.oft := by cases t <;> simp [Tm.inner, Tm.oft, Tm.ownC] <;> omega
    rw [f1, f2, f3]
    exact q
end
def F_small : FT := fun W s xs Q => ∃ (t : Tm) (m : Int), xs = [.d (tD t), .d (.int m)] ∧ t.dp ≤ 100 ∧ t.kd ≤ 60 ∧ ∀ b : Bool, (b = true → t.dp < 13 ∧ t.sz < 121 ∧ t.kd < 7) → Q s (.d (.bool b))
section
local macro_rules | `(tactic| wtm_at "q.nm") => `(tactic| first
  | ((with_reducible refine ed_is "_law_term_here" ?_); refine ed_vi 0 ?_; wtm_at "q.slot")
  | ((with_reducible refine ed_is "_law_most" ?_); refine ed_vi 1 ?_; wtm_at "q.slot")
  | ((with_reducible refine ed_is "_law_deep_here" ?_); refine ed_vi 2 ?_; wtm_at "q.slot")
  | ((with_reducible refine ed_is "_law_many" ?_); refine ed_vi 3 ?_; wtm_at "q.slot")
  | ((with_reducible refine ed_is "_law_deepest" ?_); refine ed_vi 4 ?_; wtm_at "q.slot")
  | ((with_reducible refine ed_is "_law_often" ?_); refine ed_vi 5 ?_; wtm_at "q.slot")
  | fail)
local macro_rules | `(tactic| wtm_at "q.set") => `(tactic| first
  | ((with_reducible refine sd_is "_law_term_here" ?_); refine sd_v 0 (by assumption) ?_)
  | ((with_reducible refine sd_is "_law_most" ?_); refine sd_v 1 (by assumption) ?_)
  | ((with_reducible refine sd_is "_law_deep_here" ?_); refine sd_v 2 (by assumption) ?_)
  | ((with_reducible refine sd_is "_law_many" ?_); refine sd_v 3 (by assumption) ?_)
  | ((with_reducible refine sd_is "_law_deepest" ?_); refine sd_v 4 (by assumption) ?_)
  | ((with_reducible refine sd_is "_law_often" ?_); refine sd_v 5 (by assumption) ?_)
  | fail)
local macro_rules | `(tactic| wtm_at "q.gnm") => `(tactic| first
  | ((with_reducible refine gd_is "_law_term_here" ?_); refine gd_v 0 (by assumption) ?_)
  | ((with_reducible refine gd_is "_law_most" ?_); refine gd_v 1 (by assumption) ?_)
  | ((with_reducible refine gd_is "_law_deep_here" ?_); refine gd_v 2 (by assumption) ?_)
  | ((with_reducible refine gd_is "_law_many" ?_); refine gd_v 3 (by assumption) ?_)
  | ((with_reducible refine gd_is "_law_deepest" ?_); refine gd_v 4 (by assumption) ?_)
  | ((with_reducible refine gd_is "_law_often" ?_); refine gd_v 5 (by assumption) ?_)
  | fail)
theorem small_ok (D : Hd K mg "_law_is_small" s_law_is_small p_law_is_small []) (CZ : Fc P w K mg base k "_law_sizes" [] (F_sizes 100)) : Fc P w K mg base (k + 1) "_law_is_small" [] F_small := by
  refine D.go sc_law_is_small (fun W s xs Q h => ?_) (fun f cdv A outer s0 H0 E hr W s xs Q h => ?_)
  · obtain ⟨t, m, rfl, _⟩ := h
    rfl
  obtain ⟨t, m, rfl, h1, h2, q⟩ := h
  have nd := sc_law_is_small.nd
  wtm_at "q.run"
  refine ed_fn CZ hr ?_
  wtm_at "q.run"
  refine ⟨h1, h2, ?_⟩
  unfold szD
  wtm_at "q.run"
  refine br_dec (fun a1 => ?_) (fun a1 => ?_)
  · wtm_at "q.run"
    refine br_dec (fun a2 => ?_) (fun a2 => ?_)
    · wtm_at "q.run"
      refine br_dec (fun a3 => ?_) (fun a3 => ?_)
      · wtm_at "q.run"
        exact q _ fun _ => ⟨by omega, by omega, by omega⟩
      · exact q _ fun h => by cases h
    · exact q _ fun h => by cases h
  · exact q _ fun h => by cases h
end
end
end
section
/-! W11: _law_free. -/
def noN (x : Str) (l : List Str) : List Str := l.filter fun y => decide (y ≠ x)
theorem noN_le (x : Str) (l : List Str) : (noN x l).length ≤ l.length := List.length_filter_le _ l
def Tm.free : Tm → List Str
  | .name x => [x] | .unit => [] | .number _ => [] | .nil _ => []
  | .fn x _ b => noN x b.free | .lete x a b => noN "" a.free ++ noN x b.free
  | .minus a => noN "" a.free | .first a => noN "" a.free | .second a => noN "" a.free | .left a _ => noN "" a.free | .right _ a => noN "" a.free
  | .call f a => noN "" f.free ++ noN "" a.free | .plus f a => noN "" f.free ++ noN "" a.free | .times f a => noN "" f.free ++ noN "" a.free
  | .is _ f a => noN "" f.free ++ noN "" a.free | .pair f a => noN "" f.free ++ noN "" a.free | .cons f a => noN "" f.free ++ noN "" a.free
  | .case s x a y b => noN "" s.free ++ (noN x a.free ++ noN y b.free)
  | .fold f a b => noN "" f.free ++ (noN "" a.free ++ noN "" b.free)
def fr1 (p : Tm × Str) : List Str := noN p.2 p.1.free
theorem free_inner {t : Tm} (h : ¬ t.word = "name") : t.free = t.inner.flatMap fr1 := by
  cases t <;> first | (exact absurd rfl h) | simp [Tm.free, Tm.inner, fr1]
theorem fil_le (l : List Str) (p : Str → Bool) : (l.filter p).length ≤ l.length := List.length_filter_le p l
theorem free_len : ∀ t : Tm, t.free.length ≤ t.sz := by
  intro t
  have f1 := fil_le
  induction t <;> simp only [Tm.free, Tm.sz, List.length_append, List.length_nil, List.length_singleton] <;> (try omega)
  case fn x k b ih => have := noN_le x b.free; omega
  case minus a ih => have := noN_le "" a.free; omega
  case first a ih => have := noN_le "" a.free; omega
  case second a ih => have := noN_le "" a.free; omega
  case left a k ih => have := noN_le "" a.free; omega
  case right k a ih => have := noN_le "" a.free; omega
  case lete x a b ih1 ih2 => have := noN_le "" a.free; have := noN_le x b.free; omega
  case call a b ih1 ih2 => have := noN_le "" a.free; have := noN_le "" b.free; omega
  case plus a b ih1 ih2 => have := noN_le "" a.free; have := noN_le "" b.free; omega
  case times a b ih1 ih2 => have := noN_le "" a.free; have := noN_le "" b.free; omega
  case is s a b ih1 ih2 => have := noN_le "" a.free; have := noN_le "" b.free; omega
  case pair a b ih1 ih2 => have := noN_le "" a.free; have := noN_le "" b.free; omega
  case cons a b ih1 ih2 => have := noN_le "" a.free; have := noN_le "" b.free; omega
  case case s x a y b ih1 ih2 ih3 => have := noN_le "" s.free; have := noN_le x a.free; have := noN_le y b.free; omega
  case fold f a b ih1 ih2 ih3 => have := noN_le "" f.free; have := noN_le "" a.free; have := noN_le "" b.free; omega
theorem inner_nm (t : Tm) (h : NmOk t) : ∀ p ∈ t.inner, NmOk p.1 ∧ PyData.strOk p.2 = true := by
  have e : PyData.strOk "" = true := by decide +kernel
  cases t <;> simp [Tm.inner, NmOk, e] at h ⊢ <;> simp [h]
theorem inner_sz (t : Tm) : ∀ p ∈ t.inner, p.1.sz ≤ t.sz := by cases t <;> simp [Tm.inner, Tm.sz] <;> omega
theorem free_nm : ∀ (n : Nat) (t : Tm), t.dp ≤ n → NmOk t → ∀ x ∈ t.free, PyData.strOk x = true
  | 0, t, h, _ => by have := t.dp_pos; omega
  | n + 1, t, h, hn => by
    by_cases hw : t.word = "name"
    · cases t <;> first | (exact absurd hw (by simp only [Tm.word]; decide +kernel)) | skip
      intro x hx
      rw [List.mem_singleton.mp hx]
      exact hn
    · rw [free_inner hw]
      intro x hx
      obtain ⟨p, hp, hx⟩ := List.mem_flatMap.mp hx
      have i1 := inner_all t p hp
      exact free_nm n p.1 (by omega) (inner_nm t hn p hp).1 x (List.mem_filter.mp hx).1
section
variable {P : Program} {w : World} {K : PySem.W.Frag} {mg : Str → Option Value} {base : Heap} {k : Nat}
def F_free (n : Nat) : FT := fun W s xs Q => ∃ t : Tm, xs = [.d (tD t)] ∧ t.dp ≤ n ∧ NmOk t ∧ t.sz ≤ 100000 ∧ Q s (.d (.list (t.free.map .str)))
def neF (x : Str) : PyData → List PyData
  | .str y => if y ≠ x then [.str y] else []
  | _ => []
theorem ne_of (x : Str) (l : List Str) : (l.map PyData.str).flatMap (neF x) = (noN x l).map .str := by
  induction l with
  | nil => rfl
  | cons y l ih =>
    rw [List.map_cons, List.flatMap_cons, ih]
    by_cases h : y = x
    · simp [neF, noN, h]
    · simp [neF, noN, h]
section
local macro_rules | `(tactic| wtm_at "q.nm") => `(tactic| first
  | ((with_reducible refine ed_is "_law_term_here" ?_); refine ed_vi 0 ?_; wtm_at "q.slot")
  | ((with_reducible refine ed_is "_law_found" ?_); refine ed_vi 1 ?_; wtm_at "q.slot")
  | ((with_reducible refine ed_is "_law_each" ?_); refine ed_vi 2 ?_; wtm_at "q.slot")
  | ((with_reducible refine ed_is "_law_bound_here" ?_); refine ed_vi 3 ?_; wtm_at "q.slot")
  | ((with_reducible refine ed_is "_law_name" ?_); refine ed_vi 4 ?_; wtm_at "q.slot")
  | fail)
local macro_rules | `(tactic| wtm_at "q.set") => `(tactic| first
  | ((with_reducible refine sd_is "_law_term_here" ?_); refine sd_v 0 (by assumption) ?_)
  | ((with_reducible refine sd_is "_law_found" ?_); refine sd_v 1 (by assumption) ?_)
  | ((with_reducible refine sd_is "_law_each" ?_); refine sd_v 2 (by assumption) ?_)
  | ((with_reducible refine sd_is "_law_bound_here" ?_); refine sd_v 3 (by assumption) ?_)
  | ((with_reducible refine sd_is "_law_name" ?_); refine sd_v 4 (by assumption) ?_)
  | fail)
local macro_rules | `(tactic| wtm_at "q.gnm") => `(tactic| first
  | ((with_reducible refine gd_is "_law_term_here" ?_); refine gd_v 0 (by assumption) ?_)
  | ((with_reducible refine gd_is "_law_found" ?_); refine gd_v 1 (by assumption) ?_)
  | ((with_reducible refine gd_is "_law_each" ?_); refine gd_v 2 (by assumption) ?_)
  | ((with_reducible refine gd_is "_law_bound_here" ?_); refine gd_v 3 (by assumption) ?_)
  | ((with_reducible refine gd_is "_law_name" ?_); refine gd_v 4 (by assumption) ?_)
  | fail)
theorem free_ok (D : Hd K mg "_law_free" s_law_free p_law_free []) (CI : ∀ k, Fc P w K mg base (k + 2) "_law_inner" [] F_inner) : ∀ n, Fc P w K mg base (n + 3) "_law_free" [] (F_free n)
  | 0 => D.go sc_law_free (fun W s xs Q h => by obtain ⟨t, rfl, _⟩ := h; rfl) (fun f cdv A outer s0 H0 E hr W s xs Q h => by
    obtain ⟨t, rfl, hk, q⟩ := h
    have := t.dp_pos
    omega)
  | n + 1 => by
    have C1 := free_ok D CI n
    refine D.go sc_law_free (fun W s xs Q h => ?_) (fun f cdv A outer s0 H0 E hr W s xs Q h => ?_)
    · obtain ⟨t, rfl, _⟩ := h
      rfl
    obtain ⟨t, rfl, hdp, hnm, hsz, q⟩ := h
    have nd := sc_law_free.nd
    wtm_at "q.run"
    refine br_dec (fun hw => ?_) (fun hw => ?_)
    · cases t <;> first | (exact absurd hw (by simp only [Tm.word]; decide +kernel)) | skip
      wtm_at "q.run"
      exact q
    rw [free_inner hw] at q
    wtm_at "q.run"
    refine sd_for (jd_list ?_)
    refine ed_fn ((CI 0).mono (by omega) : Fc P w K mg base (n + 3) _ _ _) hr ?_
    wtm_at "q.run"
    refine ⟨fun i st δ' => ∃ (v2 v3 v4 : Option Sv), st = s ∧ δ' = [some (.d (tD t)), some (.d (.list (((t.inner.take i).flatMap fr1).map .str))), v2, v3, v4], ?_, ?_, ?_⟩
    · exact ⟨none, none, none, rfl, rfl⟩
    · rintro i d st δ' hd ⟨v2, v3, v4, rfl, rfl⟩
      have hi : i < t.inner.length := by
        have := (List.getElem?_eq_some_iff.mp hd).1
        rwa [List.length_map] at this
      have hd2 : d = innerD t.inner[i] := by
        rw [List.getElem?_map, List.getElem?_eq_getElem hi] at hd
        exact (Option.some.inj hd).symm
      subst hd2
      have hm := List.getElem_mem hi
      have i1 := inner_all t _ hm
      have i2 := inner_nm t hnm _ hm
      have i3 := inner_sz t _ hm
      have fl := free_len t.inner[i].1
      have take1 : (t.inner.take (i + 1)).flatMap fr1 = (t.inner.take i).flatMap fr1 ++ fr1 t.inner[i] := by
        rw [List.take_succ_eq_append_getElem hi, List.flatMap_append]
        simp
      have tl : ((t.inner.take i).flatMap fr1).length ≤ 300000 := by
        have : ∀ l : List (Tm × Str), (∀ p ∈ l, p ∈ t.inner) → (l.flatMap fr1).length ≤ l.length * 100000 := by
          intro l hl
          induction l with
          | nil => simp
          | cons p l ih =>
            have h1 := ih fun q hq => hl q (List.mem_cons_of_mem _ hq)
            have h2 := inner_sz t p (hl p List.mem_cons_self)
            have h3 := free_len p.1
            have h4 := noN_le p.2 p.1.free
            rw [List.flatMap_cons, List.length_append, List.length_cons]
            have h5 : (fr1 p).length ≤ 100000 := by unfold fr1; omega
            omega
        have h1 := this (t.inner.take i) fun p hp => List.mem_of_mem_take hp
        have h2 := inner_len t
        have h3 : (t.inner.take i).length ≤ 3 := by rw [List.length_take]; omega
        omega
      generalize hp : t.inner[i] = pr at hm i1 i2 i3 fl take1
      obtain ⟨u, x⟩ := pr
      unfold innerD
      wtm_at "q.run"
      refine ed_cl1 4 nd ?_
      refine jd_list ?_
      refine ed_fn C1 hr ?_
      wtm_at "q.run"
      refine ⟨by omega, i2.1, by omega, ?_⟩
      refine ⟨_, rfl, by rw [List.length_map, sizeLine_eq]; have i3 : u.sz ≤ t.sz := i3; have fl : u.free.length ≤ u.sz := fl; show u.free.length ≤ _; omega, ?_⟩
      refine cl1_map (neF x) _ _ _ (fun d hd acc Nx hN p => ?_) ?_
      · obtain ⟨y, hy, rfl⟩ := List.mem_map.mp hd
        have hyo := free_nm _ u (Nat.le_refl _) i2.1 y hy
        have hxo := i2.2
        wtm_at "q.run"
        refine br_nd (fun h => ?_) (fun h => ?_)
        · intro p'
          wtm_at "q.run"
          simp only [neF, if_pos h] at hN
          exact ⟨rfl, hN⟩
        · simp only [neF, if_neg (not_not_intro h), List.append_nil] at hN
          exact hN
      rw [List.nil_append, ne_of]
      have nl := noN_le x u.free
      refine od_catL ?_ ?_
      · rw [List.length_map, List.length_map, sizeLine_eq]
        have i3 : u.sz ≤ t.sz := i3
        have fl : u.free.length ≤ u.sz := fl
        show ((t.inner.take i).flatMap fr1).length + (noN x u.free).length ≤ _
        omega
      wtm_at "q.run"
      refine ⟨some (.d (tD u)), some (.d (.str x)), v4, rfl, ?_⟩
      rw [take1, List.map_append]
      rfl
    · rintro st δ' ⟨v2, v3, v4, rfl, rfl⟩
      rw [List.length_map, List.take_length]
      wtm_at "q.run"
      exact q
end
end
end
section
/-! W12: _law_data_kind, _law_argument_kind. -/
section
variable {P : Program} {w : World} {K : PySem.W.Frag} {mg : Str → Option Value} {base : Heap} {k : Nat}
def F_dataKind (n : Nat) : FT := fun W s xs Q => ∃ (a : Addr) (l : Nat), xs = [.o a, .d (.int l)] ∧ Cap W a ∧ l ≤ n ∧ ∀ k : Kd, k.dp ≤ l + 2 → k.np ≤ 2 ^ l → Q s (.d (kD k))
section
local macro_rules | `(tactic| wtm_at "q.nm") => `(tactic| first
  | ((with_reducible refine ed_is "_law_urn_here" ?_); refine ed_vi 0 ?_; wtm_at "q.slot")
  | ((with_reducible refine ed_is "_law_left" ?_); refine ed_vi 1 ?_; wtm_at "q.slot")
  | ((with_reducible refine ed_is "_law_way" ?_); refine ed_vi 2 ?_; wtm_at "q.slot")
  | ((with_reducible refine ed_is "_law_first" ?_); refine ed_vi 3 ?_; wtm_at "q.slot")
  | fail)
local macro_rules | `(tactic| wtm_at "q.set") => `(tactic| first
  | ((with_reducible refine sd_is "_law_urn_here" ?_); refine sd_v 0 (by assumption) ?_)
  | ((with_reducible refine sd_is "_law_left" ?_); refine sd_v 1 (by assumption) ?_)
  | ((with_reducible refine sd_is "_law_way" ?_); refine sd_v 2 (by assumption) ?_)
  | ((with_reducible refine sd_is "_law_first" ?_); refine sd_v 3 (by assumption) ?_)
  | fail)
local macro_rules | `(tactic| wtm_at "q.gnm") => `(tactic| first
  | ((with_reducible refine gd_is "_law_urn_here" ?_); refine gd_v 0 (by assumption) ?_)
  | ((with_reducible refine gd_is "_law_left" ?_); refine gd_v 1 (by assumption) ?_)
  | ((with_reducible refine gd_is "_law_way" ?_); refine gd_v 2 (by assumption) ?_)
  | ((with_reducible refine gd_is "_law_first" ?_); refine gd_v 3 (by assumption) ?_)
  | fail)
theorem dataKindS_ok (D : Hd K mg "_law_data_kind" s_law_data_kind p_law_data_kind []) {n : Nat} (CP : Fc P w K mg base k "_law_pull" [] F_pull) (CO : Fc P w K mg base k "_law_one" [] F_one) (CT : Fc P w K mg base k "_law_truth" [] F_truth)
    (CR : ∀ m, n = m + 1 → Fc P w K mg base k "_law_data_kind" [] (F_dataKind m)) : Fc P w K mg base (k + 1) "_law_data_kind" [] (F_dataKind n) := by
  refine D.go sc_law_data_kind (fun W s xs Q h => ?_) (fun f cdv A outer s0 H0 E hr W s xs Q h => ?_)
  · obtain ⟨a, l, rfl, _⟩ := h
    rfl
  obtain ⟨a, l, rfl, C, hl, q⟩ := h
  have nd := sc_law_data_kind.nd
  have leaf : ∀ (kk : Kd), kk.dp ≤ 2 → kk.np ≤ 1 → Q s (.d (kD kk)) := fun kk h1 h2 => q kk (by omega) (Nat.le_trans h2 Nat.one_le_two_pow)
  wtm_at "q.run"
  refine ed_fn CP hr ?_
  wtm_at "q.run"
  refine ⟨a, 11, rfl, C, by decide, by decide, fun way h1 h2 => ?_⟩
  have fin : ∀ d ∈ [kD .va, kD .va, kD .vb, kD .num, kD truthK], Q s (.d d) := fun d hd => by
    simp only [List.mem_cons, List.not_mem_nil, or_false] at hd
    rcases hd with rfl | rfl | rfl | rfl | rfl
    · exact leaf _ (by decide) (by decide)
    · exact leaf _ (by decide) (by decide)
    · exact leaf _ (by decide) (by decide)
    · exact leaf _ (by decide) (by decide)
    · exact leaf _ (by decide) (by decide)
  wtm_at "q.run"
  refine br_dec (fun h3 => ?_) (fun h3 => ?_)
  · wtm_at "q.run"
    refine ed_fn CO hr ?_
    wtm_at "q.run"
    refine ed_fn0 CT hr ?_
    refine ⟨rfl, ?_⟩
    wtm_at "q.run"
    refine ⟨a, [kD .va, kD .va, kD .vb, kD .num, kD truthK], .inr rfl, C, by simp, by decide, fin⟩
  · wtm_at "q.run"
    refine br_dec (fun h4 => ?_) (fun h4 => ?_)
    · wtm_at "q.run"
      refine ed_fn CO hr ?_
      wtm_at "q.run"
      refine ed_fn0 CT hr ?_
      refine ⟨rfl, ?_⟩
      wtm_at "q.run"
      refine ⟨a, [kD .va, kD .va, kD .vb, kD .num, kD truthK], .inr rfl, C, by simp, by decide, fin⟩
    · obtain ⟨m, rfl⟩ : ∃ m, l = m + 1 := ⟨l - 1, by omega⟩
      obtain ⟨m2, rfl⟩ : ∃ m2, n = m2 + 1 := ⟨n - 1, by omega⟩
      have C1 := CR m2 rfl
      have e1 : ((m + 1 : Nat) : Int) - 1 = (m : Int) := by omega
      have rcl : ∀ (s : W.St) (Q : W.St → Sv → Prop), (∀ kk : Kd, kk.dp ≤ m + 2 → kk.np ≤ 2 ^ m → Q s (.d (kD kk))) → F_dataKind m2 W s [.o a, .d (.int (((m + 1 : Nat) : Int) - 1))] Q := fun s Q h => ⟨a, m, by rw [e1], C, by omega, h⟩
      have p2 : 2 ^ (m + 1) = 2 ^ m + 2 ^ m := by rw [Nat.pow_succ]; omega
      have p1 : 1 ≤ 2 ^ m := Nat.one_le_two_pow
      wtm_at "q.run"
      refine br_dec (fun h5 => ?_) (fun h5 => ?_)
      · wtm_at "q.run"
        refine ed_fn C1 hr ?_
        wtm_at "q.run"
        refine rcl _ _ fun kk d1 d2 => ?_
        wtm_at "q.run"
        exact q (.list kk) (by simp only [Kd.dp]; omega) (by simp only [Kd.np]; omega)
      · wtm_at "q.run"
        refine ed_fn C1 hr ?_
        wtm_at "q.run"
        refine rcl _ _ fun k1 d1 d2 => ?_
        wtm_at "q.run"
        refine br_dec (fun h6 => ?_) (fun h6 => ?_)
        · wtm_at "q.run"
          refine ed_fn C1 hr ?_
          wtm_at "q.run"
          refine rcl _ _ fun k2 d3 d4 => ?_
          wtm_at "q.run"
          exact q (.pair k1 k2) (by simp only [Kd.dp]; omega) (by simp only [Kd.np]; omega)
        · wtm_at "q.run"
          refine ed_fn C1 hr ?_
          wtm_at "q.run"
          refine rcl _ _ fun k2 d3 d4 => ?_
          wtm_at "q.run"
          exact q (.either k1 k2) (by simp only [Kd.dp]; omega) (by simp only [Kd.np]; omega)
end
theorem dataKind_ok (D : Hd K mg "_law_data_kind" s_law_data_kind p_law_data_kind []) (CP : ∀ k, Fc P w K mg base (k + 1) "_law_pull" [] F_pull) (CO : ∀ k, Fc P w K mg base (k + 2) "_law_one" [] F_one) (CT : ∀ k, Fc P w K mg base (k + 1) "_law_truth" [] F_truth) :
    ∀ n, Fc P w K mg base (n + 3) "_law_data_kind" [] (F_dataKind n)
  | 0 => dataKindS_ok D (CP 1) (CO 0) (CT 1) fun m h => by cases h
  | n + 1 => dataKindS_ok D (CP (n + 2)) (CO (n + 1)) (CT (n + 2)) fun m h => by cases h; exact dataKind_ok D CP CO CT n
end
end
section
/-! W13: _law_argument_kind, _law_named. -/
section
variable {P : Program} {w : World} {K : PySem.W.Frag} {mg : Str → Option Value} {base : Heap} {k : Nat}
def F_argKind : FT := fun W s xs Q => ∃ (a : Addr), xs = [.o a, .d (.int 2)] ∧ Cap W a ∧ ∀ k : Kd, K4 k → Q s (.d (kD k))
section
local macro_rules | `(tactic| wtm_at "q.nm") => `(tactic| first
  | ((with_reducible refine ed_is "_law_urn_here" ?_); refine ed_vi 0 ?_; wtm_at "q.slot")
  | ((with_reducible refine ed_is "_law_deep_here" ?_); refine ed_vi 1 ?_; wtm_at "q.slot")
  | ((with_reducible refine ed_is "_law_a" ?_); refine ed_vi 2 ?_; wtm_at "q.slot")
  | ((with_reducible refine ed_is "_law_b" ?_); refine ed_vi 3 ?_; wtm_at "q.slot")
  | ((with_reducible refine ed_is "_law_some" ?_); refine ed_vi 4 ?_; wtm_at "q.slot")
  | fail)
local macro_rules | `(tactic| wtm_at "q.set") => `(tactic| first
  | ((with_reducible refine sd_is "_law_urn_here" ?_); refine sd_v 0 (by assumption) ?_)
  | ((with_reducible refine sd_is "_law_deep_here" ?_); refine sd_v 1 (by assumption) ?_)
  | ((with_reducible refine sd_is "_law_a" ?_); refine sd_v 2 (by assumption) ?_)
  | ((with_reducible refine sd_is "_law_b" ?_); refine sd_v 3 (by assumption) ?_)
  | ((with_reducible refine sd_is "_law_some" ?_); refine sd_v 4 (by assumption) ?_)
  | fail)
local macro_rules | `(tactic| wtm_at "q.gnm") => `(tactic| first
  | ((with_reducible refine gd_is "_law_urn_here" ?_); refine gd_v 0 (by assumption) ?_)
  | ((with_reducible refine gd_is "_law_deep_here" ?_); refine gd_v 1 (by assumption) ?_)
  | ((with_reducible refine gd_is "_law_a" ?_); refine gd_v 2 (by assumption) ?_)
  | ((with_reducible refine gd_is "_law_b" ?_); refine gd_v 3 (by assumption) ?_)
  | ((with_reducible refine gd_is "_law_some" ?_); refine gd_v 4 (by assumption) ?_)
  | fail)
theorem argKind_ok (D : Hd K mg "_law_argument_kind" s_law_argument_kind p_law_argument_kind []) (CP : Fc P w K mg base k "_law_pull" [] F_pull) (CO : Fc P w K mg base k "_law_one" [] F_one) (CT : Fc P w K mg base k "_law_truth" [] F_truth)
    (CK : Fc P w K mg base k "_law_data_kind" [] (F_dataKind 2)) : Fc P w K mg base (k + 1) "_law_argument_kind" [] F_argKind := by
  refine D.go sc_law_argument_kind (fun W s xs Q h => ?_) (fun f cdv A outer s0 H0 E hr W s xs Q h => ?_)
  · obtain ⟨a, rfl, _⟩ := h
    rfl
  obtain ⟨a, rfl, C, q⟩ := h
  have nd := sc_law_argument_kind.nd
  have fin : ∀ d ∈ [kD (.func .va .va), kD (.func .va .num), kD (.func .va truthK), kD (.func .va (.func .va truthK)), kD (.func .va .vb), kD (.func (.pair .va .va) (.pair .va .va)), kD (.func .va (.list .va))], Q s (.d d) := fun d hd => by
    simp only [List.mem_cons, List.not_mem_nil, or_false] at hd
    rcases hd with rfl | rfl | rfl | rfl | rfl | rfl | rfl <;> exact q _ ⟨by decide, by decide⟩
  wtm_at "q.run"
  refine ed_fn0 CT hr ?_
  refine ⟨rfl, ?_⟩
  wtm_at "q.run"
  refine ed_fn0 CT hr ?_
  refine ⟨rfl, ?_⟩
  wtm_at "q.run"
  refine ed_fn CP hr ?_
  wtm_at "q.run"
  refine ⟨a, 4, rfl, C, by decide, by decide, fun way h1 h2 => ?_⟩
  wtm_at "q.run"
  refine br_dec (fun h3 => ?_) (fun h3 => ?_)
  · wtm_at "q.run"
    refine ed_fn CO hr ?_
    wtm_at "q.run"
    exact ⟨a, _, .inr rfl, C, by simp, by decide, fin⟩
  · wtm_at "q.run"
    refine ed_fn CK hr ?_
    wtm_at "q.run"
    exact ⟨a, 2, rfl, C, by decide, fun kk d1 d2 => q kk ⟨d1, d2⟩⟩
end
def namesL : List Str := ["x", "y", "z", "x", "u", "v1", "n"]
def F_named : FT := fun W s xs Q => ∃ (a : Addr), xs = [.o a] ∧ Cap W a ∧ ∀ x ∈ namesL, Q s (.d (.str x))
section
local macro_rules | `(tactic| wtm_at "q.nm") => `(tactic| first
  | ((with_reducible refine ed_is "_law_urn_here" ?_); refine ed_vi 0 ?_; wtm_at "q.slot")
  | fail)
local macro_rules | `(tactic| wtm_at "q.set") => `(tactic| first
  | ((with_reducible refine sd_is "_law_urn_here" ?_); refine sd_v 0 (by assumption) ?_)
  | fail)
local macro_rules | `(tactic| wtm_at "q.gnm") => `(tactic| first
  | ((with_reducible refine gd_is "_law_urn_here" ?_); refine gd_v 0 (by assumption) ?_)
  | fail)
theorem named_ok (D : Hd K mg "_law_named" s_law_named p_law_named []) (CO : Fc P w K mg base k "_law_one" [] F_one) : Fc P w K mg base (k + 1) "_law_named" [] F_named := by
  refine D.go sc_law_named (fun W s xs Q h => ?_) (fun f cdv A outer s0 H0 E hr W s xs Q h => ?_)
  · obtain ⟨a, rfl, _⟩ := h
    rfl
  obtain ⟨a, rfl, C, q⟩ := h
  have nd := sc_law_named.nd
  wtm_at "q.run"
  refine ed_fn CO hr ?_
  wtm_at "q.run"
  refine ⟨a, namesL.map .str, .inr rfl, C, by simp [namesL], by decide, fun d hd => ?_⟩
  obtain ⟨x, hx, rfl⟩ := List.mem_map.mp hd
  exact q x hx
end
end
end
section
/-! W14: _law_other_kind, _law_bound. -/
def constKs : List Kd := [.num, truthK, .list .num, .pair .num .num, .func .num .num, .list .va, .func .va .va]
theorem vis_last (Γ : Ctx) (x : Str) (k : Kd) : vis (Γ ++ [(x, k)]) k = true := by
  unfold vis
  rw [List.any_append]
  simp [look_snoc]
theorem can_const (Γ : Ctx) : ∀ k ∈ constKs, can Γ k = true := by
  intro k hk
  simp only [constKs, List.mem_cons, List.not_mem_nil, or_false] at hk
  rcases hk with rfl | rfl | rfl | rfl | rfl | rfl | rfl <;> simp [can, truthK, vis_last]
theorem const_k4 : ∀ k ∈ constKs, K4 k := by
  intro k hk
  simp only [constKs, List.mem_cons, List.not_mem_nil, or_false] at hk
  rcases hk with rfl | rfl | rfl | rfl | rfl | rfl | rfl <;> exact ⟨by decide, by decide⟩
section
variable {P : Program} {w : World} {K : PySem.W.Frag} {mg : Str → Option Value} {base : Heap} {k : Nat}
def F_otherKind : FT := fun W s xs Q => ∃ (a : Addr) (Γ : Ctx), xs = [.o a, .d (ctxD Γ)] ∧ Cap W a ∧ CtxOk 20 Γ ∧ Γ.length ≤ 200 ∧ ∀ k : Kd, can Γ k = true → (k ∈ Γ.map (·.2) ∨ k ∈ constKs) → Q s (.d (kD k))
section
local macro_rules | `(tactic| wtm_at "q.nm") => `(tactic| first
  | ((with_reducible refine ed_is "_law_urn_here" ?_); refine ed_vi 0 ?_; wtm_at "q.slot")
  | ((with_reducible refine ed_is "_law_context" ?_); refine ed_vi 1 ?_; wtm_at "q.slot")
  | ((with_reducible refine ed_is "_law_some" ?_); refine ed_vi 2 ?_; wtm_at "q.slot")
  | ((with_reducible refine ed_is "_law_name" ?_); refine ed_vi 3 ?_; wtm_at "q.slot")
  | ((with_reducible refine ed_is "_law_kind" ?_); refine ed_vi 4 ?_; wtm_at "q.slot")
  | fail)
local macro_rules | `(tactic| wtm_at "q.set") => `(tactic| first
  | ((with_reducible refine sd_is "_law_urn_here" ?_); refine sd_v 0 (by assumption) ?_)
  | ((with_reducible refine sd_is "_law_context" ?_); refine sd_v 1 (by assumption) ?_)
  | ((with_reducible refine sd_is "_law_some" ?_); refine sd_v 2 (by assumption) ?_)
  | ((with_reducible refine sd_is "_law_name" ?_); refine sd_v 3 (by assumption) ?_)
  | ((with_reducible refine sd_is "_law_kind" ?_); refine sd_v 4 (by assumption) ?_)
  | fail)
local macro_rules | `(tactic| wtm_at "q.gnm") => `(tactic| first
  | ((with_reducible refine gd_is "_law_urn_here" ?_); refine gd_v 0 (by assumption) ?_)
  | ((with_reducible refine gd_is "_law_context" ?_); refine gd_v 1 (by assumption) ?_)
  | ((with_reducible refine gd_is "_law_some" ?_); refine gd_v 2 (by assumption) ?_)
  | ((with_reducible refine gd_is "_law_name" ?_); refine gd_v 3 (by assumption) ?_)
  | ((with_reducible refine gd_is "_law_kind" ?_); refine gd_v 4 (by assumption) ?_)
  | fail)
theorem otherKind_ok (D : Hd K mg "_law_other_kind" s_law_other_kind p_law_other_kind []) (CP : Fc P w K mg base k "_law_pull" [] F_pull) (CO : Fc P w K mg base k "_law_one" [] F_one) (CT : Fc P w K mg base k "_law_truth" [] F_truth)
    (CC : Fc P w K mg base k "_law_can" [] (F_can 20)) : Fc P w K mg base (k + 1) "_law_other_kind" [] F_otherKind := by
  refine D.go sc_law_other_kind (fun W s xs Q h => ?_) (fun f cdv A outer s0 H0 E hr W s xs Q h => ?_)
  · obtain ⟨a, Γ, rfl, _⟩ := h
    rfl
  obtain ⟨a, Γ, rfl, C, ok, hlen, q⟩ := h
  have nd := sc_law_other_kind.nd
  have fin : ∀ d ∈ [kD .num, kD truthK, kD (.list .num), kD (.pair .num .num), kD (.func .num .num), kD (.list .va), kD (.func .va .va)], Q s (.d d) := fun d hd => by
    obtain ⟨k, hk, rfl⟩ : ∃ k ∈ constKs, d = kD k := by
      simp only [List.mem_cons, List.not_mem_nil, or_false] at hd
      rcases hd with rfl | rfl | rfl | rfl | rfl | rfl | rfl <;> exact ⟨_, by simp [constKs], rfl⟩
    exact q k (can_const Γ k hk) (.inr hk)
  refine sds_cons ?_
  refine sd_cl2 2 3 4 nd ?_
  refine jd_list ?_
  wtm_at "q.run"
  refine ⟨ctx_len ok, ?_⟩
  refine cl2_map pairK (fun p => .str p.1) (fun p => kD p.2) (fun _ => rfl) (fun p => if can Γ p.2 = true then [kD p.2] else []) _ _ _ (fun pr hpr acc Nx hN p => ?_) ?_
  · have hd := ok.deep pr hpr
    wtm_at "q.run"
    refine ed_fn CC hr ?_
    wtm_at "q.run"
    refine ⟨pr.2, Γ, rfl, hd, by omega, ok.mono (by decide), by omega, ?_⟩
    wtm_at "q.run"
    refine br_b (fun h => ?_) (fun h => ?_)
    · rw [if_pos h] at hN
      intro p'
      wtm_at "q.run"
      exact ⟨noL_kD _, hN⟩
    · rw [if_neg (by simp [h]), List.append_nil] at hN
      exact hN
  rw [List.nil_append]
  have ek : (Γ.flatMap fun p => if can Γ p.2 = true then [kD p.2] else []) = ((Γ.filter fun p => can Γ p.2).map (·.2)).map kD := by
    have : ∀ L : Ctx, (L.flatMap fun p => if can Γ p.2 = true then [kD p.2] else []) = ((L.filter fun p => can Γ p.2).map (·.2)).map kD := by
      intro L
      induction L with
      | nil => rfl
      | cons p L ih =>
        rw [List.flatMap_cons, ih]
        by_cases h : can Γ p.2 = true
        · rw [if_pos h, List.filter_cons_of_pos (p := fun p : Str × Kd => can Γ p.2) h]; rfl
        · rw [if_neg h, List.filter_cons_of_neg (p := fun p : Str × Kd => can Γ p.2) h]; rfl
    exact this Γ
  rw [ek]
  have hk63 : ∀ k ∈ (Γ.filter fun p => can Γ p.2).map (·.2), k.dp ≤ 63 := fun k hk => by
    obtain ⟨p, hp, rfl⟩ := List.mem_map.mp hk
    have := ok.deep p (List.mem_filter.mp hp).1
    omega
  have mem : ∀ d ∈ ((Γ.filter fun p => can Γ p.2).map (·.2)).map kD, Q s (.d d) := fun d hd => by
    obtain ⟨k, hk, rfl⟩ := List.mem_map.mp hd
    obtain ⟨p, hp, rfl⟩ := List.mem_map.mp hk
    obtain ⟨h1, h2⟩ := List.mem_filter.mp hp
    exact q p.2 h2 (.inl (List.mem_map.mpr ⟨p, h1, rfl⟩))
  have ll : (((Γ.filter fun p => can Γ p.2).map (·.2)).map kD).length < 1000000 := by
    rw [List.length_map, List.length_map]
    have := List.length_filter_le (fun p : Str × Kd => can Γ p.2) Γ
    omega
  have consts : ∀ d ∈ constKs.map kD, Q s (.d d) := fun d hd => by
    obtain ⟨k, hk, rfl⟩ := List.mem_map.mp hd
    exact q k (can_const Γ k hk) (.inr hk)
  wtm_at "q.run"
  refine br_e (fun h => ?_) (fun h => ?_)
  · wtm_at "q.run"
    refine ed_fn CP hr ?_
    wtm_at "q.run"
    refine ⟨a, 3, rfl, C, by decide, by decide, fun way h1 h2 => ?_⟩
    wtm_at "q.run"
    refine br_dec (fun h3 => ?_) (fun h3 => ?_)
    · wtm_at "q.run"
      refine ed_fn CO hr ?_
      wtm_at "q.run"
      exact ⟨a, _, .inl rfl, C, h, ll, mem⟩
    · wtm_at "q.run"
      refine ed_fn CO hr ?_
      wtm_at "q.run"
      refine ed_fn0 CT hr ?_
      refine ⟨rfl, ?_⟩
      wtm_at "q.run"
      exact ⟨a, _, .inr rfl, C, by simp, by decide, fin⟩
  · wtm_at "q.run"
    refine ed_fn CO hr ?_
    wtm_at "q.run"
    refine ed_fn0 CT hr ?_
    refine ⟨rfl, ?_⟩
    wtm_at "q.run"
    exact ⟨a, _, .inr rfl, C, by simp, by decide, fin⟩
end
end
end
section
/-! W15: _law_bound. -/
theorem namesL_ok : ∀ x ∈ namesL, PyData.strOk x = true := by decide +kernel
section
variable {P : Program} {w : World} {K : PySem.W.Frag} {mg : Str → Option Value} {base : Heap} {k : Nat}
def F_bound : FT := fun W s xs Q => ∃ (a : Addr) (kk wish : Kd) (Γ : Ctx), xs = [.o a, .d (kD kk), .d (kD wish), .d (ctxD Γ)] ∧ Cap W a ∧ CtxOk 20 Γ ∧ Γ.length ≤ 200 ∧ kk.dp ≤ 20 ∧ wish.dp ≤ 20 ∧
  ∀ x : Str, ((x ∈ namesL ∧ can (Γ ++ [(x, kk)]) wish = true) ∨ x = wn Γ.length) → Q s (.d (.str x))
section
local macro_rules | `(tactic| wtm_at "q.nm") => `(tactic| first
  | ((with_reducible refine ed_is "_law_urn_here" ?_); refine ed_vi 0 ?_; wtm_at "q.slot")
  | ((with_reducible refine ed_is "_law_kind" ?_); refine ed_vi 1 ?_; wtm_at "q.slot")
  | ((with_reducible refine ed_is "_law_wish" ?_); refine ed_vi 2 ?_; wtm_at "q.slot")
  | ((with_reducible refine ed_is "_law_context" ?_); refine ed_vi 3 ?_; wtm_at "q.slot")
  | ((with_reducible refine ed_is "_law_name" ?_); refine ed_vi 4 ?_; wtm_at "q.slot")
  | fail)
local macro_rules | `(tactic| wtm_at "q.set") => `(tactic| first
  | ((with_reducible refine sd_is "_law_urn_here" ?_); refine sd_v 0 (by assumption) ?_)
  | ((with_reducible refine sd_is "_law_kind" ?_); refine sd_v 1 (by assumption) ?_)
  | ((with_reducible refine sd_is "_law_wish" ?_); refine sd_v 2 (by assumption) ?_)
  | ((with_reducible refine sd_is "_law_context" ?_); refine sd_v 3 (by assumption) ?_)
  | ((with_reducible refine sd_is "_law_name" ?_); refine sd_v 4 (by assumption) ?_)
  | fail)
local macro_rules | `(tactic| wtm_at "q.gnm") => `(tactic| first
  | ((with_reducible refine gd_is "_law_urn_here" ?_); refine gd_v 0 (by assumption) ?_)
  | ((with_reducible refine gd_is "_law_kind" ?_); refine gd_v 1 (by assumption) ?_)
  | ((with_reducible refine gd_is "_law_wish" ?_); refine gd_v 2 (by assumption) ?_)
  | ((with_reducible refine gd_is "_law_context" ?_); refine gd_v 3 (by assumption) ?_)
  | ((with_reducible refine gd_is "_law_name" ?_); refine gd_v 4 (by assumption) ?_)
  | fail)
theorem bound_ok (D : Hd K mg "_law_bound" s_law_bound p_law_bound []) (B : Bi mg) (CN : Fc P w K mg base k "_law_named" [] F_named) (CC : Fc P w K mg base k "_law_can" [] (F_can 20)) : Fc P w K mg base (k + 1) "_law_bound" [] F_bound := by
  refine D.go sc_law_bound (fun W s xs Q h => ?_) (fun f cdv A outer s0 H0 E hr W s xs Q h => ?_)
  · obtain ⟨a, kk, wish, Γ, rfl, _⟩ := h
    rfl
  obtain ⟨a, kk, wish, Γ, rfl, C, ok, hlen, hk, hw, q⟩ := h
  have nd := sc_law_bound.nd
  wtm_at "q.run"
  refine ed_fn CN hr ?_
  wtm_at "q.run"
  refine ⟨C, fun x hx => ?_⟩
  wtm_at "q.run"
  refine ed_fn CC hr ?_
  wtm_at "q.run"
  refine od_catL (sz_n (by rw [List.length_map]; show Γ.length + 1 ≤ _; omega)) ?_
  wtm_at "q.run"
  refine ⟨wish, Γ ++ [(x, kk)], by simp [ctxD, pairK], hw, by omega, (ok.mono (by decide)).snoc (namesL_ok x hx) (by omega) (by omega), by rw [List.length_append, List.length_singleton]; omega, ?_⟩
  wtm_at "q.run"
  refine br_b (fun h => ?_) (fun h => ?_)
  · wtm_at "q.run"
    exact q x (.inl ⟨hx, h⟩)
  · wtm_at "q.run"
    refine cd_str ?_ ?_
    · rw [List.length_map]
      exact wn_log _ (by omega)
    wtm_at "q.run"
    refine od_addS ?_ ?_
    · rw [List.length_map]
      have := wn_len Γ.length (by omega)
      rw [sizeLine_eq]
      omega
    rw [List.length_map]
    exact q (wn Γ.length) (.inr rfl)
end
end
end
section
/-! W16: _law_flat. -/
structure CtxG (Γ : Ctx) : Prop where
  ok : CtxOk 20 Γ
  nm : ∀ p ∈ Γ, Nm p.1
  fresh : Fresh Γ
def F_flat (n : Nat) : FT := fun W s xs Q => ∃ (a : Addr) (k : Kd) (Γ : Ctx), xs = [.o a, .d (kD k), .d (ctxD Γ)] ∧ Cap W a ∧ k.dp ≤ n ∧ k.dp ≤ 4 ∧ CtxG Γ ∧ Γ.length + n ≤ 200 ∧ can Γ k = true ∧ ∀ t : Tm, G 0 Γ t k → Fl k.np k.dp t → Q s (.d (tD t))
theorem Fl.le {m m' d : Nat} {t : Tm} (h : Fl m d t) (e : m ≤ m') : Fl m' d t := by
  induction h generalizing m' with
  | name a b => exact .name (by omega) b
  | unit a => exact .unit (by omega)
  | number a b => exact .number (by omega) b
  | nil a b => exact .nil (by omega) b
  | cons a _ ih => exact .cons a (ih e)
  | fn a b _ ih => exact .fn a b (ih e)
  | pair h1 h2 i1 i2 =>
    rename_i m l d a b
    have := Fl.pair (i1 (m' := m' - m) (by omega)) (i2 (m' := m) (Nat.le_refl _))
    rwa [show m' - m + m = m' by omega] at this
  | left a _ ih => exact .left a (ih e)
  | right a _ ih => exact .right a (ih e)
theorem Fl.deep {m d d' : Nat} {t : Tm} (h : Fl m d t) (e : d ≤ d') : Fl m d' t := by
  induction h generalizing d' with
  | name a b => obtain ⟨c, rfl⟩ : ∃ c, d' = c + 1 := ⟨d' - 1, by omega⟩; exact .name a b
  | unit a => obtain ⟨c, rfl⟩ : ∃ c, d' = c + 1 := ⟨d' - 1, by omega⟩; exact .unit a
  | number a b => obtain ⟨c, rfl⟩ : ∃ c, d' = c + 1 := ⟨d' - 1, by omega⟩; exact .number a b
  | nil a b => obtain ⟨c, rfl⟩ : ∃ c, d' = c + 1 := ⟨d' - 1, by omega⟩; exact .nil a (by omega)
  | cons a _ ih => obtain ⟨c, rfl⟩ : ∃ c, d' = c + 1 := ⟨d' - 1, by omega⟩; exact .cons (by omega) (ih (by omega))
  | fn a b _ ih => obtain ⟨c, rfl⟩ : ∃ c, d' = c + 1 := ⟨d' - 1, by omega⟩; exact .fn a (by omega) (ih (by omega))
  | pair h1 h2 i1 i2 => obtain ⟨c, rfl⟩ : ∃ c, d' = c + 1 := ⟨d' - 1, by omega⟩; exact .pair (i1 (by omega)) (i2 (by omega))
  | left a _ ih => obtain ⟨c, rfl⟩ : ∃ c, d' = c + 1 := ⟨d' - 1, by omega⟩; exact .left (by omega) (ih (by omega))
  | right a _ ih => obtain ⟨c, rfl⟩ : ∃ c, d' = c + 1 := ⟨d' - 1, by omega⟩; exact .right (by omega) (ih (by omega))
section
variable {P : Program} {w : World} {K : PySem.W.Frag} {mg : Str → Option Value} {base : Heap} {k : Nat}
def nmsOf (Γ : Ctx) (k : Kd) : List Str := (Γ.filter fun p => decide (p.2 = k) && decide (look Γ p.1 = some k)).map (·.1)
theorem nms_of (Γ : Ctx) (k : Kd) : (Γ.flatMap fun p => if p.2 = k ∧ look Γ p.1 = some k then [PyData.str p.1] else []) = (nmsOf Γ k).map .str := by
  unfold nmsOf
  have : ∀ L : Ctx, (L.flatMap fun p => if p.2 = k ∧ look Γ p.1 = some k then [PyData.str p.1] else []) = ((L.filter fun p => decide (p.2 = k) && decide (look Γ p.1 = some k)).map (·.1)).map .str := by
    intro L
    induction L with
    | nil => rfl
    | cons p L ih =>
      rw [List.flatMap_cons, ih]
      by_cases h : p.2 = k ∧ look Γ p.1 = some k
      · rw [if_pos h, List.filter_cons_of_pos (by simp [h.1, h.2])]; rfl
      · rw [if_neg h, List.filter_cons_of_neg (by simpa using h)]; rfl
  exact this Γ
theorem nms_mem {Γ : Ctx} {k : Kd} {x : Str} (h : x ∈ nmsOf Γ k) : look Γ x = some k ∧ ∃ p ∈ Γ, p.1 = x := by
  obtain ⟨p, hp, rfl⟩ := List.mem_map.mp h
  obtain ⟨h1, h2⟩ := List.mem_filter.mp hp
  simp only [Bool.and_eq_true, decide_eq_true_eq] at h2
  exact ⟨h2.2, p, h1, rfl⟩
theorem nms_vis {Γ : Ctx} {k : Kd} (h : vis Γ k = true) : nmsOf Γ k ≠ [] := by
  obtain ⟨x, hx⟩ := vis_iff.mp h
  intro e
  have : x ∈ nmsOf Γ k := List.mem_map.mpr ⟨(x, k), List.mem_filter.mpr ⟨look_mem hx, by simp [hx]⟩, rfl⟩
  rw [e] at this
  cases this
section
local macro_rules | `(tactic| wtm_at "q.nm") => `(tactic| first
  | ((with_reducible refine ed_is "_law_urn_here" ?_); refine ed_vi 0 ?_; wtm_at "q.slot")
  | ((with_reducible refine ed_is "_law_kind" ?_); refine ed_vi 1 ?_; wtm_at "q.slot")
  | ((with_reducible refine ed_is "_law_context" ?_); refine ed_vi 2 ?_; wtm_at "q.slot")
  | ((with_reducible refine ed_is "_law_names" ?_); refine ed_vi 3 ?_; wtm_at "q.slot")
  | ((with_reducible refine ed_is "_law_inner_here" ?_); refine ed_vi 4 ?_; wtm_at "q.slot")
  | ((with_reducible refine ed_is "_law_sides" ?_); refine ed_vi 5 ?_; wtm_at "q.slot")
  | ((with_reducible refine ed_is "_law_first" ?_); refine ed_vi 6 ?_; wtm_at "q.slot")
  | ((with_reducible refine ed_is "_law_name" ?_); refine ed_vi 7 ?_; wtm_at "q.slot")
  | ((with_reducible refine ed_is "_law_each" ?_); refine ed_vi 8 ?_; wtm_at "q.slot")
  | fail)
local macro_rules | `(tactic| wtm_at "q.set") => `(tactic| first
  | ((with_reducible refine sd_is "_law_urn_here" ?_); refine sd_v 0 (by assumption) ?_)
  | ((with_reducible refine sd_is "_law_kind" ?_); refine sd_v 1 (by assumption) ?_)
  | ((with_reducible refine sd_is "_law_context" ?_); refine sd_v 2 (by assumption) ?_)
  | ((with_reducible refine sd_is "_law_names" ?_); refine sd_v 3 (by assumption) ?_)
  | ((with_reducible refine sd_is "_law_inner_here" ?_); refine sd_v 4 (by assumption) ?_)
  | ((with_reducible refine sd_is "_law_sides" ?_); refine sd_v 5 (by assumption) ?_)
  | ((with_reducible refine sd_is "_law_first" ?_); refine sd_v 6 (by assumption) ?_)
  | ((with_reducible refine sd_is "_law_name" ?_); refine sd_v 7 (by assumption) ?_)
  | ((with_reducible refine sd_is "_law_each" ?_); refine sd_v 8 (by assumption) ?_)
  | fail)
local macro_rules | `(tactic| wtm_at "q.gnm") => `(tactic| first
  | ((with_reducible refine gd_is "_law_urn_here" ?_); refine gd_v 0 (by assumption) ?_)
  | ((with_reducible refine gd_is "_law_kind" ?_); refine gd_v 1 (by assumption) ?_)
  | ((with_reducible refine gd_is "_law_context" ?_); refine gd_v 2 (by assumption) ?_)
  | ((with_reducible refine gd_is "_law_names" ?_); refine gd_v 3 (by assumption) ?_)
  | ((with_reducible refine gd_is "_law_inner_here" ?_); refine gd_v 4 (by assumption) ?_)
  | ((with_reducible refine gd_is "_law_sides" ?_); refine gd_v 5 (by assumption) ?_)
  | ((with_reducible refine gd_is "_law_first" ?_); refine gd_v 6 (by assumption) ?_)
  | ((with_reducible refine gd_is "_law_name" ?_); refine gd_v 7 (by assumption) ?_)
  | ((with_reducible refine gd_is "_law_each" ?_); refine gd_v 8 (by assumption) ?_)
  | fail)
theorem flatS_ok (D : Hd K mg "_law_flat" s_law_flat p_law_flat []) (B : Bi mg) {n : Nat} (CP : Fc P w K mg base k "_law_pull" [] F_pull) (CO : Fc P w K mg base k "_law_one" [] F_one) (CS : Fc P w K mg base k "_law_seen" [] F_seen) (CC : Fc P w K mg base k "_law_can" [] (F_can 20))
    (C1 : ∀ m, n = m + 1 → Fc P w K mg base k "_law_flat" [] (F_flat m)) : Fc P w K mg base (k + 1) "_law_flat" [] (F_flat n) := by
  refine D.go sc_law_flat (fun W s xs Q h => ?_) (fun f cdv A outer s0 H0 E hr W s xs Q h => ?_)
  · obtain ⟨a, k, Γ, rfl, _⟩ := h
    rfl
  obtain ⟨a, k, Γ, rfl, C, hk, hk4, cg, hlen, hcan, q⟩ := h
  have nd := sc_law_flat.nd
  have ok63 : CtxOk 63 Γ := cg.ok.mono (by decide)
  refine sds_cons ?_
  refine sd_cl2 3 7 8 nd ?_
  refine jd_list ?_
  wtm_at "q.run"
  refine ⟨ctx_len cg.ok, ?_⟩
  refine cl2_map pairK (fun p => .str p.1) (fun p => kD p.2) (fun _ => rfl) (fun p => if p.2 = k ∧ look Γ p.1 = some k then [PyData.str p.1] else []) _ _ _ (fun pr hpr acc Nx hN p => ?_) ?_
  · have hd := cg.ok.deep pr hpr
    have hs := cg.ok.names pr hpr
    wtm_at "q.run"
    refine br_dec (fun h1 => ?_) (fun h1 => ?_)
    · wtm_at "q.run"
      refine ed_fn CS hr ?_
      wtm_at "q.run"
      refine ⟨Γ, pr.1, rfl, ok63, hs, ?_⟩
      wtm_at "q.run"
      refine od_eq (ru64 hr) (shaped_seen fun k e => by have := cg.ok.look e; omega) (kD_shaped (by omega)) ?_
      rw [eqv_seen]
      wtm_at "q.run"
      refine br_dec (fun h2 => ?_) (fun h2 => ?_)
      · rw [if_pos ⟨h1, h2⟩] at hN
        intro p'
        wtm_at "q.run"
        exact ⟨rfl, hN⟩
      · rw [if_neg (fun z => h2 z.2), List.append_nil] at hN
        exact hN
    · rw [if_neg (fun z => h1 z.1), List.append_nil] at hN
      wtm_at "q.run"
      exact hN
  rw [List.nil_append, nms_of]
  have hS : ∀ d ∈ (nmsOf Γ k).map PyData.str, d.canLay0 = true ∧ d.depth ≤ 63 := fun d hd => by
    obtain ⟨x, hx, rfl⟩ := List.mem_map.mp hd
    obtain ⟨_, p, hp, rfl⟩ := nms_mem hx
    exact ⟨lay_s _ (cg.ok.names p hp), by simp [PyData.depth]⟩
  have hL : (nmsOf Γ k).length ≤ 300 := by
    unfold nmsOf
    rw [List.length_map]
    exact Nat.le_trans (List.length_filter_le _ _) cg.ok.few
  have dp1 := k.dp_pos
  have np1 := k.np_pos
  have ret : ∀ (Q' : W.St → Sv → Prop), (∀ x, G 0 Γ (.name x) k → Fl k.np k.dp (.name x) → Q' s (.d (.str x))) → nmsOf Γ k ≠ [] → F_one W s ([.o a, .d (.list ((nmsOf Γ k).map .str))] ++ List.map Sv.d []) Q' := fun Q' hq hne =>
    ⟨a, (nmsOf Γ k).map .str, .inl rfl, C, by simpa using hne, by rw [List.length_map]; omega, fun d hd => by
      obtain ⟨x, hx, rfl⟩ := List.mem_map.mp hd
      obtain ⟨h1, p, hp, rfl⟩ := nms_mem hx
      refine hq _ (.name h1 (cg.nm p hp)) ?_
      obtain ⟨c, hc⟩ : ∃ c, k.dp = c + 1 := ⟨k.dp - 1, by omega⟩
      rw [hc]
      exact .name np1 (cg.nm p hp)⟩
  refine sds_cut (fun s' δ' => s' = s ∧ δ' = [some (.o a), some (.d (kD k)), some (.d (ctxD Γ)), some (.d (.list ((nmsOf Γ k).map .str))), none, none, none, none, none] ∧ k.isVar = false) ?_ ?_
  · wtm_at "q.run"
    refine od_neL hr (shaped_l hS) ?_
    wtm_at "q.run"
    refine br_e (fun hne => ?_) (fun hne => ?_)
    · have hne : nmsOf Γ k ≠ [] := fun z => hne (by rw [z]; rfl)
      wtm_at "q.run"
      refine ed_fn CP hr ?_
      wtm_at "q.run"
      refine ⟨a, 9, rfl, C, by decide, by decide, fun way h1 h2 => ?_⟩
      wtm_at "q.run"
      refine br_dec (fun h3 => ?_) (fun h3 => ?_)
      · wtm_at "q.run"
        refine ed_fn CO hr ?_
        wtm_at "q.run"
        refine ret _ (fun x g fl => ?_) hne
        wtm_at "q.run"
        exact q _ g fl
      · wtm_at "q.run"
        rw [wvar]
        refine br_b (fun hv => ?_) (fun hv => ?_)
        · wtm_at "q.run"
          refine ed_fn CO hr ?_
          wtm_at "q.run"
          refine ret _ (fun x g fl => ?_) hne
          wtm_at "q.run"
          exact q _ g fl
        · wtm_at "q.run"
          exact ⟨rfl, rfl, hv⟩
    · have hne : nmsOf Γ k = [] := List.map_eq_nil_iff.mp hne
      wtm_at "q.run"
      rw [wvar]
      refine br_b (fun hv => ?_) (fun hv => ?_)
      · have : vis Γ k = true := by cases k <;> first | exact hcan | cases hv
        exact absurd hne (nms_vis this)
      · wtm_at "q.run"
        exact ⟨rfl, rfl, hv⟩
  rintro s' δ' ⟨rfl, rfl, hv⟩
  obtain ⟨m, rfl⟩ : ∃ m, n = m + 1 := ⟨n - 1, by omega⟩
  have C2 := C1 m rfl
  have sub : ∀ (k' : Kd) (s : W.St) (Q' : W.St → Sv → Prop), k'.dp < k.dp → can Γ k' = true → (∀ t, G 0 Γ t k' → Fl k'.np k'.dp t → Q' s (.d (tD t))) → F_flat m W s [.o a, .d (kD k'), .d (ctxD Γ)] Q' := fun k' s Q' h1 h2 h3 =>
    ⟨a, k', Γ, rfl, C, by omega, by omega, cg, by omega, h2, h3⟩
  have canq : ∀ (k' : Kd) (s : W.St) (Q' : W.St → Sv → Prop), k'.dp < k.dp → Q' s (.d (.bool (can Γ k'))) → F_can 20 W s [.d (kD k'), .d (ctxD Γ)] Q' := fun k' s Q' h1 h2 =>
    ⟨k', Γ, rfl, by omega, by omega, cg.ok.mono (by decide), by omega, h2⟩
  cases k with
  | va => cases hv
  | vb => cases hv
  | unit =>
    wtm_at "q.run"
    exact q .unit .unit (.unit (d := 0) (by decide))
  | num =>
    wtm_at "q.run"
    refine ed_fn CP hr ?_
    wtm_at "q.run"
    refine ⟨a, 9, rfl, C, by decide, by decide, fun way h1 h2 => ?_⟩
    wtm_at "q.run"
    exact q (.number (way - 3)) (.number (by omega)) (.number (d := 0) (by decide) (by omega))
  | list e =>
    simp only [Kd.dp] at hk4
    have nilR : Q s' (.d (tD (.nil e))) := q (.nil e) (.nil (by omega)) (by
      show Fl 1 (1 + e.dp) _
      rw [Nat.add_comm]
      exact .nil (by decide) (by omega))
    wtm_at "q.run"
    refine ed_fn CC hr ?_
    wtm_at "q.run"
    refine canq e _ _ (by simp only [Kd.dp]; omega) ?_
    wtm_at "q.run"
    refine br_b (fun hc => ?_) (fun hc => ?_)
    · wtm_at "q.run"
      rw [wvar]
      refine br_b (fun hv2 => ?_) (fun hv2 => ?_)
      · wtm_at "q.run"
        refine ed_fn CP hr ?_
        wtm_at "q.run"
        refine ⟨a, 3, rfl, C, by decide, by decide, fun way h1 h2 => ?_⟩
        wtm_at "q.run"
        refine br_dec (fun h3 => ?_) (fun h3 => ?_)
        · wtm_at "q.run"
          refine ed_fn C2 hr ?_
          wtm_at "q.run"
          refine sub e _ _ (by simp only [Kd.dp]; omega) hc fun t g fl => ?_
          wtm_at "q.run"
          refine q (.cons t (.nil e)) (.cons (by simp only [Kd.dp]; omega) g (.nil (n := 0) (by omega)) (Nat.le_refl 0)) ?_
          have e1 : e.np = 1 := by cases e <;> first | rfl | cases hv2
          show Fl 1 (1 + e.dp) _
          rw [Nat.add_comm]
          rw [e1] at fl
          exact .cons (by omega) fl
        · wtm_at "q.run"
          exact nilR
      · wtm_at "q.run"
        exact nilR
    · wtm_at "q.run"
      exact nilR
  | func x y =>
    simp only [Kd.dp] at hk4 hk
    have hl := cg.ok.few
    wtm_at "q.run"
    refine cd_str ?_ ?_
    · rw [List.length_map]
      exact wn_log _ (by omega)
    wtm_at "q.run"
    refine od_addS ?_ ?_
    · rw [List.length_map]
      have := wn_len Γ.length (by omega)
      rw [sizeLine_eq]
      omega
    wtm_at "q.run"
    refine od_catL (sz_n (by rw [List.length_map]; show Γ.length + 1 ≤ _; omega)) ?_
    wtm_at "q.run"
    rw [List.length_map]
    have cg2 : CtxG (Γ ++ [(wn Γ.length, x)]) := ⟨cg.ok.snoc (wn_ok _ (by omega)) (by omega) (by omega), fun p hp => by
      rcases List.mem_append.mp hp with hp | hp
      · exact cg.nm p hp
      · rw [List.mem_singleton.mp hp]
        exact List.mem_append_right _ (List.mem_map.mpr ⟨Γ.length, List.mem_range.mpr (by omega), rfl⟩), cg.fresh.w⟩
    have el : (Γ ++ [(wn Γ.length, x)]).length = Γ.length + 1 := by rw [List.length_append, List.length_singleton]
    refine ed_fn CC hr ?_
    wtm_at "q.run"
    refine ⟨y, Γ ++ [(wn Γ.length, x)], by simp [ctxD, pairK, wn], by omega, by omega, cg2.ok.mono (by decide), by omega, ?_⟩
    wtm_at "q.run"
    refine br_b (fun hc => ?_) (fun hc => ?_)
    · have hc : can (Γ ++ [(wn Γ.length, x)]) y = false := by simpa using hc
      have hvis : vis Γ (.func x y) = true := by
        simp only [can, hc, Bool.or_false] at hcan
        exact hcan
      wtm_at "q.run"
      refine ed_fn CO hr ?_
      wtm_at "q.run"
      refine ret _ (fun x g fl => ?_) (nms_vis hvis)
      wtm_at "q.run"
      exact q _ g fl
    · have hc : can (Γ ++ [(wn Γ.length, x)]) y = true := by simpa using hc
      wtm_at "q.run"
      refine id_lst (d := .tuple [.str (wn Γ.length), kD x]) (by rw [atI_last (by simp)]; simp [wn]) ?_
      wtm_at "q.run"
      refine ed_fn C2 hr ?_
      wtm_at "q.run"
      refine ⟨a, y, Γ ++ [(wn Γ.length, x)], by simp [ctxD, pairK, wn], C, by omega, by omega, cg2, by omega, hc, fun t g fl => ?_⟩
      wtm_at "q.run"
      refine q (.fn (wn Γ.length) x t) (.fn (cg2.nm _ (List.mem_append_right _ (List.mem_singleton.mpr rfl))) (by omega) (by omega) g) ?_
      have fl := fl.deep (d' := max x.dp y.dp) (by omega)
      show Fl y.np (1 + max x.dp y.dp) _
      rw [Nat.add_comm]
      exact .fn (cg2.nm _ (List.mem_append_right _ (List.mem_singleton.mpr rfl))) (by omega) fl
  | pair x y =>
    simp only [Kd.dp] at hk4 hk
    wtm_at "q.run"
    refine sd_cl1 5 8 nd ?_
    refine jd_tup ?_
    refine ed_restK (k := .pair x y) ?_
    wtm_at "q.nm"
    refine ⟨rfl, pd_some ?_⟩
    wtm_at "q.run"
    refine ⟨rfl, _, rfl, sz_ok (Nat.le_of_ble_eq_true rfl), ?_⟩
    refine cl1_cons ?_
    intro p
    wtm_at "q.run"
    intro p'
    refine ed_fn CC hr ?_
    wtm_at "q.run"
    refine canq x _ _ (by simp only [Kd.dp]; omega) ?_
    refine ⟨_, rfl, rfl, ?_⟩
    refine cl1_cons ?_
    intro p
    wtm_at "q.run"
    intro p'
    refine ed_fn CC hr ?_
    wtm_at "q.run"
    refine canq y _ _ (by simp only [Kd.dp]; omega) ?_
    refine ⟨_, rfl, rfl, ?_⟩
    refine cl1_nil ?_
    have subX : ∀ (s : W.St) (Q' : W.St → Sv → Prop), can Γ x = true → (∀ t, G 0 Γ t x → Fl x.np x.dp t → Q' s (.d (tD t))) → F_flat m W s [.o a, .d (kD x), .d (ctxD Γ)] Q' := fun s Q' h2 h3 => sub x s Q' (by simp only [Kd.dp]; omega) h2 h3
    have subY : ∀ (s : W.St) (Q' : W.St → Sv → Prop), can Γ y = true → (∀ t, G 0 Γ t y → Fl y.np y.dp t → Q' s (.d (tD t))) → F_flat m W s [.o a, .d (kD y), .d (ctxD Γ)] Q' := fun s Q' h2 h3 => sub y s Q' (by simp only [Kd.dp]; omega) h2 h3
    have nmR : (can Γ x && can Γ y) = false → nmsOf Γ (.pair x y) ≠ [] := fun h => by
      refine nms_vis ?_
      simpa [can, h] using hcan
    cases hx : can Γ x with
    | false =>
      have hy : True := trivial
      wtm_at "q.run"
      refine od_eq (ru64 hr) rfl rfl ?_
      wtm_at "q.run"
      refine ed_fn CO hr ?_
      wtm_at "q.run"
      refine ret _ (fun x g fl => ?_) (nmR (by simp [hx, hy]))
      wtm_at "q.run"
      exact q _ g fl
    | true =>
      cases hy : can Γ y with
      | false =>
        wtm_at "q.run"
        refine od_eq (ru64 hr) rfl rfl ?_
        wtm_at "q.run"
        refine ed_fn CO hr ?_
        wtm_at "q.run"
        refine ret _ (fun x g fl => ?_) (nmR (by simp [hx, hy]))
        wtm_at "q.run"
        exact q _ g fl
      | true =>
        wtm_at "q.run"
        refine od_eq (ru64 hr) rfl rfl ?_
        wtm_at "q.run"
        refine ed_fn C2 hr ?_
        wtm_at "q.run"
        refine subX _ _ hx fun t g fl => ?_
        wtm_at "q.run"
        refine ed_fn C2 hr ?_
        wtm_at "q.run"
        refine subY _ _ hy fun t2 g2 fl2 => ?_
        wtm_at "q.run"
        refine q (.pair t t2) (.pair (by simp only [Kd.dp]; omega) g g2 (Nat.le_refl 0)) ?_
        show Fl (x.np + y.np) (1 + max x.dp y.dp) _
        rw [Nat.add_comm 1]
        exact .pair (fl.deep (by omega)) (fl2.deep (by omega))
  | either x y =>
    simp only [Kd.dp] at hk4 hk
    wtm_at "q.run"
    refine sd_cl1 5 8 nd ?_
    refine jd_tup ?_
    refine ed_restK (k := .either x y) ?_
    wtm_at "q.nm"
    refine ⟨rfl, pd_some ?_⟩
    wtm_at "q.run"
    refine ⟨rfl, _, rfl, sz_ok (Nat.le_of_ble_eq_true rfl), ?_⟩
    refine cl1_cons ?_
    intro p
    wtm_at "q.run"
    intro p'
    refine ed_fn CC hr ?_
    wtm_at "q.run"
    refine canq x _ _ (by simp only [Kd.dp]; omega) ?_
    refine ⟨_, rfl, rfl, ?_⟩
    refine cl1_cons ?_
    intro p
    wtm_at "q.run"
    intro p'
    refine ed_fn CC hr ?_
    wtm_at "q.run"
    refine canq y _ _ (by simp only [Kd.dp]; omega) ?_
    refine ⟨_, rfl, rfl, ?_⟩
    refine cl1_nil ?_
    have subX : ∀ (s : W.St) (Q' : W.St → Sv → Prop), can Γ x = true → (∀ t, G 0 Γ t x → Fl x.np x.dp t → Q' s (.d (tD t))) → F_flat m W s [.o a, .d (kD x), .d (ctxD Γ)] Q' := fun s Q' h2 h3 => sub x s Q' (by simp only [Kd.dp]; omega) h2 h3
    have subY : ∀ (s : W.St) (Q' : W.St → Sv → Prop), can Γ y = true → (∀ t, G 0 Γ t y → Fl y.np y.dp t → Q' s (.d (tD t))) → F_flat m W s [.o a, .d (kD y), .d (ctxD Γ)] Q' := fun s Q' h2 h3 => sub y s Q' (by simp only [Kd.dp]; omega) h2 h3
    have nmR : (can Γ x || can Γ y) = false → nmsOf Γ (.either x y) ≠ [] := fun h => by
      refine nms_vis ?_
      simp only [Bool.or_eq_false_iff] at h
      simpa [can, h.1, h.2] using hcan
    have lefR : ∀ t, G 0 Γ t x → Fl x.np x.dp t → Q s' (.d (tD (.left t y))) := fun t g fl => by
      refine q (.left t y) (.left (by simp only [Kd.dp]; omega) g) ?_
      show Fl (max x.np y.np) (1 + max x.dp y.dp) _
      rw [Nat.add_comm 1]
      exact .left (by omega) ((fl.deep (by omega)).le (by omega))
    have rigR : ∀ t, G 0 Γ t y → Fl y.np y.dp t → Q s' (.d (tD (.right x t))) := fun t g fl => by
      refine q (.right x t) (.right (by simp only [Kd.dp]; omega) g) ?_
      show Fl (max x.np y.np) (1 + max x.dp y.dp) _
      rw [Nat.add_comm 1]
      exact .right (by omega) ((fl.deep (by omega)).le (by omega))
    cases hx : can Γ x with
    | false =>
      cases hy : can Γ y with
      | false =>
        wtm_at "q.run"
        refine od_notInL (ru65 hr) rfl rfl ?_
        wtm_at "q.run"
        refine ed_fn CO hr ?_
        wtm_at "q.run"
        refine ret _ (fun x g fl => ?_) (nmR (by simp [hx, hy]))
        wtm_at "q.run"
        exact q _ g fl
      | true =>
        wtm_at "q.run"
        refine od_notInL (ru65 hr) rfl rfl ?_
        wtm_at "q.run"
        refine ed_fn C2 hr ?_
        wtm_at "q.run"
        refine subY _ _ hy fun t g fl => ?_
        wtm_at "q.run"
        exact rigR t g fl
    | true =>
      cases hy : can Γ y with
      | false =>
        wtm_at "q.run"
        refine od_notInL (ru65 hr) rfl rfl ?_
        wtm_at "q.run"
        refine ed_fn C2 hr ?_
        wtm_at "q.run"
        refine subX _ _ hx fun t g fl => ?_
        wtm_at "q.run"
        exact lefR t g fl
      | true =>
        wtm_at "q.run"
        refine od_notInL (ru65 hr) rfl rfl ?_
        wtm_at "q.run"
        refine ed_fn CP hr ?_
        wtm_at "q.run"
        refine ⟨a, 2, rfl, C, by decide, by decide, fun way h1 h2 => ?_⟩
        wtm_at "q.run"
        refine br_dec (fun h3 => ?_) (fun h3 => ?_)
        · wtm_at "q.run"
          refine ed_fn C2 hr ?_
          wtm_at "q.run"
          refine subX _ _ hx fun t g fl => ?_
          wtm_at "q.run"
          exact lefR t g fl
        · wtm_at "q.run"
          refine ed_fn C2 hr ?_
          wtm_at "q.run"
          refine subY _ _ hy fun t g fl => ?_
          wtm_at "q.run"
          exact rigR t g fl
end
theorem flat_ok (D : Hd K mg "_law_flat" s_law_flat p_law_flat []) (B : Bi mg) (CP : ∀ k, Fc P w K mg base (k + 1) "_law_pull" [] F_pull) (CO : ∀ k, Fc P w K mg base (k + 2) "_law_one" [] F_one) (CS : ∀ k, Fc P w K mg base (k + 1) "_law_seen" [] F_seen) (CC : Fc P w K mg base 22 "_law_can" [] (F_can 20)) :
    ∀ n, Fc P w K mg base (n + 23) "_law_flat" [] (F_flat n)
  | 0 => flatS_ok D B (CP 21) (CO 20) (CS 21) CC fun m h => by cases h
  | n + 1 => flatS_ok D B (CP (n + 22)) (CO (n + 21)) (CS (n + 22)) (CC.mono (by omega)) fun m h => by cases h; exact flat_ok D B CP CO CS CC n
end
end
section
/-! W17: what is promised of drawn terms; _law_fold. -/
structure CtxT (Γ : Ctx) : Prop where
  g : CtxG Γ
  deep : ∀ p ∈ Γ, p.2.dp ≤ 4
def bindL : List Str := namesL ++ (["h", "r"] : List Str)
theorem bindL_wn : ∀ x ∈ bindL, ∀ m < 300, x ≠ wn m := by decide +kernel
theorem bindL_nm : ∀ x ∈ bindL, x ∈ nmL0 := by decide +kernel
theorem bindL_ok : ∀ x ∈ bindL, PyData.strOk x = true := by decide +kernel
theorem wn_nm {n : Nat} (h : n < 300) : Nm (wn n) := List.mem_append_right _ (List.mem_map.mpr ⟨n, List.mem_range.mpr h, rfl⟩)
theorem bind_nm {x : Str} (h : x ∈ bindL) : Nm x := List.mem_append_left _ (bindL_nm x h)
theorem CtxT.snoc {Γ : Ctx} (h : CtxT Γ) {x : Str} {k : Kd} (hx : x ∈ bindL ∨ x = wn Γ.length) (hk : k.dp ≤ 4) (hl : Γ.length < 299) : CtxT (Γ ++ [(x, k)]) := by
  refine ⟨⟨h.g.ok.snoc ?_ (by omega) (by omega), fun p hp => ?_, ?_⟩, fun p hp => ?_⟩
  · rcases hx with hx | rfl
    · exact bindL_ok x hx
    · exact wn_ok _ (by omega)
  · rcases List.mem_append.mp hp with hp | hp
    · exact h.g.nm p hp
    · rw [List.mem_singleton.mp hp]
      rcases hx with hx | rfl
      · exact bind_nm hx
      · exact wn_nm (by omega)
  · rcases hx with hx | rfl
    · exact h.g.fresh.snoc (bindL_wn x hx)
    · exact h.g.fresh.w
  · rcases List.mem_append.mp hp with hp | hp
    · exact h.deep p hp
    · rw [List.mem_singleton.mp hp]; exact hk
/-- what a drawn term keeps -/
structure Drawn (N : Nat) (Γ : Ctx) (t : Tm) (k : Kd) : Prop where
  g : G 0 Γ t k
  dp : t.dp ≤ 3 * N + 4
structure TermOk (N : Nat) (Γ : Ctx) (k : Kd) : Prop where
  ctx : CtxT Γ
  dp : k.dp ≤ 4
  can : can Γ k = true
  len : Γ.length + 2 * N + 10 ≤ 200
structure At {W : Wd} {p : Addr} (L : Left W p) (s s0 : W.St) : Prop where
  le : L.lf s0 ≤ L.lf s
  wr : ∀ n, L.wr s0 n = L.wr s n
theorem At.refl {W : Wd} {p : Addr} (L : Left W p) (s : W.St) : At L s s := ⟨Int.le_refl _, fun _ => rfl⟩
theorem At.trans {W : Wd} {p : Addr} {L : Left W p} {s s1 s2 : W.St} (a : At L s s1) (b : At L s1 s2) : At L s s2 := ⟨Int.le_trans b.le a.le, fun n => (b.wr n).trans (a.wr n)⟩
theorem At.to {W : Wd} {p : Addr} (L : Left W p) (s : W.St) {n : Int} (h : n ≤ L.lf s) : At L s (L.wr s n) := ⟨by rw [L.lw]; exact h, fun m => L.ww s n m⟩
def F_term (N : Nat) : FT := fun W s xs Q => ∃ (a p : Addr) (L : Left W p) (k : Kd) (Γ : Ctx), xs = [.o a, .d (kD k), .d (ctxD Γ), .o p] ∧ Cap W a ∧ TermOk N Γ k ∧ L.lf s ≤ N ∧
  ∀ (t : Tm) (s' : W.St), Drawn N Γ t k → At L s s' → L.lf s' ≤ L.lf s - 1 → Q s' (.d (tD t))
/-- one of the ways to draw it, with more behind the arguments -/
def F_way (N : Nat) (more : List Sv) : FT := fun W s xs Q => ∃ (a p : Addr) (L : Left W p) (k : Kd) (Γ : Ctx), xs = [.o a, .d (kD k), .d (ctxD Γ), .o p] ++ more ∧ Cap W a ∧ TermOk (N + 1) Γ k ∧ L.lf s ≤ N ∧
  ∀ (t : Tm) (s' : W.St), Drawn (N + 1) Γ t k → At L s s' → Q s' (.d (tD t))
theorem term_call {N : Nat} {W : Wd} {a p : Addr} (C : Cap W a) (L : Left W p) {s s0 : W.St} (h : At L s s0) (hl : L.lf s ≤ N) (k : Kd) (Γ : Ctx) {xs : List Sv} {Q : W.St → Sv → Prop} (hx : xs = [.o a, .d (kD k), .d (ctxD Γ), .o p]) (ok : TermOk N Γ k)
    (q : ∀ (t : Tm) (s' : W.St), Drawn N Γ t k → At L s s' → Q s' (.d (tD t))) : F_term N W s0 xs Q :=
  ⟨a, p, L, k, Γ, hx, C, ok, Int.le_trans h.le hl, fun t s' d e _ => q t s' d (h.trans e)⟩
theorem ctx_snocD (Γ : Ctx) (x : Str) (k : Kd) : ctxD (Γ ++ [(x, k)]) = .list (Γ.map pairK ++ [.tuple [.str x, kD k]]) := by simp [ctxD, pairK]
theorem kdList {k : Kd} (h : k.word = "list") : ∃ x, k = .list x := by
  cases k <;> first | exact ⟨_, rfl⟩ | (simp only [Kd.word] at h; exact absurd h (by decide +kernel))
theorem kdPair {k : Kd} (h : k.word = "pair") : ∃ x y, k = .pair x y := by
  cases k <;> first | exact ⟨_, _, rfl⟩ | (simp only [Kd.word] at h; exact absurd h (by decide +kernel))
theorem kdEither {k : Kd} (h : k.word = "either") : ∃ x y, k = .either x y := by
  cases k <;> first | exact ⟨_, _, rfl⟩ | (simp only [Kd.word] at h; exact absurd h (by decide +kernel))
theorem kdFun {k : Kd} (h : k.word = "fun") : ∃ x y, k = .func x y := by
  cases k <;> first | exact ⟨_, _, rfl⟩ | (simp only [Kd.word] at h; exact absurd h (by decide +kernel))
theorem flat_len {α β : Type} (f : α → List β) (h : ∀ a, (f a).length ≤ 1) : ∀ l : List α, (l.flatMap f).length ≤ l.length
  | [] => by simp
  | a :: l => by
    have := flat_len f h l
    have := h a
    rw [List.flatMap_cons, List.length_append, List.length_cons]
    omega
def rowF (Γ : Ctx) (p : Str × Kd) : List PyData := if p.2.word = ("list" : Str) ∧ look Γ p.1 = some p.2 then [kD p.2] else []
section
variable {P : Program} {w : World} {K : PySem.W.Frag} {mg : Str → Option Value} {base : Heap} {k : Nat}
section
local macro_rules | `(tactic| wtm_at "q.nm") => `(tactic| first
  | ((with_reducible refine ed_is "_law_urn_here" ?_); refine ed_vi 0 ?_; wtm_at "q.slot")
  | ((with_reducible refine ed_is "_law_kind" ?_); refine ed_vi 1 ?_; wtm_at "q.slot")
  | ((with_reducible refine ed_is "_law_context" ?_); refine ed_vi 2 ?_; wtm_at "q.slot")
  | ((with_reducible refine ed_is "_law_left" ?_); refine ed_vi 3 ?_; wtm_at "q.slot")
  | ((with_reducible refine ed_is "_law_lists" ?_); refine ed_vi 4 ?_; wtm_at "q.slot")
  | ((with_reducible refine ed_is "_law_row" ?_); refine ed_vi 5 ?_; wtm_at "q.slot")
  | ((with_reducible refine ed_is "_law_inner_here" ?_); refine ed_vi 6 ?_; wtm_at "q.slot")
  | ((with_reducible refine ed_is "_law_step" ?_); refine ed_vi 7 ?_; wtm_at "q.slot")
  | ((with_reducible refine ed_is "_law_first" ?_); refine ed_vi 8 ?_; wtm_at "q.slot")
  | ((with_reducible refine ed_is "_law_name" ?_); refine ed_vi 9 ?_; wtm_at "q.slot")
  | ((with_reducible refine ed_is "_law_each" ?_); refine ed_vi 10 ?_; wtm_at "q.slot")
  | fail)
local macro_rules | `(tactic| wtm_at "q.set") => `(tactic| first
  | ((with_reducible refine sd_is "_law_urn_here" ?_); refine sd_v 0 (by assumption) ?_)
  | ((with_reducible refine sd_is "_law_kind" ?_); refine sd_v 1 (by assumption) ?_)
  | ((with_reducible refine sd_is "_law_context" ?_); refine sd_v 2 (by assumption) ?_)
  | ((with_reducible refine sd_is "_law_left" ?_); refine sd_v 3 (by assumption) ?_)
  | ((with_reducible refine sd_is "_law_lists" ?_); refine sd_v 4 (by assumption) ?_)
  | ((with_reducible refine sd_is "_law_row" ?_); refine sd_v 5 (by assumption) ?_)
  | ((with_reducible refine sd_is "_law_inner_here" ?_); refine sd_v 6 (by assumption) ?_)
  | ((with_reducible refine sd_is "_law_step" ?_); refine sd_v 7 (by assumption) ?_)
  | ((with_reducible refine sd_is "_law_first" ?_); refine sd_v 8 (by assumption) ?_)
  | ((with_reducible refine sd_is "_law_name" ?_); refine sd_v 9 (by assumption) ?_)
  | ((with_reducible refine sd_is "_law_each" ?_); refine sd_v 10 (by assumption) ?_)
  | fail)
local macro_rules | `(tactic| wtm_at "q.gnm") => `(tactic| first
  | ((with_reducible refine gd_is "_law_urn_here" ?_); refine gd_v 0 (by assumption) ?_)
  | ((with_reducible refine gd_is "_law_kind" ?_); refine gd_v 1 (by assumption) ?_)
  | ((with_reducible refine gd_is "_law_context" ?_); refine gd_v 2 (by assumption) ?_)
  | ((with_reducible refine gd_is "_law_left" ?_); refine gd_v 3 (by assumption) ?_)
  | ((with_reducible refine gd_is "_law_lists" ?_); refine gd_v 4 (by assumption) ?_)
  | ((with_reducible refine gd_is "_law_row" ?_); refine gd_v 5 (by assumption) ?_)
  | ((with_reducible refine gd_is "_law_inner_here" ?_); refine gd_v 6 (by assumption) ?_)
  | ((with_reducible refine gd_is "_law_step" ?_); refine gd_v 7 (by assumption) ?_)
  | ((with_reducible refine gd_is "_law_first" ?_); refine gd_v 8 (by assumption) ?_)
  | ((with_reducible refine gd_is "_law_name" ?_); refine gd_v 9 (by assumption) ?_)
  | ((with_reducible refine gd_is "_law_each" ?_); refine gd_v 10 (by assumption) ?_)
  | fail)
theorem fold_ok (D : Hd K mg "_law_fold" s_law_fold p_law_fold []) {N : Nat} (CO : Fc P w K mg base k "_law_one" [] F_one) (CS : Fc P w K mg base k "_law_seen" [] F_seen) (CT : Fc P w K mg base k "_law_term" [] (F_term N)) : Fc P w K mg base (k + 1) "_law_fold" [] (F_way N []) := by
  refine D.go sc_law_fold (fun W s xs Q h => ?_) (fun f cdv A outer s0 H0 E hr W s xs Q h => ?_)
  · obtain ⟨a, p, L, k, Γ, rfl, _⟩ := h
    rfl
  obtain ⟨a, p, L, k, Γ, rfl, C, ok, hlf, q⟩ := h
  have nd := sc_law_fold.nd
  have cok := ok.ctx.g.ok
  have hdp := ok.dp
  have hlen := ok.len
  refine sds_cons ?_
  refine sd_cl2 4 9 10 nd ?_
  refine jd_list ?_
  wtm_at "q.run"
  refine ⟨ctx_len cok, ?_⟩
  refine cl2_map pairK (fun p => .str p.1) (fun p => kD p.2) (fun _ => rfl) (rowF Γ) _ _ _ (fun pr hpr acc Nx hN p => ?_) ?_
  · have hd := cok.deep pr hpr
    have hs := cok.names pr hpr
    wtm_at "q.run"
    refine br_dec (fun h1 => ?_) (fun h1 => ?_)
    · wtm_at "q.run"
      refine ed_fn CS hr ?_
      wtm_at "q.run"
      refine ⟨Γ, pr.1, rfl, cok.mono (by decide), hs, ?_⟩
      wtm_at "q.run"
      refine od_eq (ru64 hr) (shaped_seen fun k e => by have := cok.look e; omega) (kD_shaped (by omega)) ?_
      rw [eqv_seen]
      wtm_at "q.run"
      refine br_dec (fun h2 => ?_) (fun h2 => ?_)
      · rw [rowF, if_pos ⟨h1, h2⟩] at hN
        intro p'
        wtm_at "q.run"
        exact ⟨noL_kD _, hN⟩
      · rw [rowF, if_neg (fun z => h2 z.2), List.append_nil] at hN
        exact hN
    · rw [rowF, if_neg (fun z => h1 z.1), List.append_nil] at hN
      wtm_at "q.run"
      exact hN
  rw [List.nil_append]
  have hmem : ∀ d ∈ (Γ.flatMap (rowF Γ)), ∃ x : Kd, d = kD (.list x) ∧ x.dp ≤ 3 := fun d hd => by
    obtain ⟨pr, hpr, hd⟩ := List.mem_flatMap.mp hd
    unfold rowF at hd
    split at hd
    · rename_i h
      obtain ⟨x, hx⟩ := kdList h.1
      have := ok.ctx.deep pr hpr
      rw [hx] at hd this
      simp only [Kd.dp] at this
      exact ⟨x, List.mem_singleton.mp hd, by omega⟩
    · cases hd
  have hl2 := flat_len (rowF Γ) (fun p => by unfold rowF; split <;> simp) Γ
  generalize (Γ.flatMap (rowF Γ)) = ls at hmem hl2
  wtm_at "q.run"
  refine ed_fn CO hr ?_
  wtm_at "q.run"
  refine od_catL (sz_n (by show ls.length + 1 ≤ _; omega)) ?_
  wtm_at "q.run"
  refine ⟨a, ls ++ [kD (.list .num)], .inl rfl, C, by simp, by rw [List.length_append]; show ls.length + 1 < _; omega, fun d hd => ?_⟩
  obtain ⟨x, rfl, hx⟩ : ∃ x : Kd, d = kD (.list x) ∧ x.dp ≤ 3 := by
    rcases List.mem_append.mp hd with hd | hd
    · exact hmem d hd
    · exact ⟨.num, List.mem_singleton.mp hd, by decide⟩
  wtm_at "q.run"
  refine od_catL (sz_n (by rw [List.length_map]; show Γ.length + 2 ≤ _; omega)) ?_
  wtm_at "q.run"
  have c1 : CtxT (Γ ++ [(("h" : Str), x)]) := ok.ctx.snoc (.inl (by decide +kernel)) (by omega) (by omega)
  have c2 : CtxT (Γ ++ [(("h" : Str), x)] ++ [(("r" : Str), k)]) := c1.snoc (.inl (by decide +kernel)) hdp (by rw [List.length_append, List.length_singleton]; omega)
  have a0 := At.refl L s
  refine ed_fn CT hr ?_
  wtm_at "q.run"
  refine term_call C L a0 hlf k (Γ ++ [(("h" : Str), x)] ++ [(("r" : Str), k)]) (by simp [ctxD, pairK]) ⟨c2, hdp, can_of_vis (vis_last _ _ _), by simp only [List.length_append, List.length_singleton]; omega⟩ fun t1 s1 d1 a1 => ?_
  wtm_at "q.run"
  refine ed_fn CT hr ?_
  wtm_at "q.run"
  refine term_call C L a1 hlf k Γ rfl ⟨ok.ctx, hdp, ok.can, by omega⟩ fun t2 s2 d2 a2 => ?_
  wtm_at "q.run"
  refine ed_fn CT hr ?_
  wtm_at "q.run"
  refine term_call C L a2 hlf (.list x) Γ rfl ⟨ok.ctx, by simp only [Kd.dp]; omega, rfl, by omega⟩ fun t3 s3 d3 a3 => ?_
  wtm_at "q.run"
  refine q (.fold (.fn "h" x (.fn "r" k t1)) t2 t3) s3 ⟨?_, ?_⟩ a3
  · refine .fold (x := x) (i := 0) (j := 0) (l := 0) (by simp only [Kd.dp]; omega) (by simp only [Kd.dp]; omega) (by omega) (.fn (bind_nm (by decide +kernel)) (by omega) (by simp only [Kd.dp]; omega) (.fn (bind_nm (by decide +kernel)) (by omega) (by omega) d1.g)) d2.g d3.g (Nat.le_refl 0)
  · have := d1.dp; have := d2.dp; have := d3.dp
    simp only [Tm.dp]; omega
end
end
end
section
/-! W18: _law_built. -/
theorem Drawn.of {N : Nat} {Γ : Ctx} {t : Tm} {k : Kd} (g : G 0 Γ t k) (d : t.dp ≤ 3 * N + 7) : Drawn (N + 1) Γ t k := ⟨g, by omega⟩
theorem Fl.tdp {m d : Nat} {t : Tm} (h : Fl m d t) : t.dp ≤ d := by
  induction h with
  | name a b => simp [Tm.dp]
  | unit a => simp [Tm.dp]
  | number a b => simp [Tm.dp]
  | nil a b => simp [Tm.dp]
  | @cons m d a k hk h ih => have := a.dp_pos; simp only [Tm.dp]; omega
  | fn a b _ ih => simp only [Tm.dp]; omega
  | pair _ _ x y => simp only [Tm.dp]; omega
  | left _ _ x => simp only [Tm.dp]; omega
  | right _ _ x => simp only [Tm.dp]; omega
theorem TermOk.flat {N : Nat} {Γ : Ctx} {k : Kd} (h : TermOk N Γ k) {W : Wd} {s : W.St} {a : Addr} (C : Cap W a) {Q : W.St → Sv → Prop} (q : ∀ t, Drawn N Γ t k → Q s (.d (tD t))) : F_flat 4 W s [.o a, .d (kD k), .d (ctxD Γ)] Q := by
  have := h.dp; have := h.len
  exact ⟨a, k, Γ, rfl, C, h.dp, h.dp, h.ctx.g, by omega, h.can, fun t g fl => q t ⟨g, by have := fl.tdp; omega⟩⟩
theorem wnum (k : Kd) : decide (k.word = "num") = decide (k = .num) := by cases k <;> first | kernel_rfl | (simp [Kd.word]; decide +kernel)
section
variable {P : Program} {w : World} {K : PySem.W.Frag} {mg : Str → Option Value} {base : Heap} {k : Nat}
section
local macro_rules | `(tactic| wtm_at "q.nm") => `(tactic| first
  | ((with_reducible refine ed_is "_law_urn_here" ?_); refine ed_vi 0 ?_; wtm_at "q.slot")
  | ((with_reducible refine ed_is "_law_kind" ?_); refine ed_vi 1 ?_; wtm_at "q.slot")
  | ((with_reducible refine ed_is "_law_context" ?_); refine ed_vi 2 ?_; wtm_at "q.slot")
  | ((with_reducible refine ed_is "_law_left" ?_); refine ed_vi 3 ?_; wtm_at "q.slot")
  | ((with_reducible refine ed_is "_law_way" ?_); refine ed_vi 4 ?_; wtm_at "q.slot")
  | ((with_reducible refine ed_is "_law_first" ?_); refine ed_vi 5 ?_; wtm_at "q.slot")
  | ((with_reducible refine ed_is "_law_sign" ?_); refine ed_vi 6 ?_; wtm_at "q.slot")
  | ((with_reducible refine ed_is "_law_name" ?_); refine ed_vi 7 ?_; wtm_at "q.slot")
  | ((with_reducible refine ed_is "_law_sides" ?_); refine ed_vi 8 ?_; wtm_at "q.slot")
  | ((with_reducible refine ed_is "_law_each" ?_); refine ed_vi 9 ?_; wtm_at "q.slot")
  | fail)
local macro_rules | `(tactic| wtm_at "q.set") => `(tactic| first
  | ((with_reducible refine sd_is "_law_urn_here" ?_); refine sd_v 0 (by assumption) ?_)
  | ((with_reducible refine sd_is "_law_kind" ?_); refine sd_v 1 (by assumption) ?_)
  | ((with_reducible refine sd_is "_law_context" ?_); refine sd_v 2 (by assumption) ?_)
  | ((with_reducible refine sd_is "_law_left" ?_); refine sd_v 3 (by assumption) ?_)
  | ((with_reducible refine sd_is "_law_way" ?_); refine sd_v 4 (by assumption) ?_)
  | ((with_reducible refine sd_is "_law_first" ?_); refine sd_v 5 (by assumption) ?_)
  | ((with_reducible refine sd_is "_law_sign" ?_); refine sd_v 6 (by assumption) ?_)
  | ((with_reducible refine sd_is "_law_name" ?_); refine sd_v 7 (by assumption) ?_)
  | ((with_reducible refine sd_is "_law_sides" ?_); refine sd_v 8 (by assumption) ?_)
  | ((with_reducible refine sd_is "_law_each" ?_); refine sd_v 9 (by assumption) ?_)
  | fail)
local macro_rules | `(tactic| wtm_at "q.gnm") => `(tactic| first
  | ((with_reducible refine gd_is "_law_urn_here" ?_); refine gd_v 0 (by assumption) ?_)
  | ((with_reducible refine gd_is "_law_kind" ?_); refine gd_v 1 (by assumption) ?_)
  | ((with_reducible refine gd_is "_law_context" ?_); refine gd_v 2 (by assumption) ?_)
  | ((with_reducible refine gd_is "_law_left" ?_); refine gd_v 3 (by assumption) ?_)
  | ((with_reducible refine gd_is "_law_way" ?_); refine gd_v 4 (by assumption) ?_)
  | ((with_reducible refine gd_is "_law_first" ?_); refine gd_v 5 (by assumption) ?_)
  | ((with_reducible refine gd_is "_law_sign" ?_); refine gd_v 6 (by assumption) ?_)
  | ((with_reducible refine gd_is "_law_name" ?_); refine gd_v 7 (by assumption) ?_)
  | ((with_reducible refine gd_is "_law_sides" ?_); refine gd_v 8 (by assumption) ?_)
  | ((with_reducible refine gd_is "_law_each" ?_); refine gd_v 9 (by assumption) ?_)
  | fail)
theorem built_ok (D : Hd K mg "_law_built" s_law_built p_law_built []) (B : Bi mg) {N : Nat} (CP : Fc P w K mg base k "_law_pull" [] F_pull) (CO : Fc P w K mg base k "_law_one" [] F_one) (Ctr : Fc P w K mg base k "_law_truth" [] F_truth) (CC : Fc P w K mg base k "_law_can" [] (F_can 20))
    (CB : Fc P w K mg base k "_law_bound" [] F_bound) (CF : Fc P w K mg base k "_law_flat" [] (F_flat 4)) (CT : Fc P w K mg base k "_law_term" [] (F_term N)) : Fc P w K mg base (k + 1) "_law_built" [] (F_way N []) := by
  refine D.go sc_law_built (fun W s xs Q h => ?_) (fun f cdv A outer s0 H0 E hr W s xs Q h => ?_)
  · obtain ⟨a, p, L, k, Γ, rfl, _⟩ := h
    rfl
  obtain ⟨a, p, L, k, Γ, rfl, C, ok, hlf, q⟩ := h
  have nd := sc_law_built.nd
  have cok := ok.ctx.g.ok
  have hdp := ok.dp
  have hlen := ok.len
  have tm := @term_call N W a p C L s
  have sub : ∀ {k' : Kd}, k'.dp ≤ 4 → can Γ k' = true → TermOk N Γ k' := fun h1 h2 => ⟨ok.ctx, h1, h2, by omega⟩
  have a0 := At.refl L s
  have qf := q
  have q : ∀ (t : Tm) (s' : W.St), G 0 Γ t k → t.dp ≤ 3 * N + 7 → At L s s' → Q s' (.d (tD t)) := fun t s' g d e => q t s' (.of g d) e
  refine sds_cut (fun s' δ' => s' = s ∧ δ' = startD n_law_built ([.o a, .d (kD k), .d (ctxD Γ), .o p] ++ []) ∧ k ≠ .num) ?_ ?_
  · wtm_at "q.run"
    rw [wnum]
    refine br_dec (fun h => ?_) (fun h => ?_)
    · subst h
      wtm_at "q.run"
      refine ed_fn CP hr ?_
      wtm_at "q.run"
      refine ⟨a, 4, rfl, C, by decide, by decide, fun way h1 h2 => ?_⟩
      wtm_at "q.run"
      refine ed_fn CT hr ?_
      wtm_at "q.run"
      refine tm a0 hlf .num Γ rfl (sub hdp ok.can) fun t1 s1 d1 a1 => ?_
      have := d1.dp
      wtm_at "q.run"
      refine br_dec (fun h => ?_) (fun h => ?_)
      · wtm_at "q.run"
        exact q (.minus t1) _ (.minus d1.g) (by simp only [Tm.dp]; omega) a1
      · wtm_at "q.run"
        refine br_dec (fun h => ?_) (fun h => ?_)
        · wtm_at "q.run"
          refine ed_fn CT hr ?_
          wtm_at "q.run"
          refine tm a1 hlf .num Γ rfl (sub hdp ok.can) fun t2 s2 d2 a2 => ?_
          have := d2.dp
          wtm_at "q.run"
          exact q (.plus t1 t2) _ (.plus d1.g d2.g (Nat.le_refl 0)) (by simp only [Tm.dp]; omega) a2
        · wtm_at "q.run"
          refine ed_fn CT hr ?_
          wtm_at "q.run"
          refine tm a1 hlf .num Γ rfl (sub hdp ok.can) fun t2 s2 d2 a2 => ?_
          have := d2.dp
          wtm_at "q.run"
          exact q (.times t1 t2) _ (.times d1.g d2.g (Nat.le_refl 0)) (by simp only [Tm.dp]; omega) a2
    · wtm_at "q.run"
      exact ⟨rfl, rfl, h⟩
  rintro s' δ' ⟨rfl, rfl, hnn⟩
  refine sds_cut (fun s1 δ' => s1 = s' ∧ δ' = startD n_law_built ([.o a, .d (kD k), .d (ctxD Γ), .o p] ++ [])) ?_ ?_
  · wtm_at "q.run"
    refine ed_fn0 Ctr hr ?_
    refine ⟨rfl, ?_⟩
    wtm_at "q.run"
    refine br_dec (fun h => ?_) (fun h => ?_)
    · subst h
      wtm_at "q.run"
      refine ed_fn CP hr ?_
      wtm_at "q.run"
      refine ⟨a, 3, rfl, C, by decide, by decide, fun way h1 h2 => ?_⟩
      wtm_at "q.run"
      refine br_dec (fun h => ?_) (fun h => ?_)
      · wtm_at "q.run"
        refine ed_fn CO hr ?_
        wtm_at "q.run"
        refine ⟨a, signL.map .str, .inr rfl, C, by simp [signL], by decide, fun d hd => ?_⟩
        obtain ⟨sg, hsg, rfl⟩ := List.mem_map.mp hd
        wtm_at "q.run"
        refine ed_fn CT hr ?_
        wtm_at "q.run"
        refine tm a0 hlf .num Γ rfl (sub (by decide) rfl) fun t1 s1 d1 a1 => ?_
        have := d1.dp
        wtm_at "q.run"
        refine ed_fn CT hr ?_
        wtm_at "q.run"
        refine tm a1 hlf .num Γ rfl (sub (by decide) rfl) fun t2 s2 d2 a2 => ?_
        have := d2.dp
        wtm_at "q.run"
        exact q (.is sg t1 t2) _ (.is hsg d1.g d2.g (Nat.le_refl 0)) (by simp only [Tm.dp]; omega) a2
      · wtm_at "q.run"
        exact ⟨rfl, rfl⟩
    · wtm_at "q.run"
      exact ⟨rfl, rfl⟩
  rintro s1 δ' ⟨rfl, rfl⟩
  have canq : ∀ (k' : Kd) (s : W.St) (Q' : W.St → Sv → Prop), k'.dp < k.dp → Q' s (.d (.bool (can Γ k'))) → F_can 20 W s [.d (kD k'), .d (ctxD Γ)] Q' := fun k' s Q' h1 h2 =>
    ⟨k', Γ, rfl, by omega, by omega, cok.mono (by decide), by omega, h2⟩
  have flatR : F_flat 4 W s1 [.o a, .d (kD k), .d (ctxD Γ)] Q := ok.flat C fun t d => qf t _ d (At.refl L s1)
  cases k with
  | num => exact absurd rfl hnn
  | va =>
    wtm_at "q.run"
    refine sd_cl1 8 9 nd ?_
    refine jd_tup ?_
    refine ed_restK (k := .va) ?_
    wtm_at "q.nm"
    refine ⟨rfl, pd_some ?_⟩
    wtm_at "q.run"
    refine ⟨rfl, _, rfl, sz_ok (Nat.le_of_ble_eq_true rfl), ?_⟩
    refine cl1_cons ?_
    intro p2
    wtm_at "q.run"
    intro p3
    wtm_at "q.run"
    refine ⟨rfl, ?_⟩
    refine cl1_nil ?_
    wtm_at "q.run"
    refine ed_fn CF hr ?_
    wtm_at "q.run"
    exact flatR
  | vb =>
    wtm_at "q.run"
    refine sd_cl1 8 9 nd ?_
    refine jd_tup ?_
    refine ed_restK (k := .vb) ?_
    wtm_at "q.nm"
    refine ⟨rfl, pd_some ?_⟩
    wtm_at "q.run"
    refine ⟨rfl, _, rfl, sz_ok (Nat.le_of_ble_eq_true rfl), ?_⟩
    refine cl1_cons ?_
    intro p2
    wtm_at "q.run"
    intro p3
    wtm_at "q.run"
    refine ⟨rfl, ?_⟩
    refine cl1_nil ?_
    wtm_at "q.run"
    refine ed_fn CF hr ?_
    wtm_at "q.run"
    exact flatR
  | unit =>
    wtm_at "q.run"
    refine sd_cl1 8 9 nd ?_
    refine jd_tup ?_
    refine ed_restK (k := .unit) ?_
    wtm_at "q.nm"
    refine ⟨rfl, pd_some ?_⟩
    wtm_at "q.run"
    refine ⟨rfl, _, rfl, sz_ok (Nat.le_of_ble_eq_true rfl), ?_⟩
    refine cl1_nil ?_
    wtm_at "q.run"
    refine ed_fn CF hr ?_
    wtm_at "q.run"
    exact flatR
  | list x =>
    simp only [Kd.dp] at hdp
    wtm_at "q.run"
    refine sd_cl1 8 9 nd ?_
    refine jd_tup ?_
    refine ed_restK (k := .list x) ?_
    wtm_at "q.nm"
    refine ⟨rfl, pd_some ?_⟩
    wtm_at "q.run"
    refine ⟨rfl, _, rfl, sz_ok (Nat.le_of_ble_eq_true rfl), ?_⟩
    refine cl1_cons ?_
    intro p2
    wtm_at "q.run"
    intro p3
    wtm_at "q.run"
    refine ⟨rfl, ?_⟩
    refine cl1_nil ?_
    wtm_at "q.run"
    refine ed_fn CC hr ?_
    wtm_at "q.run"
    refine canq x _ _ (by simp only [Kd.dp]; omega) ?_
    wtm_at "q.run"
    refine br_b (fun hc => ?_) (fun hc => ?_)
    · wtm_at "q.run"
      refine ed_fn CT hr ?_
      wtm_at "q.run"
      refine tm a0 hlf x Γ rfl (sub (by omega) hc) fun t1 s1 d1 a1 => ?_
      have := d1.dp
      wtm_at "q.run"
      refine ed_fn CT hr ?_
      wtm_at "q.run"
      refine tm a1 hlf (.list x) Γ rfl (sub (by simp only [Kd.dp]; omega) rfl) fun t2 s2 d2 a2 => ?_
      have := d2.dp
      wtm_at "q.run"
      exact q (.cons t1 t2) _ (.cons (by simp only [Kd.dp]; omega) d1.g d2.g (Nat.le_refl 0)) (by simp only [Tm.dp]; omega) a2
    · wtm_at "q.run"
      refine ed_fn CF hr ?_
      wtm_at "q.run"
      exact flatR
  | func x y =>
    simp only [Kd.dp] at hdp
    wtm_at "q.run"
    refine ed_fn CC hr ?_
    wtm_at "q.run"
    refine cd_str ?_ ?_
    · rw [List.length_map]
      exact wn_log _ (by omega)
    wtm_at "q.run"
    refine od_addS ?_ ?_
    · rw [List.length_map]
      have := wn_len Γ.length (by omega)
      rw [sizeLine_eq]
      omega
    wtm_at "q.run"
    refine od_catL (sz_n (by rw [List.length_map]; show Γ.length + 1 ≤ _; omega)) ?_
    wtm_at "q.run"
    rw [List.length_map]
    have cw : CtxT (Γ ++ [(wn Γ.length, x)]) := ok.ctx.snoc (.inr rfl) (by omega) (by omega)
    refine ⟨y, Γ ++ [(wn Γ.length, x)], by simp [ctxD, pairK, wn], by omega, by omega, cw.g.ok.mono (by decide), by rw [List.length_append, List.length_singleton]; omega, ?_⟩
    wtm_at "q.run"
    refine br_b (fun hc => ?_) (fun hc => ?_)
    · wtm_at "q.run"
      refine ed_fn CB hr ?_
      wtm_at "q.run"
      refine ⟨a, x, y, Γ, rfl, C, cok, by omega, by omega, by omega, fun z hz => ?_⟩
      have cz : CtxT (Γ ++ [(z, x)]) := ok.ctx.snoc (hz.imp (fun h => List.mem_append_left _ h.1) id) (by omega) (by omega)
      have hcz : can (Γ ++ [(z, x)]) y = true := by
        rcases hz with hz | rfl
        · exact hz.2
        · exact hc
      wtm_at "q.run"
      refine ed_fn CT hr ?_
      wtm_at "q.run"
      refine od_catL (sz_n (by rw [List.length_map]; show Γ.length + 1 ≤ _; omega)) ?_
      wtm_at "q.run"
      refine tm a0 hlf y (Γ ++ [(z, x)]) (by simp [ctxD, pairK]) ⟨cz, by omega, hcz, by rw [List.length_append, List.length_singleton]; omega⟩ fun t1 s1 d1 a1 => ?_
      have := d1.dp
      wtm_at "q.run"
      exact q (.fn z x t1) _ (.fn (cz.g.nm _ (List.mem_append_right _ (List.mem_singleton.mpr rfl))) (by omega) (by omega) d1.g) (by simp only [Tm.dp]; omega) a1
    · wtm_at "q.run"
      refine sd_cl1 8 9 nd ?_
      refine jd_tup ?_
      refine ed_restK (k := .func x y) ?_
      wtm_at "q.nm"
      refine ⟨rfl, pd_some ?_⟩
      wtm_at "q.run"
      refine ⟨rfl, _, rfl, sz_ok (Nat.le_of_ble_eq_true rfl), ?_⟩
      refine cl1_cons ?_
      intro p2
      wtm_at "q.run"
      intro p3
      wtm_at "q.run"
      refine ⟨rfl, ?_⟩
      refine cl1_cons ?_
      intro p2
      wtm_at "q.run"
      intro p3
      wtm_at "q.run"
      refine ⟨rfl, ?_⟩
      refine cl1_nil ?_
      wtm_at "q.run"
      refine ed_fn CF hr ?_
      wtm_at "q.run"
      exact flatR
  | pair x y =>
    simp only [Kd.dp] at hdp
    wtm_at "q.run"
    refine sd_cl1 8 9 nd ?_
    refine jd_tup ?_
    refine ed_restK (k := .pair x y) ?_
    wtm_at "q.nm"
    refine ⟨rfl, pd_some ?_⟩
    wtm_at "q.run"
    refine ⟨rfl, _, rfl, sz_ok (Nat.le_of_ble_eq_true rfl), ?_⟩
    refine cl1_cons ?_
    intro p2
    wtm_at "q.run"
    intro p3
    wtm_at "q.run"
    refine ed_fn CC hr ?_
    wtm_at "q.run"
    refine canq x _ _ (by simp only [Kd.dp]; omega) ?_
    refine ⟨_, rfl, rfl, ?_⟩
    refine cl1_cons ?_
    intro p2
    wtm_at "q.run"
    intro p3
    wtm_at "q.run"
    refine ed_fn CC hr ?_
    wtm_at "q.run"
    refine canq y _ _ (by simp only [Kd.dp]; omega) ?_
    refine ⟨_, rfl, rfl, ?_⟩
    refine cl1_nil ?_
    cases hx : can Γ x with
    | false =>
      wtm_at "q.run"
      refine od_eq (ru64 hr) rfl rfl ?_
      wtm_at "q.run"
      refine ed_fn CF hr ?_
      wtm_at "q.run"
      exact flatR
    | true =>
      cases hy : can Γ y with
      | false =>
        wtm_at "q.run"
        refine od_eq (ru64 hr) rfl rfl ?_
        wtm_at "q.run"
        refine ed_fn CF hr ?_
        wtm_at "q.run"
        exact flatR
      | true =>
        wtm_at "q.run"
        refine od_eq (ru64 hr) rfl rfl ?_
        wtm_at "q.run"
        refine ed_fn CT hr ?_
        wtm_at "q.run"
        refine tm a0 hlf x Γ rfl (sub (by omega) hx) fun t1 s1 d1 a1 => ?_
        have := d1.dp
        wtm_at "q.run"
        refine ed_fn CT hr ?_
        wtm_at "q.run"
        refine tm a1 hlf y Γ rfl (sub (by omega) hy) fun t2 s2 d2 a2 => ?_
        have := d2.dp
        wtm_at "q.run"
        exact q (.pair t1 t2) _ (.pair (by simp only [Kd.dp]; omega) d1.g d2.g (Nat.le_refl 0)) (by simp only [Tm.dp]; omega) a2
  | either x y =>
    simp only [Kd.dp] at hdp
    wtm_at "q.run"
    refine sd_cl1 8 9 nd ?_
    refine jd_tup ?_
    refine ed_restK (k := .either x y) ?_
    wtm_at "q.nm"
    refine ⟨rfl, pd_some ?_⟩
    wtm_at "q.run"
    refine ⟨rfl, _, rfl, sz_ok (Nat.le_of_ble_eq_true rfl), ?_⟩
    refine cl1_cons ?_
    intro p2
    wtm_at "q.run"
    intro p3
    wtm_at "q.run"
    refine ed_fn CC hr ?_
    wtm_at "q.run"
    refine canq x _ _ (by simp only [Kd.dp]; omega) ?_
    refine ⟨_, rfl, rfl, ?_⟩
    refine cl1_cons ?_
    intro p2
    wtm_at "q.run"
    intro p3
    wtm_at "q.run"
    refine ed_fn CC hr ?_
    wtm_at "q.run"
    refine canq y _ _ (by simp only [Kd.dp]; omega) ?_
    refine ⟨_, rfl, rfl, ?_⟩
    refine cl1_nil ?_
    cases hx : can Γ x with
    | false =>
      cases hy : can Γ y with
      | false =>
        wtm_at "q.run"
        refine od_inL (ru65 hr) rfl rfl ?_
        wtm_at "q.run"
        refine ed_fn CF hr ?_
        wtm_at "q.run"
        exact flatR
      | true =>
        wtm_at "q.run"
        refine od_inL (ru65 hr) rfl rfl ?_
        wtm_at "q.run"
        refine ed_fn CT hr ?_
        wtm_at "q.run"
        refine tm a0 hlf y Γ rfl (sub (by omega) hy) fun t1 s1 d1 a1 => ?_
        have := d1.dp
        wtm_at "q.run"
        exact q (.right x t1) _ (.right (by simp only [Kd.dp]; omega) d1.g) (by simp only [Tm.dp]; omega) a1
    | true =>
      cases hy : can Γ y with
      | false =>
        wtm_at "q.run"
        refine od_inL (ru65 hr) rfl rfl ?_
        wtm_at "q.run"
        refine ed_fn CT hr ?_
        wtm_at "q.run"
        refine tm a0 hlf x Γ rfl (sub (by omega) hx) fun t1 s1 d1 a1 => ?_
        have := d1.dp
        wtm_at "q.run"
        exact q (.left t1 y) _ (.left (by simp only [Kd.dp]; omega) d1.g) (by simp only [Tm.dp]; omega) a1
      | true =>
        wtm_at "q.run"
        refine od_inL (ru65 hr) rfl rfl ?_
        wtm_at "q.run"
        refine ed_fn CP hr ?_
        wtm_at "q.run"
        refine ⟨a, 2, rfl, C, by decide, by decide, fun way h1 h2 => ?_⟩
        wtm_at "q.run"
        refine br_dec (fun h3 => ?_) (fun h3 => ?_)
        · wtm_at "q.run"
          refine ed_fn CT hr ?_
          wtm_at "q.run"
          refine tm a0 hlf x Γ rfl (sub (by omega) hx) fun t1 s1 d1 a1 => ?_
          have := d1.dp
          wtm_at "q.run"
          exact q (.left t1 y) _ (.left (by simp only [Kd.dp]; omega) d1.g) (by simp only [Tm.dp]; omega) a1
        · wtm_at "q.run"
          refine ed_fn CT hr ?_
          wtm_at "q.run"
          refine tm a0 hlf y Γ rfl (sub (by omega) hy) fun t1 s1 d1 a1 => ?_
          have := d1.dp
          wtm_at "q.run"
          exact q (.right x t1) _ (.right (by simp only [Kd.dp]; omega) d1.g) (by simp only [Tm.dp]; omega) a1
end
end
end
section
/-! W19: _law_roundabout. -/
def isFunTo (k : Kd) (p : Str × Kd) : Bool := match p.2 with | .func _ y => decide (y = k) | _ => false
def funCan (Γ : Ctx) (p : Str × Kd) : Bool := decide (look Γ p.1 = some p.2) && (match p.2 with | .func x _ => can Γ x | _ => false)
def eitherCan (Γ : Ctx) (p : Str × Kd) : Bool := match p.2 with | .either x y => can Γ (.either x y) | _ => false
theorem wfun_no {k : Kd} (h : ¬ k.word = "fun") (n : Str) (w : Kd) : isFunTo w (n, k) = false := by
  cases k <;> first | rfl | exact absurd rfl h
theorem weither_no {k : Kd} (h : ¬ k.word = "either") (n : Str) (Γ : Ctx) : eitherCan Γ (n, k) = false := by
  cases k <;> first | rfl | exact absurd rfl h
theorem pairK_ok {Γ : Ctx} (h : CtxOk 20 Γ) {p : Str × Kd} (hp : p ∈ Γ) : (pairK p).canLay0 = true ∧ (pairK p).depth ≤ 63 := by
  have h1 := h.names p hp
  have h2 := h.deep p hp
  refine ⟨by simp [pairK, PyData.canLay0, PyData.canLayAll0, h1, kD_lay], ?_⟩
  simp [pairK, PyData.depth, PyData.depthAll, kD_depth]
  omega
theorem noL_pairK (p : Str × Kd) : noL (pairK p) = true := by simp [pairK, noL, noLs, noL_kD]
def F_round (N : Nat) : FT := fun W s xs Q => ∃ way : Int, F_way N [.d (.int way)] W s xs Q
section
variable {P : Program} {w : World} {K : PySem.W.Frag} {mg : Str → Option Value} {base : Heap} {k : Nat}
section
local macro_rules | `(tactic| wtm_at "q.nm") => `(tactic| first
  | ((with_reducible refine ed_is "_law_urn_here" ?_); refine ed_vi 0 ?_; wtm_at "q.slot")
  | ((with_reducible refine ed_is "_law_kind" ?_); refine ed_vi 1 ?_; wtm_at "q.slot")
  | ((with_reducible refine ed_is "_law_context" ?_); refine ed_vi 2 ?_; wtm_at "q.slot")
  | ((with_reducible refine ed_is "_law_left" ?_); refine ed_vi 3 ?_; wtm_at "q.slot")
  | ((with_reducible refine ed_is "_law_way" ?_); refine ed_vi 4 ?_; wtm_at "q.slot")
  | ((with_reducible refine ed_is "_law_other" ?_); refine ed_vi 5 ?_; wtm_at "q.slot")
  | ((with_reducible refine ed_is "_law_name" ?_); refine ed_vi 6 ?_; wtm_at "q.slot")
  | ((with_reducible refine ed_is "_law_inner_here" ?_); refine ed_vi 7 ?_; wtm_at "q.slot")
  | ((with_reducible refine ed_is "_law_first" ?_); refine ed_vi 8 ?_; wtm_at "q.slot")
  | ((with_reducible refine ed_is "_law_some" ?_); refine ed_vi 9 ?_; wtm_at "q.slot")
  | ((with_reducible refine ed_is "_law_function" ?_); refine ed_vi 10 ?_; wtm_at "q.slot")
  | ((with_reducible refine ed_is "_law_eithers" ?_); refine ed_vi 11 ?_; wtm_at "q.slot")
  | ((with_reducible refine ed_is "_law_either" ?_); refine ed_vi 12 ?_; wtm_at "q.slot")
  | ((with_reducible refine ed_is "_law_side" ?_); refine ed_vi 13 ?_; wtm_at "q.slot")
  | ((with_reducible refine ed_is "_law_last" ?_); refine ed_vi 14 ?_; wtm_at "q.slot")
  | ((with_reducible refine ed_is "_law_each" ?_); refine ed_vi 15 ?_; wtm_at "q.slot")
  | ((with_reducible refine ed_is "_law_seen_here" ?_); refine ed_vi 16 ?_; wtm_at "q.slot")
  | fail)
local macro_rules | `(tactic| wtm_at "q.set") => `(tactic| first
  | ((with_reducible refine sd_is "_law_urn_here" ?_); refine sd_v 0 (by assumption) ?_)
  | ((with_reducible refine sd_is "_law_kind" ?_); refine sd_v 1 (by assumption) ?_)
  | ((with_reducible refine sd_is "_law_context" ?_); refine sd_v 2 (by assumption) ?_)
  | ((with_reducible refine sd_is "_law_left" ?_); refine sd_v 3 (by assumption) ?_)
  | ((with_reducible refine sd_is "_law_way" ?_); refine sd_v 4 (by assumption) ?_)
  | ((with_reducible refine sd_is "_law_other" ?_); refine sd_v 5 (by assumption) ?_)
  | ((with_reducible refine sd_is "_law_name" ?_); refine sd_v 6 (by assumption) ?_)
  | ((with_reducible refine sd_is "_law_inner_here" ?_); refine sd_v 7 (by assumption) ?_)
  | ((with_reducible refine sd_is "_law_first" ?_); refine sd_v 8 (by assumption) ?_)
  | ((with_reducible refine sd_is "_law_some" ?_); refine sd_v 9 (by assumption) ?_)
  | ((with_reducible refine sd_is "_law_function" ?_); refine sd_v 10 (by assumption) ?_)
  | ((with_reducible refine sd_is "_law_eithers" ?_); refine sd_v 11 (by assumption) ?_)
  | ((with_reducible refine sd_is "_law_either" ?_); refine sd_v 12 (by assumption) ?_)
  | ((with_reducible refine sd_is "_law_side" ?_); refine sd_v 13 (by assumption) ?_)
  | ((with_reducible refine sd_is "_law_last" ?_); refine sd_v 14 (by assumption) ?_)
  | ((with_reducible refine sd_is "_law_each" ?_); refine sd_v 15 (by assumption) ?_)
  | ((with_reducible refine sd_is "_law_seen_here" ?_); refine sd_v 16 (by assumption) ?_)
  | fail)
local macro_rules | `(tactic| wtm_at "q.gnm") => `(tactic| first
  | ((with_reducible refine gd_is "_law_urn_here" ?_); refine gd_v 0 (by assumption) ?_)
  | ((with_reducible refine gd_is "_law_kind" ?_); refine gd_v 1 (by assumption) ?_)
  | ((with_reducible refine gd_is "_law_context" ?_); refine gd_v 2 (by assumption) ?_)
  | ((with_reducible refine gd_is "_law_left" ?_); refine gd_v 3 (by assumption) ?_)
  | ((with_reducible refine gd_is "_law_way" ?_); refine gd_v 4 (by assumption) ?_)
  | ((with_reducible refine gd_is "_law_other" ?_); refine gd_v 5 (by assumption) ?_)
  | ((with_reducible refine gd_is "_law_name" ?_); refine gd_v 6 (by assumption) ?_)
  | ((with_reducible refine gd_is "_law_inner_here" ?_); refine gd_v 7 (by assumption) ?_)
  | ((with_reducible refine gd_is "_law_first" ?_); refine gd_v 8 (by assumption) ?_)
  | ((with_reducible refine gd_is "_law_some" ?_); refine gd_v 9 (by assumption) ?_)
  | ((with_reducible refine gd_is "_law_function" ?_); refine gd_v 10 (by assumption) ?_)
  | ((with_reducible refine gd_is "_law_eithers" ?_); refine gd_v 11 (by assumption) ?_)
  | ((with_reducible refine gd_is "_law_either" ?_); refine gd_v 12 (by assumption) ?_)
  | ((with_reducible refine gd_is "_law_side" ?_); refine gd_v 13 (by assumption) ?_)
  | ((with_reducible refine gd_is "_law_last" ?_); refine gd_v 14 (by assumption) ?_)
  | ((with_reducible refine gd_is "_law_each" ?_); refine gd_v 15 (by assumption) ?_)
  | ((with_reducible refine gd_is "_law_seen_here" ?_); refine gd_v 16 (by assumption) ?_)
  | fail)
theorem round_ok (D : Hd K mg "_law_roundabout" s_law_roundabout p_law_roundabout []) (B : Bi mg) {N : Nat} (CO : Fc P w K mg base k "_law_one" [] F_one) (CS : Fc P w K mg base k "_law_seen" [] F_seen) (Ctr : Fc P w K mg base k "_law_truth" [] F_truth) (CC : Fc P w K mg base k "_law_can" [] (F_can 20))
    (CB : Fc P w K mg base k "_law_bound" [] F_bound) (CK : Fc P w K mg base k "_law_other_kind" [] F_otherKind) (CT : Fc P w K mg base k "_law_term" [] (F_term N)) : Fc P w K mg base (k + 1) "_law_roundabout" [] (F_round N) := by
  refine D.go sc_law_roundabout (fun W s xs Q h => ?_) (fun f cdv A outer s0 H0 E hr W s xs Q h => ?_)
  · obtain ⟨way, a, p, L, k, Γ, rfl, _⟩ := h
    rfl
  obtain ⟨way, a, p, L, k, Γ, rfl, C, ok, hlf, q⟩ := h
  have nd := sc_law_roundabout.nd
  have cok := ok.ctx.g.ok
  have hdp := ok.dp
  have hlen := ok.len
  have tm := @term_call N W a p C L s
  have sub : ∀ {k' : Kd}, k'.dp ≤ 4 → can Γ k' = true → TermOk N Γ k' := fun h1 h2 => ⟨ok.ctx, h1, h2, by omega⟩
  have a0 := At.refl L s
  have q : ∀ (t : Tm) (s' : W.St), G 0 Γ t k → t.dp ≤ 3 * N + 7 → At L s s' → Q s' (.d (tD t)) := fun t s' g d e => q t s' (.of g d) e
  have canq : ∀ (k' : Kd) (s : W.St) (Q' : W.St → Sv → Prop), k'.dp ≤ 4 → Q' s (.d (.bool (can Γ k'))) → F_can 20 W s [.d (kD k'), .d (ctxD Γ)] Q' := fun k' s Q' h1 h2 =>
    ⟨k', Γ, rfl, by omega, by omega, cok.mono (by decide), by omega, h2⟩
  -- a name to bind: what is known of it
  have bnd : ∀ (kk : Kd) (s : W.St) (Q' : W.St → Sv → Prop), kk.dp ≤ 4 → (∀ z, CtxT (Γ ++ [(z, kk)]) → TermOk N (Γ ++ [(z, kk)]) k → Nm z → Q' s (.d (.str z))) → F_bound W s [.o a, .d (kD kk), .d (kD k), .d (ctxD Γ)] Q' := fun kk s Q' h1 h2 =>
    ⟨a, kk, k, Γ, rfl, C, cok, by omega, by omega, by omega, fun z hz => by
      have cz : CtxT (Γ ++ [(z, kk)]) := ok.ctx.snoc (hz.imp (fun h => List.mem_append_left _ h.1) id) (by omega) (by omega)
      have lz : (Γ ++ [(z, kk)]).length = Γ.length + 1 := by rw [List.length_append, List.length_singleton]
      refine h2 z cz ⟨cz, hdp, ?_, by omega⟩ (cz.g.nm _ (List.mem_append_right _ (List.mem_singleton.mpr rfl)))
      rcases hz with hz | rfl
      · exact hz.2
      · exact can_mono (shows_w ok.ctx.g.fresh (by omega)) ok.ctx.g.fresh.w (by rw [lz]; omega) ok.can⟩
  wtm_at "q.run"
  refine ed_fn CK hr ?_
  wtm_at "q.run"
  refine ⟨a, Γ, rfl, C, cok, by omega, fun ko hcan hmem => ?_⟩
  have hko : ko.dp ≤ 4 := by
    rcases hmem with h | h
    · obtain ⟨pr, hpr, rfl⟩ := List.mem_map.mp h
      exact ok.ctx.deep pr hpr
    · exact (const_k4 ko h).dp
  wtm_at "q.run"
  refine ed_fn CB hr ?_
  wtm_at "q.run"
  refine bnd ko _ _ hko fun z cz okz nz => ?_
  wtm_at "q.run"
  refine od_catL (sz_n (by rw [List.length_map]; show Γ.length + 1 ≤ _; omega)) ?_
  wtm_at "q.run"
  refine br_dec (fun hw => ?_) (fun hw => ?_)
  · wtm_at "q.run"
    refine ed_fn CT hr ?_
    wtm_at "q.run"
    refine tm a0 hlf ko Γ rfl (sub hko hcan) fun t1 s1 d1 a1 => ?_
    have := d1.dp
    wtm_at "q.run"
    refine ed_fn CT hr ?_
    wtm_at "q.run"
    refine tm a1 hlf k (Γ ++ [(z, ko)]) (by simp [ctxD, pairK]) okz fun t2 s2 d2 a2 => ?_
    have := d2.dp
    wtm_at "q.run"
    exact q (.lete z t1 t2) _ (.lete nz hko (by omega) d1.g d2.g (Nat.le_refl 0)) (by simp only [Tm.dp]; omega) a2
  wtm_at "q.run"
  refine br_dec (fun hw1 => ?_) (fun hw1 => ?_)
  · wtm_at "q.run"
    refine sd_cl1 9 15 nd ?_
    refine jd_list ?_
    wtm_at "q.run"
    refine ⟨ctx_len cok, ?_⟩
    refine cl1_mapA pairK (fun p => if isFunTo k p = true then [pairK p] else []) _ _ _ (fun pr hpr acc Nx hN p => ?_) ?_
    · obtain ⟨nm, kk⟩ := pr
      have hd : kk.dp ≤ 4 := ok.ctx.deep _ hpr
      wtm_at "q.run"
      refine br_dec (fun h1 => ?_) (fun h1 => ?_)
      · obtain ⟨x, y, rfl⟩ := kdFun h1
        simp only [Kd.dp] at hd
        wtm_at "q.run"
        refine br_dec (fun h2 => ?_) (fun h2 => ?_)
        · rw [if_pos (by simpa [isFunTo] using h2)] at hN
          intro p'
          wtm_at "q.run"
          exact ⟨noL_pairK _, hN⟩
        · rw [if_neg (by simpa [isFunTo] using h2), List.append_nil] at hN
          exact hN
      · rw [wfun_no h1, if_neg (by decide), List.append_nil] at hN
        wtm_at "q.run"
        exact hN
    rw [List.nil_append, flat_filter]
    wtm_at "q.run"
    refine sd_cl1 9 15 nd ?_
    refine jd_list ?_
    wtm_at "q.run"
    refine ⟨sz_n (by rw [List.length_map]; have := List.length_filter_le (isFunTo k) Γ; omega), ?_⟩
    refine cl1_mapA pairK (fun p => if funCan Γ p = true then [pairK p] else []) _ _ _ (fun pr hpr acc Nx hN p => ?_) ?_
    · obtain ⟨hpr, hpf⟩ := List.mem_filter.mp hpr
      obtain ⟨nm, kk⟩ := pr
      have hd : kk.dp ≤ 4 := ok.ctx.deep _ hpr
      have hs : PyData.strOk nm = true := cok.names _ hpr
      obtain ⟨x, y, rfl⟩ : ∃ x y, kk = .func x y := by
        cases kk <;> first | exact ⟨_, _, rfl⟩ | cases hpf
      simp only [Kd.dp] at hd
      wtm_at "q.run"
      refine ed_fn CS hr ?_
      wtm_at "q.run"
      refine ⟨Γ, nm, rfl, cok.mono (by decide), hs, ?_⟩
      wtm_at "q.run"
      refine od_eq (ru64 hr) (shaped_seen fun k e => by have := cok.look e; omega) (kD_shaped (by simp only [Kd.dp]; omega)) ?_
      rw [eqv_seen]
      wtm_at "q.run"
      refine br_dec (fun h2 => ?_) (fun h2 => ?_)
      · wtm_at "q.run"
        refine ed_fn CC hr ?_
        wtm_at "q.run"
        refine canq x _ _ (by omega) ?_
        wtm_at "q.run"
        refine br_b (fun h3 => ?_) (fun h3 => ?_)
        · rw [if_pos (by simp [funCan, h2, h3])] at hN
          intro p'
          wtm_at "q.run"
          exact ⟨noL_pairK _, hN⟩
        · rw [if_neg (by simp [funCan, h3]), List.append_nil] at hN
          exact hN
      · rw [if_neg (by simp [funCan, h2]), List.append_nil] at hN
        exact hN
    rw [List.nil_append, flat_filter]
    have fl : ((Γ.filter (isFunTo k)).filter (funCan Γ)).length ≤ 200 := by
      have h1 := List.length_filter_le (funCan Γ) (Γ.filter (isFunTo k))
      have h2 := List.length_filter_le (isFunTo k) Γ
      omega
    have hm : ∀ pr ∈ (Γ.filter (isFunTo k)).filter (funCan Γ), ∃ x, pr.2 = .func x k ∧ look Γ pr.1 = some (.func x k) ∧ can Γ x = true ∧ pr ∈ Γ := fun pr hpr => by
      obtain ⟨h1, h2⟩ := List.mem_filter.mp hpr
      obtain ⟨h0, h3⟩ := List.mem_filter.mp h1
      obtain ⟨nm, kk⟩ := pr
      obtain ⟨x, y, rfl⟩ : ∃ x y, kk = .func x y := by
        cases kk <;> first | exact ⟨_, _, rfl⟩ | cases h3
      have h3 : y = k := by simpa [isFunTo] using h3
      subst h3
      simp only [funCan, Bool.and_eq_true, decide_eq_true_eq] at h2
      exact ⟨x, rfl, h2.1, h2.2, h0⟩
    generalize (Γ.filter (isFunTo k)).filter (funCan Γ) = ls at fl hm
    wtm_at "q.run"
    refine od_neL hr (shaped_l fun d hd => by
      obtain ⟨pr, hpr, rfl⟩ := List.mem_map.mp hd
      obtain ⟨_, _, _, _, hg⟩ := hm pr hpr
      exact pairK_ok cok hg) ?_
    wtm_at "q.run"
    refine br_e (fun hne => ?_) (fun hne => ?_)
    · wtm_at "q.run"
      refine ed_fn CO hr ?_
      wtm_at "q.run"
      refine ⟨a, ls.map pairK, .inl rfl, C, hne, by rw [List.length_map]; omega, fun d hd => ?_⟩
      obtain ⟨⟨nm, kk⟩, hpr, rfl⟩ := List.mem_map.mp hd
      obtain ⟨x, hx, hlk, hcx, hg⟩ := hm _ hpr
      have hx : kk = .func x k := hx
      subst hx
      have hd4 := ok.ctx.deep _ hg
      simp only [Kd.dp] at hd4
      wtm_at "q.run"
      refine ed_fn CT hr ?_
      wtm_at "q.run"
      refine tm a0 hlf x Γ rfl (sub (by omega) hcx) fun t1 s1 d1 a1 => ?_
      have := d1.dp
      wtm_at "q.run"
      exact q (.call (.name nm) t1) _ (.call (by simp only [Kd.dp]; omega) (.name hlk (ok.ctx.g.nm _ hg)) d1.g (Nat.le_refl 0)) (by simp only [Tm.dp]; omega) a1
    · wtm_at "q.run"
      refine ed_fn CT hr ?_
      wtm_at "q.run"
      refine tm a0 hlf k (Γ ++ [(z, ko)]) (by simp [ctxD, pairK]) okz fun t1 s1 d1 a1 => ?_
      have := d1.dp
      wtm_at "q.run"
      refine ed_fn CT hr ?_
      wtm_at "q.run"
      refine tm a1 hlf ko Γ rfl (sub hko hcan) fun t2 s2 d2 a2 => ?_
      have := d2.dp
      wtm_at "q.run"
      exact q (.call (.fn z ko t1) t2) _ (.call (a := ko) (by simp only [Kd.dp]; omega) (.fn nz hko (by omega) d1.g) d2.g (Nat.le_refl 0)) (by simp only [Tm.dp]; omega) a2
  wtm_at "q.run"
  refine ed_cl2 16 15 nd ?_
  refine jd_list ?_
  wtm_at "q.run"
  refine ⟨ctx_len cok, ?_⟩
  refine cl2_map pairK (fun p => .str p.1) (fun p => kD p.2) (fun _ => rfl) (fun p => if eitherCan Γ p = true then [kD p.2] else []) _ _ _ (fun pr hpr acc Nx hN p => ?_) ?_
  · obtain ⟨nm, kk⟩ := pr
    have hd : kk.dp ≤ 4 := ok.ctx.deep _ hpr
    wtm_at "q.run"
    refine br_dec (fun h1 => ?_) (fun h1 => ?_)
    · wtm_at "q.run"
      refine ed_fn CC hr ?_
      wtm_at "q.run"
      refine canq kk _ _ hd ?_
      obtain ⟨x, y, rfl⟩ := kdEither h1
      wtm_at "q.run"
      refine br_b (fun h2 => ?_) (fun h2 => ?_)
      · rw [if_pos (show eitherCan Γ (nm, .either x y) = true from h2)] at hN
        intro p'
        wtm_at "q.run"
        exact ⟨noL_kD _, hN⟩
      · rw [if_neg (show ¬ eitherCan Γ (nm, .either x y) = true by show ¬ can Γ (.either x y) = true; rw [h2]; decide), List.append_nil] at hN
        exact hN
    · rw [weither_no h1, if_neg (by decide), List.append_nil] at hN
      wtm_at "q.run"
      exact hN
  rw [List.nil_append, flat_filter (g := fun p : Str × Kd => kD p.2)]
  have hmE : ∀ d ∈ (Γ.filter (eitherCan Γ)).map (fun p => kD p.2), ∃ x y, d = kD (.either x y) ∧ (Kd.either x y).dp ≤ 4 ∧ can Γ (.either x y) = true := fun d hd => by
    obtain ⟨⟨nm, kk⟩, hpr, rfl⟩ := List.mem_map.mp hd
    obtain ⟨h1, h2⟩ := List.mem_filter.mp hpr
    obtain ⟨x, y, rfl⟩ : ∃ x y, kk = .either x y := by
      cases kk <;> first | exact ⟨_, _, rfl⟩ | cases h2
    exact ⟨x, y, rfl, ok.ctx.deep _ h1, h2⟩
  have hlE : ((Γ.filter (eitherCan Γ)).map (fun p => kD p.2)).length ≤ 200 := by
    have h1 := List.length_filter_le (eitherCan Γ) Γ
    rw [List.length_map]
    omega
  generalize (Γ.filter (eitherCan Γ)).map (fun p => kD p.2) = ls at hmE hlE
  wtm_at "q.run"
  refine ed_fn0 Ctr hr ?_
  refine ⟨rfl, ?_⟩
  wtm_at "q.run"
  refine od_catL (sz_n (by show ls.length + 1 ≤ _; omega)) ?_
  wtm_at "q.run"
  refine ed_fn CO hr ?_
  wtm_at "q.run"
  refine ⟨a, ls ++ [kD truthK], .inl rfl, C, by simp, by rw [List.length_append]; show ls.length + 1 < _; omega, fun d hd => ?_⟩
  obtain ⟨x, y, rfl, hxy, hcxy⟩ : ∃ x y, d = kD (.either x y) ∧ (Kd.either x y).dp ≤ 4 ∧ can Γ (.either x y) = true := by
    rcases List.mem_append.mp hd with hd | hd
    · exact hmE d hd
    · exact ⟨.unit, .unit, List.mem_singleton.mp hd, by decide, by simp [can]⟩
  have hxy' := hxy
  simp only [Kd.dp] at hxy'
  wtm_at "q.run"
  refine ed_fn CT hr ?_
  wtm_at "q.run"
  refine tm a0 hlf (.either x y) Γ rfl (sub hxy hcxy) fun t1 s1 d1 a1 => ?_
  have := d1.dp
  wtm_at "q.run"
  refine sd_par 6 14 nd rfl rfl (by decide) (locB_ok (by kernel_rfl)) (locB_ok (by kernel_rfl)) ?_ rfl
  refine ed_fn CB hr ?_
  wtm_at "q.run"
  refine bnd x _ _ (by omega) fun z1 cz1 okz1 nz1 => ?_
  refine ed_fn CB hr ?_
  wtm_at "q.run"
  refine bnd y _ _ (by omega) fun z2 cz2 okz2 nz2 => ?_
  wtm_at "q.run"
  refine ed_fn CT hr ?_
  wtm_at "q.run"
  refine od_catL (sz_n (by rw [List.length_map]; show Γ.length + 1 ≤ _; omega)) ?_
  wtm_at "q.run"
  refine tm a1 hlf k (Γ ++ [(z1, x)]) (by simp [ctxD, pairK]) okz1 fun t2 s2 d2 a2 => ?_
  have := d2.dp
  wtm_at "q.run"
  refine ed_fn CT hr ?_
  wtm_at "q.run"
  refine od_catL (sz_n (by rw [List.length_map]; show Γ.length + 1 ≤ _; omega)) ?_
  wtm_at "q.run"
  refine tm a2 hlf k (Γ ++ [(z2, y)]) (by simp [ctxD, pairK]) okz2 fun t3 s3 d3 a3 => ?_
  have := d3.dp
  wtm_at "q.run"
  exact q (.case t1 z1 t2 z2 t3) _ (.case (i := 0) (j := 0) (l := 0) nz1 nz2 (by omega) (by omega) d1.g d2.g d3.g (Nat.le_refl 0)) (by simp only [Tm.dp]; omega) a3
end
end
end
section
/-! W20: _law_term. -/
def inRest (k : Kd) : Kd → Bool
  | .pair x y => decide (x = k) || decide (y = k)
  | .either x y => decide (x = k) || decide (y = k)
  | .func x y => decide (x = k) || decide (y = k)
  | .list x => decide (x = k)
  | _ => false
theorem in_rest (k kk : Kd) : (kk.rest.any fun z => PyData.eqv z (kD k)) = inRest k kk := by
  cases kk <;> simp [Kd.rest, inRest, eqv_kD] <;> (rw [kD_eq]; rfl)
theorem rest_ok {kk : Kd} (h : kk.dp ≤ 63) : SeqAt.shaped (.tuple kk.rest) = true := by
  refine shaped_t fun d hd => ?_
  cases kk <;> simp only [Kd.rest, List.mem_cons, List.not_mem_nil, or_false, Kd.dp] at hd h
  · subst hd; exact ⟨by decide +kernel, by decide⟩
  · subst hd; exact ⟨by decide +kernel, by decide⟩
  · rcases hd with rfl | rfl <;> exact ⟨kD_lay _, by rw [kD_depth]; omega⟩
  · rcases hd with rfl | rfl <;> exact ⟨kD_lay _, by rw [kD_depth]; omega⟩
  · subst hd; exact ⟨kD_lay _, by rw [kD_depth]; omega⟩
  · rcases hd with rfl | rfl <;> exact ⟨kD_lay _, by rw [kD_depth]; omega⟩
def pc1 (k : Kd) (p : Str × Kd) : Bool := decide (p.2.word = ("pair" : Str)) && inRest k p.2
def pc2 (Γ : Ctx) (k : Kd) (p : Str × Kd) : Bool := match look Γ p.1 with | some kk => inRest k kk | none => false
def pc3 (Γ : Ctx) (p : Str × Kd) : Bool := match look Γ p.1 with | some kk => decide (kk.word = ("pair" : Str)) | none => false
theorem look_in {Γ : Ctx} {p : Str × Kd} (h : p ∈ Γ) : ∃ k, look Γ p.1 = some k := by
  unfold look
  cases e : ((Γ.filter fun q => decide (q.1 = p.1)).map (·.2)).getLast? with
  | some k => exact ⟨k, rfl⟩
  | none =>
    rw [List.getLast?_eq_none_iff, List.map_eq_nil_iff, List.filter_eq_nil_iff] at e
    exact absurd (by simp) (e p h)
section
variable {P : Program} {w : World} {K : PySem.W.Frag} {mg : Str → Option Value} {base : Heap} {k : Nat}
section
local macro_rules | `(tactic| wtm_at "q.nm") => `(tactic| first
  | ((with_reducible refine ed_is "_law_urn_here" ?_); refine ed_vi 0 ?_; wtm_at "q.slot")
  | ((with_reducible refine ed_is "_law_kind" ?_); refine ed_vi 1 ?_; wtm_at "q.slot")
  | ((with_reducible refine ed_is "_law_context" ?_); refine ed_vi 2 ?_; wtm_at "q.slot")
  | ((with_reducible refine ed_is "_law_left" ?_); refine ed_vi 3 ?_; wtm_at "q.slot")
  | ((with_reducible refine ed_is "_law_way" ?_); refine ed_vi 4 ?_; wtm_at "q.slot")
  | ((with_reducible refine ed_is "_law_names" ?_); refine ed_vi 5 ?_; wtm_at "q.slot")
  | ((with_reducible refine ed_is "_law_name" ?_); refine ed_vi 6 ?_; wtm_at "q.slot")
  | ((with_reducible refine ed_is "_law_each" ?_); refine ed_vi 7 ?_; wtm_at "q.slot")
  | fail)
local macro_rules | `(tactic| wtm_at "q.set") => `(tactic| first
  | ((with_reducible refine sd_is "_law_urn_here" ?_); refine sd_v 0 (by assumption) ?_)
  | ((with_reducible refine sd_is "_law_kind" ?_); refine sd_v 1 (by assumption) ?_)
  | ((with_reducible refine sd_is "_law_context" ?_); refine sd_v 2 (by assumption) ?_)
  | ((with_reducible refine sd_is "_law_left" ?_); refine sd_v 3 (by assumption) ?_)
  | ((with_reducible refine sd_is "_law_way" ?_); refine sd_v 4 (by assumption) ?_)
  | ((with_reducible refine sd_is "_law_names" ?_); refine sd_v 5 (by assumption) ?_)
  | ((with_reducible refine sd_is "_law_name" ?_); refine sd_v 6 (by assumption) ?_)
  | ((with_reducible refine sd_is "_law_each" ?_); refine sd_v 7 (by assumption) ?_)
  | fail)
local macro_rules | `(tactic| wtm_at "q.gnm") => `(tactic| first
  | ((with_reducible refine gd_is "_law_urn_here" ?_); refine gd_v 0 (by assumption) ?_)
  | ((with_reducible refine gd_is "_law_kind" ?_); refine gd_v 1 (by assumption) ?_)
  | ((with_reducible refine gd_is "_law_context" ?_); refine gd_v 2 (by assumption) ?_)
  | ((with_reducible refine gd_is "_law_left" ?_); refine gd_v 3 (by assumption) ?_)
  | ((with_reducible refine gd_is "_law_way" ?_); refine gd_v 4 (by assumption) ?_)
  | ((with_reducible refine gd_is "_law_names" ?_); refine gd_v 5 (by assumption) ?_)
  | ((with_reducible refine gd_is "_law_name" ?_); refine gd_v 6 (by assumption) ?_)
  | ((with_reducible refine gd_is "_law_each" ?_); refine gd_v 7 (by assumption) ?_)
  | fail)
theorem termS_ok (D : Hd K mg "_law_term" s_law_term p_law_term []) {N : Nat} (CP : Fc P w K mg base k "_law_pull" [] F_pull) (CO : Fc P w K mg base k "_law_one" [] F_one) (CS : Fc P w K mg base k "_law_seen" [] F_seen) (CF : Fc P w K mg base k "_law_flat" [] (F_flat 4))
    (CR : ∀ M, N = M + 1 → Fc P w K mg base k "_law_roundabout" [] (F_round M)) (CFo : ∀ M, N = M + 1 → Fc P w K mg base k "_law_fold" [] (F_way M [])) (CBu : ∀ M, N = M + 1 → Fc P w K mg base k "_law_built" [] (F_way M [])) : Fc P w K mg base (k + 1) "_law_term" [] (F_term N) := by
  refine D.go sc_law_term (fun W s xs Q h => ?_) (fun f cdv A outer s0 H0 E hr W s xs Q h => ?_)
  · obtain ⟨a, p, L, k, Γ, rfl, _⟩ := h
    rfl
  obtain ⟨a, p, L, k, Γ, rfl, C, ok, hlf, q⟩ := h
  have nd := sc_law_term.nd
  have cok := ok.ctx.g.ok
  have hdp := ok.dp
  have hlen := ok.len
  wtm_at "q.run"
  refine sd_asg ?_
  wtm_at "q.run"
  refine id_left L ?_
  wtm_at "q.run"
  refine gd_sub ?_
  wtm_at "q.run"
  refine set_left L ?_
  have b1 : At L s (L.wr s (L.lf s - 1)) := At.to L s (by omega)
  have b2 : L.lf (L.wr s (L.lf s - 1)) = L.lf s - 1 := L.lw _ _
  generalize L.wr s (L.lf s - 1) = s1 at b1 b2
  have q : ∀ (t : Tm) (s' : W.St), Drawn N Γ t k → At L s1 s' → Q s' (.d (tD t)) := fun t s' d e => q t s' d (b1.trans e) (by have := e.le; omega)
  have flatR : F_flat 4 W s1 [.o a, .d (kD k), .d (ctxD Γ)] Q := ok.flat C fun t d => q t _ d (At.refl L s1)
  wtm_at "q.run"
  refine id_left L ?_
  wtm_at "q.run"
  refine br_dec (fun h => ?_) (fun h => ?_)
  · wtm_at "q.run"
    refine ed_fn CF hr ?_
    wtm_at "q.run"
    exact flatR
  wtm_at "q.run"
  refine ed_fn CP hr ?_
  wtm_at "q.run"
  refine ⟨a, 7, rfl, C, by decide, by decide, fun r7 _ _ => ?_⟩
  wtm_at "q.run"
  refine br_dec (fun h7 => ?_) (fun h7 => ?_)
  · wtm_at "q.run"
    refine ed_fn CF hr ?_
    wtm_at "q.run"
    exact flatR
  obtain ⟨M, rfl⟩ : ∃ M, N = M + 1 := ⟨N - 1, by omega⟩
  have CR := CR M rfl
  have CFo := CFo M rfl
  have CBu := CBu M rfl
  wtm_at "q.run"
  refine ed_fn CP hr ?_
  wtm_at "q.run"
  refine ⟨a, 12, rfl, C, by decide, by decide, fun way _ _ => ?_⟩
  wtm_at "q.run"
  refine br_dec (fun h3 => ?_) (fun h3 => ?_)
  · wtm_at "q.run"
    refine ed_fn CR hr ?_
    wtm_at "q.run"
    exact ⟨way, a, p, L, k, Γ, rfl, C, ok, by omega, q⟩
  refine sds_nil ?_
  have wayR : F_way M [] W s1 [.o a, .d (kD k), .d (ctxD Γ), .o p] Q := ⟨a, p, L, k, Γ, rfl, C, ok, by omega, q⟩
  refine sds_cut (fun s' δ' => s' = s1 ∧ δ' = [some (.o a), some (.d (kD k)), some (.d (ctxD Γ)), some (.o p), some (.d (.int way)), none, none, none]) ?_ ?_
  · wtm_at "q.run"
    refine br_dec (fun h6 => ?_) (fun h6 => ?_)
    · wtm_at "q.run"
      refine br_nd (fun hf => ?_) (fun hf => ?_)
      · wtm_at "q.run"
        refine ed_fn CFo hr ?_
        wtm_at "q.run"
        exact wayR
      · wtm_at "q.run"
        exact ⟨rfl, rfl⟩
    · wtm_at "q.run"
      exact ⟨rfl, rfl⟩
  rintro s' δ' ⟨rfl, rfl⟩
  refine sds_cut (fun s1 δ' => s1 = s' ∧ ∃ v4 v5 v6 v7, δ' = [some (.o a), some (.d (kD k)), some (.d (ctxD Γ)), some (.o p), v4, v5, v6, v7]) ?_ ?_
  · wtm_at "q.run"
    refine br_dec (fun h8 => ?_) (fun h8 => ?_)
    · wtm_at "q.run"
      refine sd_cl2 5 6 7 nd ?_
      refine jd_list ?_
      wtm_at "q.run"
      refine ⟨ctx_len cok, ?_⟩
      refine cl2_map pairK (fun p => .str p.1) (fun p => kD p.2) (fun _ => rfl) (fun p => if pc1 k p = true then [.str p.1] else []) _ _ _ (fun pr hpr acc Nx hN p => ?_) ?_
      · have hd : pr.2.dp ≤ 4 := ok.ctx.deep _ hpr
        wtm_at "q.run"
        refine br_dec (fun h1 => ?_) (fun h1 => ?_)
        · wtm_at "q.run"
          refine ed_restK (k := pr.2) ?_
          wtm_at "q.nm"
          refine ⟨rfl, pd_some ?_⟩
          wtm_at "q.run"
          refine ⟨rfl, ?_⟩
          refine od_inT (ru65 hr) (kD_shaped (by omega)) (rest_ok (by omega)) ?_
          rw [in_rest]
          wtm_at "q.run"
          refine br_b (fun h2 => ?_) (fun h2 => ?_)
          · rw [if_pos (by simp [pc1, h1, h2])] at hN
            intro p'
            wtm_at "q.run"
            exact ⟨rfl, hN⟩
          · rw [if_neg (by simp [pc1, h2]), List.append_nil] at hN
            exact hN
        · rw [if_neg (by simp [pc1, h1]), List.append_nil] at hN
          wtm_at "q.run"
          exact hN
      rw [List.nil_append, flat_filter (g := fun p : Str × Kd => PyData.str p.1)]
      have fl1 := List.length_filter_le (pc1 k) Γ
      wtm_at "q.run"
      refine sd_cl1 5 6 nd ?_
      refine jd_list ?_
      wtm_at "q.run"
      refine ⟨sz_n (by rw [List.length_map]; omega), ?_⟩
      refine cl1_mapA (fun p : Str × Kd => .str p.1) (fun p => if pc2 Γ k p = true then [.str p.1] else []) _ _ _ (fun pr hpr acc Nx hN p => ?_) ?_
      · obtain ⟨hpr, _⟩ := List.mem_filter.mp hpr
        obtain ⟨kk, hk⟩ := look_in hpr
        have hd := cok.look hk
        wtm_at "q.run"
        refine ed_restK (k := kk) ?_
        refine ed_fn CS hr ?_
        wtm_at "q.run"
        refine ⟨Γ, pr.1, rfl, cok.mono (by decide), cok.names _ hpr, ?_⟩
        refine ⟨by rw [hk]; rfl, pd_some ?_⟩
        wtm_at "q.run"
        refine ⟨rfl, ?_⟩
        refine od_inT (ru65 hr) (kD_shaped (by omega)) (rest_ok (by omega)) ?_
        rw [in_rest]
        wtm_at "q.run"
        refine br_b (fun h2 => ?_) (fun h2 => ?_)
        · rw [if_pos (by simp [pc2, hk, h2])] at hN
          intro p'
          wtm_at "q.run"
          exact ⟨rfl, hN⟩
        · rw [if_neg (by simp [pc2, hk, h2]), List.append_nil] at hN
          exact hN
      rw [List.nil_append, flat_filter (g := fun p : Str × Kd => PyData.str p.1)]
      have fl2 := List.length_filter_le (pc2 Γ k) (Γ.filter (pc1 k))
      wtm_at "q.run"
      refine sd_cl1 5 6 nd ?_
      refine jd_list ?_
      wtm_at "q.run"
      refine ⟨sz_n (by rw [List.length_map]; omega), ?_⟩
      refine cl1_mapA (fun p : Str × Kd => .str p.1) (fun p => if pc3 Γ p = true then [.str p.1] else []) _ _ _ (fun pr hpr acc Nx hN p => ?_) ?_
      · obtain ⟨hpr, _⟩ := List.mem_filter.mp hpr
        obtain ⟨hpr, _⟩ := List.mem_filter.mp hpr
        obtain ⟨kk, hk⟩ := look_in hpr
        have hd := cok.look hk
        wtm_at "q.run"
        refine ed_fn CS hr ?_
        wtm_at "q.run"
        refine ⟨Γ, pr.1, rfl, cok.mono (by decide), cok.names _ hpr, ?_⟩
        rw [hk]
        rw [show seenD (some kk) = kD kk from rfl]
        wtm_at "q.run"
        refine br_dec (fun h2 => ?_) (fun h2 => ?_)
        · rw [if_pos (by simp [pc3, hk, h2])] at hN
          intro p'
          wtm_at "q.run"
          exact ⟨rfl, hN⟩
        · rw [if_neg (by simp [pc3, hk, h2]), List.append_nil] at hN
          exact hN
      rw [List.nil_append, flat_filter (g := fun p : Str × Kd => PyData.str p.1)]
      have fl3 := List.length_filter_le (pc3 Γ) ((Γ.filter (pc1 k)).filter (pc2 Γ k))
      have hm : ∀ pr ∈ ((Γ.filter (pc1 k)).filter (pc2 Γ k)).filter (pc3 Γ), pr ∈ Γ ∧ ∃ x y, look Γ pr.1 = some (.pair x y) ∧ (x = k ∨ y = k) := fun pr hpr => by
        obtain ⟨h1, h3⟩ := List.mem_filter.mp hpr
        obtain ⟨h1, h2⟩ := List.mem_filter.mp h1
        obtain ⟨h1, _⟩ := List.mem_filter.mp h1
        obtain ⟨kk, hk⟩ := look_in h1
        simp only [pc2, pc3, hk, decide_eq_true_eq] at h2 h3
        obtain ⟨x, y, rfl⟩ := kdPair h3
        exact ⟨h1, x, y, hk, by simpa [inRest] using h2⟩
      generalize ((Γ.filter (pc1 k)).filter (pc2 Γ k)).filter (pc3 Γ) = ls at fl3 hm
      wtm_at "q.run"
      refine od_neL hr (shaped_l fun d hd => by
        obtain ⟨pr, hpr, rfl⟩ := List.mem_map.mp hd
        exact ⟨lay_s _ (cok.names _ (hm pr hpr).1), by simp [PyData.depth]⟩) ?_
      wtm_at "q.run"
      refine br_e (fun hne => ?_) (fun hne => ?_)
      · wtm_at "q.run"
        refine ed_fn CO hr ?_
        wtm_at "q.run"
        refine ⟨a, ls.map fun p => .str p.1, .inl rfl, C, hne, by rw [List.length_map]; omega, fun d hd => ?_⟩
        obtain ⟨pr, hpr, rfl⟩ := List.mem_map.mp hd
        obtain ⟨hg, x, y, hlk, hxy⟩ := hm _ hpr
        have hd := cok.look hlk
        have hd4 : (Kd.pair x y).dp ≤ 4 := ok.ctx.deep _ (look_mem hlk)
        have gn : G 0 Γ (.name pr.1) (.pair x y) := .name hlk (ok.ctx.g.nm _ hg)
        simp only [Kd.dp] at hd4
        wtm_at "q.run"
        refine ed_fn CS hr ?_
        wtm_at "q.run"
        refine ⟨Γ, pr.1, rfl, cok.mono (by decide), cok.names _ hg, ?_⟩
        rw [hlk]
        rw [show seenD (some (.pair x y)) = kD (.pair x y) from rfl]
        wtm_at "q.run"
        refine br_dec (fun h2 => ?_) (fun h2 => ?_)
        · subst h2
          wtm_at "q.run"
          exact q (.first (.name pr.1)) _ ⟨.first (by simp only [Kd.dp]; omega) gn, by simp only [Tm.dp]; omega⟩ (At.refl L s')
        · have h2 : y = k := hxy.resolve_left h2
          subst h2
          wtm_at "q.run"
          exact q (.second (.name pr.1)) _ ⟨.second (by simp only [Kd.dp]; omega) gn, by simp only [Tm.dp]; omega⟩ (At.refl L s')
      · wtm_at "q.run"
        exact ⟨rfl, _, _, _, _, rfl⟩
    · wtm_at "q.run"
      exact ⟨rfl, _, _, _, _, rfl⟩
  rintro s'' δ' ⟨rfl, v4, v5, v6, v7, rfl⟩
  wtm_at "q.run"
  refine ed_fn CBu hr ?_
  wtm_at "q.run"
  exact wayR
end
end
end
section
/-! W21: _law_term at every depth; _law_text. -/
theorem Wf.kd : ∀ {t : Tm}, Wf t → t.kd ≤ 5 := by
  intro t
  induction t with
  | name x => exact fun _ => Nat.zero_le _
  | unit => exact fun _ => Nat.zero_le _
  | number i => exact fun _ => Nat.zero_le _
  | nil k => exact id
  | fn x k b ih => exact fun h => by have := ih h.2.2; have := h.2.1; simp only [Tm.kd]; omega
  | minus a ih => exact ih
  | first a ih => exact ih
  | second a ih => exact ih
  | left a k ih => exact fun h => by have := ih h.1; have := h.2; simp only [Tm.kd]; omega
  | right k a ih => exact fun h => by have := ih h.2; have := h.1; simp only [Tm.kd]; omega
  | call a b x y => exact fun h => by have := x h.1; have := y h.2; simp only [Tm.kd]; omega
  | plus a b x y => exact fun h => by have := x h.1; have := y h.2; simp only [Tm.kd]; omega
  | times a b x y => exact fun h => by have := x h.1; have := y h.2; simp only [Tm.kd]; omega
  | is s a b x y => exact fun h => by have := x h.2.1; have := y h.2.2; simp only [Tm.kd]; omega
  | pair a b x y => exact fun h => by have := x h.1; have := y h.2; simp only [Tm.kd]; omega
  | cons a b x y => exact fun h => by have := x h.1; have := y h.2; simp only [Tm.kd]; omega
  | lete x a b p q => exact fun h => by have := p h.2.1; have := q h.2.2; simp only [Tm.kd]; omega
  | case s x a y b p q r => exact fun h => by have := p h.1; have := q h.2.2.1; have := r h.2.2.2.2; simp only [Tm.kd]; omega
  | fold f a b p q r => exact fun h => by have := p h.1; have := q h.2.1; have := r h.2.2; simp only [Tm.kd]; omega
def fsz : Nat → Nat
  | 0 => 0
  | n + 1 => 2 * fsz n + 2
theorem Fl.sz {m d : Nat} {t : Tm} (h : Fl m d t) : t.sz ≤ fsz d := by
  induction h with
  | name a b => simp [Tm.sz, fsz]
  | unit a => simp [Tm.sz, fsz]
  | number a b => simp [Tm.sz, fsz]
  | nil a b => simp [Tm.sz, fsz]
  | @cons m d a k hk h ih =>
    have h1 : 1 ≤ a.sz := by cases a <;> simp only [Tm.sz] <;> omega
    simp only [Tm.sz, fsz]; omega
  | fn a b _ ih => simp only [Tm.sz, fsz]; omega
  | pair _ _ x y => simp only [Tm.sz, fsz]; omega
  | left _ _ x => simp only [Tm.sz, fsz]; omega
  | right _ _ x => simp only [Tm.sz, fsz]; omega
/-- a term of n bends -/
structure Bent (n : Nat) (Γ : Ctx) (t : Tm) (k : Kd) : Prop where
  g : G n Γ t k
  dp : t.dp ≤ 12 + 4 * n
section
variable {P : Program} {w : World} {K : PySem.W.Frag} {mg : Str → Option Value} {base : Heap} {k : Nat}
theorem term_ok (D : Hd K mg "_law_term" s_law_term p_law_term []) (DR : Hd K mg "_law_roundabout" s_law_roundabout p_law_roundabout []) (DF : Hd K mg "_law_fold" s_law_fold p_law_fold []) (DB : Hd K mg "_law_built" s_law_built p_law_built []) (B : Bi mg)
    (CP : ∀ k, Fc P w K mg base (k + 1) "_law_pull" [] F_pull) (CO : ∀ k, Fc P w K mg base (k + 2) "_law_one" [] F_one) (CS : ∀ k, Fc P w K mg base (k + 1) "_law_seen" [] F_seen) (Ctr : ∀ k, Fc P w K mg base (k + 1) "_law_truth" [] F_truth)
    (CC : Fc P w K mg base 22 "_law_can" [] (F_can 20)) (CK : Fc P w K mg base 23 "_law_other_kind" [] F_otherKind) (CB : Fc P w K mg base 23 "_law_bound" [] F_bound) (CF : Fc P w K mg base 27 "_law_flat" [] (F_flat 4)) :
    ∀ N, Fc P w K mg base (2 * N + 40) "_law_term" [] (F_term N)
  | 0 => termS_ok D (CP 38) (CO 37) (CS 38) (CF.mono (by omega)) (fun M h => by cases h) (fun M h => by cases h) (fun M h => by cases h)
  | N + 1 => by
    have C1 := term_ok D DR DF DB B CP CO CS Ctr CC CK CB CF N
    refine termS_ok (k := 2 * N + 41) D (CP _) (CO (2 * N + 39)) (CS _) (CF.mono (by omega)) (fun M h => ?_) (fun M h => ?_) (fun M h => ?_)
    · cases h
      exact round_ok DR B (CO (2 * N + 38)) (CS (2 * N + 39)) (Ctr (2 * N + 39)) (CC.mono (by omega)) (CB.mono (by omega)) (CK.mono (by omega)) C1
    · cases h
      exact fold_ok DF (CO (2 * N + 38)) (CS (2 * N + 39)) C1
    · cases h
      exact built_ok DB B (CP (2 * N + 39)) (CO (2 * N + 38)) (Ctr (2 * N + 39)) (CC.mono (by omega)) (CB.mono (by omega)) (CF.mono (by omega)) C1
def F_text : FT := fun W s xs Q => ∃ (a : Addr) (k : Kd) (Γ : Ctx) (m : Int), xs = [.o a, .d (kD k), .d (ctxD Γ), .d (.int m)] ∧ Cap W a ∧ TermOk 15 Γ k ∧ 0 ≤ m ∧ m ≤ 15 ∧ ∀ t : Tm, Bent 0 Γ t k → t.sz ≤ 120 → Q s (.d (tD t))
section
local macro_rules | `(tactic| wtm_at "q.nm") => `(tactic| first
  | ((with_reducible refine ed_is "_law_urn_here" ?_); refine ed_vi 0 ?_; wtm_at "q.slot")
  | ((with_reducible refine ed_is "_law_kind" ?_); refine ed_vi 1 ?_; wtm_at "q.slot")
  | ((with_reducible refine ed_is "_law_context" ?_); refine ed_vi 2 ?_; wtm_at "q.slot")
  | ((with_reducible refine ed_is "_law_many" ?_); refine ed_vi 3 ?_; wtm_at "q.slot")
  | ((with_reducible refine ed_is "_law_turn" ?_); refine ed_vi 4 ?_; wtm_at "q.slot")
  | ((with_reducible refine ed_is "_law_found" ?_); refine ed_vi 5 ?_; wtm_at "q.slot")
  | fail)
local macro_rules | `(tactic| wtm_at "q.set") => `(tactic| first
  | ((with_reducible refine sd_is "_law_urn_here" ?_); refine sd_v 0 (by assumption) ?_)
  | ((with_reducible refine sd_is "_law_kind" ?_); refine sd_v 1 (by assumption) ?_)
  | ((with_reducible refine sd_is "_law_context" ?_); refine sd_v 2 (by assumption) ?_)
  | ((with_reducible refine sd_is "_law_many" ?_); refine sd_v 3 (by assumption) ?_)
  | ((with_reducible refine sd_is "_law_turn" ?_); refine sd_v 4 (by assumption) ?_)
  | ((with_reducible refine sd_is "_law_found" ?_); refine sd_v 5 (by assumption) ?_)
  | fail)
local macro_rules | `(tactic| wtm_at "q.gnm") => `(tactic| first
  | ((with_reducible refine gd_is "_law_urn_here" ?_); refine gd_v 0 (by assumption) ?_)
  | ((with_reducible refine gd_is "_law_kind" ?_); refine gd_v 1 (by assumption) ?_)
  | ((with_reducible refine gd_is "_law_context" ?_); refine gd_v 2 (by assumption) ?_)
  | ((with_reducible refine gd_is "_law_many" ?_); refine gd_v 3 (by assumption) ?_)
  | ((with_reducible refine gd_is "_law_turn" ?_); refine gd_v 4 (by assumption) ?_)
  | ((with_reducible refine gd_is "_law_found" ?_); refine gd_v 5 (by assumption) ?_)
  | fail)
theorem text_ok (D : Hd K mg "_law_text" s_law_text p_law_text []) (B : Bi mg) (CT : Fc P w K mg base k "_law_term" [] (F_term 15)) (CZ : Fc P w K mg base k "_law_is_small" [] F_small) (CE : Fc P w K mg base k "_law_free" [] (F_free 12)) (CF : Fc P w K mg base k "_law_flat" [] (F_flat 4)) : Fc P w K mg base (k + 1) "_law_text" [] F_text := by
  refine D.go sc_law_text (fun W s xs Q h => ?_) (fun f cdv A outer s0 H0 E hr W s xs Q h => ?_)
  · obtain ⟨a, k, Γ, m, rfl, _⟩ := h
    rfl
  obtain ⟨a, k, Γ, m, rfl, C, ok, hm0, hm, q⟩ := h
  have nd := sc_law_text.nd
  have cok := ok.ctx.g.ok
  refine sds_cons ?_
  refine sd_for (jd_range rfl B.range_ ?_)
  wtm_at "q.run"
  refine ⟨by decide, by decide, fun i st δ' => st = s ∧ ∃ v4 v5, δ' = [some (.o a), some (.d (kD k)), some (.d (ctxD Γ)), some (.d (.int m)), v4, v5], ⟨rfl, none, none, rfl⟩, ?_, ?_⟩
  · rintro i d st δ' hd ⟨rfl, v4, v5, rfl⟩
    obtain ⟨hi, rfl⟩ : i < 4 ∧ d = .int (i : Int) := by
      unfold rangeD at hd
      obtain ⟨hl, hd⟩ := List.getElem?_eq_some_iff.mp hd
      have hl2 : i < 4 := by simpa using hl
      refine ⟨hl2, ?_⟩
      rw [← hd]
      simp
    refine gd_v 4 nd ?_
    wtm_at "q.run"
    refine ed_fnL CT hr ?_
    wtm_at "q.run"
    refine od_mul (.inl ⟨by omega, by omega⟩) ?_
    wtm_at "q.run"
    refine od_fdiv ⟨by decide, by decide⟩ ?_
    wtm_at "q.run"
    have hv : m - (i : Int) * m / 5 ≤ 15 := by
      have h1 : 0 ≤ (i : Int) * m := Int.mul_nonneg (by omega) hm0
      have h2 : 0 ≤ (i : Int) * m / 5 := Int.ediv_nonneg h1 (by decide)
      omega
    refine ⟨⟨rfl, rfl, rfl⟩, _, rfl, fun p np => ?_⟩
    refine ⟨a, p, W.leftL np, k, Γ, rfl, C.leftX np, ok, hv, fun t s' d hat _ => ⟨rfl, ?_⟩⟩
    have hs : s'.1 = st := congrArg Prod.fst (hat.wr 0)
    obtain ⟨s1, n1⟩ := s'
    have hs : s1 = st := hs
    subst hs
    have wf := d.g.wf
    have hdp := d.dp
    wtm_at "q.run"
    refine ed_fn CZ hr ?_
    wtm_at "q.run"
    refine ⟨t, 6, rfl, by omega, by have := wf.kd; omega, fun b hb => ?_⟩
    wtm_at "q.run"
    refine br_b (fun h => ?_) (fun h => ?_)
    · obtain ⟨h1, h2, h3⟩ := hb h
      have fin : Q s1 (.d (tD t)) := q t ⟨d.g, by omega⟩ (by omega)
      wtm_at "q.run"
      refine ed_fn CE hr ?_
      wtm_at "q.run"
      refine ⟨by omega, wf.nmOk, by omega, ?_⟩
      wtm_at "q.run"
      refine od_neL hr (shaped_l fun d hd => by
        obtain ⟨x, hx, rfl⟩ := List.mem_map.mp hd
        exact ⟨lay_s _ (free_nm 100 t (by omega) wf.nmOk x hx), by simp [PyData.depth]⟩) ?_
      wtm_at "q.run"
      refine br_e (fun hne => ?_) (fun hne => ?_)
      · wtm_at "q.run"
        exact fin
      · wtm_at "q.run"
        refine od_eq (ru64 hr) (shaped_l fun d hd => by
          obtain ⟨p, hp, rfl⟩ := List.mem_map.mp hd
          exact pairK_ok cok hp) rfl ?_
        wtm_at "q.run"
        refine br_b (fun h => ?_) (fun h => ?_)
        · wtm_at "q.run"
          exact fin
        · wtm_at "q.run"
          exact ⟨rfl, _, _, rfl⟩
    · wtm_at "q.run"
      exact ⟨rfl, _, _, rfl⟩
  · rintro s' δ' ⟨rfl, v4, v5, rfl⟩
    wtm_at "q.run"
    refine ed_fn CF hr ?_
    wtm_at "q.run"
    have := ok.dp; have := ok.len
    refine ⟨a, k, Γ, rfl, C, ok.dp, ok.dp, ok.ctx.g, by omega, ok.can, fun t g fl => q t ⟨g, by have := fl.tdp; omega⟩ ?_⟩
    have h1 := fl.sz
    have h2 : fsz k.dp ≤ 30 := by
      have h4 := ok.dp
      have : k.dp = 0 ∨ k.dp = 1 ∨ k.dp = 2 ∨ k.dp = 3 ∨ k.dp = 4 := by omega
      rcases this with e | e | e | e | e <;> rw [e] <;> decide
    omega
end
end
end
section
/-! W22: _law_other_part. -/
structure TopOk (Γ : Ctx) : Prop where
  ctx : CtxT Γ
  k4 : ∀ p ∈ Γ, K4 p.2
  len : Γ.length ≤ 10
theorem TopOk.kind {Γ : Ctx} (h : TopOk Γ) {k : Kd} (m : k ∈ Γ.map (·.2) ∨ k ∈ constKs) : K4 k := by
  rcases m with m | m
  · obtain ⟨p, hp, rfl⟩ := List.mem_map.mp m
    exact h.k4 p hp
  · exact const_k4 k m
def F_other : FT := fun W s xs Q => ∃ (a : Addr) (t : Tm) (Γ : Ctx), xs = [.o a, .d (tD t), .d (ctxD Γ)] ∧ Cap W a ∧ TopOk Γ ∧ ∀ t' : Tm, Oth t t' → Q s (.d (tD t'))
section
variable {P : Program} {w : World} {K : PySem.W.Frag} {mg : Str → Option Value} {base : Heap} {k : Nat}
section
local macro_rules | `(tactic| wtm_at "q.nm") => `(tactic| first
  | ((with_reducible refine ed_is "_law_urn_here" ?_); refine ed_vi 0 ?_; wtm_at "q.slot")
  | ((with_reducible refine ed_is "_law_part" ?_); refine ed_vi 1 ?_; wtm_at "q.slot")
  | ((with_reducible refine ed_is "_law_context" ?_); refine ed_vi 2 ?_; wtm_at "q.slot")
  | ((with_reducible refine ed_is "_law_way" ?_); refine ed_vi 3 ?_; wtm_at "q.slot")
  | ((with_reducible refine ed_is "_law_kind" ?_); refine ed_vi 4 ?_; wtm_at "q.slot")
  | ((with_reducible refine ed_is "_law_step" ?_); refine ed_vi 5 ?_; wtm_at "q.slot")
  | fail)
local macro_rules | `(tactic| wtm_at "q.set") => `(tactic| first
  | ((with_reducible refine sd_is "_law_urn_here" ?_); refine sd_v 0 (by assumption) ?_)
  | ((with_reducible refine sd_is "_law_part" ?_); refine sd_v 1 (by assumption) ?_)
  | ((with_reducible refine sd_is "_law_context" ?_); refine sd_v 2 (by assumption) ?_)
  | ((with_reducible refine sd_is "_law_way" ?_); refine sd_v 3 (by assumption) ?_)
  | ((with_reducible refine sd_is "_law_kind" ?_); refine sd_v 4 (by assumption) ?_)
  | ((with_reducible refine sd_is "_law_step" ?_); refine sd_v 5 (by assumption) ?_)
  | fail)
local macro_rules | `(tactic| wtm_at "q.gnm") => `(tactic| first
  | ((with_reducible refine gd_is "_law_urn_here" ?_); refine gd_v 0 (by assumption) ?_)
  | ((with_reducible refine gd_is "_law_part" ?_); refine gd_v 1 (by assumption) ?_)
  | ((with_reducible refine gd_is "_law_context" ?_); refine gd_v 2 (by assumption) ?_)
  | ((with_reducible refine gd_is "_law_way" ?_); refine gd_v 3 (by assumption) ?_)
  | ((with_reducible refine gd_is "_law_kind" ?_); refine gd_v 4 (by assumption) ?_)
  | ((with_reducible refine gd_is "_law_step" ?_); refine gd_v 5 (by assumption) ?_)
  | fail)
theorem other_ok (D : Hd K mg "_law_other_part" s_law_other_part p_law_other_part []) (CP : Fc P w K mg base k "_law_pull" [] F_pull) (CO : Fc P w K mg base k "_law_one" [] F_one) (CK : Fc P w K mg base k "_law_other_kind" [] F_otherKind) (CF : Fc P w K mg base k "_law_flat" [] (F_flat 4)) : Fc P w K mg base (k + 1) "_law_other_part" [] F_other := by
  refine D.go sc_law_other_part (fun W s xs Q h => ?_) (fun f cdv A outer s0 H0 E hr W s xs Q h => ?_)
  · obtain ⟨a, t, Γ, rfl, _⟩ := h
    rfl
  obtain ⟨a, t, Γ, rfl, C, ok, q⟩ := h
  have nd := sc_law_other_part.nd
  have hlen := ok.len
  have cok := ok.ctx.g.ok
  have flat : ∀ (kk : Kd) (s : W.St) (Q' : W.St → Sv → Prop), K4 kk → can Γ kk = true → (∀ f, FlB f → Q' s (.d (tD f))) → F_flat 4 W s [.o a, .d (kD kk), .d (ctxD Γ)] Q' := fun kk s Q' k4 hc h =>
    ⟨a, kk, Γ, rfl, C, k4.dp, k4.dp, ok.ctx.g, by omega, hc, fun t g fl => h t ((fl.le k4.np).deep k4.dp)⟩
  refine sds_cons ?_
  refine sd_par 3 4 nd rfl rfl (by decide) (locB_ok (by kernel_rfl)) (locB_ok (by kernel_rfl)) ?_ rfl
  refine ed_fn CP hr ?_
  wtm_at "q.run"
  refine ⟨a, 11, rfl, C, by decide, by decide, fun way h1 h2 => ?_⟩
  refine ed_fn CK hr ?_
  wtm_at "q.run"
  refine ⟨a, Γ, rfl, C, cok, by omega, fun ko hcan hmem => ?_⟩
  have k4 := ok.kind hmem
  wtm_at "q.run"
  refine br_dec (fun h => ?_) (fun h => ?_)
  · wtm_at "q.run"
    refine ed_fn CF hr ?_
    wtm_at "q.run"
    exact flat ko _ _ k4 hcan fun f hf => q f (.flat hf)
  wtm_at "q.run"
  refine br_dec (fun h => ?_) (fun h => ?_)
  · wtm_at "q.run"
    refine ed_fn CO hr ?_
    wtm_at "q.run"
    refine ⟨a, [.str "x", .str "q", .str "y", .str "b", .str "w1"], .inr rfl, C, by simp, by decide, fun d hd => ?_⟩
    simp only [List.mem_cons, List.not_mem_nil, or_false] at hd
    rcases hd with rfl | rfl | rfl | rfl | rfl
    · wtm_at "q.run"
      exact q (.name "x") (.name (nm0 (by decide +kernel)))
    · wtm_at "q.run"
      exact q (.name "q") (.name (nm0 (by decide +kernel)))
    · wtm_at "q.run"
      exact q (.name "y") (.name (nm0 (by decide +kernel)))
    · wtm_at "q.run"
      exact q (.name "b") (.name (nm0 (by decide +kernel)))
    · wtm_at "q.run"
      exact q (.name "w1") (.name (nm0 (by decide +kernel)))
  wtm_at "q.run"
  refine br_dec (fun h => ?_) (fun h => ?_)
  · wtm_at "q.run"
    refine ed_fn CO hr ?_
    wtm_at "q.run"
    refine ⟨a, [.str "first", .str "second", .str "minus"], .inr rfl, C, by simp, by decide, fun d hd => ?_⟩
    simp only [List.mem_cons, List.not_mem_nil, or_false] at hd
    rcases hd with rfl | rfl | rfl
    · wtm_at "q.run"
      exact q (.first t) .first
    · wtm_at "q.run"
      exact q (.second t) .second
    · wtm_at "q.run"
      exact q (.minus t) .minus
  wtm_at "q.run"
  refine br_dec (fun h => ?_) (fun h => ?_)
  · wtm_at "q.run"
    refine ed_fn CO hr ?_
    wtm_at "q.run"
    refine ⟨a, [.str "call", .str "plus", .str "times", .str "pair", .str "cons"], .inr rfl, C, by simp, by decide, fun d hd => ?_⟩
    simp only [List.mem_cons, List.not_mem_nil, or_false] at hd
    rcases hd with rfl | rfl | rfl | rfl | rfl
    · wtm_at "q.run"
      exact q (.call t t) .call
    · wtm_at "q.run"
      exact q (.plus t t) .plus
    · wtm_at "q.run"
      exact q (.times t t) .times
    · wtm_at "q.run"
      exact q (.pair t t) .pair
    · wtm_at "q.run"
      exact q (.cons t t) .cons
  wtm_at "q.run"
  refine br_dec (fun h => ?_) (fun h => ?_)
  · wtm_at "q.run"
    exact q (.case t "x" (.name "x") "y" (.name "y")) .case
  wtm_at "q.run"
  refine br_dec (fun h => ?_) (fun h => ?_)
  · wtm_at "q.run"
    refine ed_fn CO hr ?_
    wtm_at "q.run"
    refine ⟨a, [tD t, tD (.name "r"), tD (.name "h")], .inr rfl, C, by simp, by simp, fun d hd => ?_⟩
    obtain ⟨body, rfl, hb⟩ : ∃ body, d = tD body ∧ (body = t ∨ body = .name "r" ∨ body = .name "h") := by
      simp only [List.mem_cons, List.not_mem_nil, or_false] at hd
      rcases hd with rfl | rfl | rfl
      · exact ⟨t, rfl, .inl rfl⟩
      · exact ⟨_, rfl, .inr (.inl rfl)⟩
      · exact ⟨_, rfl, .inr (.inr rfl)⟩
    wtm_at "q.run"
    refine ed_fn CO hr ?_
    wtm_at "q.run"
    refine ed_fn CF hr ?_
    wtm_at "q.run"
    refine flat ko _ _ k4 hcan fun f hf => ?_
    wtm_at "q.run"
    refine ⟨a, [tD t, tD f], .inr rfl, C, by simp, by simp, fun d hd => ?_⟩
    obtain ⟨init, rfl, hi⟩ : ∃ init, d = tD init ∧ (init = t ∨ FlB init) := by
      simp only [List.mem_cons, List.not_mem_nil, or_false] at hd
      rcases hd with rfl | rfl
      · exact ⟨t, rfl, .inl rfl⟩
      · exact ⟨f, rfl, .inr hf⟩
    wtm_at "q.run"
    exact q (.fold (.fn "h" ko (.fn "r" ko body)) init (.cons t (.nil ko))) (.fold k4.dp hb hi)
  wtm_at "q.run"
  refine br_dec (fun h => ?_) (fun h => ?_)
  · wtm_at "q.run"
    exact q (.is "<" (.number 1) t) .is
  · wtm_at "q.run"
    exact q (.lete "x" t (.plus (.name "x") t)) .lete
end
end
end
section
/-! W23: _law_bent_term. -/
def F_bent (n : Nat) : FT := fun W s xs Q => ∃ (a : Addr) (t : Tm) (Γ : Ctx), xs = [.o a, .d (tD t), .d (ctxD Γ)] ∧ Cap W a ∧ TopOk Γ ∧ t.dp ≤ n ∧ ∀ (r : Bool) (t' : Tm), Bnd r t t' → Q s (.d (tD t'))
theorem put_part {t u u' : Tm} {i : Nat} {r : Bool} (h : t.parts[i]? = some (some u)) (b : Bnd r u u') : ∃ t', Bnd false t t' ∧ tD t' = .tuple ((.str t.word :: t.rest).take (i + 1) ++ [tD u'] ++ (.str t.word :: t.rest).drop (i + 2)) := by
  cases t with
  | name x => match i, h with | 0, h => cases h
  | unit => cases h
  | number j => match i, h with | 0, h => cases h
  | nil k => match i, h with | 0, h => cases h
  | fn x k c => match i, h with | 0, h => cases h | 1, h => cases h | 2, h => cases h; exact ⟨_, .fn b, rfl⟩
  | call c d => match i, h with | 0, h => cases h; exact ⟨_, .call1 b, rfl⟩ | 1, h => cases h; exact ⟨_, .call2 b, rfl⟩
  | lete x c d => match i, h with | 0, h => cases h | 1, h => cases h; exact ⟨_, .let1 b, rfl⟩ | 2, h => cases h; exact ⟨_, .let2 b, rfl⟩
  | plus c d => match i, h with | 0, h => cases h; exact ⟨_, .plus1 b, rfl⟩ | 1, h => cases h; exact ⟨_, .plus2 b, rfl⟩
  | times c d => match i, h with | 0, h => cases h; exact ⟨_, .times1 b, rfl⟩ | 1, h => cases h; exact ⟨_, .times2 b, rfl⟩
  | minus c => match i, h with | 0, h => cases h; exact ⟨_, .minus b, rfl⟩
  | is sg c d => match i, h with | 0, h => cases h | 1, h => cases h; exact ⟨_, .is1 b, rfl⟩ | 2, h => cases h; exact ⟨_, .is2 b, rfl⟩
  | pair c d => match i, h with | 0, h => cases h; exact ⟨_, .pair1 b, rfl⟩ | 1, h => cases h; exact ⟨_, .pair2 b, rfl⟩
  | first c => match i, h with | 0, h => cases h; exact ⟨_, .first b, rfl⟩
  | second c => match i, h with | 0, h => cases h; exact ⟨_, .second b, rfl⟩
  | left c k => match i, h with | 0, h => cases h; exact ⟨_, .left b, rfl⟩ | 1, h => cases h
  | right k c => match i, h with | 0, h => cases h | 1, h => cases h; exact ⟨_, .right b, rfl⟩
  | case e x c y d => match i, h with | 0, h => cases h; exact ⟨_, .case1 b, rfl⟩ | 1, h => cases h | 2, h => cases h; exact ⟨_, .case2 b, rfl⟩ | 3, h => cases h | 4, h => cases h; exact ⟨_, .case3 b, rfl⟩
  | cons c d => match i, h with | 0, h => cases h; exact ⟨_, .cons1 b, rfl⟩ | 1, h => cases h; exact ⟨_, .cons2 b, rfl⟩
  | fold e c d => match i, h with | 0, h => cases h; exact ⟨_, .fold1 b, rfl⟩ | 1, h => cases h; exact ⟨_, .fold2 b, rfl⟩ | 2, h => cases h; exact ⟨_, .fold3 b, rfl⟩
def spotG (t : Tm) : PyData → List PyData
  | .int j => if t.ltr[j.toNat]? = some 116 then [.int (j + 1)] else []
  | _ => []
theorem spot_part {t : Tm} {i : Nat} (h : t.ltr[i]? = some 116) : ∃ u, t.parts[i]? = some (some u) := by
  have hi : i < t.parts.length := by rw [← ltr_len]; exact (List.getElem?_eq_some_iff.mp h).1
  cases e : t.parts[i] with
  | none =>
    obtain ⟨c, hc, hne⟩ := part_none (i := i) (t := t) (by rw [List.getElem?_eq_getElem hi, e])
    rw [h] at hc
    cases hc
    exact absurd rfl hne
  | some u => exact ⟨u, by rw [List.getElem?_eq_getElem hi, e]⟩
theorem cut_to {ds : List PyData} {i : Nat} (h : i + 1 ≤ ds.length) : cutD ds none (some ((i : Int) + 1)) = ds.take (i + 1) := by
  unfold cutD
  have e : ((i : Int) + 1) = ((i + 1 : Nat) : Int) := by omega
  rw [e, HT.sIx_none, HT.sIx_nat, Nat.min_eq_left h]
  rfl
theorem cut_from {ds : List PyData} {i : Nat} (h : i + 2 ≤ ds.length) : cutD ds (some ((i : Int) + 1 + 1)) none = ds.drop (i + 2) := by
  unfold cutD
  have e : ((i : Int) + 1 + 1) = ((i + 2 : Nat) : Int) := by omega
  rw [e, HT.sIx_none, HT.sIx_nat, Nat.min_eq_left h]
  exact List.take_of_length_le (by rw [List.length_drop]; omega)
section
variable {P : Program} {w : World} {K : PySem.W.Frag} {mg : Str → Option Value} {base : Heap} {k : Nat}
section
local macro_rules | `(tactic| wtm_at "q.nm") => `(tactic| first
  | ((with_reducible refine ed_is "_law_urn_here" ?_); refine ed_vi 0 ?_; wtm_at "q.slot")
  | ((with_reducible refine ed_is "_law_term_here" ?_); refine ed_vi 1 ?_; wtm_at "q.slot")
  | ((with_reducible refine ed_is "_law_context" ?_); refine ed_vi 2 ?_; wtm_at "q.slot")
  | ((with_reducible refine ed_is "_law_spots" ?_); refine ed_vi 3 ?_; wtm_at "q.slot")
  | ((with_reducible refine ed_is "_law_at" ?_); refine ed_vi 4 ?_; wtm_at "q.slot")
  | ((with_reducible refine ed_is "_law_k" ?_); refine ed_vi 5 ?_; wtm_at "q.slot")
  | fail)
local macro_rules | `(tactic| wtm_at "q.set") => `(tactic| first
  | ((with_reducible refine sd_is "_law_urn_here" ?_); refine sd_v 0 (by assumption) ?_)
  | ((with_reducible refine sd_is "_law_term_here" ?_); refine sd_v 1 (by assumption) ?_)
  | ((with_reducible refine sd_is "_law_context" ?_); refine sd_v 2 (by assumption) ?_)
  | ((with_reducible refine sd_is "_law_spots" ?_); refine sd_v 3 (by assumption) ?_)
  | ((with_reducible refine sd_is "_law_at" ?_); refine sd_v 4 (by assumption) ?_)
  | ((with_reducible refine sd_is "_law_k" ?_); refine sd_v 5 (by assumption) ?_)
  | fail)
local macro_rules | `(tactic| wtm_at "q.gnm") => `(tactic| first
  | ((with_reducible refine gd_is "_law_urn_here" ?_); refine gd_v 0 (by assumption) ?_)
  | ((with_reducible refine gd_is "_law_term_here" ?_); refine gd_v 1 (by assumption) ?_)
  | ((with_reducible refine gd_is "_law_context" ?_); refine gd_v 2 (by assumption) ?_)
  | ((with_reducible refine gd_is "_law_spots" ?_); refine gd_v 3 (by assumption) ?_)
  | ((with_reducible refine gd_is "_law_at" ?_); refine gd_v 4 (by assumption) ?_)
  | ((with_reducible refine gd_is "_law_k" ?_); refine gd_v 5 (by assumption) ?_)
  | fail)
theorem bentS_ok (D : Hd K mg "_law_bent_term" s_law_bent_term p_law_bent_term []) (B : Bi mg) {n : Nat} (CP : Fc P w K mg base k "_law_pull" [] F_pull) (CO : Fc P w K mg base k "_law_one" [] F_one) (CH : Fc P w K mg base k "_law_shape" [] F_shape) (CX : Fc P w K mg base k "_law_other_part" [] F_other)
    (C1 : ∀ m, n = m + 1 → Fc P w K mg base k "_law_bent_term" [] (F_bent m)) : Fc P w K mg base (k + 1) "_law_bent_term" [] (F_bent n) := by
  refine D.go sc_law_bent_term (fun W s xs Q h => ?_) (fun f cdv A outer s0 H0 E hr W s xs Q h => ?_)
  · obtain ⟨a, t, Γ, rfl, _⟩ := h
    rfl
  obtain ⟨a, t, Γ, rfl, C, ok, hdp, q⟩ := h
  have nd := sc_law_bent_term.nd
  have hl5 := parts_le t
  have hl6 := rest_len t
  refine sds_cons ?_
  refine sd_cl1 3 5 nd ?_
  refine jd_range rfl B.range_ ?_
  wtm_at "q.run"
  refine cd_lenTm ?_
  wtm_at "q.run"
  have e1 : (((t.rest.length + 1 : Nat) : Int) - 1).toNat = t.rest.length := by omega
  refine ⟨by omega, by omega, ?_⟩
  rw [e1]
  refine ⟨sz_n (by unfold rangeD; rw [List.length_map, List.length_range]; omega), ?_⟩
  refine cl1_map (spotG t) _ _ _ (fun d hd acc Nx hN p => ?_) ?_
  · obtain ⟨i, rfl, hi⟩ := range_mem hd
    have hi2 : i < t.ltr.length := by rw [ltr_len]; omega
    wtm_at "q.run"
    refine ed_fn CH hr ?_
    wtm_at "q.run"
    refine id_str (shape_len t) (atI_nat (j := i) (by rw [shape_ltr]; exact List.getElem?_eq_getElem hi2)) ?_
    have hcok := ltr_ok t _ (List.getElem_mem hi2)
    wtm_at "q.run"
    refine br_dec (fun h => ?_) (fun h => ?_)
    · intro p'
      wtm_at "q.run"
      have e2 : t.ltr[i]? = some 116 := by rw [List.getElem?_eq_getElem hi2, (sgn_t _).mp h]
      refine ⟨rfl, ?_⟩
      have e3 : spotG t (.int (i : Int)) = [.int ((i : Int) + 1)] := by
        show (if t.ltr[i]? = some 116 then _ else _) = _
        rw [if_pos e2]
      rw [e3] at hN
      exact hN
    · have e2 : ¬ t.ltr[i]? = some 116 := fun h2 => by
        rw [List.getElem?_eq_getElem hi2] at h2
        exact h ((sgn_t _).mpr (Option.some.inj h2))
      have e3 : spotG t (.int (i : Int)) = [] := by
        show (if t.ltr[i]? = some 116 then _ else _) = _
        rw [if_neg e2]
      rw [e3, List.append_nil] at hN
      exact hN
  rw [List.nil_append]
  have hspot : ∀ d ∈ (rangeD t.rest.length).flatMap (spotG t), ∃ (i : Nat) (u : Tm), d = .int ((i : Int) + 1) ∧ t.parts[i]? = some (some u) := fun d hd => by
    obtain ⟨e, he, hd⟩ := List.mem_flatMap.mp hd
    obtain ⟨i, rfl, hi⟩ := range_mem he
    have hd : d ∈ (if t.ltr[i]? = some 116 then [PyData.int ((i : Int) + 1)] else []) := hd
    split at hd
    · rename_i h
      obtain ⟨u, hu⟩ := spot_part h
      exact ⟨i, u, List.mem_singleton.mp hd, hu⟩
    · cases hd
  have hlen : ((rangeD t.rest.length).flatMap (spotG t)).length ≤ 10 := by
    have := flat_len (spotG t) (fun d => by unfold spotG; split <;> (try split) <;> simp) (rangeD t.rest.length)
    have e : (rangeD t.rest.length).length = t.rest.length := by unfold rangeD; rw [List.length_map, List.length_range]
    omega
  generalize (rangeD t.rest.length).flatMap (spotG t) = ls at hspot hlen
  have othR : F_other W s [.o a, .d (tD t), .d (ctxD Γ)] Q := ⟨a, t, Γ, rfl, C, ok, fun t' o => q true t' (.root o)⟩
  wtm_at "q.run"
  refine od_eq (ru64 hr) (shaped_l fun d hd => by
    obtain ⟨i, u, rfl, _⟩ := hspot d hd
    exact ⟨rfl, by simp [PyData.depth]⟩) rfl ?_
  rw [eqv_nil]
  wtm_at "q.run"
  refine br_b (fun he => ?_) (fun he => ?_)
  · wtm_at "q.run"
    refine ed_fn CX hr ?_
    wtm_at "q.run"
    exact othR
  have hne : ls ≠ [] := fun z => by rw [z] at he; cases he
  wtm_at "q.run"
  refine ed_fn CP hr ?_
  wtm_at "q.run"
  refine ⟨a, 4, rfl, C, by decide, by decide, fun way h1 h2 => ?_⟩
  wtm_at "q.run"
  refine br_dec (fun h3 => ?_) (fun h3 => ?_)
  · wtm_at "q.run"
    refine ed_fn CX hr ?_
    wtm_at "q.run"
    exact othR
  wtm_at "q.run"
  refine ed_fn CO hr ?_
  wtm_at "q.run"
  refine ⟨a, ls, .inl rfl, C, hne, by omega, fun d hd => ?_⟩
  obtain ⟨i, u, rfl, hu⟩ := hspot d hd
  obtain ⟨_, hu2, hu3⟩ := part_some hu
  have hi : i < t.rest.length := (List.getElem?_eq_some_iff.mp hu2).1
  obtain ⟨m, rfl⟩ : ∃ m, n = m + 1 := ⟨n - 1, by have := u.dp_pos; omega⟩
  have C2 := C1 m rfl
  wtm_at "q.run"
  have hds : (PyData.str t.word :: t.rest).length = t.rest.length + 1 := rfl
  refine ed_sliceT ?_
  wtm_at "q.nm"
  refine pd_none (pd_some ?_)
  wtm_at "q.run"
  refine ⟨.str t.word :: t.rest, by rw [tD_eq], ?_⟩
  rw [cut_to (by omega)]
  wtm_at "q.run"
  refine ed_fn C2 hr ?_
  wtm_at "q.run"
  refine id_trest (j := i) rfl hu2 ?_
  wtm_at "q.run"
  refine ⟨a, u, Γ, rfl, C, ok, by omega, fun r u' b => ?_⟩
  obtain ⟨t', b', e'⟩ := put_part hu b
  wtm_at "q.run"
  refine od_catT (sz_n (by rw [List.length_take]; show _ + 1 ≤ _; omega)) ?_
  wtm_at "q.run"
  refine ed_sliceT ?_
  wtm_at "q.nm"
  refine pd_some ?_
  wtm_at "q.run"
  refine pd_none ⟨.str t.word :: t.rest, by rw [tD_eq], ?_⟩
  rw [cut_from (by omega)]
  wtm_at "q.run"
  refine od_catT (sz_n (by simp only [List.length_append, List.length_take, List.length_drop]; show min _ _ + 1 + _ ≤ _; omega)) ?_
  have q' := q false t' b'
  rw [e'] at q'
  exact q'
end
theorem bent_ok (D : Hd K mg "_law_bent_term" s_law_bent_term p_law_bent_term []) (B : Bi mg) (CP : ∀ k, Fc P w K mg base (k + 1) "_law_pull" [] F_pull) (CO : ∀ k, Fc P w K mg base (k + 2) "_law_one" [] F_one) (CH : ∀ k, Fc P w K mg base (k + 1) "_law_shape" [] F_shape) (CX : Fc P w K mg base 28 "_law_other_part" [] F_other) :
    ∀ n, Fc P w K mg base (n + 29) "_law_bent_term" [] (F_bent n)
  | 0 => bentS_ok D B (CP 27) (CO 26) (CH 27) CX fun m h => by cases h
  | n + 1 => bentS_ok D B (CP (n + 28)) (CO (n + 27)) (CH (n + 28)) (CX.mono (by omega)) fun m h => by cases h; exact bent_ok D B CP CO CH CX n
end
end
section
/-! W24: is_whole, is_variable, is_named. -/
theorem nm_words : ∀ x ∈ nmL, ((wordsL.map PyData.str).any fun z => PyData.eqv z (.str x)) = false := by decide +kernel
def firstOk (x : Str) : Bool := match x.cps.toList with | c :: _ => decide (c ∈ lettersS.cps.toList) | [] => false
theorem nm_first : ∀ x ∈ nmL, firstOk x = true := by decide +kernel
theorem nm_rest : ∀ x ∈ nmL, x.cps.toList.all (fun c => decide (c ∈ (lettersS ++ figuresS).cps.toList)) = true := by decide +kernel
theorem nm_len : ∀ x ∈ nmL, 1 ≤ x.length ∧ x.length ≤ 8 := by decide +kernel
theorem words_shaped : SeqAt.shaped (.tuple (wordsL.map PyData.str)) = true := by decide +kernel
theorem wsum_sz : lettersS.length + figuresS.length ≤ 1000 := by decide +kernel
section
variable {P : Program} {w : World} {K : PySem.W.Frag} {mg : Str → Option Value} {base : Heap} {k : Nat}
def F_whole : FT := fun W s xs Q => ∃ i : Int, xs = [.d (.int i)] ∧ Q s (.d (.bool true))
section
local macro_rules | `(tactic| wtm_at "q.nm") => `(tactic| first
  | ((with_reducible refine ed_is "value" ?_); refine ed_vi 0 ?_; wtm_at "q.slot")
  | fail)
local macro_rules | `(tactic| wtm_at "q.set") => `(tactic| first
  | ((with_reducible refine sd_is "value" ?_); refine sd_v 0 (by assumption) ?_)
  | fail)
local macro_rules | `(tactic| wtm_at "q.gnm") => `(tactic| first
  | ((with_reducible refine gd_is "value" ?_); refine gd_v 0 (by assumption) ?_)
  | fail)
theorem whole_ok (D : Hd K mg "is_whole" s_is_whole p_is_whole []) (B : Bi mg) : Fc P w K mg base (k + 1) "is_whole" [] F_whole := by
  refine D.go sc_is_whole (fun W s xs Q h => ?_) (fun f cdv A outer s0 H0 E hr W s xs Q h => ?_)
  · obtain ⟨i, rfl, _⟩ := h
    rfl
  obtain ⟨i, rfl, q⟩ := h
  have nd := sc_is_whole.nd
  wtm_at "q.run"
  exact Eq.mp (congrArg (fun b => Q s (Sv.d (PyData.bool b))) (by kernel_rfl)) q
end
def F_var : FT := fun W s xs Q => ∃ x : Str, xs = [.d (.str x)] ∧ (x = "a" ∨ x = "b") ∧ Q s (.d (.bool true))
section
local macro_rules | `(tactic| wtm_at "q.nm") => `(tactic| first
  | ((with_reducible refine ed_is "value" ?_); refine ed_vi 0 ?_; wtm_at "q.slot")
  | fail)
local macro_rules | `(tactic| wtm_at "q.set") => `(tactic| first
  | ((with_reducible refine sd_is "value" ?_); refine sd_v 0 (by assumption) ?_)
  | fail)
local macro_rules | `(tactic| wtm_at "q.gnm") => `(tactic| first
  | ((with_reducible refine gd_is "value" ?_); refine gd_v 0 (by assumption) ?_)
  | fail)
theorem variable_ok (D : Hd K mg "is_variable" s_is_variable p_is_variable []) (B : Bi mg) (CV : Con K mg "VARS" (.tuple (varsL.map .str))) : Fc P w K mg base (k + 1) "is_variable" [] F_var := by
  refine D.go sc_is_variable (fun W s xs Q h => ?_) (fun f cdv A outer s0 H0 E hr W s xs Q h => ?_)
  · obtain ⟨x, rfl, _⟩ := h
    rfl
  obtain ⟨x, rfl, hx, q⟩ := h
  have nd := sc_is_variable.nd
  wtm_at "q.run"
  refine ed_con CV ?_
  wtm_at "q.run"
  rcases hx with rfl | rfl
  · refine od_inT (ru65 hr) (by decide +kernel) (by decide +kernel) ?_
    exact Eq.mp (congrArg (fun b => Q s (Sv.d (PyData.bool b))) (by decide +kernel)) q
  · refine od_inT (ru65 hr) (by decide +kernel) (by decide +kernel) ?_
    exact Eq.mp (congrArg (fun b => Q s (Sv.d (PyData.bool b))) (by decide +kernel)) q
end
def F_isnm : FT := fun W s xs Q => ∃ x : Str, xs = [.d (.str x)] ∧ Nm x ∧ Q s (.d (.bool true))
section
local macro_rules | `(tactic| wtm_at "q.nm") => `(tactic| first
  | ((with_reducible refine ed_is "value" ?_); refine ed_vi 0 ?_; wtm_at "q.slot")
  | ((with_reducible refine ed_is "sign" ?_); refine ed_vi 1 ?_; wtm_at "q.slot")
  | fail)
local macro_rules | `(tactic| wtm_at "q.set") => `(tactic| first
  | ((with_reducible refine sd_is "value" ?_); refine sd_v 0 (by assumption) ?_)
  | ((with_reducible refine sd_is "sign" ?_); refine sd_v 1 (by assumption) ?_)
  | fail)
local macro_rules | `(tactic| wtm_at "q.gnm") => `(tactic| first
  | ((with_reducible refine gd_is "value" ?_); refine gd_v 0 (by assumption) ?_)
  | ((with_reducible refine gd_is "sign" ?_); refine gd_v 1 (by assumption) ?_)
  | fail)
theorem isnm_ok (D : Hd K mg "is_named" s_is_named p_is_named []) (B : Bi mg) (CM : Con K mg "MOST_SIGNS" (.int 8)) (CW : Con K mg "WORDS" (.tuple (wordsL.map .str))) (CL : Con K mg "LETTERS" (.str lettersS)) (CG : Con K mg "FIGURES" (.str figuresS)) : Fc P w K mg base (k + 1) "is_named" [] F_isnm := by
  refine D.go sc_is_named (fun W s xs Q h => ?_) (fun f cdv A outer s0 H0 E hr W s xs Q h => ?_)
  · obtain ⟨x, rfl, _⟩ := h
    rfl
  obtain ⟨x, rfl, hx, q⟩ := h
  have nd := sc_is_named.nd
  have hl := nm_len x hx
  have hsz : x.length ≤ sizeLine := by rw [sizeLine_eq]; omega
  wtm_at "q.run"
  refine td_chain ?_
  wtm_at "q.run"
  refine cd_lenS hsz ?_
  wtm_at "q.run"
  refine br_dec (fun h1 => ?_) (fun h1 => absurd hl.1 (by omega))
  refine ed_con CM ?_
  wtm_at "q.run"
  refine br_nd (fun h2 => absurd hl.2 (by omega)) (fun h2 => ?_)
  wtm_at "q.run"
  refine ed_con CW ?_
  refine od_inT (ru65 hr) (shaped_s (nm_str x hx)) words_shaped ?_
  rw [nm_words x hx]
  wtm_at "q.run"
  have hf := nm_first x hx
  unfold firstOk at hf
  cases hc : x.cps.toList with
  | nil => rw [hc] at hf; cases hf
  | cons c cs =>
    rw [hc] at hf
    have hf : decide (c ∈ lettersS.cps.toList) = true := hf
    refine id_str hsz (by rw [hc]; exact at0 c cs) ?_
    refine ed_con CL ?_
    refine od_isC .In ?_
    refine od_inS ?_
    rw [hf]
    wtm_at "q.run"
    refine ed_cl1 1 nd ?_
    refine jd_str ?_
    wtm_at "q.run"
    refine ⟨by rw [signs_len]; exact hsz, ?_⟩
    have hall := nm_rest x hx
    rw [List.all_eq_true] at hall
    refine cl1_mapA (fun c : Nat => PyData.str ⟨#[c]⟩) (fun _ => [PyData.bool true]) x.cps.toList [] s (fun c hc acc Nx hN p => ?_) ?_
    · wtm_at "q.run"
      intro p'
      wtm_at "q.run"
      refine ed_con CL ?_
      refine ed_con CG ?_
      wtm_at "q.run"
      refine od_addS (by have := wsum_sz; rw [sizeLine_eq]; omega) ?_
      wtm_at "q.run"
      refine od_isC .In ?_
      refine od_inS ?_
      rw [hall c hc]
      exact ⟨_, rfl, rfl, hN⟩
    rw [List.nil_append]
    wtm_at "q.run"
    have e : ∀ l : List Nat, (l.flatMap fun _ => [PyData.bool true]) = (l.map fun _ => true).map .bool := by
      intro l
      induction l with
      | nil => rfl
      | cons a l ih => rw [List.flatMap_cons, ih]; rfl
    rw [e]
    refine cd_all ?_
    have e2 : ∀ l : List Nat, (l.map fun _ => true).all id = true := by
      intro l
      induction l with
      | nil => rfl
      | cons a l ih => simp
    rw [e2]
    exact q
end
end
end
section
/-! W25: is_kinded. -/
section
variable {P : Program} {w : World} {K : PySem.W.Frag} {mg : Str → Option Value} {base : Heap} {k : Nat}
def F_kinded (n : Nat) : FT := fun W s xs Q => ∃ (k : Kd) (m : Int), xs = [.d (kD k), .d (.int m)] ∧ k.dp ≤ n ∧ (k.dp : Int) ≤ m ∧ k.dp ≤ 60 ∧ Q s (.d (.bool true))
section
local macro_rules | `(tactic| wtm_at "q.nm") => `(tactic| first
  | ((with_reducible refine ed_is "value" ?_); refine ed_vi 0 ?_; wtm_at "q.slot")
  | ((with_reducible refine ed_is "deep" ?_); refine ed_vi 1 ?_; wtm_at "q.slot")
  | ((with_reducible refine ed_is "each" ?_); refine ed_vi 2 ?_; wtm_at "q.slot")
  | fail)
local macro_rules | `(tactic| wtm_at "q.set") => `(tactic| first
  | ((with_reducible refine sd_is "value" ?_); refine sd_v 0 (by assumption) ?_)
  | ((with_reducible refine sd_is "deep" ?_); refine sd_v 1 (by assumption) ?_)
  | ((with_reducible refine sd_is "each" ?_); refine sd_v 2 (by assumption) ?_)
  | fail)
local macro_rules | `(tactic| wtm_at "q.gnm") => `(tactic| first
  | ((with_reducible refine gd_is "value" ?_); refine gd_v 0 (by assumption) ?_)
  | ((with_reducible refine gd_is "deep" ?_); refine gd_v 1 (by assumption) ?_)
  | ((with_reducible refine gd_is "each" ?_); refine gd_v 2 (by assumption) ?_)
  | fail)
theorem kindedS_ok {dfl : List PyData} (D : Hd K mg "is_kinded" s_is_kinded p_is_kinded dfl) (B : Bi mg) (TK : Tab K w mg "KIND_SIZES" kindTab) {n : Nat} (CV : Fc P w K mg base k "is_variable" [] F_var)
    (C1 : ∀ m, n = m + 1 → Fc P w K mg base k "is_kinded" [] (F_kinded m)) : Fc P w K mg base (k + 1) "is_kinded" dfl (F_kinded n) := by
  refine D.go sc_is_kinded (fun W s xs Q h => ?_) (fun f cdv A outer s0 H0 E hr W s xs Q h => ?_)
  · obtain ⟨k, m, rfl, _⟩ := h
    rfl
  obtain ⟨k, m, rfl, hk, hm, h60, q⟩ := h
  have nd := sc_is_kinded.nd
  have hp := k.dp_pos
  obtain ⟨ta, hta, KT⟩ := TK.ex
  obtain ⟨n', rfl⟩ : ∃ n', n = n' + 1 := ⟨n - 1, by omega⟩
  have C2 := C1 n' rfl
  wtm_at "q.run"
  refine br_dec (fun h => absurd h (by omega)) (fun _ => ?_)
  cases k with
  | va =>
    wtm_at "q.run"
    refine od_eq (ru64 hr) (kD_shaped (by simp only [Kd.dp]; omega)) rfl ?_
    rw [show PyData.eqv (kD .va) (.tuple []) = false from rfl]
    wtm_at "q.run"
    refine ed_fn CV hr ?_
    wtm_at "q.run"
    exact ⟨by decide, q⟩
  | vb =>
    wtm_at "q.run"
    refine od_eq (ru64 hr) (kD_shaped (by simp only [Kd.dp]; omega)) rfl ?_
    rw [show PyData.eqv (kD .vb) (.tuple []) = false from rfl]
    wtm_at "q.run"
    refine ed_fn CV hr ?_
    wtm_at "q.run"
    exact ⟨by decide, q⟩
  | unit =>
    wtm_at "q.run"
    refine od_eq (ru64 hr) (kD_shaped (by simp only [Kd.dp]; omega)) rfl ?_
    rw [show PyData.eqv (kD .unit) (.tuple []) = false from rfl]
    wtm_at "q.run"
    refine ed_getKt KT ⟨rfl, rfl, rfl, rfl⟩ ?_
    refine ed_tabA hta ?_
    refine ⟨rfl, ?_⟩
    wtm_at "q.run"
    refine ⟨_, _, rfl, rfl, ?_⟩
    refine od_ne (ru64 hr) rfl rfl ?_
    refine ⟨_, rfl, ?_⟩
    refine br_f (by kernel_rfl) ?_
    wtm_at "q.run"
    refine ed_cl1 2 nd ?_
    refine jd_tup ?_
    refine ed_restK (k := .unit) ?_
    wtm_at "q.nm"
    refine ⟨rfl, pd_some ?_⟩
    wtm_at "q.run"
    refine ⟨rfl, _, rfl, sz_ok (Nat.le_of_ble_eq_true rfl), ?_⟩
    refine cl1_nil ?_
    wtm_at "q.run"
    refine cd_all (bs := []) ?_
    exact q
  | num =>
    wtm_at "q.run"
    refine od_eq (ru64 hr) (kD_shaped (by simp only [Kd.dp]; omega)) rfl ?_
    rw [show PyData.eqv (kD .num) (.tuple []) = false from rfl]
    wtm_at "q.run"
    refine ed_getKt KT ⟨rfl, rfl, rfl, rfl⟩ ?_
    refine ed_tabA hta ?_
    refine ⟨rfl, ?_⟩
    wtm_at "q.run"
    refine ⟨_, _, rfl, rfl, ?_⟩
    refine od_ne (ru64 hr) rfl rfl ?_
    refine ⟨_, rfl, ?_⟩
    refine br_f (by kernel_rfl) ?_
    wtm_at "q.run"
    refine ed_cl1 2 nd ?_
    refine jd_tup ?_
    refine ed_restK (k := .num) ?_
    wtm_at "q.nm"
    refine ⟨rfl, pd_some ?_⟩
    wtm_at "q.run"
    refine ⟨rfl, _, rfl, sz_ok (Nat.le_of_ble_eq_true rfl), ?_⟩
    refine cl1_nil ?_
    wtm_at "q.run"
    refine cd_all (bs := []) ?_
    exact q
  | pair a b =>
    simp only [Kd.dp] at hk hm h60
    wtm_at "q.run"
    refine od_eq (ru64 hr) (kD_shaped (by simp only [Kd.dp]; omega)) rfl ?_
    rw [show PyData.eqv (kD (.pair a b)) (.tuple []) = false from rfl]
    wtm_at "q.run"
    refine ed_getKt KT ⟨rfl, rfl, rfl, rfl⟩ ?_
    refine ed_tabA hta ?_
    refine ⟨rfl, ?_⟩
    wtm_at "q.run"
    refine ⟨_, _, rfl, rfl, ?_⟩
    refine od_ne (ru64 hr) rfl rfl ?_
    refine ⟨_, rfl, ?_⟩
    refine br_f (by kernel_rfl) ?_
    wtm_at "q.run"
    refine ed_cl1 2 nd ?_
    refine jd_tup ?_
    refine ed_restK (k := .pair a b) ?_
    wtm_at "q.nm"
    refine ⟨rfl, pd_some ?_⟩
    wtm_at "q.run"
    refine ⟨rfl, _, rfl, sz_ok (Nat.le_of_ble_eq_true rfl), ?_⟩
    refine cl1_cons ?_
    intro p2
    wtm_at "q.run"
    intro p3
    refine ed_fn C2 hr ?_
    wtm_at "q.run"
    refine ⟨a, m - 1, rfl, by omega, by omega, by omega, ?_⟩
    refine ⟨_, rfl, rfl, ?_⟩
    refine cl1_cons ?_
    intro p2
    wtm_at "q.run"
    intro p3
    refine ed_fn C2 hr ?_
    wtm_at "q.run"
    refine ⟨b, m - 1, rfl, by omega, by omega, by omega, ?_⟩
    refine ⟨_, rfl, rfl, ?_⟩
    refine cl1_nil ?_
    wtm_at "q.run"
    refine cd_all (bs := [true, true]) ?_
    exact q
  | either a b =>
    simp only [Kd.dp] at hk hm h60
    wtm_at "q.run"
    refine od_eq (ru64 hr) (kD_shaped (by simp only [Kd.dp]; omega)) rfl ?_
    rw [show PyData.eqv (kD (.either a b)) (.tuple []) = false from rfl]
    wtm_at "q.run"
    refine ed_getKt KT ⟨rfl, rfl, rfl, rfl⟩ ?_
    refine ed_tabA hta ?_
    refine ⟨rfl, ?_⟩
    wtm_at "q.run"
    refine ⟨_, _, rfl, rfl, ?_⟩
    refine od_ne (ru64 hr) rfl rfl ?_
    refine ⟨_, rfl, ?_⟩
    refine br_f (by kernel_rfl) ?_
    wtm_at "q.run"
    refine ed_cl1 2 nd ?_
    refine jd_tup ?_
    refine ed_restK (k := .either a b) ?_
    wtm_at "q.nm"
    refine ⟨rfl, pd_some ?_⟩
    wtm_at "q.run"
    refine ⟨rfl, _, rfl, sz_ok (Nat.le_of_ble_eq_true rfl), ?_⟩
    refine cl1_cons ?_
    intro p2
    wtm_at "q.run"
    intro p3
    refine ed_fn C2 hr ?_
    wtm_at "q.run"
    refine ⟨a, m - 1, rfl, by omega, by omega, by omega, ?_⟩
    refine ⟨_, rfl, rfl, ?_⟩
    refine cl1_cons ?_
    intro p2
    wtm_at "q.run"
    intro p3
    refine ed_fn C2 hr ?_
    wtm_at "q.run"
    refine ⟨b, m - 1, rfl, by omega, by omega, by omega, ?_⟩
    refine ⟨_, rfl, rfl, ?_⟩
    refine cl1_nil ?_
    wtm_at "q.run"
    refine cd_all (bs := [true, true]) ?_
    exact q
  | list a =>
    simp only [Kd.dp] at hk hm h60
    wtm_at "q.run"
    refine od_eq (ru64 hr) (kD_shaped (by simp only [Kd.dp]; omega)) rfl ?_
    rw [show PyData.eqv (kD (.list a)) (.tuple []) = false from rfl]
    wtm_at "q.run"
    refine ed_getKt KT ⟨rfl, rfl, rfl, rfl⟩ ?_
    refine ed_tabA hta ?_
    refine ⟨rfl, ?_⟩
    wtm_at "q.run"
    refine ⟨_, _, rfl, rfl, ?_⟩
    refine od_ne (ru64 hr) rfl rfl ?_
    refine ⟨_, rfl, ?_⟩
    refine br_f (by kernel_rfl) ?_
    wtm_at "q.run"
    refine ed_cl1 2 nd ?_
    refine jd_tup ?_
    refine ed_restK (k := .list a) ?_
    wtm_at "q.nm"
    refine ⟨rfl, pd_some ?_⟩
    wtm_at "q.run"
    refine ⟨rfl, _, rfl, sz_ok (Nat.le_of_ble_eq_true rfl), ?_⟩
    refine cl1_cons ?_
    intro p2
    wtm_at "q.run"
    intro p3
    refine ed_fn C2 hr ?_
    wtm_at "q.run"
    refine ⟨a, m - 1, rfl, by omega, by omega, by omega, ?_⟩
    refine ⟨_, rfl, rfl, ?_⟩
    refine cl1_nil ?_
    wtm_at "q.run"
    refine cd_all (bs := [true]) ?_
    exact q
  | func a b =>
    simp only [Kd.dp] at hk hm h60
    wtm_at "q.run"
    refine od_eq (ru64 hr) (kD_shaped (by simp only [Kd.dp]; omega)) rfl ?_
    rw [show PyData.eqv (kD (.func a b)) (.tuple []) = false from rfl]
    wtm_at "q.run"
    refine ed_getKt KT ⟨rfl, rfl, rfl, rfl⟩ ?_
    refine ed_tabA hta ?_
    refine ⟨rfl, ?_⟩
    wtm_at "q.run"
    refine ⟨_, _, rfl, rfl, ?_⟩
    refine od_ne (ru64 hr) rfl rfl ?_
    refine ⟨_, rfl, ?_⟩
    refine br_f (by kernel_rfl) ?_
    wtm_at "q.run"
    refine ed_cl1 2 nd ?_
    refine jd_tup ?_
    refine ed_restK (k := .func a b) ?_
    wtm_at "q.nm"
    refine ⟨rfl, pd_some ?_⟩
    wtm_at "q.run"
    refine ⟨rfl, _, rfl, sz_ok (Nat.le_of_ble_eq_true rfl), ?_⟩
    refine cl1_cons ?_
    intro p2
    wtm_at "q.run"
    intro p3
    refine ed_fn C2 hr ?_
    wtm_at "q.run"
    refine ⟨a, m - 1, rfl, by omega, by omega, by omega, ?_⟩
    refine ⟨_, rfl, rfl, ?_⟩
    refine cl1_cons ?_
    intro p2
    wtm_at "q.run"
    intro p3
    refine ed_fn C2 hr ?_
    wtm_at "q.run"
    refine ⟨b, m - 1, rfl, by omega, by omega, by omega, ?_⟩
    refine ⟨_, rfl, rfl, ?_⟩
    refine cl1_nil ?_
    wtm_at "q.run"
    refine cd_all (bs := [true, true]) ?_
    exact q
end
theorem kinded_ok (D : Hd K mg "is_kinded" s_is_kinded p_is_kinded []) (B : Bi mg) (TK : Tab K w mg "KIND_SIZES" kindTab) (CV : ∀ k, Fc P w K mg base (k + 1) "is_variable" [] F_var) : ∀ n, Fc P w K mg base (n + 2) "is_kinded" [] (F_kinded n)
  | 0 => kindedS_ok D B TK (CV 0) fun m h => by cases h
  | n + 1 => kindedS_ok D B TK (CV (n + 1)) fun m h => by cases h; exact kinded_ok D B TK CV n
theorem kindedD_ok (D : Hd K mg "is_kinded" s_is_kinded p_is_kinded []) (DD : Hd K mg "is_kinded" s_is_kinded p_is_kinded [.int 100]) (B : Bi mg) (TK : Tab K w mg "KIND_SIZES" kindTab) (CV : ∀ k, Fc P w K mg base (k + 1) "is_variable" [] F_var) (n : Nat) : Fc P w K mg base (n + 3) "is_kinded" [.int 100] (F_kinded n) :=
  kindedS_ok DD B TK (CV (n + 1)) fun m h => by subst h; exact (kinded_ok D B TK CV m).mono (by omega)
end
end
section
/-! W26: is_element. -/
inductive ElOk : Str → PyData → Prop
  | n {x : Str} : Nm x → ElOk "n" (.str x)
  | k {k : Kd} : k.dp ≤ 5 → ElOk "k" (kD k)
  | s {x : Str} : x ∈ signL → ElOk "s" (.str x)
  | i {i : Int} : i.natAbs < 100 → ElOk "i" (.int i)
theorem powA : CPowW 10 50 := ⟨by decide, by decide +kernel⟩
theorem powB : CPowW ((10 : Int) ^ (50 : Int).toNat) 8 := ⟨by decide, by decide +kernel⟩
theorem powC : (100 : Int) < ((10 : Int) ^ (50 : Int).toNat) ^ (8 : Int).toNat := by decide +kernel
theorem sign_in : ∀ x ∈ signL, (([PyData.str "<", .str "<=", .str "=="]).any fun z => PyData.eqv z (.str x)) = true := by decide +kernel
theorem sign_ok : ∀ x ∈ signL, PyData.strOk x = true := by decide +kernel
section
variable {P : Program} {w : World} {K : PySem.W.Frag} {mg : Str → Option Value} {base : Heap} {k : Nat}
def F_element : FT := fun W s xs Q => ∃ (sg : Str) (v : PyData), xs = [.d (.str sg), .d v, .d (.int 100)] ∧ ElOk sg v ∧ Q s (.d (.bool true))
section
local macro_rules | `(tactic| wtm_at "q.nm") => `(tactic| first
  | ((with_reducible refine ed_is "sign" ?_); refine ed_vi 0 ?_; wtm_at "q.slot")
  | ((with_reducible refine ed_is "value" ?_); refine ed_vi 1 ?_; wtm_at "q.slot")
  | ((with_reducible refine ed_is "kind_deep" ?_); refine ed_vi 2 ?_; wtm_at "q.slot")
  | fail)
local macro_rules | `(tactic| wtm_at "q.set") => `(tactic| first
  | ((with_reducible refine sd_is "sign" ?_); refine sd_v 0 (by assumption) ?_)
  | ((with_reducible refine sd_is "value" ?_); refine sd_v 1 (by assumption) ?_)
  | ((with_reducible refine sd_is "kind_deep" ?_); refine sd_v 2 (by assumption) ?_)
  | fail)
local macro_rules | `(tactic| wtm_at "q.gnm") => `(tactic| first
  | ((with_reducible refine gd_is "sign" ?_); refine gd_v 0 (by assumption) ?_)
  | ((with_reducible refine gd_is "value" ?_); refine gd_v 1 (by assumption) ?_)
  | ((with_reducible refine gd_is "kind_deep" ?_); refine gd_v 2 (by assumption) ?_)
  | fail)
theorem element_ok (D : Hd K mg "is_element" s_is_element p_is_element []) (B : Bi mg) (CS : Con K mg "SIGNS" (.tuple (signL.map .str))) (CN : Fc P w K mg base k "is_named" [] F_isnm) (CK : Fc P w K mg base k "is_kinded" [] (F_kinded 60)) (CW : Fc P w K mg base k "is_whole" [] F_whole) : Fc P w K mg base (k + 1) "is_element" [] F_element := by
  refine D.go sc_is_element (fun W s xs Q h => ?_) (fun f cdv A outer s0 H0 E hr W s xs Q h => ?_)
  · obtain ⟨sg, v, rfl, _⟩ := h
    rfl
  obtain ⟨sg, v, rfl, hel, q⟩ := h
  have nd := sc_is_element.nd
  cases hel with
  | n hx =>
    wtm_at "q.run"
    refine ed_fn CN hr ?_
    wtm_at "q.run"
    exact ⟨hx, q⟩
  | @k kk hk =>
    wtm_at "q.run"
    refine ed_fn CK hr ?_
    wtm_at "q.run"
    exact ⟨kk, 100, rfl, by omega, by omega, by omega, q⟩
  | s hx =>
    wtm_at "q.run"
    refine ed_con CS ?_
    wtm_at "q.run"
    refine od_inT (ru65 hr) (shaped_s (sign_ok _ hx)) (by decide +kernel) ?_
    exact Eq.mp (congrArg (fun b => Q s (Sv.d (PyData.bool b))) (sign_in _ hx).symm) q
  | @i i hi =>
    wtm_at "q.run"
    refine ed_fn CW hr ?_
    wtm_at "q.run"
    refine cd_abs ?_
    wtm_at "q.run"
    refine od_isB .Pow ?_
    refine od_powW powA ?_
    wtm_at "q.run"
    refine od_isB .Pow ?_
    refine od_powW powB ?_
    have := powC
    generalize ((10 : Int) ^ (50 : Int).toNat) ^ (8 : Int).toNat = big at this
    wtm_at "q.run"
    have e : decide ((if i < 0 then -i else i) < big) = true := by
      apply decide_eq_true
      split <;> omega
    rw [e]
    exact q
end
end
end
section
/-! W27: wrong_by, wrong_in_term, subterms. -/
def Tm.shp : Tm → Str
  | .name _ => "n" | .fn _ _ _ => "nkt" | .call _ _ => "tt" | .lete _ _ _ => "ntt" | .unit => "" | .number _ => "i" | .plus _ _ => "tt" | .times _ _ => "tt" | .minus _ => "t" | .is _ _ _ => "stt"
  | .pair _ _ => "tt" | .first _ => "t" | .second _ => "t" | .left _ _ => "tk" | .right _ _ => "kt" | .case _ _ _ _ _ => "tntnt" | .nil _ => "k" | .cons _ _ => "tt" | .fold _ _ _ => "ttt"
def Tm.let2 : Tm → List Nat
  | .name _ => [110] | .fn _ _ _ => [110, 107, 116] | .call _ _ => [116, 116] | .lete _ _ _ => [110, 116, 116] | .unit => [] | .number _ => [105] | .plus _ _ => [116, 116] | .times _ _ => [116, 116] | .minus _ => [116] | .is _ _ _ => [115, 116, 116]
  | .pair _ _ => [116, 116] | .first _ => [116] | .second _ => [116] | .left _ _ => [116, 107] | .right _ _ => [107, 116] | .case _ _ _ _ _ => [116, 110, 116, 110, 116] | .nil _ => [107] | .cons _ _ => [116, 116] | .fold _ _ _ => [116, 116, 116]
theorem shp_get (t : Tm) : cGet shapeTab t.word = some (.str t.shp) := by cases t <;> kernel_rfl
theorem shp_let (t : Tm) : t.shp.cps.toList = t.let2 := by cases t <;> kernel_rfl
theorem shp_len (t : Tm) : t.shp.length = t.rest.length := by cases t <;> kernel_rfl
theorem let2_len (t : Tm) : t.let2.length = t.rest.length := by cases t <;> rfl
theorem let2_116 (t : Tm) (i : Nat) : t.let2[i]? = some 116 ↔ t.ltr[i]? = some 116 := by
  cases t <;> first | exact Iff.rfl | (match i with | 0 => simp [Tm.let2, Tm.ltr] | 1 => simp [Tm.let2, Tm.ltr] | 2 => simp [Tm.let2, Tm.ltr] | 3 => simp [Tm.let2, Tm.ltr] | 4 => simp [Tm.let2, Tm.ltr] | _ + 5 => simp [Tm.let2, Tm.ltr])
theorem c110 : (⟨#[110]⟩ : Str) = "n" := by decide +kernel
theorem c107 : (⟨#[107]⟩ : Str) = "k" := by decide +kernel
theorem c115 : (⟨#[115]⟩ : Str) = "s" := by decide +kernel
theorem c105 : (⟨#[105]⟩ : Str) = "i" := by decide +kernel
/-- an element that is no term -/
theorem el_of {t : Tm} (h : Wf t) {i c : Nat} {d : PyData} (hc : t.let2[i]? = some c) (hd : t.rest[i]? = some d) (hn : c ≠ 116) : ElOk ⟨#[c]⟩ d := by
  cases t with
  | name x => match i with
    | 0 => cases hc; cases hd; rw [c110]; exact .n h
  | unit => cases hc
  | number j => match i with
    | 0 => cases hc; cases hd; rw [c105]; exact .i h
  | nil k => match i with
    | 0 => cases hc; cases hd; rw [c107]; exact .k (by have h : k.dp ≤ 5 := h; omega)
  | fn x k b => match i with
    | 0 => cases hc; cases hd; rw [c110]; exact .n h.1
    | 1 => cases hc; cases hd; rw [c107]; exact .k (by have := h.2.1; omega)
    | 2 => cases hc; exact absurd rfl hn
  | call a b => match i with
    | 0 => cases hc; exact absurd rfl hn
    | 1 => cases hc; exact absurd rfl hn
  | lete x a b => match i with
    | 0 => cases hc; cases hd; rw [c110]; exact .n h.1
    | 1 => cases hc; exact absurd rfl hn
    | 2 => cases hc; exact absurd rfl hn
  | plus a b => match i with
    | 0 => cases hc; exact absurd rfl hn
    | 1 => cases hc; exact absurd rfl hn
  | times a b => match i with
    | 0 => cases hc; exact absurd rfl hn
    | 1 => cases hc; exact absurd rfl hn
  | minus a => match i with
    | 0 => cases hc; exact absurd rfl hn
  | is s a b => match i with
    | 0 => cases hc; cases hd; rw [c115]; exact .s h.1
    | 1 => cases hc; exact absurd rfl hn
    | 2 => cases hc; exact absurd rfl hn
  | pair a b => match i with
    | 0 => cases hc; exact absurd rfl hn
    | 1 => cases hc; exact absurd rfl hn
  | first a => match i with
    | 0 => cases hc; exact absurd rfl hn
  | second a => match i with
    | 0 => cases hc; exact absurd rfl hn
  | left a k => match i with
    | 0 => cases hc; exact absurd rfl hn
    | 1 => cases hc; cases hd; rw [c107]; exact .k (by have := h.2; omega)
  | right k a => match i with
    | 0 => cases hc; cases hd; rw [c107]; exact .k (by have := h.1; omega)
    | 1 => cases hc; exact absurd rfl hn
  | case s x a y b => match i with
    | 0 => cases hc; exact absurd rfl hn
    | 1 => cases hc; cases hd; rw [c110]; exact .n h.2.1
    | 2 => cases hc; exact absurd rfl hn
    | 3 => cases hc; cases hd; rw [c110]; exact .n h.2.2.2.1
    | 4 => cases hc; exact absurd rfl hn
  | cons a b => match i with
    | 0 => cases hc; exact absurd rfl hn
    | 1 => cases hc; exact absurd rfl hn
  | fold f a b => match i with
    | 0 => cases hc; exact absurd rfl hn
    | 1 => cases hc; exact absurd rfl hn
    | 2 => cases hc; exact absurd rfl hn
theorem wf_part {t u : Tm} {i : Nat} (hn : Wf t) (h : t.parts[i]? = some (some u)) : Wf u := by
  have hm := List.mem_of_getElem? h
  cases t <;> simp [Tm.parts, Wf] at hm hn <;> (first | (subst hm; first | exact hn | exact hn.1 | exact hn.2 | exact hn.2.2) | (rcases hm with rfl | rfl | rfl <;> first | exact hn.1 | exact hn.2.1 | exact hn.2.2 | exact hn.2 | exact hn.2.2.1 | exact hn.2.2.2.2) | (rcases hm with rfl | rfl <;> first | exact hn.1 | exact hn.2.1 | exact hn.2.2 | exact hn.2))
theorem kit_t (t : Tm) : kitB (tyD (tD t)) "tuple" = some true := by rw [tD_eq]; kernel_rfl
theorem eqv_t0 (t : Tm) : PyData.eqv (tD t) (.tuple []) = false := by rw [tD_eq]; rfl
theorem layt {x : Str} {ds : List PyData} (h : PyData.strOk x = true) (g : ∀ d ∈ ds, d.canLay0 = true) : (PyData.tuple (.str x :: ds)).canLay0 = true := by
  show PyData.canLayAll0 (.str x :: ds) = true
  exact layAll fun d hd => by
    rcases List.mem_cons.mp hd with rfl | hd
    · exact lay_s _ h
    · exact g d hd
theorem dept {x : Str} {ds : List PyData} {n : Nat} (g : ∀ d ∈ ds, d.depth ≤ n) : (PyData.tuple (.str x :: ds)).depth ≤ n + 1 := by
  have := depthAll_le (n := n) (ds := .str x :: ds) fun d hd => by
    rcases List.mem_cons.mp hd with rfl | hd
    · simp [PyData.depth]
    · exact g d hd
  simp only [PyData.depth]; omega
theorem tD_lay : ∀ (n : Nat) (t : Tm), t.dp ≤ n → Wf t → (tD t).canLay0 = true ∧ (tD t).depth ≤ n + 5
  | 0, t, h, _ => by have := t.dp_pos; omega
  | n + 1, t, h, hw => by
    have key : ∀ d ∈ t.rest, d.canLay0 = true ∧ d.depth ≤ n + 5 := fun d hd => by
      obtain ⟨i, hi, rfl⟩ := List.getElem_of_mem hd
      have hi2 : i < t.parts.length := by rw [← rest_len]; exact hi
      cases e : t.parts[i] with
      | some u =>
        obtain ⟨_, h2, h3⟩ := part_some (i := i) (t := t) (u := u) (by rw [List.getElem?_eq_getElem hi2, e])
        rw [List.getElem?_eq_getElem hi] at h2
        rw [Option.some.inj h2]
        exact tD_lay n u (by omega) (wf_part hw (by rw [List.getElem?_eq_getElem hi2, e]))
      | none =>
        obtain ⟨c, hc, hne⟩ := part_none (i := i) (t := t) (by rw [List.getElem?_eq_getElem hi2, e])
        have hi3 : i < t.let2.length := by rw [let2_len]; exact hi
        have hn : t.let2[i] ≠ 116 := fun z => by
          have := (let2_116 t i).mp (by rw [List.getElem?_eq_getElem hi3, z])
          rw [hc] at this
          exact hne (Option.some.inj this)
        have el := el_of hw (List.getElem?_eq_getElem hi3) (List.getElem?_eq_getElem hi) hn
        generalize (⟨#[t.let2[i]]⟩ : Str) = sg at el
        generalize hg : t.rest[i] = d at el ⊢
        cases el with
        | n hx => exact ⟨lay_s _ (nm_str _ hx), by simp [PyData.depth]⟩
        | @k k hk =>
          refine ⟨kD_lay _, ?_⟩
          rw [kD_depth]
          omega
        | s hx => exact ⟨lay_s _ (sign_ok _ hx), by simp [PyData.depth]⟩
        | i hx => exact ⟨rfl, by simp [PyData.depth]⟩
    rw [tD_eq]
    exact ⟨layt (tword_ok t) fun d hd => (key d hd).1, dept fun d hd => (key d hd).2⟩
theorem let2_ok (t : Tm) : ∀ c ∈ t.let2, PyData.strOk ⟨#[c]⟩ = true := by cases t <;> simp only [Tm.let2] <;> decide +kernel
section
variable {P : Program} {w : World} {K : PySem.W.Frag} {mg : Str → Option Value} {base : Heap} {k : Nat}
def F_wrong (n : Nat) : FT := fun W s xs Q => ∃ (t : Tm) (m : Int), xs = [.d (tD t), .d (.int m), .d (.int 100)] ∧ t.dp ≤ n ∧ (t.dp : Int) ≤ m ∧ t.dp ≤ 50 ∧ Wf t ∧ Q s (.d (.list []))
section
local macro_rules | `(tactic| wtm_at "q.nm") => `(tactic| first
  | ((with_reducible refine ed_is "value" ?_); refine ed_vi 0 ?_; wtm_at "q.slot")
  | ((with_reducible refine ed_is "deep" ?_); refine ed_vi 1 ?_; wtm_at "q.slot")
  | ((with_reducible refine ed_is "kind_deep" ?_); refine ed_vi 2 ?_; wtm_at "q.slot")
  | ((with_reducible refine ed_is "index" ?_); refine ed_vi 3 ?_; wtm_at "q.slot")
  | ((with_reducible refine ed_is "sign" ?_); refine ed_vi 4 ?_; wtm_at "q.slot")
  | ((with_reducible refine ed_is "part" ?_); refine ed_vi 5 ?_; wtm_at "q.slot")
  | ((with_reducible refine ed_is "found" ?_); refine ed_vi 6 ?_; wtm_at "q.slot")
  | fail)
local macro_rules | `(tactic| wtm_at "q.set") => `(tactic| first
  | ((with_reducible refine sd_is "value" ?_); refine sd_v 0 (by assumption) ?_)
  | ((with_reducible refine sd_is "deep" ?_); refine sd_v 1 (by assumption) ?_)
  | ((with_reducible refine sd_is "kind_deep" ?_); refine sd_v 2 (by assumption) ?_)
  | ((with_reducible refine sd_is "index" ?_); refine sd_v 3 (by assumption) ?_)
  | ((with_reducible refine sd_is "sign" ?_); refine sd_v 4 (by assumption) ?_)
  | ((with_reducible refine sd_is "part" ?_); refine sd_v 5 (by assumption) ?_)
  | ((with_reducible refine sd_is "found" ?_); refine sd_v 6 (by assumption) ?_)
  | fail)
local macro_rules | `(tactic| wtm_at "q.gnm") => `(tactic| first
  | ((with_reducible refine gd_is "value" ?_); refine gd_v 0 (by assumption) ?_)
  | ((with_reducible refine gd_is "deep" ?_); refine gd_v 1 (by assumption) ?_)
  | ((with_reducible refine gd_is "kind_deep" ?_); refine gd_v 2 (by assumption) ?_)
  | ((with_reducible refine gd_is "index" ?_); refine gd_v 3 (by assumption) ?_)
  | ((with_reducible refine gd_is "sign" ?_); refine gd_v 4 (by assumption) ?_)
  | ((with_reducible refine gd_is "part" ?_); refine gd_v 5 (by assumption) ?_)
  | ((with_reducible refine gd_is "found" ?_); refine gd_v 6 (by assumption) ?_)
  | fail)
theorem wrongS_ok (D : Hd K mg "wrong_by" s_wrong_by p_wrong_by []) (B : Bi mg) (TS : Tab K w mg "SHAPES" shapeTab) {n : Nat} (CE : Fc P w K mg base k "is_element" [] F_element)
    (C1 : ∀ m, n = m + 1 → Fc P w K mg base k "wrong_by" [] (F_wrong m)) : Fc P w K mg base (k + 1) "wrong_by" [] (F_wrong n) := by
  refine D.go sc_wrong_by (fun W s xs Q h => ?_) (fun f cdv A outer s0 H0 E hr W s xs Q h => ?_)
  · obtain ⟨t, m, rfl, _⟩ := h
    rfl
  obtain ⟨t, m, rfl, hd, hm, h50, wf, q⟩ := h
  have nd := sc_wrong_by.nd
  have hp := t.dp_pos
  obtain ⟨ta, hta, KT⟩ := TS.ex
  obtain ⟨n', rfl⟩ : ∃ n', n = n' + 1 := ⟨n - 1, by omega⟩
  have C2 := C1 n' rfl
  wtm_at "q.run"
  refine br_dec (fun h => absurd h (by omega)) (fun _ => ?_)
  obtain ⟨l1, l2⟩ := tD_lay 50 t h50 wf
  have hl5 := parts_le t
  have hl6 := rest_len t
  have hl7 := shp_len t
  have hl8 := let2_len t
  have ssz : t.shp.length ≤ sizeLine := by rw [sizeLine_eq]; omega
  wtm_at "q.run"
  refine ⟨true, kit_t t, ?_⟩
  wtm_at "q.run"
  refine od_eq (ru64 hr) (by unfold SeqAt.shaped; rw [l1]; simp; omega) rfl ?_
  rw [eqv_t0]
  wtm_at "q.run"
  refine ed_tabA hta ?_
  refine od_notInKt KT ?_
  rw [shp_get]
  wtm_at "q.run"
  refine cd_lenTm ?_
  wtm_at "q.run"
  refine ed_tabA hta ?_
  wtm_at "q.run"
  refine id_kt KT (shp_get t) ?_
  wtm_at "q.run"
  refine cd_lenS ssz ?_
  wtm_at "q.run"
  refine od_neI hr ?_
  wtm_at "q.run"
  refine br_nd (fun h => absurd (by omega) h) (fun _ => ?_)
  refine sds_nil ?_
  refine sds_cons ?_
  refine sd_for (jd_enumS rfl B.enumerate_ ?_)
  wtm_at "q.run"
  refine ed_tabA hta ?_
  wtm_at "q.run"
  refine id_kt KT (shp_get t) ?_
  refine ⟨t.shp, rfl, ?_⟩
  have elen : (enumD (signs t.shp)).length = t.rest.length := by rw [enumD_len, signs_len]; exact hl7
  refine ⟨fun i st δ' => st = s ∧ ∃ v3 v4 v5 v6, δ' = [some (.d (tD t)), some (.d (.int m)), some (.d (.int 100)), v3, v4, v5, v6], ⟨rfl, none, none, none, none, rfl⟩, ?_, ?_⟩
  · rintro i d st δ' hdd ⟨rfl, v3, v4, v5, v6, rfl⟩
    have hi : i < t.rest.length := by rw [← elen]; exact (List.getElem?_eq_some_iff.mp hdd).1
    have hi3 : i < t.let2.length := by rw [let2_len]; exact hi
    have hdd2 : d = .tuple [.int (i : Int), .str ⟨#[t.let2[i]]⟩] := by
      have e := enumD_get (ds := signs t.shp) (i := i) (d := .str ⟨#[t.let2[i]]⟩) (by
        unfold signs
        rw [shp_let, List.getElem?_map, List.getElem?_eq_getElem hi3]
        rfl)
      rw [hdd] at e
      exact Option.some.inj e
    subst hdd2
    have hok := let2_ok t _ (List.getElem_mem hi3)
    have hgr : t.rest[i]? = some t.rest[i] := List.getElem?_eq_getElem hi
    wtm_at "q.run"
    refine id_trest (j := i) rfl hgr ?_
    wtm_at "q.run"
    refine br_dec (fun h => ?_) (fun h => ?_)
    · have h116 : t.let2[i] = 116 := (sgn_t _).mp h
      obtain ⟨u, hu⟩ := spot_part ((let2_116 t i).mp (by rw [List.getElem?_eq_getElem hi3, h116]))
      obtain ⟨_, hu2, hu3⟩ := part_some hu
      rw [hgr] at hu2
      have hu2 := Option.some.inj hu2
      rw [hu2]
      wtm_at "q.run"
      refine ed_fn C2 hr ?_
      wtm_at "q.run"
      refine ⟨u, m - 1, rfl, by omega, by omega, by omega, wf_part wf hu, ?_⟩
      wtm_at "q.run"
      refine od_neL hr (shaped_l fun d hd => by cases hd) ?_
      wtm_at "q.run"
      refine br_nd (fun h2 => absurd h h2) (fun _ => ?_)
      wtm_at "q.run"
      exact ⟨rfl, _, _, _, _, rfl⟩
    · have h116 : t.let2[i] ≠ 116 := fun z => h ((sgn_t _).mpr z)
      have hel := el_of wf (List.getElem?_eq_getElem hi3) hgr h116
      wtm_at "q.run"
      refine od_neL hr (shaped_l fun d hd => by cases hd) ?_
      wtm_at "q.run"
      refine br_nd (fun _ => ?_) (fun h2 => absurd h2 h)
      wtm_at "q.run"
      refine ed_fn CE hr ?_
      wtm_at "q.run"
      refine ⟨_, _, rfl, hel, ?_⟩
      wtm_at "q.run"
      exact ⟨rfl, _, _, _, _, rfl⟩
  · rintro s' δ' ⟨rfl, v3, v4, v5, v6, rfl⟩
    wtm_at "q.run"
    exact q
end
theorem wrong_ok (D : Hd K mg "wrong_by" s_wrong_by p_wrong_by []) (B : Bi mg) (TS : Tab K w mg "SHAPES" shapeTab) (CE : Fc P w K mg base 70 "is_element" [] F_element) : ∀ n, Fc P w K mg base (n + 71) "wrong_by" [] (F_wrong n)
  | 0 => wrongS_ok D B TS CE fun m h => by cases h
  | n + 1 => wrongS_ok D B TS (CE.mono (by omega)) fun m h => by cases h; exact wrong_ok D B TS CE n
def F_wrongT : FT := fun W s xs Q => ∃ t : Tm, xs = [.d (tD t)] ∧ t.dp ≤ 50 ∧ Wf t ∧ Q s (.d (.list []))
section
local macro_rules | `(tactic| wtm_at "q.nm") => `(tactic| first
  | ((with_reducible refine ed_is "value" ?_); refine ed_vi 0 ?_; wtm_at "q.slot")
  | fail)
local macro_rules | `(tactic| wtm_at "q.set") => `(tactic| first
  | ((with_reducible refine sd_is "value" ?_); refine sd_v 0 (by assumption) ?_)
  | fail)
local macro_rules | `(tactic| wtm_at "q.gnm") => `(tactic| first
  | ((with_reducible refine gd_is "value" ?_); refine gd_v 0 (by assumption) ?_)
  | fail)
theorem wrongT_ok (D : Hd K mg "wrong_in_term" s_wrong_in_term p_wrong_in_term []) (CM : Con K mg "MOST_DEEP" (.int 100)) (CK : Con K mg "MOST_KIND_DEEP" (.int 100)) (CW : Fc P w K mg base k "wrong_by" [] (F_wrong 50)) : Fc P w K mg base (k + 1) "wrong_in_term" [] F_wrongT := by
  refine D.go sc_wrong_in_term (fun W s xs Q h => ?_) (fun f cdv A outer s0 H0 E hr W s xs Q h => ?_)
  · obtain ⟨t, rfl, _⟩ := h
    rfl
  obtain ⟨t, rfl, h50, wf, q⟩ := h
  wtm_at "q.run"
  refine ed_fn CW hr ?_
  wtm_at "q.run"
  refine ed_con CM ?_
  wtm_at "q.run"
  refine ed_con CK ?_
  wtm_at "q.run"
  exact ⟨t, 100, rfl, h50, by omega, h50, wf, q⟩
end
/-- the parts, each with its index -/
def Tm.subs : Tm → List (Nat × Tm)
  | .name _ => [] | .unit => [] | .number _ => [] | .nil _ => []
  | .fn _ _ b => [(3, b)] | .minus a => [(1, a)] | .first a => [(1, a)] | .second a => [(1, a)] | .left a _ => [(1, a)] | .right _ a => [(2, a)]
  | .call f a => [(1, f), (2, a)] | .plus a b => [(1, a), (2, b)] | .times a b => [(1, a), (2, b)] | .is _ a b => [(2, a), (3, b)] | .pair a b => [(1, a), (2, b)] | .cons a b => [(1, a), (2, b)]
  | .lete _ a b => [(2, a), (3, b)] | .case s _ a _ b => [(1, s), (3, a), (5, b)] | .fold f a b => [(1, f), (2, a), (3, b)]
def subMk (p : Nat × Tm) : PyData := .tuple [.int (p.1 : Int), tD p.2]
def enumL (t : Tm) : List (Nat × Nat) := t.let2.zipIdx.map fun p => (p.2, p.1)
def emk (p : Nat × Nat) : PyData := .tuple [.int (p.1 : Int), .str ⟨#[p.2]⟩]
theorem enum_shp (t : Tm) : enumD (signs t.shp) = (enumL t).map emk := by
  unfold enumD signs enumL
  rw [shp_let]
  cases t <;> rfl
def subF (t : Tm) (p : Nat × Nat) : List PyData := if p.2 = 116 then [.tuple [.int ((p.1 : Int) + 1), (t.rest[p.1]?).getD PyData.none]] else []
theorem sub_of (t : Tm) : (enumL t).flatMap (subF t) = t.subs.map subMk := by
  cases t <;> simp [enumL, subF, Tm.subs, subMk, Tm.let2, Tm.rest, List.zipIdx]
theorem enumL_mem {t : Tm} {p : Nat × Nat} (h : p ∈ enumL t) : p.1 < t.rest.length ∧ p.2 ∈ t.let2 := by
  cases t <;> simp [enumL, Tm.let2, Tm.rest, List.zipIdx] at h ⊢ <;> (first | (subst h; simp) | (rcases h with rfl | rfl | rfl | rfl | rfl <;> simp) | (rcases h with rfl | rfl | rfl <;> simp) | (rcases h with rfl | rfl <;> simp))
def F_sub : FT := fun W s xs Q => ∃ t : Tm, xs = [.d (tD t)] ∧ Q s (.d (.list (t.subs.map subMk)))
section
local macro_rules | `(tactic| wtm_at "q.nm") => `(tactic| first
  | ((with_reducible refine ed_is "term" ?_); refine ed_vi 0 ?_; wtm_at "q.slot")
  | ((with_reducible refine ed_is "index" ?_); refine ed_vi 1 ?_; wtm_at "q.slot")
  | ((with_reducible refine ed_is "sign" ?_); refine ed_vi 2 ?_; wtm_at "q.slot")
  | fail)
local macro_rules | `(tactic| wtm_at "q.set") => `(tactic| first
  | ((with_reducible refine sd_is "term" ?_); refine sd_v 0 (by assumption) ?_)
  | ((with_reducible refine sd_is "index" ?_); refine sd_v 1 (by assumption) ?_)
  | ((with_reducible refine sd_is "sign" ?_); refine sd_v 2 (by assumption) ?_)
  | fail)
local macro_rules | `(tactic| wtm_at "q.gnm") => `(tactic| first
  | ((with_reducible refine gd_is "term" ?_); refine gd_v 0 (by assumption) ?_)
  | ((with_reducible refine gd_is "index" ?_); refine gd_v 1 (by assumption) ?_)
  | ((with_reducible refine gd_is "sign" ?_); refine gd_v 2 (by assumption) ?_)
  | fail)
theorem subterms_ok (D : Hd K mg "subterms" s_subterms p_subterms []) (B : Bi mg) (TS : Tab K w mg "SHAPES" shapeTab) : Fc P w K mg base (k + 1) "subterms" [] F_sub := by
  refine D.go sc_subterms (fun W s xs Q h => ?_) (fun f cdv A outer s0 H0 E hr W s xs Q h => ?_)
  · obtain ⟨t, rfl, _⟩ := h
    rfl
  obtain ⟨t, rfl, q⟩ := h
  have nd := sc_subterms.nd
  obtain ⟨ta, hta, KT⟩ := TS.ex
  have hl5 := parts_le t
  have hl6 := rest_len t
  have hl7 := shp_len t
  have hl8 := let2_len t
  wtm_at "q.run"
  refine ed_cl2 1 2 nd ?_
  refine jd_enumS rfl B.enumerate_ ?_
  wtm_at "q.run"
  refine ed_tabA hta ?_
  wtm_at "q.run"
  refine id_kt KT (shp_get t) ?_
  refine ⟨t.shp, rfl, ?_⟩
  have elen : (enumD (signs t.shp)).length = t.rest.length := by rw [enumD_len, signs_len]; exact hl7
  refine ⟨sz_n (by omega), ?_⟩
  rw [enum_shp]
  refine cl2_map emk (fun p => .int (p.1 : Int)) (fun p => .str ⟨#[p.2]⟩) (fun _ => rfl) (subF t) _ _ _ (fun pr hpr acc Nx hN p => ?_) ?_
  · obtain ⟨h1, h2⟩ := enumL_mem hpr
    have hok := let2_ok t _ h2
    have hgr : t.rest[pr.1]? = some t.rest[pr.1] := List.getElem?_eq_getElem h1
    wtm_at "q.run"
    refine br_dec (fun h => ?_) (fun h => ?_)
    · have h116 : pr.2 = 116 := (sgn_t _).mp h
      intro p'
      wtm_at "q.run"
      refine id_trest (j := pr.1) rfl hgr ?_
      wtm_at "q.run"
      have e : subF t pr = [.tuple [.int ((pr.1 : Int) + 1), t.rest[pr.1]]] := by
        unfold subF
        rw [if_pos h116, hgr]
        rfl
      rw [e] at hN
      exact ⟨by show (noL t.rest[pr.1] && true) = true; rw [noL_rest hgr]; rfl, hN⟩
    · have h116 : pr.2 ≠ 116 := fun z => h ((sgn_t _).mpr z)
      have e : subF t pr = [] := by
        unfold subF
        rw [if_neg h116]
      rw [e, List.append_nil] at hN
      exact hN
  rw [List.nil_append, sub_of]
  exact q
end
end
end
section
/-! W28: check_term, check_context. -/
section
variable {P : Program} {w : World} {K : PySem.W.Frag} {mg : Str → Option Value} {base : Heap} {k : Nat}
def F_ctm : FT := fun W s xs Q => ∃ t : Tm, xs = [.d (tD t)] ∧ t.dp ≤ 50 ∧ Wf t ∧ Q s (.d .none)
section
local macro_rules | `(tactic| wtm_at "q.nm") => `(tactic| first
  | ((with_reducible refine ed_is "value" ?_); refine ed_vi 0 ?_; wtm_at "q.slot")
  | ((with_reducible refine ed_is "found" ?_); refine ed_vi 1 ?_; wtm_at "q.slot")
  | fail)
local macro_rules | `(tactic| wtm_at "q.set") => `(tactic| first
  | ((with_reducible refine sd_is "value" ?_); refine sd_v 0 (by assumption) ?_)
  | ((with_reducible refine sd_is "found" ?_); refine sd_v 1 (by assumption) ?_)
  | fail)
local macro_rules | `(tactic| wtm_at "q.gnm") => `(tactic| first
  | ((with_reducible refine gd_is "value" ?_); refine gd_v 0 (by assumption) ?_)
  | ((with_reducible refine gd_is "found" ?_); refine gd_v 1 (by assumption) ?_)
  | fail)
theorem ctm_ok (D : Hd K mg "check_term" s_check_term p_check_term []) (CW : Fc P w K mg base k "wrong_in_term" [] F_wrongT) : Fc P w K mg base (k + 1) "check_term" [] F_ctm := by
  refine D.go sc_check_term (fun W s xs Q h => ?_) (fun f cdv A outer s0 H0 E hr W s xs Q h => ?_)
  · obtain ⟨t, rfl, _⟩ := h
    rfl
  obtain ⟨t, rfl, h50, wf, q⟩ := h
  have nd := sc_check_term.nd
  wtm_at "q.run"
  refine ed_fn CW hr ?_
  wtm_at "q.run"
  refine ⟨h50, wf, ?_⟩
  wtm_at "q.run"
  refine od_neL hr (shaped_l fun d hd => by cases hd) ?_
  wtm_at "q.run"
  exact q
end
/-- a context as the program takes it -/
structure CtxP (Γ : Ctx) : Prop where
  nm : ∀ p ∈ Γ, Nm p.1
  dp : ∀ p ∈ Γ, p.2.dp ≤ 60
  len : Γ.length ≤ 40
def F_ccx : FT := fun W s xs Q => ∃ Γ : Ctx, xs = [.d (.tuple (Γ.map pairK))] ∧ CtxP Γ ∧ Q s (.d .none)
section
local macro_rules | `(tactic| wtm_at "q.nm") => `(tactic| first
  | ((with_reducible refine ed_is "value" ?_); refine ed_vi 0 ?_; wtm_at "q.slot")
  | ((with_reducible refine ed_is "index" ?_); refine ed_vi 1 ?_; wtm_at "q.slot")
  | ((with_reducible refine ed_is "each" ?_); refine ed_vi 2 ?_; wtm_at "q.slot")
  | fail)
local macro_rules | `(tactic| wtm_at "q.set") => `(tactic| first
  | ((with_reducible refine sd_is "value" ?_); refine sd_v 0 (by assumption) ?_)
  | ((with_reducible refine sd_is "index" ?_); refine sd_v 1 (by assumption) ?_)
  | ((with_reducible refine sd_is "each" ?_); refine sd_v 2 (by assumption) ?_)
  | fail)
local macro_rules | `(tactic| wtm_at "q.gnm") => `(tactic| first
  | ((with_reducible refine gd_is "value" ?_); refine gd_v 0 (by assumption) ?_)
  | ((with_reducible refine gd_is "index" ?_); refine gd_v 1 (by assumption) ?_)
  | ((with_reducible refine gd_is "each" ?_); refine gd_v 2 (by assumption) ?_)
  | fail)
theorem ccx_ok (D : Hd K mg "check_context" s_check_context p_check_context []) (B : Bi mg) (CM : Con K mg "MOST_NAMES" (.int 40)) (CN : Fc P w K mg base k "is_named" [] F_isnm) (CK : Fc P w K mg base k "is_kinded" [.int 100] (F_kinded 60)) : Fc P w K mg base (k + 1) "check_context" [] F_ccx := by
  refine D.go sc_check_context (fun W s xs Q h => ?_) (fun f cdv A outer s0 H0 E hr W s xs Q h => ?_)
  · obtain ⟨Γ, rfl, _⟩ := h
    rfl
  obtain ⟨Γ, rfl, ok, q⟩ := h
  have nd := sc_check_context.nd
  have hlen := ok.len
  wtm_at "q.run"
  refine ed_con CM ?_
  wtm_at "q.run"
  refine br_dec (fun h => absurd h (by rw [List.length_map]; omega)) (fun _ => ?_)
  refine sds_nil ?_
  refine sds_cons ?_
  refine sd_for (jd_enumT rfl B.enumerate_ ?_)
  wtm_at "q.run"
  refine ⟨fun i st δ' => st = s ∧ ∃ v1 v2, δ' = [some (.d (.tuple (Γ.map pairK))), v1, v2], ⟨rfl, none, none, rfl⟩, ?_, ?_⟩
  · rintro i d st δ' hdd ⟨rfl, v1, v2, rfl⟩
    have hi : i < Γ.length := by
      have := (List.getElem?_eq_some_iff.mp hdd).1
      rwa [enumD_len, List.length_map] at this
    have hdd2 : d = .tuple [.int (i : Int), pairK Γ[i]] := by
      have e := enumD_get (ds := Γ.map pairK) (i := i) (d := pairK Γ[i]) (by rw [List.getElem?_map, List.getElem?_eq_getElem hi]; rfl)
      rw [hdd] at e
      exact Option.some.inj e
    subst hdd2
    have hm := List.getElem_mem hi
    have h1 := ok.nm _ hm
    have h2 := ok.dp _ hm
    generalize Γ[i] = pr at h1 h2
    wtm_at "q.run"
    refine od_neI hr ?_
    refine ⟨_, rfl, ?_⟩
    refine br_f (by kernel_rfl) ?_
    wtm_at "q.run"
    refine ed_fn CN hr ?_
    wtm_at "q.run"
    refine ⟨h1, ?_⟩
    wtm_at "q.run"
    refine ed_fn CK hr ?_
    wtm_at "q.run"
    refine ⟨pr.2, 100, rfl, h2, by omega, h2, ?_⟩
    wtm_at "q.run"
    exact ⟨rfl, _, _, rfl⟩
  · rintro s' δ' ⟨rfl, v1, v2, rfl⟩
    wtm_at "q.run"
    exact q
end
end
end
section
/-! W29: Kinder.fail. -/
section
variable {P : Program} {w : World} {K : PySem.W.Frag} {mg : Str → Option Value} {base : Heap} {k : Nat} {C : Addr}
def F_fail (K : PySem.W.Frag) (C : Addr) : FT := fun W s xs Q => ∃ (ka : Addr) (I : Kin K W ka) (p : List Nat), xs = [.o ka, .x (tpX p)] ∧ I.C = C ∧ (I.wr s = none → Q (I.setW s p) (.d (kD .unit))) ∧ (∀ p0, I.wr s = some p0 → Q s (.d (kD .unit)))
section
local macro_rules | `(tactic| wtm_at "q.nm") => `(tactic| first
  | ((with_reducible refine ed_is "self" ?_); refine ed_vi 0 ?_; wtm_at "q.slot")
  | ((with_reducible refine ed_is "path" ?_); refine ed_vi 1 ?_; wtm_at "q.slot")
  | fail)
local macro_rules | `(tactic| wtm_at "q.set") => `(tactic| first
  | ((with_reducible refine sd_is "self" ?_); refine sd_v 0 (by assumption) ?_)
  | ((with_reducible refine sd_is "path" ?_); refine sd_v 1 (by assumption) ?_)
  | fail)
local macro_rules | `(tactic| wtm_at "q.gnm") => `(tactic| first
  | ((with_reducible refine gd_is "self" ?_); refine gd_v 0 (by assumption) ?_)
  | ((with_reducible refine gd_is "path" ?_); refine gd_v 1 (by assumption) ?_)
  | fail)
theorem fail_ok (D : Hm K C "fail" s_K_fail p_K_fail) (CU : Con K mg "UNIT" (kD .unit)) : Mc P w K mg base (k + 1) C "fail" (F_fail K C) := by
  refine D.go sc_K_fail (fun W s xs Q h => ?_) (fun qual f cdv A outer s0 H0 E hr W s xs Q h => ?_)
  · obtain ⟨ka, I, p, rfl, _⟩ := h
    rfl
  obtain ⟨ka, I, p, rfl, hC, q1, q2⟩ := h
  have nd := sc_K_fail.nd
  wtm_at "q.run"
  refine ed_fldW I ?_
  wtm_at "q.run"
  refine ⟨rfl, ?_⟩
  wtm_at "q.run"
  (with_reducible refine od_isC .Eq ?_); refine od_eqW I (by assumption) ?_
  wtm_at "q.run"
  cases hw : I.wr s with
  | none =>
    wtm_at "q.run"
    refine sd_appW I (p := p) ?_
    refine ed_fldW I ?_
    wtm_at "q.run"
    refine ⟨rfl, rfl, ?_⟩
    wtm_at "q.run"
    refine ⟨rfl, hw, ?_⟩
    wtm_at "q.run"
    refine ed_con CU ?_
    exact q1 hw
  | some p0 =>
    wtm_at "q.run"
    refine ed_con CU ?_
    exact q2 p0 hw
end
end
end
section
/-! W30: Kinder.built. -/
theorem ptL_snoc (p : List Nat) (n : Nat) : ptL (p ++ [n]) = ptL p ++ [.int (n : Int)] := by unfold ptL; rw [List.map_append]; rfl
section
variable {X : Cx} {W : Wd} {s : W.St} {δ : De} {Q : W.St → Sv → Prop} {e c o a : Expr} {pos p1 apos : Pos} {ka : Addr}
/-- (*path, n) -/
theorem ed_step {k : Nat} (h : ED X W e s δ fun s1 x => ∃ p : List Nat, x = .x (tpX p) ∧ p.length < 1000 ∧ ED X W c s1 δ fun s2 y => ∃ n : Nat, y = .d (.int (n : Int)) ∧ Q s2 (.x (tpX (p ++ [n]))))
    (hs : starEach (.Starred e p1 :: [c]) X.env = (true, eval e X.env) :: starEach [c] X.env := by kernel_rfl) (hs2 : starEach (c :: []) X.env = (false, eval c X.env) :: starEach [] X.env := by kernel_rfl) : ED X W (.Tuple [.Starred e p1, c] k pos) s δ Q := by
  refine ed_tupX (ad_star (.mk fun σ H R hI hS hR => h.run σ H R hI hS fun v H1 s1 x m1 i1 o1 q1 => ?_) hs)
  obtain ⟨p, rfl, hp, q1⟩ := q1
  refine hR v H1 s1 _ m1 i1 (tpX.d o1).sv ⟨ptL p, rfl, ad_c (ed_imp q1 fun s2 y z => ?_) hs2⟩
  obtain ⟨n, rfl, z⟩ := z
  refine ad_nil ⟨p ++ [n], ?_, by rw [List.length_append]; show p.length + 1 ≤ _; omega, z⟩
  rw [ptL_snoc]
  have := unAll_map (ptL p ++ [.int (n : Int)])
  rw [List.map_append] at this
  exact this
theorem ed_failS {k : Nat} {pl : Sem Bool} (I : Kin X.K W ka) (M : McX X k I.C "fail" (F_fail X.K I.C)) (hr : Room k X.A) (h : ED X W o s δ fun s1 x => x = .o ka ∧ ED X W a s1 δ fun s2 y => ∃ p, y = .x (tpX p) ∧ (I.wr s2 = none → Q (I.setW s2 p) (.d (kD .unit))) ∧ (∀ p0, I.wr s2 = some p0 → Q s2 (.d (kD .unit))))
    (hst : starEach (a :: []) X.env = (false, eval a X.env) :: starEach [] X.env := by kernel_rfl) (hpl : (backTo pos (starEach ([] : List Expr) X.env)).any (·.1) = false := by kernel_rfl)
    (ht : eval (.Call (.Attribute o "fail" apos) [a] [] pos) X.env = (do
      let ov ← eval o X.env
      standAt apos.atName
      let (f, first) ← holding [ov] (getMethod ov "fail" pl)
      callWith pos f first (backTo pos (starEach [a] X.env)) (backToKw pos (keywordEach [] X.env))) := by rfl) : ED X W (.Call (.Attribute o "fail" apos) [a] [] pos) s δ Q := by
  refine ed_meth I M hr (ed_imp h fun s1 x q => ⟨q.1, ad_c (ed_imp q.2 fun s2 y z => ?_) hst⟩) (hst := hst) (hpl := hpl) (ht := ht)
  obtain ⟨p, rfl, z1, z2⟩ := z
  exact ad_nil ⟨ka, I, p, rfl, rfl, z1, z2⟩
end

section
variable {P : Program} {w : World} {K : PySem.W.Frag} {mg : Str → Option Value} {base : Heap} {k : Nat} {C : Addr}
def grpB : Tm → Bool | .unit => true | .number _ => true | .pair _ _ => true | .first _ => true | .second _ => true | .left _ _ => true | .right _ _ => true | _ => false
def grpR : Tm → Bool | .plus _ _ => true | .minus _ => true | .times _ _ => true | .is _ _ _ => true | _ => false
def grpO : Tm → Bool | .call _ _ => true | .nil _ => true | .cons _ _ => true | .fold _ _ _ => true | _ => false
def F_mk (K : PySem.W.Frag) (C : Addr) (g : Tm → Bool) : FT := fun W s xs Q => ∃ (ka : Addr) (I : Kin K W ka) (t : Tm) (ks : List Kd) (r : Except Nat Kd) (p : List Nat), xs = [.o ka, .d (tD t), .d (.list (ks.map kD)), .x (tpX p)] ∧ I.C = C ∧ I.wr s = none ∧ g t = true ∧ made t ks = some r ∧ (∀ k ∈ ks, k.dp ≤ 60) ∧ p.length < 1000 ∧ (∀ k, r = .ok k → Q s (.d (kD k))) ∧ (∀ n, r = .error n → Q (I.setW s (p ++ [n])) (.d (kD .unit)))
local macro_rules | `(tactic| wtm_at "q.failing") => `(tactic| (refine ed_failS ‹Kin _ _ _› (by assumption) (by assumption) ?_ ; wtm_at "q.run"; refine ⟨rfl, ?_⟩; refine ed_step ?_; wtm_at "q.run"; refine ⟨by assumption, ?_⟩; wtm_at "q.run"; refine ⟨fun _ => ?_, fun p0 z => ?_⟩))
section
local macro_rules | `(tactic| wtm_at "q.nm") => `(tactic| first
  | ((with_reducible refine ed_is "self" ?_); refine ed_vi 0 ?_; wtm_at "q.slot")
  | ((with_reducible refine ed_is "term" ?_); refine ed_vi 1 ?_; wtm_at "q.slot")
  | ((with_reducible refine ed_is "kinds" ?_); refine ed_vi 2 ?_; wtm_at "q.slot")
  | ((with_reducible refine ed_is "path" ?_); refine ed_vi 3 ?_; wtm_at "q.slot")
  | fail)
local macro_rules | `(tactic| wtm_at "q.set") => `(tactic| first
  | ((with_reducible refine sd_is "self" ?_); refine sd_v 0 (by assumption) ?_)
  | ((with_reducible refine sd_is "term" ?_); refine sd_v 1 (by assumption) ?_)
  | ((with_reducible refine sd_is "kinds" ?_); refine sd_v 2 (by assumption) ?_)
  | ((with_reducible refine sd_is "path" ?_); refine sd_v 3 (by assumption) ?_)
  | fail)
local macro_rules | `(tactic| wtm_at "q.gnm") => `(tactic| first
  | ((with_reducible refine gd_is "self" ?_); refine gd_v 0 (by assumption) ?_)
  | ((with_reducible refine gd_is "term" ?_); refine gd_v 1 (by assumption) ?_)
  | ((with_reducible refine gd_is "kinds" ?_); refine gd_v 2 (by assumption) ?_)
  | ((with_reducible refine gd_is "path" ?_); refine gd_v 3 (by assumption) ?_)
  | fail)
theorem kbuilt_ok (D : Hm K C "built" s_K_built p_K_built) (CF : Mc P w K mg base k C "fail" (F_fail K C)) (CN : Con K mg "NUM" (kD .num)) (CU : Con K mg "UNIT" (kD .unit)) : Mc P w K mg base (k + 1) C "built" (F_mk K C grpB) := by
  refine D.go sc_K_built (fun W s xs Q h => ?_) (fun qual f cdv A outer s0 H0 E hr W s xs Q h => ?_)
  · obtain ⟨ka, I, t, ks, r, p, rfl, _⟩ := h
    rfl
  obtain ⟨ka, I, t, ks, r, p, rfl, hC, hw, hg, hm, hk, hp, q1, q2⟩ := h
  subst hC
  have nd := sc_K_built.nd
  cases t <;> rcases ks with _ | ⟨a, _ | ⟨b, _ | ⟨c, _ | ⟨d, ks⟩⟩⟩⟩ <;> simp only [made, reduceCtorEq, Option.some.injEq] at hm
  all_goals subst hm
  case first.cons.nil =>
    rcases kd_pair a with ⟨x, y, rfl⟩ | hw2
    · wtm_at "q.run"
      exact q1 _ rfl
    · rw [firstK_no hw2] at q2
      wtm_at "q.run"
      refine br_nd (fun _ => ?_) (fun h => absurd h hw2)
      wtm_at "q.run"
      wtm_at "q.failing"
      · exact q2 _ rfl
      · rename_i z; rw [hw] at z; cases z
  case second.cons.nil =>
    rcases kd_pair a with ⟨x, y, rfl⟩ | hw2
    · wtm_at "q.run"
      exact q1 _ rfl
    · rw [secondK_no hw2] at q2
      wtm_at "q.run"
      refine br_nd (fun _ => ?_) (fun h => absurd h hw2)
      wtm_at "q.run"
      wtm_at "q.failing"
      · exact q2 _ rfl
      · rename_i z; rw [hw] at z; cases z
  case pair.cons.cons.nil =>
    wtm_at "q.run"
    exact q1 _ rfl
  case left.cons.nil =>
    wtm_at "q.run"
    exact q1 _ rfl
  case right.cons.nil =>
    wtm_at "q.run"
    exact q1 _ rfl
  case unit.nil =>
    wtm_at "q.run"
    refine ed_con CU ?_
    exact q1 _ rfl
  case number.nil =>
    wtm_at "q.run"
    refine ed_con CN ?_
    exact q1 _ rfl
  all_goals cases hg
end
end
end
section
/-! W31: Kinder.reckoned. -/
def badL (f : Int) (ks : List Kd) : List PyData := ks.zipIdx.flatMap fun p => if p.1 = .num then [] else [.int (f + (p.2 : Int))]
def enK (p : Kd × Nat) : PyData := .tuple [.int (p.2 : Int), kD p.1]
theorem enumK (ks : List Kd) : enumD (ks.map kD) = ks.zipIdx.map enK := by
  unfold enumD
  rw [List.zipIdx_map, List.map_map]
  rfl
theorem badL_int {f : Int} {ks : List Kd} : ∀ d ∈ badL f ks, d.canLay0 = true ∧ d.depth ≤ 63 := fun d hd => by
  obtain ⟨p, _, h⟩ := List.mem_flatMap.mp hd
  split at h
  · cases h
  · rw [List.mem_singleton.mp h]
    exact ⟨rfl, by simp [PyData.depth]⟩
theorem bad_num {f : Nat} {a b r : Kd} : (badL f [a, b] = [] ∧ numK f a b r = .ok r) ∨ ∃ (n : Nat) (l : List PyData), badL f [a, b] = .int (n : Int) :: l ∧ numK f a b r = .error n := by
  unfold numK badL
  by_cases h1 : a = .num <;> by_cases h2 : b = .num <;> simp [h1, h2, List.zipIdx]
theorem bad_min {a : Kd} : (badL (1 : Nat) [a] = [] ∧ minusK a = .ok .num) ∨ ∃ (n : Nat) (l : List PyData), badL (1 : Nat) [a] = .int (n : Int) :: l ∧ minusK a = .error n := by
  unfold minusK badL
  by_cases h1 : a = .num <;> simp [h1, List.zipIdx]
section
variable {P : Program} {w : World} {K : PySem.W.Frag} {mg : Str → Option Value} {base : Heap} {k : Nat} {C : Addr}
section
local macro_rules | `(tactic| wtm_at "q.nm") => `(tactic| first
  | ((with_reducible refine ed_is "self" ?_); refine ed_vi 0 ?_; wtm_at "q.slot")
  | ((with_reducible refine ed_is "term" ?_); refine ed_vi 1 ?_; wtm_at "q.slot")
  | ((with_reducible refine ed_is "kinds" ?_); refine ed_vi 2 ?_; wtm_at "q.slot")
  | ((with_reducible refine ed_is "path" ?_); refine ed_vi 3 ?_; wtm_at "q.slot")
  | ((with_reducible refine ed_is "first" ?_); refine ed_vi 4 ?_; wtm_at "q.slot")
  | ((with_reducible refine ed_is "bad" ?_); refine ed_vi 5 ?_; wtm_at "q.slot")
  | ((with_reducible refine ed_is "at" ?_); refine ed_vi 6 ?_; wtm_at "q.slot")
  | ((with_reducible refine ed_is "kind" ?_); refine ed_vi 7 ?_; wtm_at "q.slot")
  | fail)
local macro_rules | `(tactic| wtm_at "q.set") => `(tactic| first
  | ((with_reducible refine sd_is "self" ?_); refine sd_v 0 (by assumption) ?_)
  | ((with_reducible refine sd_is "term" ?_); refine sd_v 1 (by assumption) ?_)
  | ((with_reducible refine sd_is "kinds" ?_); refine sd_v 2 (by assumption) ?_)
  | ((with_reducible refine sd_is "path" ?_); refine sd_v 3 (by assumption) ?_)
  | ((with_reducible refine sd_is "first" ?_); refine sd_v 4 (by assumption) ?_)
  | ((with_reducible refine sd_is "bad" ?_); refine sd_v 5 (by assumption) ?_)
  | ((with_reducible refine sd_is "at" ?_); refine sd_v 6 (by assumption) ?_)
  | ((with_reducible refine sd_is "kind" ?_); refine sd_v 7 (by assumption) ?_)
  | fail)
local macro_rules | `(tactic| wtm_at "q.gnm") => `(tactic| first
  | ((with_reducible refine gd_is "self" ?_); refine gd_v 0 (by assumption) ?_)
  | ((with_reducible refine gd_is "term" ?_); refine gd_v 1 (by assumption) ?_)
  | ((with_reducible refine gd_is "kinds" ?_); refine gd_v 2 (by assumption) ?_)
  | ((with_reducible refine gd_is "path" ?_); refine gd_v 3 (by assumption) ?_)
  | ((with_reducible refine gd_is "first" ?_); refine gd_v 4 (by assumption) ?_)
  | ((with_reducible refine gd_is "bad" ?_); refine gd_v 5 (by assumption) ?_)
  | ((with_reducible refine gd_is "at" ?_); refine gd_v 6 (by assumption) ?_)
  | ((with_reducible refine gd_is "kind" ?_); refine gd_v 7 (by assumption) ?_)
  | fail)
theorem kreck_ok (D : Hm K C "reckoned" s_K_reckoned p_K_reckoned) (B : Bi mg) (CF : Mc P w K mg base k C "fail" (F_fail K C)) (CN : Con K mg "NUM" (kD .num)) (CT : Con K mg "TRUTH" (kD truthK)) : Mc P w K mg base (k + 1) C "reckoned" (F_mk K C grpR) := by
  refine D.go sc_K_reckoned (fun W s xs Q h => ?_) (fun qual f cdv A outer s0 H0 E hr W s xs Q h => ?_)
  · obtain ⟨ka, I, t, ks, r, p, rfl, _⟩ := h
    rfl
  obtain ⟨ka, I, t, ks, r, p, rfl, hC, hw, hg, hm, hk, hp, q1, q2⟩ := h
  subst hC
  have nd := sc_K_reckoned.nd
  have key : ∃ (f : Nat) (rk : Kd), f = (if t.word = "is" then 2 else 1) ∧ rk = (if t.word = "is" then truthK else .num) ∧ ks.length ≤ 3 ∧ ((badL f ks = [] ∧ r = .ok rk) ∨ ∃ (n : Nat) (l : List PyData), badL f ks = .int (n : Int) :: l ∧ r = .error n) := by
    cases t <;> rcases ks with _ | ⟨a, _ | ⟨b, _ | ⟨c, _ | ⟨d, ks⟩⟩⟩⟩ <;> simp only [made, reduceCtorEq, Option.some.injEq] at hm
    all_goals first | (cases hg; done) | skip
    all_goals subst hm
    · exact ⟨1, .num, rfl, rfl, by simp, bad_num⟩
    · exact ⟨1, .num, rfl, rfl, by simp, bad_num⟩
    · exact ⟨1, .num, rfl, rfl, by simp, bad_min⟩
    · exact ⟨2, truthK, rfl, rfl, by simp, bad_num⟩
  obtain ⟨f, rk, hf, hrk, hl, key⟩ := key
  refine sds_cons (sd_v 4 nd (ed_imp (Q := fun s' y => s' = s ∧ y = .d (.int (f : Int))) ?_ ?_))
  · wtm_at "q.run"
    refine br_dec (fun e => ?_) (fun e => ?_)
    · rw [if_pos e] at hf
      subst hf
      wtm_at "q.run"
      exact ⟨rfl, rfl⟩
    · rw [if_neg e] at hf
      subst hf
      wtm_at "q.run"
      exact ⟨rfl, rfl⟩
  rintro _ _ ⟨rfl, rfl⟩
  refine sds_cons ?_
  refine sd_cl2 5 6 7 nd ?_
  refine jd_enumL rfl B.enumerate_ ?_
  wtm_at "q.nm"
  refine ⟨_, rfl, sz_n (by rw [enumD_len, List.length_map]; omega), ?_⟩
  rw [enumK]
  refine cl2_map enK (fun p => .int (p.2 : Int)) (fun p => kD p.1) (fun _ => rfl) (fun p => if p.1 = .num then [] else [.int ((f : Int) + (p.2 : Int))]) _ _ _ (fun pr hpr acc Nx hN p => ?_) ?_
  · have hd : pr.1.dp ≤ 60 := hk _ (List.fst_mem_of_mem_zipIdx hpr)
    wtm_at "q.run"
    refine ed_con CN ?_
    wtm_at "q.run"
    refine br_nd (fun h => ?_) (fun h => ?_)
    · rw [if_neg h] at hN
      intro p'
      wtm_at "q.run"
      exact ⟨rfl, hN⟩
    · rw [if_pos h, List.append_nil] at hN
      exact hN
  rw [List.nil_append]
  wtm_at "q.run"
  refine od_neL (by assumption) (shaped_l badL_int) ?_
  wtm_at "q.run"
  rcases key with ⟨e1, rfl⟩ | ⟨n, l, e1, rfl⟩
  · refine br_e (fun h => absurd e1 h) (fun _ => ?_)
    wtm_at "q.run"
    refine br_dec (fun e => ?_) (fun e => ?_)
    · rw [if_pos e] at hrk
      subst hrk
      refine ed_con CT ?_
      exact q1 _ rfl
    · rw [if_neg e] at hrk
      subst hrk
      refine ed_con CN ?_
      exact q1 _ rfl
  · have e2 : (ks.zipIdx.flatMap fun p => if p.1 = .num then [] else [PyData.int ((f : Int) + (p.2 : Int))]) = .int (n : Int) :: l := e1
    rw [e2]
    wtm_at "q.run"
    refine ed_failS I CF hr ?_
    wtm_at "q.run"
    refine ⟨rfl, ?_⟩
    refine ed_step ?_
    wtm_at "q.run"
    refine ⟨by assumption, ?_⟩
    wtm_at "q.run"
    refine id_lst (at0 _ _) ?_
    wtm_at "q.run"
    exact ⟨fun _ => q2 _ rfl, fun p0 z => by rw [hw] at z; cases z⟩
end
end
end
section
/-! W32: Kinder.rowed. -/
section
variable {P : Program} {w : World} {K : PySem.W.Frag} {mg : Str → Option Value} {base : Heap} {k : Nat} {C : Addr}
local macro_rules | `(tactic| wtm_at "q.failing") => `(tactic| (refine ed_failS ‹Kin _ _ _› (by assumption) (by assumption) ?_ ; wtm_at "q.run"; refine ⟨rfl, ?_⟩; refine ed_step ?_; wtm_at "q.run"; refine ⟨by assumption, ?_⟩; wtm_at "q.run"; refine ⟨fun _ => ?_, fun p0 z => absurd ((Eq.symm ‹_ = none›).trans z) (by simp)⟩))
section
local macro_rules | `(tactic| wtm_at "q.nm") => `(tactic| first
  | ((with_reducible refine ed_is "self" ?_); refine ed_vi 0 ?_; wtm_at "q.slot")
  | ((with_reducible refine ed_is "term" ?_); refine ed_vi 1 ?_; wtm_at "q.slot")
  | ((with_reducible refine ed_is "kinds" ?_); refine ed_vi 2 ?_; wtm_at "q.slot")
  | ((with_reducible refine ed_is "path" ?_); refine ed_vi 3 ?_; wtm_at "q.slot")
  | ((with_reducible refine ed_is "turn" ?_); refine ed_vi 4 ?_; wtm_at "q.slot")
  | fail)
local macro_rules | `(tactic| wtm_at "q.set") => `(tactic| first
  | ((with_reducible refine sd_is "self" ?_); refine sd_v 0 (by assumption) ?_)
  | ((with_reducible refine sd_is "term" ?_); refine sd_v 1 (by assumption) ?_)
  | ((with_reducible refine sd_is "kinds" ?_); refine sd_v 2 (by assumption) ?_)
  | ((with_reducible refine sd_is "path" ?_); refine sd_v 3 (by assumption) ?_)
  | ((with_reducible refine sd_is "turn" ?_); refine sd_v 4 (by assumption) ?_)
  | fail)
local macro_rules | `(tactic| wtm_at "q.gnm") => `(tactic| first
  | ((with_reducible refine gd_is "self" ?_); refine gd_v 0 (by assumption) ?_)
  | ((with_reducible refine gd_is "term" ?_); refine gd_v 1 (by assumption) ?_)
  | ((with_reducible refine gd_is "kinds" ?_); refine gd_v 2 (by assumption) ?_)
  | ((with_reducible refine gd_is "path" ?_); refine gd_v 3 (by assumption) ?_)
  | ((with_reducible refine gd_is "turn" ?_); refine gd_v 4 (by assumption) ?_)
  | fail)
theorem krow_ok (D : Hm K C "rowed" s_K_rowed p_K_rowed) (CF : Mc P w K mg base k C "fail" (F_fail K C)) : Mc P w K mg base (k + 1) C "rowed" (F_mk K C grpO) := by
  refine D.go sc_K_rowed (fun W s xs Q h => ?_) (fun qual f cdv A outer s0 H0 E hr W s xs Q h => ?_)
  · obtain ⟨ka, I, t, ks, r, p, rfl, _⟩ := h
    rfl
  obtain ⟨ka, I, t, ks, r, p, rfl, hC, hw, hg, hm, hk, hp, q1, q2⟩ := h
  subst hC
  have nd := sc_K_rowed.nd
  cases t <;> rcases ks with _ | ⟨a, _ | ⟨b, _ | ⟨c, _ | ⟨d, ks⟩⟩⟩⟩ <;> simp only [made, reduceCtorEq, Option.some.injEq] at hm
  all_goals subst hm
  case call.cons.cons.nil =>
    have ha := hk a (by simp)
    have hb := hk b (by simp)
    rcases kd_fun a with ⟨x, y, rfl⟩ | hw2
    · simp only [Kd.dp] at ha
      wtm_at "q.run"
      simp only [callK] at q1 q2
      refine br_dec (fun h1 => ?_) (fun h1 => ?_)
      · rw [if_pos h1.symm] at q1
        wtm_at "q.run"
        exact q1 _ rfl
      · rw [if_neg (Ne.symm h1)] at q2
        wtm_at "q.run"
        wtm_at "q.failing"
        exact q2 _ rfl
    · rw [callK_no hw2] at q2
      wtm_at "q.run"
      refine br_nd (fun _ => ?_) (fun h => absurd h hw2)
      wtm_at "q.run"
      wtm_at "q.failing"
      exact q2 _ rfl
  case nil.nil =>
    wtm_at "q.run"
    exact q1 _ rfl
  case cons.cons.cons.nil =>
    have ha := hk a (by simp)
    have hb := hk b (by simp)
    unfold consK at q1 q2
    wtm_at "q.run"
    refine br_dec (fun h1 => ?_) (fun h1 => ?_)
    · rw [if_pos h1] at q1
      wtm_at "q.run"
      exact q1 _ rfl
    · rw [if_neg h1] at q2
      wtm_at "q.run"
      wtm_at "q.failing"
      exact q2 _ rfl
  case fold.cons.cons.cons.nil =>
    have ha := hk a (by simp)
    have hb := hk b (by simp)
    have hc := hk c (by simp)
    rcases kd_fun a with ⟨x, a2, rfl⟩ | hw2
    · simp only [Kd.dp] at ha
      rcases kd_fun a2 with ⟨y, z, rfl⟩ | hw2
      · simp only [Kd.dp] at ha
        simp only [foldK] at q1 q2
        wtm_at "q.run"
        refine br_nd (fun h1 => ?_) (fun h1 => ?_)
        · rw [if_pos h1] at q2
          wtm_at "q.run"
          wtm_at "q.failing"
          exact q2 _ rfl
        rw [if_neg (not_not_intro h1)] at q1 q2
        wtm_at "q.run"
        refine br_nd (fun h1 => ?_) (fun h1 => ?_)
        · rw [if_pos h1] at q2
          wtm_at "q.run"
          wtm_at "q.failing"
          exact q2 _ rfl
        rename_i h0
        rw [if_neg (not_not_intro h1)] at q1 q2
        wtm_at "q.run"
        refine br_dec (fun h2 => ?_) (fun h2 => ?_)
        · rw [if_neg (not_not_intro h2)] at q1
          wtm_at "q.run"
          rw [h1]
          exact q1 _ rfl
        rw [if_pos h2] at q2
        wtm_at "q.run"
        wtm_at "q.failing"
        exact q2 _ rfl
      · rw [foldK_no2 hw2] at q2
        wtm_at "q.run"
        refine br_nd (fun _ => ?_) (fun h => absurd h hw2)
        wtm_at "q.run"
        wtm_at "q.failing"
        exact q2 _ rfl
    · rw [foldK_no hw2] at q2
      wtm_at "q.run"
      refine br_nd (fun _ => ?_) (fun h => absurd h hw2)
      wtm_at "q.run"
      wtm_at "q.failing"
      exact q2 _ rfl
  all_goals cases hg
end
end
end
section
/-! W33: contexts as dicts; the walk over the parts. -/
/-! ### contexts as dicts -/
theorem cGet_put (m : CM) (x : Str) (d : PyData) (y : Str) : cGet (cPut m x d) y = if y = x then some d else cGet m y := by
  unfold cPut
  split
  · rename_i h
    induction m with
    | nil => cases h
    | cons p m ih =>
      unfold cGet at ih ⊢
      rw [List.map_cons, List.find?_cons, List.find?_cons]
      by_cases hp : p.1 = x
      · rw [if_pos hp]
        by_cases hy : y = x
        · subst hy
          simp [hp]
        · have hy2 : ¬ p.1 = y := fun e => hy (e ▸ hp)
          have hy3 : ¬ x = y := fun e => hy e.symm
          simp only [hy2, decide_false, hy, if_false, hp, hy3]
          by_cases hm : (m.any fun p => decide (p.1 = x)) = true
          · have := ih hm
            rw [if_neg hy] at this
            exact this
          · have e : (m.map fun p => if p.1 = x then (p.1, d) else p) = m := by
              conv => rhs; rw [← List.map_id m]
              apply List.map_congr_left
              intro q hq
              rw [if_neg]
              · rfl
              · intro z
                exact hm (List.any_eq_true.mpr ⟨q, hq, by simpa using z⟩)
            rw [e]
      · rw [if_neg hp]
        have hm : (m.any fun p => decide (p.1 = x)) = true := by
          rw [List.any_cons] at h
          simpa [hp] using h
        by_cases hy : p.1 = y
        · have : ¬ y = x := fun e => hp (hy.trans e)
          simp [hy, this]
        · simp only [hy, decide_false]
          exact ih hm
  · rename_i h
    unfold cGet
    rw [List.find?_append]
    by_cases hy : y = x
    · subst hy
      have : (m.find? fun p => decide (p.1 = y)) = none := by
        rw [List.find?_eq_none]
        intro q hq z
        exact h (List.any_eq_true.mpr ⟨q, hq, by simpa using z⟩)
      rw [this]
      simp
    · have hy3 : ¬ x = y := fun e => hy e.symm
      simp [hy, hy3]
theorem cPut_len (m : CM) (x : Str) (d : PyData) : (cPut m x d).length ≤ m.length + 1 := by
  unfold cPut
  split <;> simp
def cLast (l : CM) (x : Str) : Option PyData := ((l.filter fun p => decide (p.1 = x)).map (·.2)).getLast?
theorem cGet_merge (x : Str) : ∀ (l m : CM), cGet (cMerge m l) x = (cLast l x).orElse fun _ => cGet m x
  | [], m => rfl
  | p :: l, m => by
    show cGet (cMerge (cPut m p.1 p.2) l) x = _
    rw [cGet_merge x l, cGet_put]
    unfold cLast
    by_cases h : p.1 = x
    · rw [List.filter_cons_of_pos (by simpa using h), List.map_cons]
      rw [if_pos h.symm]
      cases hl : (l.filter fun p => decide (p.1 = x)).map (·.2) with
      | nil => rfl
      | cons a b =>
        rw [List.getLast?_cons_cons]
        rw [List.getLast?_eq_some_getLast (List.cons_ne_nil a b)]
        rfl
    · rw [List.filter_cons_of_neg (by simpa using h), if_neg (fun e => h e.symm)]
theorem cMerge_len : ∀ (l m : CM), (cMerge m l).length ≤ m.length + l.length
  | [], m => Nat.le_refl _
  | p :: l, m => by
    have := cMerge_len l (cPut m p.1 p.2)
    have := cPut_len m p.1 p.2
    show (cMerge (cPut m p.1 p.2) l).length ≤ m.length + (l.length + 1)
    omega
def cKeys (m : CM) : List Str := m.map (·.1)
theorem cPut_keys (m : CM) (x : Str) (d : PyData) (h : (cKeys m).Nodup) : (cKeys (cPut m x d)).Nodup := by
  unfold cPut
  split
  · have e : cKeys (m.map fun p => if p.1 = x then (p.1, d) else p) = cKeys m := by
      unfold cKeys
      rw [List.map_map]
      apply List.map_congr_left
      intro p _
      show (if p.1 = x then (p.1, d) else p).1 = p.1
      split <;> rfl
    rw [e]
    exact h
  · rename_i hx
    unfold cKeys at h ⊢
    rw [List.map_append, List.nodup_append]
    refine ⟨h, by simp, ?_⟩
    intro a ha b hb e
    subst e
    have hb : a = x := by simpa using hb
    subst hb
    obtain ⟨p, hp, rfl⟩ := List.mem_map.mp ha
    exact hx (List.any_eq_true.mpr ⟨p, hp, by simp⟩)
theorem cMerge_keys : ∀ (l m : CM), (cKeys m).Nodup → (cKeys (cMerge m l)).Nodup
  | [], m, h => h
  | p :: l, m, h => cMerge_keys l _ (cPut_keys m p.1 p.2 h)
theorem cLast_nodup (x : Str) : ∀ m : CM, (cKeys m).Nodup → cLast m x = cGet m x
  | [], _ => rfl
  | p :: m, h => by
    have h : p.1 ∉ cKeys m ∧ (cKeys m).Nodup := List.nodup_cons.mp h
    have ih := cLast_nodup x m h.2
    unfold cLast cGet at ih ⊢
    by_cases hp : p.1 = x
    · have e : (m.filter fun p => decide (p.1 = x)) = [] := by
        rw [List.filter_eq_nil_iff]
        intro q hq z
        have z : q.1 = x := by simpa using z
        exact h.1 (hp ▸ z ▸ List.mem_map_of_mem hq)
      rw [List.filter_cons_of_pos (by simpa using hp), e]
      simp [hp]
    · rw [List.filter_cons_of_neg (by simpa using hp), ih]
      simp [hp]
structure CtxM (Γ : Ctx) (m : CM) : Prop where
  get : ∀ x, cGet m x = (look Γ x).map kD
  keys : (cKeys m).Nodup
theorem CtxM.snoc {Γ : Ctx} {m : CM} (h : CtxM Γ m) (x : Str) (k : Kd) : CtxM (Γ ++ [(x, k)]) (cPut (cMerge [] m) x (kD k)) := by
  have hk : (cKeys (cMerge [] m)).Nodup := cMerge_keys m [] List.nodup_nil
  refine ⟨fun y => ?_, cPut_keys _ _ _ hk⟩
  rw [cGet_put, look_snoc, cGet_merge, cLast_nodup y m h.keys, h.get]
  by_cases e : y = x
  · rw [if_pos e, if_pos e.symm]
    rfl
  · rw [if_neg e, if_neg (fun z => e z.symm)]
    cases look Γ y <;> rfl
theorem CtxM.len {m : CM} (x : Str) (d : PyData) : (cPut (cMerge [] m) x d).length ≤ m.length + 1 := by
  have := cPut_len (cMerge [] m) x d
  have := cMerge_len m []
  simp only [List.length_nil] at this
  omega
theorem CtxM.of (Γ : Ctx) : CtxM Γ (cMerge [] (Γ.map fun p => (p.1, kD p.2))) := by
  refine ⟨fun x => ?_, cMerge_keys _ _ List.nodup_nil⟩
  rw [cGet_merge]
  have e : cLast (Γ.map fun p => (p.1, kD p.2)) x = (look Γ x).map kD := by
    unfold cLast look
    rw [List.filter_map, List.map_map, ← List.getLast?_map, List.map_map]
    rfl
  rw [e]
  cases look Γ x <;> rfl
/-! ### the parts -/
def walkS (Γ : Ctx) : List (Nat × Tm) → Except (List Nat) (List Kd)
  | [] => .ok []
  | p :: l => match walk Γ p.2 with
    | .error q => .error (p.1 :: q)
    | .ok k => match walkS Γ l with
      | .error q => .error q
      | .ok ks => .ok (k :: ks)
def LowL (Γ : Ctx) : List (Nat × Tm) → Prop
  | [] => True
  | p :: l => Low 60 Γ p.2 ∧ ok1 (walk Γ p.2) fun _ => LowL Γ l
def szS (l : List (Nat × Tm)) : Nat := (l.map fun p => p.2.sz).sum
/-- a term whose parts stand in its own context -/
def Tm.even : Tm → Bool | .name _ => false | .fn _ _ _ => false | .lete _ _ _ => false | .case _ _ _ _ _ => false | _ => true
theorem even_walk {Γ : Ctx} {t : Tm} (h : t.even = true) : walk Γ t = match walkS Γ t.subs with
    | .error q => .error q
    | .ok ks => match made t ks with
      | some r => fin r
      | none => .error [] := by
  cases t with
  | name x => cases h
  | fn x k b => cases h
  | lete x a b => cases h
  | case s x a y b => cases h
  | unit => rfl
  | number i => rfl
  | nil k => rfl
  | minus a => simp only [walk, Tm.subs, walkS, at1]; cases walk Γ a <;> rfl
  | first a => simp only [walk, Tm.subs, walkS, at1]; cases walk Γ a <;> rfl
  | second a => simp only [walk, Tm.subs, walkS, at1]; cases walk Γ a <;> rfl
  | left a k => simp only [walk, Tm.subs, walkS, at1]; cases walk Γ a <;> rfl
  | right k a => simp only [walk, Tm.subs, walkS, at1]; cases walk Γ a <;> rfl
  | call f a => simp only [walk, Tm.subs, walkS, at1]; (cases walk Γ f with | error q => rfl | ok kf => cases walk Γ a <;> rfl)
  | plus f a => simp only [walk, Tm.subs, walkS, at1]; (cases walk Γ f with | error q => rfl | ok kf => cases walk Γ a <;> rfl)
  | times f a => simp only [walk, Tm.subs, walkS, at1]; (cases walk Γ f with | error q => rfl | ok kf => cases walk Γ a <;> rfl)
  | is s f a => simp only [walk, Tm.subs, walkS, at1]; (cases walk Γ f with | error q => rfl | ok kf => cases walk Γ a <;> rfl)
  | pair f a => simp only [walk, Tm.subs, walkS, at1]; (cases walk Γ f with | error q => rfl | ok kf => cases walk Γ a <;> rfl)
  | cons f a => simp only [walk, Tm.subs, walkS, at1]; (cases walk Γ f with | error q => rfl | ok kf => cases walk Γ a <;> rfl)
  | fold f a b => simp only [walk, Tm.subs, walkS, at1]; (cases walk Γ f with | error q => rfl | ok kf => cases walk Γ a with | error q => rfl | ok ka => cases walk Γ b <;> rfl)
theorem even_low {Γ : Ctx} {t : Tm} (h : t.even = true) (hl : Low 60 Γ t) : LowL Γ t.subs := by
  have tt : ∀ r : Res, ok1 r fun _ => True := fun r => by cases r <;> trivial
  have o1 : ∀ {r : Res} {P Q : Prop}, (P → Q) → (ok1 r fun _ => P) → ok1 r fun _ => Q := fun {r} _ _ f h => by
    cases r with
    | ok k => exact f h
    | error q => trivial
  cases t with
  | name x => cases h
  | fn x k b => cases h
  | lete x a b => cases h
  | case s x a y b => cases h
  | unit => trivial
  | number i => trivial
  | nil k => trivial
  | minus a => exact ⟨hl, tt _⟩
  | first a => exact ⟨hl, tt _⟩
  | second a => exact ⟨hl, tt _⟩
  | left a k => exact ⟨hl.2.1, tt _⟩
  | right k a => exact ⟨hl.2.1, tt _⟩
  | call f a => exact ⟨hl.1, o1 (fun h => ⟨h, tt _⟩) hl.2⟩
  | plus f a => exact ⟨hl.1, o1 (fun h => ⟨h, tt _⟩) hl.2⟩
  | times f a => exact ⟨hl.1, o1 (fun h => ⟨h, tt _⟩) hl.2⟩
  | is s f a => exact ⟨hl.1, o1 (fun h => ⟨h, tt _⟩) hl.2⟩
  | pair f a => exact ⟨hl.1.1, o1 (fun h => ⟨h, tt _⟩) hl.1.2⟩
  | cons f a => exact ⟨hl.1, o1 (fun h => ⟨h, tt _⟩) hl.2⟩
  | fold f a b => exact ⟨hl.1, o1 (fun h => ⟨h.1, o1 (fun h => ⟨h, tt _⟩) h.2⟩) hl.2⟩
theorem even_sz {t : Tm} (h : t.even = true) : szS t.subs + 1 ≤ t.sz := by
  cases t <;> first | (cases h; done) | (simp [szS, Tm.subs, Tm.sz]; try omega)
theorem even_dp {t : Tm} (h : t.even = true) : ∀ p ∈ t.subs, p.2.dp + 1 ≤ t.dp := by
  cases t <;> first | (cases h; done) | (simp [Tm.subs, Tm.dp]; try omega)
theorem even_made {Γ : Ctx} {t : Tm} (h : t.even = true) {ks : List Kd} (e : walkS Γ t.subs = .ok ks) : ∃ r, made t ks = some r := by
  have len : ∀ (l : List (Nat × Tm)) (ks : List Kd), walkS Γ l = .ok ks → ks.length = l.length := by
    intro l
    induction l with
    | nil => intro ks e; cases e; rfl
    | cons p l ih =>
      intro ks e
      simp only [walkS] at e
      split at e
      · cases e
      · split at e
        · cases e
        · cases e
          rename_i h2
          rw [List.length_cons, List.length_cons, ih _ h2]
  have hl := len _ _ e
  cases t <;> first | (cases h; done) | (rcases ks with _ | ⟨a, _ | ⟨b, _ | ⟨c, _ | ⟨d, ks⟩⟩⟩⟩ <;> simp [Tm.subs] at hl <;> exact ⟨_, rfl⟩)
theorem walkS_low {Γ : Ctx} : ∀ {l : List (Nat × Tm)} {ks : List Kd}, LowL Γ l → walkS Γ l = .ok ks → ∀ k ∈ ks, k.dp ≤ 60
  | [], ks, _, e => by cases e; simp
  | p :: l, ks, h, e => by
    simp only [walkS] at e
    split at e
    · cases e
    · rename_i k hk
      split at e
      · cases e
      · rename_i ks' hks
        cases e
        intro k' hk'
        rcases List.mem_cons.mp hk' with rfl | hk'
        · exact low_ok (by decide) h.1 hk
        · exact walkS_low (ok1_of h.2 hk) hks k' hk'
end
section
/-! W34: Kinder.kind, kind_here, binding. -/
structure KO {α : Type} {K : PySem.W.Frag} {W : Wd} {ka : Addr} (I : Kin K W ka) (n : Nat) (p : List Nat) (r : Except (List Nat) α) (s s1 : W.St) (k1 : α) : Prop where
  bad : ∀ p0, I.wr s = some p0 → I.wr s1 = some p0
  good : ∀ k, I.wr s = none → r = .ok k → I.wr s1 = none ∧ k1 = k
  err : ∀ q, I.wr s = none → r = .error q → I.wr s1 = some (p ++ q)
  cnt : I.cnt s1 ≤ I.cnt s + n
  rt : I.rt s1 = I.rt s
theorem KO.refl_ok {α : Type} {K : PySem.W.Frag} {W : Wd} {ka : Addr} {I : Kin K W ka} {n : Nat} {p : List Nat} {s : W.St} {k : α} : KO I n p (.ok k) s s k :=
  ⟨fun _ h => h, fun k' h e => ⟨h, by cases e; rfl⟩, fun q _ e => (nomatch e), by omega, rfl⟩
section
variable {X : Cx} {W : Wd} {ka : Addr} {scope : Scope} {ifs : List Expr} {elt : Expr} {Γ : Ctx} {p : List Nat}
theorem cl2_kinds (I : Kin X.K W ka) {δ' : PyData → PyData → De} {Q : W.St → List PyData → Prop} : ∀ (l : List (Nat × Tm)) (acc : List PyData) (s : W.St), I.cnt s + szS l ≤ 15000 → (I.wr s = none → LowL Γ l) →
    (∀ pr ∈ l, ∀ (acc : List PyData) (s : W.St) (Nx : W.St → List PyData → Prop), I.cnt s + pr.2.sz ≤ 15000 → (I.wr s = none → Low 60 Γ pr.2) → (∀ s1 k1, KO I pr.2.sz (p ++ [pr.1]) (walk Γ pr.2) s s1 k1 → Nx s1 (acc ++ [kD k1])) → Turn1 X W scope ifs elt (δ' (.int (pr.1 : Int)) (tD pr.2)) s acc Nx) →
    (∀ s1 ks, KO I (szS l) p (walkS Γ l) s s1 ks → Q s1 (acc ++ ks.map kD)) → CL2 X W scope ifs elt δ' Q (l.map subMk) acc s
  | [], acc, s, _, _, _, q => by
    have := q s [] ⟨fun _ h => h, fun k h e => ⟨h, by cases e; rfl⟩, fun _ _ e => (nomatch e), by omega, rfl⟩
    rw [List.map_nil, List.append_nil] at this
    exact this
  | pr :: l, acc, s, hc, hl, step, q => by
    have hz : szS (pr :: l) = pr.2.sz + szS l := rfl
    refine ⟨_, _, rfl, step pr List.mem_cons_self acc s _ (by omega) (fun h => (hl h).1) fun s1 k1 o => ?_⟩
    have c1 := o.cnt
    refine cl2_kinds I l _ s1 (by omega) (fun h => ?_) (fun pr' hm => step pr' (List.mem_cons_of_mem _ hm)) fun s2 ks o2 => ?_
    · cases hw : I.wr s with
      | some p0 => have := o.bad p0 hw; rw [h] at this; cases this
      | none =>
        cases hr : walk Γ pr.2 with
        | error e => have := o.err e hw hr; rw [h] at this; cases this
        | ok k => exact ok1_of (hl hw).2 hr
    have c2 := o2.cnt
    have := q s2 (k1 :: ks) ⟨fun p0 h => o2.bad p0 (o.bad p0 h), fun ks' h e => ?_, fun e h ee => ?_, by omega, o2.rt.trans o.rt⟩
    · rw [List.append_assoc]
      exact this
    · simp only [walkS] at e
      cases hr : walk Γ pr.2 with
      | error e' => rw [hr] at e; cases e
      | ok k =>
        rw [hr] at e
        obtain ⟨w1, rfl⟩ := o.good k h hr
        cases hr2 : walkS Γ l with
        | error e' => rw [hr2] at e; cases e
        | ok ks2 =>
          rw [hr2] at e
          cases e
          obtain ⟨w2, rfl⟩ := o2.good ks2 w1 hr2
          exact ⟨w2, rfl⟩
    · simp only [walkS] at ee
      cases hr : walk Γ pr.2 with
      | error e' =>
        rw [hr] at ee
        cases ee
        have := o2.bad _ (o.err _ h hr)
        rw [this, List.append_assoc]
        rfl
      | ok k =>
        rw [hr] at ee
        obtain ⟨w1, rfl⟩ := o.good k h hr
        cases hr2 : walkS Γ l with
        | error e' =>
          rw [hr2] at ee
          cases ee
          exact o2.err _ w1 hr2
        | ok ks2 => rw [hr2] at ee; cases ee
end
def Tm.bind : Tm → Bool | .fn _ _ _ => true | .lete _ _ _ => true | .case _ _ _ _ _ => true | _ => false
theorem tm_sort (t : Tm) : (∃ x, t = .name x) ∨ t.bind = true ∨ t.even = true := by cases t <;> simp [Tm.bind, Tm.even]
section
variable {P : Program} {w : World} {K : PySem.W.Frag} {mg : Str → Option Value} {base : Heap} {k : Nat} {C : Addr}
def F_kind (K : PySem.W.Frag) (C : Addr) (n : Nat) : FT := fun W s xs Q => ∃ (ka : Addr) (I : Kin K W ka) (m : CM) (Γ : Ctx) (t : Tm) (p : List Nat), xs = [.o ka, .c m, .d (tD t), .x (tpX p)] ∧ I.C = C ∧ t.dp ≤ n ∧ CtxM Γ m ∧ m.length + t.dp ≤ 800 ∧ p.length + t.dp < 1000 ∧ I.cnt s + t.sz ≤ 15000 ∧ (I.wr s = none → Low 60 Γ t) ∧
  ∀ s1 k1, KO I t.sz p (walk Γ t) s s1 k1 → (p = [] → I.tp s1 = some (kD k1)) → Q s1 (.d (kD k1))
def F_here (K : PySem.W.Frag) (C : Addr) (g : Tm → Bool) (n : Nat) : FT := fun W s xs Q => ∃ (ka : Addr) (I : Kin K W ka) (m : CM) (Γ : Ctx) (t : Tm) (p : List Nat), xs = [.o ka, .c m, .d (tD t), .x (tpX p)] ∧ I.C = C ∧ g t = true ∧ t.dp ≤ n ∧ CtxM Γ m ∧ m.length + t.dp ≤ 800 ∧ p.length + t.dp < 1000 ∧ I.cnt s + t.sz ≤ 15000 ∧ (I.wr s = none → Low 60 Γ t) ∧
  ∀ s1 k1, KO I (t.sz - 1) p (walk Γ t) s s1 k1 → Q s1 (.d (kD k1))
theorem sz_pos (t : Tm) : 1 ≤ t.sz := by cases t <;> simp [Tm.sz] <;> omega
local macro_rules | `(tactic| wtm_at "q.e") => `(tactic| refine ed_step ?_)
section
local macro_rules | `(tactic| wtm_at "q.nm") => `(tactic| first
  | ((with_reducible refine ed_is "self" ?_); refine ed_vi 0 ?_; wtm_at "q.slot")
  | ((with_reducible refine ed_is "context" ?_); refine ed_vi 1 ?_; wtm_at "q.slot")
  | ((with_reducible refine ed_is "term" ?_); refine ed_vi 2 ?_; wtm_at "q.slot")
  | ((with_reducible refine ed_is "path" ?_); refine ed_vi 3 ?_; wtm_at "q.slot")
  | ((with_reducible refine ed_is "found" ?_); refine ed_vi 4 ?_; wtm_at "q.slot")
  | fail)
local macro_rules | `(tactic| wtm_at "q.set") => `(tactic| first
  | ((with_reducible refine sd_is "self" ?_); refine sd_v 0 (by assumption) ?_)
  | ((with_reducible refine sd_is "context" ?_); refine sd_v 1 (by assumption) ?_)
  | ((with_reducible refine sd_is "term" ?_); refine sd_v 2 (by assumption) ?_)
  | ((with_reducible refine sd_is "path" ?_); refine sd_v 3 (by assumption) ?_)
  | ((with_reducible refine sd_is "found" ?_); refine sd_v 4 (by assumption) ?_)
  | fail)
local macro_rules | `(tactic| wtm_at "q.gnm") => `(tactic| first
  | ((with_reducible refine gd_is "self" ?_); refine gd_v 0 (by assumption) ?_)
  | ((with_reducible refine gd_is "context" ?_); refine gd_v 1 (by assumption) ?_)
  | ((with_reducible refine gd_is "term" ?_); refine gd_v 2 (by assumption) ?_)
  | ((with_reducible refine gd_is "path" ?_); refine gd_v 3 (by assumption) ?_)
  | ((with_reducible refine gd_is "found" ?_); refine gd_v 4 (by assumption) ?_)
  | fail)
theorem kkind_ok (D : Hm K C "kind" s_K_kind p_K_kind) {n : Nat} (CH : Mc P w K mg base k C "kind_here" (F_here K C (fun _ => true) n)) : Mc P w K mg base (k + 1) C "kind" (F_kind K C n) := by
  refine D.go sc_K_kind (fun W s xs Q h => ?_) (fun qual f cdv A outer s0 H0 E hr W s xs Q h => ?_)
  · obtain ⟨ka, I, m, Γ, t, p, rfl, _⟩ := h
    rfl
  obtain ⟨ka, I, m, Γ, t, p, rfl, hC, hd, hm, hml, hp, hc, hlow, q⟩ := h
  subst hC
  have nd := sc_K_kind.nd
  have hz := sz_pos t
  wtm_at "q.run"
  refine ed_meth I CH hr ?_
  wtm_at "q.run"
  refine ⟨rfl, ?_⟩
  wtm_at "q.run"
  refine ⟨ka, I, m, Γ, t, p, rfl, rfl, rfl, hd, hm, hml, hp, hc, hlow, fun s1 k1 o => ?_⟩
  have c1 := o.cnt
  wtm_at "q.run"
  refine sd_setK I (p := p) (d := kD k1) hr ?_
  wtm_at "q.run"
  refine ⟨rfl, noL_kD k1, ?_⟩
  refine ed_fldK I ?_
  wtm_at "q.run"
  refine ⟨rfl, rfl, ?_⟩
  wtm_at "q.run"
  refine ⟨rfl, by omega, ?_⟩
  wtm_at "q.run"
  refine q _ k1 ⟨fun p0 h => by rw [I.wrK]; exact o.bad p0 h, fun k' h e => by rw [I.wrK]; exact o.good k' h e, fun e h e' => by rw [I.wrK]; exact o.err e h e', by rw [I.cntK]; omega, by rw [I.rtK]; exact o.rt⟩ fun hp0 => ?_
  subst hp0
  exact I.tpK _ _
end
section
local macro_rules | `(tactic| wtm_at "q.nm") => `(tactic| first
  | ((with_reducible refine ed_is "self" ?_); refine ed_vi 0 ?_; wtm_at "q.slot")
  | ((with_reducible refine ed_is "context" ?_); refine ed_vi 1 ?_; wtm_at "q.slot")
  | ((with_reducible refine ed_is "term" ?_); refine ed_vi 2 ?_; wtm_at "q.slot")
  | ((with_reducible refine ed_is "path" ?_); refine ed_vi 3 ?_; wtm_at "q.slot")
  | ((with_reducible refine ed_is "kinds" ?_); refine ed_vi 4 ?_; wtm_at "q.slot")
  | ((with_reducible refine ed_is "index" ?_); refine ed_vi 5 ?_; wtm_at "q.slot")
  | ((with_reducible refine ed_is "part" ?_); refine ed_vi 6 ?_; wtm_at "q.slot")
  | fail)
local macro_rules | `(tactic| wtm_at "q.set") => `(tactic| first
  | ((with_reducible refine sd_is "self" ?_); refine sd_v 0 (by assumption) ?_)
  | ((with_reducible refine sd_is "context" ?_); refine sd_v 1 (by assumption) ?_)
  | ((with_reducible refine sd_is "term" ?_); refine sd_v 2 (by assumption) ?_)
  | ((with_reducible refine sd_is "path" ?_); refine sd_v 3 (by assumption) ?_)
  | ((with_reducible refine sd_is "kinds" ?_); refine sd_v 4 (by assumption) ?_)
  | ((with_reducible refine sd_is "index" ?_); refine sd_v 5 (by assumption) ?_)
  | ((with_reducible refine sd_is "part" ?_); refine sd_v 6 (by assumption) ?_)
  | fail)
local macro_rules | `(tactic| wtm_at "q.gnm") => `(tactic| first
  | ((with_reducible refine gd_is "self" ?_); refine gd_v 0 (by assumption) ?_)
  | ((with_reducible refine gd_is "context" ?_); refine gd_v 1 (by assumption) ?_)
  | ((with_reducible refine gd_is "term" ?_); refine gd_v 2 (by assumption) ?_)
  | ((with_reducible refine gd_is "path" ?_); refine gd_v 3 (by assumption) ?_)
  | ((with_reducible refine gd_is "kinds" ?_); refine gd_v 4 (by assumption) ?_)
  | ((with_reducible refine gd_is "index" ?_); refine gd_v 5 (by assumption) ?_)
  | ((with_reducible refine gd_is "part" ?_); refine gd_v 6 (by assumption) ?_)
  | fail)
theorem khere_ok (D : Hm K C "kind_here" s_K_kind_here p_K_kind_here) {n : Nat} (CS : Fc P w K mg base k "subterms" [] F_sub) (CF : Mc P w K mg base k C "fail" (F_fail K C)) (CB : Mc P w K mg base k C "built" (F_mk K C grpB)) (CR : Mc P w K mg base k C "reckoned" (F_mk K C grpR)) (CO : Mc P w K mg base k C "rowed" (F_mk K C grpO))
    (CU : Con K mg "UNIT" (kD .unit)) (CD : Mc P w K mg base k C "binding" (F_here K C Tm.bind n)) (CK : ∀ m, n = m + 1 → Mc P w K mg base k C "kind" (F_kind K C m)) : Mc P w K mg base (k + 1) C "kind_here" (F_here K C (fun _ => true) n) := by
  refine D.go sc_K_kind_here (fun W s xs Q h => ?_) (fun qual f cdv A outer s0 H0 E hr W s xs Q h => ?_)
  · obtain ⟨ka, I, m, Γ, t, p, rfl, _⟩ := h
    rfl
  obtain ⟨ka, I, m, Γ, t, p, rfl, hC, _, hd, hm, hml, hp, hc, hlow, q⟩ := h
  subst hC
  have nd := sc_K_kind_here.nd
  have hz := sz_pos t
  have hdp := t.dp_pos
  obtain ⟨n', rfl⟩ : ∃ n', n = n' + 1 := ⟨n - 1, by omega⟩
  have CK := CK n' rfl
  rcases tm_sort t with ⟨x, rfl⟩ | hb | he
  · wtm_at "q.run"
    refine od_inC (ru1 hr) ?_
    rw [hm.get x]
    have hwk : walk Γ (.name x) = match look Γ x with | some k => .ok k | none => .error [] := rfl
    cases hl : look Γ x with
    | some k1 =>
      rw [hl] at hwk
      wtm_at "q.run"
      refine id_c (d := kD k1) (ru1 hr) (by rw [hm.get x, hl]; rfl) ?_
      refine q s k1 ?_
      rw [hwk]
      exact KO.refl_ok
    | none =>
      rw [hl] at hwk
      wtm_at "q.run"
      refine ed_failS I CF hr ?_
      wtm_at "q.run"
      refine ⟨rfl, ?_⟩
      wtm_at "q.run"
      refine ⟨fun hw => ?_, fun p0 hw => ?_⟩
      · refine q _ _ ?_
        rw [hwk]
        exact ⟨fun p0 h => (by rw [hw] at h; cases h), fun _ _ e => (nomatch e), fun q _ e => by cases e; rw [I.wrW, List.append_nil], by rw [I.cntW]; omega, I.rtW _ _⟩
      · refine q _ _ ?_
        rw [hwk]
        exact ⟨fun _ h => h, fun _ _ e => (nomatch e), fun q h _ => (by rw [hw] at h; cases h), by omega, rfl⟩
  · have h1 : decide (t.word = "name") = false := by cases t <;> first | (cases hb; done) | kernel_rfl
    have h2 : (([.str "fn", .str "let", .str "case"] : List PyData).any fun z => PyData.eqv z (.str t.word)) = true := by cases t <;> first | (cases hb; done) | kernel_rfl
    wtm_at "q.run"
    refine br_f h1 ?_
    wtm_at "q.run"
    refine br_t h2 ?_
    wtm_at "q.run"
    refine ed_meth I CD hr ?_
    wtm_at "q.run"
    refine ⟨rfl, ?_⟩
    wtm_at "q.run"
    exact ⟨ka, I, m, Γ, t, p, rfl, rfl, hb, hd, hm, hml, hp, hc, hlow, q⟩
  · have h1 : decide (t.word = "name") = false := by cases t <;> first | (cases he; done) | kernel_rfl
    have h2 : (([.str "fn", .str "let", .str "case"] : List PyData).any fun z => PyData.eqv z (.str t.word)) = false := by cases t <;> first | (cases he; done) | kernel_rfl
    have ez := even_sz he
    wtm_at "q.run"
    refine br_f h1 ?_
    wtm_at "q.run"
    refine br_f h2 ?_
    wtm_at "q.run"
    refine sd_cl2 4 5 6 nd ?_
    refine jd_list ?_
    wtm_at "q.run"
    refine ed_fn CS hr ?_
    wtm_at "q.run"
    refine ⟨sz_n (by rw [List.length_map]; cases t <;> simp [Tm.subs]), ?_⟩
    refine cl2_kinds (Γ := Γ) (p := p) I t.subs [] s (by omega) (fun h => even_low he (hlow h)) (fun pr hpr acc s1 Nx hc1 hl1 hN bp => ?_) fun s1 ks o => ?_
    · have hd1 := even_dp he pr hpr
      wtm_at "q.run"
      intro bp'
      refine ed_meth I CK hr ?_
      wtm_at "q.run"
      refine ⟨rfl, ?_⟩
      wtm_at "q.run"
      refine ⟨by omega, ?_⟩
      wtm_at "q.run"
      refine ⟨ka, I, m, Γ, pr.2, p ++ [pr.1], rfl, rfl, by omega, hm, by omega, by rw [List.length_append]; show p.length + 1 + _ < _; omega, hc1, hl1, fun s2 k2 o2 _ => ?_⟩
      exact ⟨_, rfl, noL_kD k2, hN s2 k2 o2⟩
    rw [List.nil_append]
    have c1 := o.cnt
    have hwk := even_walk (Γ := Γ) he
    wtm_at "q.run"
    refine ed_fldW I ?_
    wtm_at "q.run"
    refine ⟨rfl, ?_⟩
    wtm_at "q.run"
    refine (od_isC .NotEq ?_)
    refine od_neW I hr ?_
    wtm_at "q.run"
    cases hw1 : I.wr s1 with
    | some p1 =>
      wtm_at "q.run"
      refine ed_con CU ?_
      refine q s1 _ ⟨o.bad, fun k' h e => ?_, fun e h e2 => ?_, by omega, o.rt⟩
      · cases hs : walkS Γ t.subs with
        | error e3 => rw [hwk, hs] at e; cases e
        | ok ks' =>
          have := (o.good ks' h hs).1
          rw [hw1] at this
          cases this
      · cases hs : walkS Γ t.subs with
        | error e3 =>
          rw [hwk, hs] at e2
          cases e2
          exact o.err _ h hs
        | ok ks' =>
          have := (o.good ks' h hs).1
          rw [hw1] at this
          cases this
    | none =>
      have hw0 : I.wr s = none := by
        cases h : I.wr s with
        | none => rfl
        | some p0 => have := o.bad p0 h; rw [hw1] at this; cases this
      have hs : walkS Γ t.subs = .ok ks := by
        cases hs : walkS Γ t.subs with
        | error e3 => have := o.err e3 hw0 hs; rw [hw1] at this; cases this
        | ok ks' => rw [(o.good ks' hw0 hs).2]
      have hk60 := walkS_low (even_low he (hlow hw0)) hs
      obtain ⟨r, hr1⟩ := even_made (Γ := Γ) he hs
      rw [hs] at hwk
      simp only [hr1] at hwk
      have fin1 : ∀ k, r = .ok k → Q s1 (.d (kD k)) := fun k e => by
        subst e
        refine q s1 k ⟨o.bad, fun k' h e => ⟨hw1, ?_⟩, fun e h e2 => ?_, by omega, o.rt⟩
        · rw [hwk] at e
          cases e
          rfl
        · rw [hwk] at e2
          cases e2
      have fin2 : ∀ n, r = .error n → Q (I.setW s1 (p ++ [n])) (.d (kD .unit)) := fun n e => by
        subst e
        refine q _ _ ⟨fun p0 h => (by rw [hw0] at h; cases h), fun k' h e => ?_, fun e h e2 => ?_, by rw [I.cntW]; omega, by rw [I.rtW]; exact o.rt⟩
        · rw [hwk] at e
          cases e
        · rw [hwk] at e2
          cases e2
          rw [I.wrW]
      have hp2 : p.length < 1000 := by omega
      wtm_at "q.run"
      have g1 : (([.str "unit", .str "number", .str "pair", .str "first", .str "second", .str "left", .str "right"] : List PyData).any fun z => PyData.eqv z (.str t.word)) = grpB t := by cases t <;> first | (cases he; done) | kernel_rfl
      have g2 : (([.str "plus", .str "minus", .str "times", .str "is"] : List PyData).any fun z => PyData.eqv z (.str t.word)) = grpR t := by cases t <;> first | (cases he; done) | kernel_rfl
      have g3 : grpB t = false → grpR t = false → grpO t = true := by cases t <;> first | (cases he; done) | (intro a b; first | rfl | (cases a; done) | (cases b; done))
      refine br_b (fun h1 => ?_) (fun h1 => ?_)
      · wtm_at "q.run"
        refine ed_meth I CB hr ?_
        wtm_at "q.run"
        refine ⟨rfl, ?_⟩
        wtm_at "q.run"
        exact ⟨ka, I, t, ks, r, p, rfl, rfl, hw1, g1.symm.trans h1, hr1, hk60, hp2, fin1, fin2⟩
      wtm_at "q.run"
      refine br_b (fun h2 => ?_) (fun h2 => ?_)
      · wtm_at "q.run"
        refine ed_meth I CR hr ?_
        wtm_at "q.run"
        refine ⟨rfl, ?_⟩
        wtm_at "q.run"
        exact ⟨ka, I, t, ks, r, p, rfl, rfl, hw1, g2.symm.trans h2, hr1, hk60, hp2, fin1, fin2⟩
      wtm_at "q.run"
      refine ed_meth I CO hr ?_
      wtm_at "q.run"
      refine ⟨rfl, ?_⟩
      wtm_at "q.run"
      exact ⟨ka, I, t, ks, r, p, rfl, rfl, hw1, g3 (g1.symm.trans h1) (g2.symm.trans h2), hr1, hk60, hp2, fin1, fin2⟩
end
end
end
section
/-! W35: Kinder.binding; the three together. -/
section
variable {P : Program} {w : World} {K : PySem.W.Frag} {mg : Str → Option Value} {base : Heap} {k : Nat} {C : Addr}
theorem KO.shut {α : Type} {K : PySem.W.Frag} {W : Wd} {ka : Addr} {I : Kin K W ka} {n : Nat} {p : List Nat} {r : Except (List Nat) α} {s s1 : W.St} {k1 : α} (o : KO I n p r s s1 k1) {p1 : List Nat} (h1 : I.wr s1 = some p1) (h0 : I.wr s = none) : ∃ q, r = .error q ∧ p1 = p ++ q := by
  cases r with
  | ok k => have := (o.good k h0 rfl).1; rw [h1] at this; cases this
  | error q => have := o.err q h0 rfl; rw [h1] at this; cases this; exact ⟨q, rfl, rfl⟩
theorem KO.open_ {α : Type} {K : PySem.W.Frag} {W : Wd} {ka : Addr} {I : Kin K W ka} {n : Nat} {p : List Nat} {r : Except (List Nat) α} {s s1 : W.St} {k1 : α} (o : KO I n p r s s1 k1) (h1 : I.wr s1 = none) : I.wr s = none ∧ r = .ok k1 := by
  have h0 : I.wr s = none := by
    cases h : I.wr s with
    | none => rfl
    | some p0 => have := o.bad p0 h; rw [h1] at this; cases this
  refine ⟨h0, ?_⟩
  cases r with
  | ok k => rw [(o.good k h0 rfl).2]
  | error q => have := o.err q h0 rfl; rw [h1] at this; cases this
local macro_rules | `(tactic| wtm_at "q.e") => `(tactic| refine ed_step ?_)
section
local macro_rules | `(tactic| wtm_at "q.nm") => `(tactic| first
  | ((with_reducible refine ed_is "self" ?_); refine ed_vi 0 ?_; wtm_at "q.slot")
  | ((with_reducible refine ed_is "context" ?_); refine ed_vi 1 ?_; wtm_at "q.slot")
  | ((with_reducible refine ed_is "term" ?_); refine ed_vi 2 ?_; wtm_at "q.slot")
  | ((with_reducible refine ed_is "path" ?_); refine ed_vi 3 ?_; wtm_at "q.slot")
  | ((with_reducible refine ed_is "inner" ?_); refine ed_vi 4 ?_; wtm_at "q.slot")
  | ((with_reducible refine ed_is "side" ?_); refine ed_vi 5 ?_; wtm_at "q.slot")
  | ((with_reducible refine ed_is "one" ?_); refine ed_vi 6 ?_; wtm_at "q.slot")
  | ((with_reducible refine ed_is "two" ?_); refine ed_vi 7 ?_; wtm_at "q.slot")
  | fail)
local macro_rules | `(tactic| wtm_at "q.set") => `(tactic| first
  | ((with_reducible refine sd_is "self" ?_); refine sd_v 0 (by assumption) ?_)
  | ((with_reducible refine sd_is "context" ?_); refine sd_v 1 (by assumption) ?_)
  | ((with_reducible refine sd_is "term" ?_); refine sd_v 2 (by assumption) ?_)
  | ((with_reducible refine sd_is "path" ?_); refine sd_v 3 (by assumption) ?_)
  | ((with_reducible refine sd_is "inner" ?_); refine sd_v 4 (by assumption) ?_)
  | ((with_reducible refine sd_is "side" ?_); refine sd_v 5 (by assumption) ?_)
  | ((with_reducible refine sd_is "one" ?_); refine sd_v 6 (by assumption) ?_)
  | ((with_reducible refine sd_is "two" ?_); refine sd_v 7 (by assumption) ?_)
  | fail)
local macro_rules | `(tactic| wtm_at "q.gnm") => `(tactic| first
  | ((with_reducible refine gd_is "self" ?_); refine gd_v 0 (by assumption) ?_)
  | ((with_reducible refine gd_is "context" ?_); refine gd_v 1 (by assumption) ?_)
  | ((with_reducible refine gd_is "term" ?_); refine gd_v 2 (by assumption) ?_)
  | ((with_reducible refine gd_is "path" ?_); refine gd_v 3 (by assumption) ?_)
  | ((with_reducible refine gd_is "inner" ?_); refine gd_v 4 (by assumption) ?_)
  | ((with_reducible refine gd_is "side" ?_); refine gd_v 5 (by assumption) ?_)
  | ((with_reducible refine gd_is "one" ?_); refine gd_v 6 (by assumption) ?_)
  | ((with_reducible refine gd_is "two" ?_); refine gd_v 7 (by assumption) ?_)
  | fail)
theorem kbind_ok (D : Hm K C "binding" s_K_binding p_K_binding) {n : Nat} (CF : Mc P w K mg base k C "fail" (F_fail K C)) (CU : Con K mg "UNIT" (kD .unit)) (CK : ∀ m, n = m + 1 → Mc P w K mg base k C "kind" (F_kind K C m)) : Mc P w K mg base (k + 1) C "binding" (F_here K C Tm.bind n) := by
  refine D.go sc_K_binding (fun W s xs Q h => ?_) (fun qual f cdv A outer s0 H0 E hr W s xs Q h => ?_)
  · obtain ⟨ka, I, m, Γ, t, p, rfl, _⟩ := h
    rfl
  obtain ⟨ka, I, m, Γ, t, p, rfl, hC, hb, hd, hm, hml, hp, hc, hlow, q⟩ := h
  subst hC
  have nd := sc_K_binding.nd
  have hdp := t.dp_pos
  obtain ⟨n', rfl⟩ : ∃ n', n = n' + 1 := ⟨n - 1, by omega⟩
  have CK := CK n' rfl
  have pl : ∀ i : Nat, (p ++ [i]).length = p.length + 1 := fun i => by rw [List.length_append]; rfl
  cases t with
  | fn x k1 b =>
    simp only [Tm.dp] at hd hml hp
    simp only [Tm.sz] at hc q
    wtm_at "q.run"
    refine ed_meth I CK hr ?_
    wtm_at "q.run"
    refine ⟨rfl, ?_⟩
    refine ad_c (ed_cstar 1 (x := "context") (m := m) rfl (visB_ok (by kernel_rfl)) rfl (by omega) ?_)
    wtm_at "q.run"
    refine ⟨x, kD k1, rfl, rfl, ?_⟩
    wtm_at "q.run"
    refine ⟨by omega, ?_⟩
    wtm_at "q.run"
    have l1 := CtxM.len (m := m) x (kD k1)
    have p1 := pl 3
    refine ⟨ka, I, _, Γ ++ [(x, k1)], b, p ++ [3], rfl, rfl, by omega, hm.snoc x k1, by omega, by omega, by omega, fun h => (hlow h).2.1, fun s1 k2 o _ => ?_⟩
    have c1 := o.cnt
    wtm_at "q.run"
    refine q s1 (.func k1 k2) ⟨o.bad, fun k' h e => ?_, fun e h e2 => ?_, by omega, o.rt⟩
    · obtain ⟨kb, h1, e⟩ := at1_ok e
      cases e
      obtain ⟨h2, h3⟩ := o.good kb h h1
      exact ⟨h2, by rw [h3]⟩
    · cases hb : walk (Γ ++ [(x, k1)]) b with
      | ok kb => simp only [walk, at1, hb] at e2; cases e2
      | error e3 =>
        simp only [walk, at1, hb] at e2
        cases e2
        rw [o.err e3 h hb, List.append_assoc]
        rfl
  | lete x a b =>
    simp only [Tm.dp] at hd hml hp
    simp only [Tm.sz] at hc q
    wtm_at "q.run"
    refine ed_meth I CK hr ?_
    wtm_at "q.run"
    refine ⟨rfl, ?_⟩
    wtm_at "q.run"
    refine ⟨by omega, ?_⟩
    wtm_at "q.run"
    have p1 := pl 2
    refine ⟨ka, I, m, Γ, a, p ++ [2], rfl, rfl, by omega, hm, by omega, by omega, by omega, fun h => (hlow h).1, fun s1 k2 o _ => ?_⟩
    have c1 := o.cnt
    wtm_at "q.run"
    refine ed_meth I CK hr ?_
    wtm_at "q.run"
    refine ⟨rfl, ?_⟩
    refine ad_c (ed_cstar 1 (x := "context") (m := m) rfl (visB_ok (by kernel_rfl)) rfl (by omega) ?_)
    wtm_at "q.run"
    refine ⟨x, kD k2, rfl, rfl, ?_⟩
    wtm_at "q.run"
    refine ⟨by omega, ?_⟩
    wtm_at "q.run"
    have l1 := CtxM.len (m := m) x (kD k2)
    have p2 := pl 3
    refine ⟨ka, I, _, Γ ++ [(x, k2)], b, p ++ [3], rfl, rfl, by omega, hm.snoc x k2, by omega, by omega, by omega, fun h => ?_, fun s2 k3 o2 _ => ?_⟩
    · obtain ⟨h0, hr0⟩ := o.open_ h
      exact ok1_of (hlow h0).2 hr0
    have c2 := o2.cnt
    refine q s2 k3 ⟨fun p0 h => o2.bad p0 (o.bad p0 h), fun k' h e => ?_, fun e h e2 => ?_, by omega, o2.rt.trans o.rt⟩
    · obtain ⟨k4, h1, e⟩ := at1_ok e
      obtain ⟨k5, h2, e⟩ := at1_ok e
      cases e
      obtain ⟨h3, rfl⟩ := o.good k4 h h1
      exact o2.good _ h3 h2
    · cases ha : walk Γ a with
      | error e3 =>
        simp only [walk, at1, ha] at e2
        cases e2
        rw [o2.bad _ (o.err e3 h ha), List.append_assoc]
        rfl
      | ok k4 =>
        obtain ⟨h3, rfl⟩ := o.good k4 h ha
        cases hb : walk (Γ ++ [(x, k2)]) b with
        | ok kb => simp only [walk, at1, ha, hb] at e2; cases e2
        | error e3 =>
          simp only [walk, at1, ha, hb] at e2
          cases e2
          rw [o2.err e3 h3 hb, List.append_assoc]
          rfl
  | case sc x a y b =>
    simp only [Tm.dp] at hd hml hp
    simp only [Tm.sz] at hc q
    wtm_at "q.run"
    refine ed_meth I CK hr ?_
    wtm_at "q.run"
    refine ⟨rfl, ?_⟩
    wtm_at "q.run"
    refine ⟨by omega, ?_⟩
    wtm_at "q.run"
    have p1 := pl 1
    refine ⟨ka, I, m, Γ, sc, p ++ [1], rfl, rfl, by omega, hm, by omega, by omega, by omega, fun h => (hlow h).1, fun s1 k1 o _ => ?_⟩
    have c1 := o.cnt
    wtm_at "q.run"
    refine ed_fldW I ?_
    wtm_at "q.run"
    refine ⟨rfl, ?_⟩
    wtm_at "q.run"
    refine (od_isC .Eq ?_)
    refine od_eqW I hr ?_
    wtm_at "q.run"
    cases hw1 : I.wr s1 with
    | some p0 =>
      wtm_at "q.run"
      refine ed_fldW I ?_
      wtm_at "q.run"
      refine ⟨rfl, ?_⟩
      wtm_at "q.run"
      refine (od_isC .NotEq ?_)
      refine od_neW I hr ?_
      rw [hw1]
      wtm_at "q.run"
      refine ed_con CU ?_
      refine q s1 _ ⟨o.bad, fun k' h e => ?_, fun e h e2 => ?_, by omega, o.rt⟩
      · obtain ⟨k4, h1, e⟩ := at1_ok e
        have := (o.good k4 h h1).1
        rw [hw1] at this
        cases this
      · obtain ⟨q3, h3, rfl⟩ := o.shut hw1 h
        simp only [walk, at1, h3] at e2
        cases e2
        rw [hw1, List.append_assoc]
        rfl
    | none =>
      obtain ⟨hw0, hr0⟩ := o.open_ hw1
      rcases kd_either k1 with ⟨l, r, rfl⟩ | hne
      rotate_left
      · wtm_at "q.run"
        refine br_nd (fun _ => ?_) (fun h => absurd h hne)
        wtm_at "q.run"
        refine ed_failS I CF hr ?_
        wtm_at "q.run"
        refine ⟨rfl, ?_⟩
        wtm_at "q.run"
        refine ⟨by omega, ?_⟩
        wtm_at "q.run"
        refine ⟨fun _ => ?_, fun p0 z => by rw [hw1] at z; cases z⟩
        have hwk : walk Γ (.case sc x a y b) = .error [1] := by
          simp only [walk, at1, hr0]
          cases k1 <;> first | rfl | exact absurd rfl hne
        refine q _ _ ?_
        rw [hwk]
        exact ⟨fun p0 h => (by rw [hw0] at h; cases h), fun _ _ e => (nomatch e), fun q _ e => by cases e; rw [I.wrW], by rw [I.cntW]; omega, by rw [I.rtW]; exact o.rt⟩
      wtm_at "q.run"
      refine ed_fldW I ?_
      wtm_at "q.run"
      refine ⟨rfl, ?_⟩
      wtm_at "q.run"
      refine (od_isC .NotEq ?_)
      refine od_neW I hr ?_
      rw [hw1]
      wtm_at "q.run"
      have hlow2 := ok1_of (hlow hw0).2 hr0
      refine ed_meth I CK hr ?_
      wtm_at "q.run"
      refine ⟨rfl, ?_⟩
      refine ad_c (ed_cstar 1 (x := "context") (m := m) rfl (visB_ok (by kernel_rfl)) rfl (by omega) ?_)
      wtm_at "q.run"
      refine ⟨x, kD l, rfl, rfl, ?_⟩
      wtm_at "q.run"
      refine ⟨by omega, ?_⟩
      wtm_at "q.run"
      have l1 := CtxM.len (m := m) x (kD l)
      have p2 := pl 3
      refine ⟨ka, I, _, Γ ++ [(x, l)], a, p ++ [3], rfl, rfl, by omega, hm.snoc x l, by omega, by omega, by omega, fun h => hlow2.1, fun s2 k2 o2 _ => ?_⟩
      have c2 := o2.cnt
      wtm_at "q.run"
      refine ed_meth I CK hr ?_
      wtm_at "q.run"
      refine ⟨rfl, ?_⟩
      refine ad_c (ed_cstar 1 (x := "context") (m := m) rfl (visB_ok (by kernel_rfl)) rfl (by omega) ?_)
      wtm_at "q.run"
      refine ⟨y, kD r, rfl, rfl, ?_⟩
      wtm_at "q.run"
      refine ⟨by omega, ?_⟩
      wtm_at "q.run"
      have l2 := CtxM.len (m := m) y (kD r)
      have p3 := pl 5
      refine ⟨ka, I, _, Γ ++ [(y, r)], b, p ++ [5], rfl, rfl, by omega, hm.snoc y r, by omega, by omega, by omega, fun h => ok1_of hlow2.2 (o2.open_ h).2, fun s3 k3 o3 _ => ?_⟩
      have c3 := o3.cnt
      wtm_at "q.run"
      refine ed_fldW I ?_
      wtm_at "q.run"
      refine ⟨rfl, ?_⟩
      wtm_at "q.run"
      refine (od_isC .NotEq ?_)
      refine od_neW I hr ?_
      wtm_at "q.run"
      cases hw3 : I.wr s3 with
      | some p4 =>
        wtm_at "q.run"
        refine q s3 k2 ⟨fun p0 h => (by rw [hw0] at h; cases h), fun k' h e => ?_, fun e h e2 => ?_, by omega, o3.rt.trans (o2.rt.trans o.rt)⟩
        · simp only [walk, at1, hr0] at e
          cases h4 : walk (Γ ++ [(x, l)]) a with
          | error e5 => simp only [h4] at e; cases e
          | ok ka2 =>
            obtain ⟨h5, rfl⟩ := o2.good _ hw1 h4
            obtain ⟨q5, h6, _⟩ := o3.shut hw3 h5
            simp only [h4, h6] at e
            cases e
        · simp only [walk, at1, hr0] at e2
          cases h4 : walk (Γ ++ [(x, l)]) a with
          | error e5 =>
            simp only [h4] at e2
            cases e2
            rw [o3.bad _ (o2.err _ hw1 h4), List.append_assoc]
            rfl
          | ok ka2 =>
            obtain ⟨h5, rfl⟩ := o2.good _ hw1 h4
            obtain ⟨q5, h6, h7⟩ := o3.shut hw3 h5
            simp only [h4, h6] at e2
            cases e2
            rw [hw3, h7, List.append_assoc]
            rfl
      | none =>
        obtain ⟨hw2, hr3⟩ := o3.open_ hw3
        obtain ⟨_, hr2⟩ := o2.open_ hw2
        have d2 := low_ok (by decide) hlow2.1 hr2
        have d3 := low_ok (by decide) (ok1_of hlow2.2 hr2) hr3
        wtm_at "q.run"
        refine br_dec (fun h => ?_) (fun h => ?_)
        · wtm_at "q.run"
          refine q s3 k2 ⟨fun p0 h => (by rw [hw0] at h; cases h), fun k' _ e => ⟨hw3, ?_⟩, fun e _ e2 => ?_, by omega, o3.rt.trans (o2.rt.trans o.rt)⟩
          · simp only [walk, at1, hr0, hr2, hr3, if_pos h] at e
            cases e
            rfl
          · simp only [walk, at1, hr0, hr2, hr3, if_pos h] at e2
            cases e2
        · wtm_at "q.run"
          refine ed_failS I CF hr ?_
          wtm_at "q.run"
          refine ⟨rfl, ?_⟩
          wtm_at "q.run"
          refine ⟨by omega, ?_⟩
          wtm_at "q.run"
          refine ⟨fun _ => ?_, fun p0 z => by rw [hw3] at z; cases z⟩
          refine q _ _ ⟨fun p0 h => (by rw [hw0] at h; cases h), fun k' _ e => ?_, fun e _ e2 => ?_, by rw [I.cntW]; omega, by rw [I.rtW]; exact o3.rt.trans (o2.rt.trans o.rt)⟩
          · simp only [walk, at1, hr0, hr2, hr3, if_neg h] at e
            cases e
          · simp only [walk, at1, hr0, hr2, hr3, if_neg h] at e2
            cases e2
            rw [I.wrW]
  | _ => cases hb
end
/-- the three, by the depth of the term -/
structure KAll (P : Program) (w : World) (K : PySem.W.Frag) (mg : Str → Option Value) (base : Heap) (C : Addr) : Prop where
  kind : Hm K C "kind" s_K_kind p_K_kind
  here : Hm K C "kind_here" s_K_kind_here p_K_kind_here
  bind : Hm K C "binding" s_K_binding p_K_binding
  built : Hm K C "built" s_K_built p_K_built
  reck : Hm K C "reckoned" s_K_reckoned p_K_reckoned
  row : Hm K C "rowed" s_K_rowed p_K_rowed
  fail : Hm K C "fail" s_K_fail p_K_fail
  subs : Hd K mg "subterms" s_subterms p_subterms []
  cu : Con K mg "UNIT" (kD .unit)
  cn : Con K mg "NUM" (kD .num)
  ct : Con K mg "TRUTH" (kD truthK)
  ts : Tab K w mg "SHAPES" shapeTab
theorem kind_all (B : Bi mg) (D : KAll P w K mg base C) : ∀ n, Mc P w K mg base (3 * n + 5) C "kind" (F_kind K C n)
  | 0 => kkind_ok D.kind (khere_ok (k := 3) D.here ((subterms_ok (k := 0) D.subs B D.ts).mono (by omega)) ((fail_ok (k := 0) D.fail D.cu).mono (by omega)) ((kbuilt_ok (fail_ok (k := 0) D.fail D.cu) (D := D.built) D.cn D.cu).mono (by omega)) ((kreck_ok D.reck B (fail_ok (k := 0) D.fail D.cu) D.cn D.ct).mono (by omega)) ((krow_ok D.row (fail_ok (k := 0) D.fail D.cu)).mono (by omega)) D.cu
      ((kbind_ok (k := 1) D.bind ((fail_ok (k := 0) D.fail D.cu).mono (by omega)) D.cu fun m h => by cases h).mono (by omega)) fun m h => by cases h)
  | n + 1 => kkind_ok D.kind (khere_ok (k := 3 * n + 6) D.here ((subterms_ok (k := 0) D.subs B D.ts).mono (by omega)) ((fail_ok (k := 0) D.fail D.cu).mono (by omega)) ((kbuilt_ok (fail_ok (k := 0) D.fail D.cu) (D := D.built) D.cn D.cu).mono (by omega)) ((kreck_ok D.reck B (fail_ok (k := 0) D.fail D.cu) D.cn D.ct).mono (by omega)) ((krow_ok D.row (fail_ok (k := 0) D.fail D.cu)).mono (by omega)) D.cu
      (kbind_ok (k := 3 * n + 5) D.bind ((fail_ok (k := 0) D.fail D.cu).mono (by omega)) D.cu fun m h => by cases h; exact kind_all B D n) fun m h => by cases h; exact (kind_all B D n).mono (by omega))
end
end
section
/-! W36: kinds_by, kind_by. -/
section
variable {X : Cx} {W : Wd} {s : W.St} {δ : De} {N : W.St → De → Prop} {R : W.St → Sv → Prop} {sts : List Stmt} {pos p0 p1 p2 : Pos}
theorem sds_kinA (i : Nat) {x cn : Str} {C fI : Addr} {fd : FuncData} {k : Nat} (nd : X.N.Nodup) (hδ : δ.all noX = true) (cls : Cls X.K C) (naW : NoAttr X.K C "wrong") (naK : NoAttr X.K C "kinds") (M : Mk X.K C fI) (F1 : FnOk X.prog X.w X.K X.mg X.base CX0 k fI fd p_K_init (spInit C)) (hbd : L2.Binds X.K fd p_K_init []) (hr : Room (k + 1) X.A) (hm : X.mg cn = some (.ref C))
    (h : ∀ (ka : Addr) (W' : Wd) (I : Kin X.K W' ka) (s' : W'.St) (Rt : W'.St → Sv → Prop), I.C = C → I.wr s' = none → I.cnt s' = 0 → (∀ s2 d, I.tp s2 = some d → I.rt s2 = I.rt s' → R s (.x (retX (I.wr s2) d)) → Rt s2 (.x (pairO I.kd I.kw))) → SDs X W' sts s' (δ.set i (some (.o ka))) (fun _ _ => False) Rt)
    (hg : glB X.env cn = true := by kernel_rfl) (hb : (nmB X.N i x && locC X x) = true := by kernel_rfl) (hs : swapsWith (.Call (.Name cn p0) [] [] p2) (some (.Name x p1)) pos.line X.env = pure false := by rfl) :
    SDs X W (.Assign [.Name x p1] (.Call (.Name cn p0) [] [] p2) pos :: sts) s δ N R :=
  sds_kin i nd hδ M F1 hbd hr hm (fun ka dx kw kd => h ka (W.kin X.K C ka dx kw kd) (W.kinI X.K cls naW naK) (s, ⟨none, 0, none⟩) _ rfl rfl rfl fun s2 d h1 h2 h3 => ⟨rfl, d, h1, by have h2 : s2.1 = s := h2; rw [h2]; exact h3⟩) hg hb hs
end
section
variable {P : Program} {w : World} {K : PySem.W.Frag} {mg : Str → Option Value} {base : Heap} {k : Nat} {C : Addr}
/-- the class, as it stands behind the top -/
structure Kdr (P : Program) (w : World) (K : PySem.W.Frag) (mg : Str → Option Value) (base : Heap) (C : Addr) : Prop where
  gm : mg "Kinder" = some (.ref C)
  cls : Cls K C
  naW : NoAttr K C "wrong"
  naK : NoAttr K C "kinds"
  ini : ∃ fI fd, Mk K C fI ∧ FnOk P w K mg base CX0 1 fI fd p_K_init (spInit C) ∧ Binds K fd p_K_init []
  all : KAll P w K mg base C
def RetOk (r : Res) (w : Option (List Nat)) (d : PyData) : Prop := match r with | .ok k => w = none ∧ d = kD k | .error q => w = some q
def F_kinds : FT := fun W s xs Q => ∃ (m : CM) (Γ : Ctx) (t : Tm), xs = [.c m, .d (tD t)] ∧ CtxM Γ m ∧ m.length ≤ 700 ∧ t.dp ≤ 50 ∧ t.sz ≤ 15000 ∧ Low 60 Γ t ∧ ∀ w d, RetOk (walk Γ t) w d → Q s (.x (retX w d))
section
local macro_rules | `(tactic| wtm_at "q.nm") => `(tactic| first
  | ((with_reducible refine ed_is "context" ?_); refine ed_vi 0 ?_; wtm_at "q.slot")
  | ((with_reducible refine ed_is "term" ?_); refine ed_vi 1 ?_; wtm_at "q.slot")
  | ((with_reducible refine ed_is "kinder" ?_); refine ed_vi 2 ?_; wtm_at "q.slot")
  | fail)
local macro_rules | `(tactic| wtm_at "q.set") => `(tactic| first
  | ((with_reducible refine sd_is "context" ?_); refine sd_v 0 (by assumption) ?_)
  | ((with_reducible refine sd_is "term" ?_); refine sd_v 1 (by assumption) ?_)
  | ((with_reducible refine sd_is "kinder" ?_); refine sd_v 2 (by assumption) ?_)
  | fail)
local macro_rules | `(tactic| wtm_at "q.gnm") => `(tactic| first
  | ((with_reducible refine gd_is "context" ?_); refine gd_v 0 (by assumption) ?_)
  | ((with_reducible refine gd_is "term" ?_); refine gd_v 1 (by assumption) ?_)
  | ((with_reducible refine gd_is "kinder" ?_); refine gd_v 2 (by assumption) ?_)
  | fail)
theorem kinds_ok (D : Hd K mg "kinds_by" s_kinds_by p_kinds_by []) (B : Bi mg) (R : Kdr P w K mg base C) : Fc P w K mg base 156 "kinds_by" [] F_kinds := by
  refine D.go sc_kinds_by (fun W s xs Q h => ?_) (fun f cdv A outer s0 H0 E hr W s xs Q h => ?_)
  · obtain ⟨m, Γ, t, rfl, _⟩ := h
    rfl
  obtain ⟨m, Γ, t, rfl, hm, hml, hd, hsz, hlow, q⟩ := h
  have nd := sc_kinds_by.nd
  obtain ⟨fI, fd, M, F1, hb⟩ := R.ini
  refine sds_kinA 2 nd rfl R.cls R.naW R.naK M (F1.mono (by omega : 1 ≤ 154)) hb (hr : Room (154 + 1) _) R.gm fun ka W' I s' Rt hC hw0 hc0 hret => ?_
  subst hC
  have CK := kind_all B R.all 50
  refine sds_cons (sd_expr ?_)
  refine ed_meth I CK hr ?_
  wtm_at "q.run"
  refine ⟨rfl, ?_⟩
  refine ad_c ?_
  wtm_at "q.nm"
  refine ad_c ?_
  wtm_at "q.nm"
  refine ad_c (ed_tupX (ad_nil ⟨[], rfl, by simp, ?_⟩))
  refine ad_nil ?_
  refine ⟨ka, I, m, Γ, t, [], rfl, rfl, hd, hm, by omega, by simp; omega, by rw [hc0]; omega, fun _ => hlow, fun s1 k1 o ht => ?_⟩
  refine sds_cons (sd_ret (ed_tup2O (x := I.kd) (y := I.kw) ?_))
  refine ad_c (ed_fldK I ?_)
  wtm_at "q.nm"
  refine ⟨rfl, ?_⟩
  refine ad_c (ed_fldW I ?_)
  wtm_at "q.nm"
  refine ⟨rfl, ?_⟩
  refine ad_nil ⟨rfl, ?_⟩
  refine hret s1 (kD k1) (ht rfl) o.rt ?_
  refine q _ _ ?_
  unfold RetOk
  split
  · rename_i k hk
    obtain ⟨h1, h2⟩ := o.good k hw0 hk
    exact ⟨h1, by rw [h2]⟩
  · rename_i e he
    exact o.err e hw0 he
end
def F_kby : FT := fun W s xs Q => ∃ (m : CM) (Γ : Ctx) (t : Tm), xs = [.c m, .d (tD t)] ∧ CtxM Γ m ∧ m.length ≤ 700 ∧ t.dp ≤ 50 ∧ t.sz ≤ 15000 ∧ Low 60 Γ t ∧ ∀ w d, RetOk (walk Γ t) w d → Q s (.d (.tuple [d, .list (w.toList.map ptD)]))
section
local macro_rules | `(tactic| wtm_at "q.nm") => `(tactic| first
  | ((with_reducible refine ed_is "context" ?_); refine ed_vi 0 ?_; wtm_at "q.slot")
  | ((with_reducible refine ed_is "term" ?_); refine ed_vi 1 ?_; wtm_at "q.slot")
  | ((with_reducible refine ed_is "kinds" ?_); refine ed_vi 2 ?_; wtm_at "q.slot")
  | ((with_reducible refine ed_is "wrong" ?_); refine ed_vi 3 ?_; wtm_at "q.slot")
  | fail)
local macro_rules | `(tactic| wtm_at "q.set") => `(tactic| first
  | ((with_reducible refine sd_is "context" ?_); refine sd_v 0 (by assumption) ?_)
  | ((with_reducible refine sd_is "term" ?_); refine sd_v 1 (by assumption) ?_)
  | ((with_reducible refine sd_is "kinds" ?_); refine sd_v 2 (by assumption) ?_)
  | ((with_reducible refine sd_is "wrong" ?_); refine sd_v 3 (by assumption) ?_)
  | fail)
local macro_rules | `(tactic| wtm_at "q.gnm") => `(tactic| first
  | ((with_reducible refine gd_is "context" ?_); refine gd_v 0 (by assumption) ?_)
  | ((with_reducible refine gd_is "term" ?_); refine gd_v 1 (by assumption) ?_)
  | ((with_reducible refine gd_is "kinds" ?_); refine gd_v 2 (by assumption) ?_)
  | ((with_reducible refine gd_is "wrong" ?_); refine gd_v 3 (by assumption) ?_)
  | fail)
theorem kby_ok (D : Hd K mg "kind_by" s_kind_by p_kind_by []) (CB : Fc P w K mg base k "kinds_by" [] F_kinds) : Fc P w K mg base (k + 1) "kind_by" [] F_kby := by
  refine D.go sc_kind_by (fun W s xs Q h => ?_) (fun f cdv A outer s0 H0 E hr W s xs Q h => ?_)
  · obtain ⟨m, Γ, t, rfl, _⟩ := h
    rfl
  obtain ⟨m, Γ, t, rfl, hm, hml, hd, hsz, hlow, q⟩ := h
  have nd := sc_kind_by.nd
  refine sds_cons (sd_asgT ?_)
  refine ed_fn CB hr ?_
  refine ad_c ?_
  wtm_at "q.nm"
  refine ad_c ?_
  wtm_at "q.nm"
  refine ad_nil ⟨m, Γ, t, rfl, hm, hml, hd, hsz, hlow, fun ww d hw => ?_⟩
  refine gd_ret 2 3 nd ?_
  refine sds_cons (sd_ret (ed_tup ?_))
  refine ad_c (ed_ix ?_)
  wtm_at "q.nm"
  refine ed_tupX (ad_nil ⟨[], rfl, by simp, ?_⟩)
  refine id_dct hr ?_
  wtm_at "q.run"
  exact q _ _ hw
end
end
end
section
/-! W37: checked_kind, kind_of, where nothing is wrong. -/
section
variable {P : Program} {w : World} {K : PySem.W.Frag} {mg : Str → Option Value} {base : Heap} {k : Nat}
def F_chk : FT := fun W s xs Q => ∃ (m : CM) (Γ : Ctx) (t : Tm) (k : Kd), xs = [.c m, .d (tD t)] ∧ CtxM Γ m ∧ m.length ≤ 700 ∧ t.dp ≤ 50 ∧ t.sz ≤ 15000 ∧ Low 60 Γ t ∧ walk Γ t = .ok k ∧ Q s (.d (kD k))
section
local macro_rules | `(tactic| wtm_at "q.nm") => `(tactic| first
  | ((with_reducible refine ed_is "context" ?_); refine ed_vi 0 ?_; wtm_at "q.slot")
  | ((with_reducible refine ed_is "term" ?_); refine ed_vi 1 ?_; wtm_at "q.slot")
  | ((with_reducible refine ed_is "kind" ?_); refine ed_vi 2 ?_; wtm_at "q.slot")
  | ((with_reducible refine ed_is "wrong" ?_); refine ed_vi 3 ?_; wtm_at "q.slot")
  | fail)
local macro_rules | `(tactic| wtm_at "q.set") => `(tactic| first
  | ((with_reducible refine sd_is "context" ?_); refine sd_v 0 (by assumption) ?_)
  | ((with_reducible refine sd_is "term" ?_); refine sd_v 1 (by assumption) ?_)
  | ((with_reducible refine sd_is "kind" ?_); refine sd_v 2 (by assumption) ?_)
  | ((with_reducible refine sd_is "wrong" ?_); refine sd_v 3 (by assumption) ?_)
  | fail)
local macro_rules | `(tactic| wtm_at "q.gnm") => `(tactic| first
  | ((with_reducible refine gd_is "context" ?_); refine gd_v 0 (by assumption) ?_)
  | ((with_reducible refine gd_is "term" ?_); refine gd_v 1 (by assumption) ?_)
  | ((with_reducible refine gd_is "kind" ?_); refine gd_v 2 (by assumption) ?_)
  | ((with_reducible refine gd_is "wrong" ?_); refine gd_v 3 (by assumption) ?_)
  | fail)
theorem chk_ok (D : Hd K mg "checked_kind" s_checked_kind p_checked_kind []) (CB : Fc P w K mg base k "kind_by" [] F_kby) : Fc P w K mg base (k + 1) "checked_kind" [] F_chk := by
  refine D.go sc_checked_kind (fun W s xs Q h => ?_) (fun f cdv A outer s0 H0 E hr W s xs Q h => ?_)
  · obtain ⟨m, Γ, t, k, rfl, _⟩ := h
    rfl
  obtain ⟨m, Γ, t, kk, rfl, hm, hml, hd, hsz, hlow, hw, q⟩ := h
  have nd := sc_checked_kind.nd
  refine sds_cons (sd_asgT ?_)
  refine ed_fn CB hr ?_
  refine ad_c ?_
  wtm_at "q.nm"
  refine ad_c ?_
  wtm_at "q.nm"
  refine ad_nil ⟨m, Γ, t, rfl, hm, hml, hd, hsz, hlow, fun ww d hww => ?_⟩
  rw [hw] at hww
  obtain ⟨rfl, rfl⟩ := hww
  wtm_at "q.run"
  refine od_neL (by assumption) (shaped_l fun d hd => by cases hd) ?_
  wtm_at "q.run"
  exact q
end
def F_kof : FT := fun W s xs Q => ∃ (Γ : Ctx) (t : Tm) (k : Kd), xs = [.x (plT (Γ.map pairK)), .d (tD t)] ∧ CtxP Γ ∧ t.dp ≤ 50 ∧ t.sz ≤ 15000 ∧ Wf t ∧ Low 60 Γ t ∧ walk Γ t = .ok k ∧ Q s (.d (kD k))
section
local macro_rules | `(tactic| wtm_at "q.nm") => `(tactic| first
  | ((with_reducible refine ed_is "context" ?_); refine ed_vi 0 ?_; wtm_at "q.slot")
  | ((with_reducible refine ed_is "term" ?_); refine ed_vi 1 ?_; wtm_at "q.slot")
  | fail)
local macro_rules | `(tactic| wtm_at "q.set") => `(tactic| first
  | ((with_reducible refine sd_is "context" ?_); refine sd_v 0 (by assumption) ?_)
  | ((with_reducible refine sd_is "term" ?_); refine sd_v 1 (by assumption) ?_)
  | fail)
local macro_rules | `(tactic| wtm_at "q.gnm") => `(tactic| first
  | ((with_reducible refine gd_is "context" ?_); refine gd_v 0 (by assumption) ?_)
  | ((with_reducible refine gd_is "term" ?_); refine gd_v 1 (by assumption) ?_)
  | fail)
theorem kof_sds (B : Bi mg) (CC : Fc P w K mg base k "check_context" [] F_ccx) (CT : Fc P w K mg base k "check_term" [] F_ctm) (CB : Fc P w K mg base k "checked_kind" [] F_chk) (f : Addr) (cdv : Value) (A : Around) (outer : List Env) (s0 : Shared) (H0 : Hp) (E : XK) (hr : Room k (A.deeper (envOfC "kind_of" (defScope s_kind_of) s0.heap.objs.size f cdv)))
    (W : Wd) (s : W.St) (xs : List Sv) (Q : W.St → Sv → Prop) (h : F_kof W s xs Q) : SDs (cxOf CX0 P w K mg base n_kind_of "kind_of" (defScope s_kind_of) f cdv A outer s0 H0 E).nox W (defBody s_kind_of) s (startD n_kind_of xs) (fun t' _ => Q t' (.d .none)) Q := by
  obtain ⟨Γ, t, kk, rfl, hp, hd, hsz, wf, hlow, hw, q⟩ := h
  have nd := sc_kind_of.nd
  refine sds_cons (sd_expr ?_)
  refine ed_fn CC hr ?_
  refine ad_c (ed_pl (ds := Γ.map pairK) ?_)
  wtm_at "q.nm"
  refine ⟨rfl, ?_⟩
  refine ad_nil ⟨Γ, rfl, hp, ?_⟩
  refine sds_cons (sd_expr ?_)
  refine ed_fn CT hr ?_
  refine ad_c ?_
  wtm_at "q.nm"
  refine ad_nil ⟨t, rfl, hd, wf, ?_⟩
  refine sds_cons (sd_ret ?_)
  refine ed_fn CB hr ?_
  refine ad_c ?_
  (with_reducible refine ec_is "dict" ?_); refine ed_ty (T := "dict") (Bi.dict_ (by assumption)) bt_dict ?_
  refine ad_c ?_
  wtm_at "q.nm"
  refine ad_nil ?_
  have em : Γ.map pairK = (Γ.map fun p => (p.1, kD p.2)).map pairD := by rw [List.map_map]; rfl
  rw [em]
  refine cd_dictPx ?_
  refine ad_c ?_
  wtm_at "q.nm"
  refine ad_nil ?_
  have hl := cMerge_len (Γ.map fun p => (p.1, kD p.2)) []
  have hl2 := hp.len
  refine ⟨_, Γ, t, kk, rfl, CtxM.of Γ, ?_, hd, hsz, hlow, hw, q⟩
  simp only [List.length_nil, List.length_map] at hl
  omega
theorem kof_len (W : Wd) (s : W.St) (xs : List Sv) (Q : W.St → Sv → Prop) (h : F_kof W s xs Q) : xs.length = p_kind_of.length := by
  obtain ⟨Γ, t, k, rfl, _⟩ := h
  rfl
theorem kof_ok (D : Hd K mg "kind_of" s_kind_of p_kind_of []) (B : Bi mg) (CC : Fc P w K mg base k "check_context" [] F_ccx) (CT : Fc P w K mg base k "check_term" [] F_ctm) (CB : Fc P w K mg base k "checked_kind" [] F_chk) : Fc P w K mg base (k + 1) "kind_of" [] F_kof :=
  D.go sc_kind_of kof_len (kof_sds B CC CT CB)
def kwG : List Value → List Value → List Value := fun us ws => us ++ ws.reverse
def kwV : List V → List V → List V := fun vs zs => vs ++ zs.reverse
theorem kofK_ok (D : HdZ K mg "kind_of" s_kind_of p_kind_of) (B : Bi mg) (CC : Fc P w K mg base k "check_context" [] F_ccx) (CT : Fc P w K mg base k "check_term" [] F_ctm) (CB : Fc P w K mg base k "checked_kind" [] F_chk) : FcK P w K mg base (k + 1) "kind_of" ["term", "context"] kwG kwV F_kof := by
  refine D.goK sc_kind_of kof_len (fun fd hfd => ⟨fun s us ws hK hl => ?_, fun rv rz => Vals.append rv (Vals.reverse rz)⟩) (kof_sds B CC CT CB)
  obtain ⟨dV, kV, doc, pm, an, cdv, ct, rfl, rfl⟩ := hfd
  have hl : (us ++ ws.reverse).length = 2 := hl
  match us, ws, hl with
  | [], [t, c], _ => exact BindsTo.of_eq (by rfl)
  | [c], [t], _ => exact BindsTo.of_eq (by rfl)
  | [c, t], [], _ => exact BindsTo.of_eq (by rfl)
  | [], [], z => cases z
  | [], [_], z => cases z
  | [], _ :: _ :: _ :: _, z => simp at z
  | [_], [], z => cases z
  | [_], _ :: _ :: _, z => simp at z
  | [_, _], _ :: _, z => simp at z
  | _ :: _ :: _ :: _, _, z => simp at z
end
end
end
section
/-! W38: checked_kind, kind_of, where something is wrong. -/
section
variable {P : Program} {w : World} {K : PySem.W.Frag} {mg : Str → Option Value} {base : Heap} {k : Nat} {C : Addr}
def G_chk : GT := fun W s xs d0 => ∃ (m : CM) (Γ : Ctx) (t : Tm) (p : List Nat), xs = [.c m, .d (tD t)] ∧ CtxM Γ m ∧ m.length ≤ 700 ∧ t.dp ≤ 50 ∧ t.sz ≤ 15000 ∧ Low 60 Γ t ∧ walk Γ t = .error p ∧ d0 = ptD p
section
local macro_rules | `(tactic| wtm_at "q.nm") => `(tactic| first
  | ((with_reducible refine ed_is "context" ?_); refine ed_vi 0 ?_; wtm_at "q.slot")
  | ((with_reducible refine ed_is "term" ?_); refine ed_vi 1 ?_; wtm_at "q.slot")
  | ((with_reducible refine ed_is "kind" ?_); refine ed_vi 2 ?_; wtm_at "q.slot")
  | ((with_reducible refine ed_is "wrong" ?_); refine ed_vi 3 ?_; wtm_at "q.slot")
  | fail)
local macro_rules | `(tactic| wtm_at "q.set") => `(tactic| first
  | ((with_reducible refine sd_is "context" ?_); refine sd_v 0 (by assumption) ?_)
  | ((with_reducible refine sd_is "term" ?_); refine sd_v 1 (by assumption) ?_)
  | ((with_reducible refine sd_is "kind" ?_); refine sd_v 2 (by assumption) ?_)
  | ((with_reducible refine sd_is "wrong" ?_); refine sd_v 3 (by assumption) ?_)
  | fail)
local macro_rules | `(tactic| wtm_at "q.gnm") => `(tactic| first
  | ((with_reducible refine gd_is "context" ?_); refine gd_v 0 (by assumption) ?_)
  | ((with_reducible refine gd_is "term" ?_); refine gd_v 1 (by assumption) ?_)
  | ((with_reducible refine gd_is "kind" ?_); refine gd_v 2 (by assumption) ?_)
  | ((with_reducible refine gd_is "wrong" ?_); refine gd_v 3 (by assumption) ?_)
  | fail)
theorem chkR_ok (D : Hd K mg "checked_kind" s_checked_kind p_checked_kind []) (CB : Fc P w K mg base (k + 2) "kind_by" [] F_kby) (F : WtK P w K mg base "WrongTerm" "place" C) : FcR P w K mg base (k + 3) "checked_kind" C "place" G_chk := by
  refine D.goR sc_checked_kind (fun W s xs d h => ?_) (fun f cdv A outer s0 H0 E hr W s xs d0 D Wx h tk σ H hI hS q => ?_)
  · obtain ⟨m, Γ, t, p, rfl, _⟩ := h
    rfl
  obtain ⟨m, Γ, t, p, rfl, hm, hml, hd, hsz, hlow, hw, rfl⟩ := h
  have nd := sc_checked_kind.nd
  have A1 : SD (cxOf (L2.CX P w) P w K mg base n_checked_kind "checked_kind" (defScope s_checked_kind) f cdv A outer s0 H0 E) W ((defBody s_checked_kind).head (by decide)) s (startD n_checked_kind [.c m, .d (tD t)]) (fun s1 δ1 => s1 = s ∧ ∃ v2, δ1 = [some (.c m), some (.d (tD t)), v2, some (.d (.list [ptD p]))]) (fun _ _ => False) := by
    refine sd_asgT ?_
    refine ed_fn CB hr ?_
    refine ad_c ?_
    wtm_at "q.nm"
    refine ad_c ?_
    wtm_at "q.nm"
    refine ad_nil ⟨m, Γ, t, rfl, hm, hml, hd, hsz, hlow, fun ww d hww => ?_⟩
    rw [hw] at hww
    have hww : ww = some p := hww
    subst hww
    wtm_at "q.run"
    exact ⟨rfl, _, rfl⟩
  refine pss_w (pss_cons wS_ps wSs_pss) ?_
  refine A1.run σ H _ hI hS (fun σ1 H1 s1 δ1 m1 i1 g1 q1 => ?_) (fun _ _ _ _ _ _ _ z => z.elim)
  obtain ⟨rfl, v2, rfl⟩ := q1
  refine pss_w (pss_cons (ps_if wT_pt (pss_one wS_ps) wSs_pss) wSs_pss) ?_
  refine TD.run (W := W) (s := s1) (δ := [some (.c m), some (.d (tD t)), v2, some (.d (.list [ptD p]))]) (Q := fun s2 b => s2 = s1 ∧ b = true) ?_ σ1 H1 _ i1 g1 (fun b H2 s2 m2 i2 q2 => ?_)
  · wtm_at "q.run"
    refine od_neL hr (shaped_l fun d hd => ?_) ?_
    · rw [List.mem_singleton.mp hd]
      exact ⟨path_lay p, by have := path_dep p; omega⟩
    wtm_at "q.run"
    exact ⟨rfl, rfl⟩
  obtain ⟨rfl, rfl⟩ := q2
  have g2 := g1.mv m2 (W.mu _ _ i1)
  refine raise_w (s := s2) (δ := [some (.c m), some (.d (tD t)), v2, some (.d (.list [ptD p]))]) (d0 := ptD p) F (Room.mono hr (by omega)) rfl tk (ptD_noL p) i2 g2 ?_ (fun dd v H' m i n a o => q dd v H' _ ((m1.trans m2).trans m) i n a o)
  wtm_at "q.run"
  exact ⟨rfl, rfl⟩
end
def G_kof : GT := fun W s xs d0 => ∃ (Γ : Ctx) (t : Tm) (p : List Nat), xs = [.x (plT (Γ.map pairK)), .d (tD t)] ∧ CtxP Γ ∧ t.dp ≤ 50 ∧ t.sz ≤ 15000 ∧ Wf t ∧ Low 60 Γ t ∧ walk Γ t = .error p ∧ d0 = ptD p
section
local macro_rules | `(tactic| wtm_at "q.nm") => `(tactic| first
  | ((with_reducible refine ed_is "context" ?_); refine ed_vi 0 ?_; wtm_at "q.slot")
  | ((with_reducible refine ed_is "term" ?_); refine ed_vi 1 ?_; wtm_at "q.slot")
  | fail)
local macro_rules | `(tactic| wtm_at "q.set") => `(tactic| first
  | ((with_reducible refine sd_is "context" ?_); refine sd_v 0 (by assumption) ?_)
  | ((with_reducible refine sd_is "term" ?_); refine sd_v 1 (by assumption) ?_)
  | fail)
local macro_rules | `(tactic| wtm_at "q.gnm") => `(tactic| first
  | ((with_reducible refine gd_is "context" ?_); refine gd_v 0 (by assumption) ?_)
  | ((with_reducible refine gd_is "term" ?_); refine gd_v 1 (by assumption) ?_)
  | fail)
theorem kofR_ok (D : Hd K mg "kind_of" s_kind_of p_kind_of []) (B : Bi mg) (CC : Fc P w K mg base k "check_context" [] F_ccx) (CT : Fc P w K mg base k "check_term" [] F_ctm) (CB : FcR P w K mg base k "checked_kind" C "place" G_chk) : FcR P w K mg base (k + 1) "kind_of" C "place" G_kof := by
  refine D.goR sc_kind_of (fun W s xs d h => ?_) (fun f cdv A outer s0 H0 E hr W s xs d0 D Wx h tk σ H hI hS q => ?_)
  · obtain ⟨Γ, t, p, rfl, _⟩ := h
    rfl
  obtain ⟨Γ, t, p, rfl, hp, hd, hsz, wf, hlow, hw, rfl⟩ := h
  have nd := sc_kind_of.nd
  have A1 : SD (cxOf (L2.CX P w) P w K mg base n_kind_of "kind_of" (defScope s_kind_of) f cdv A outer s0 H0 E) W ((defBody s_kind_of)[0]'(by decide)) s (startD n_kind_of [.x (plT (Γ.map pairK)), .d (tD t)]) (fun s1 δ1 => s1 = s ∧ δ1 = (startD n_kind_of [.x (plT (Γ.map pairK)), .d (tD t)])) (fun _ _ => False) := by
    refine sd_expr ?_
    refine ed_fn CC hr ?_
    refine ad_c (ed_pl (ds := Γ.map pairK) ?_)
    wtm_at "q.nm"
    refine ⟨rfl, ?_⟩
    exact ad_nil ⟨Γ, rfl, hp, rfl, rfl⟩
  have A2 : SD (cxOf (L2.CX P w) P w K mg base n_kind_of "kind_of" (defScope s_kind_of) f cdv A outer s0 H0 E) W ((defBody s_kind_of)[1]'(by decide)) s (startD n_kind_of [.x (plT (Γ.map pairK)), .d (tD t)]) (fun s1 δ1 => s1 = s ∧ δ1 = (startD n_kind_of [.x (plT (Γ.map pairK)), .d (tD t)])) (fun _ _ => False) := by
    refine sd_expr ?_
    refine ed_fn CT hr ?_
    refine ad_c ?_
    wtm_at "q.nm"
    exact ad_nil ⟨t, rfl, hd, wf, rfl, rfl⟩
  have key : ∀ σ1 H1, W.I s H1 → Sg K W.u H1 σ1 (startD n_kind_of [.x (plT (Γ.map pairK)), .d (tD t)]) → Mv W.u H H1 → wSs (cxOf (L2.CX P w) P w K mg base n_kind_of "kind_of" (defScope s_kind_of) f cdv A outer s0 H0 E) ((defBody s_kind_of).drop 2) D σ1 H1 := by
    intro σ1 H1 i1 g1 m1
    refine pss_w (pss_one (ps_ret wE_pe)) ?_
    refine callR_w (s := s) (δ := startD n_kind_of [.x (plT (Γ.map pairK)), .d (tD t)]) (d0 := ptD p) CB hr tk i1 g1 ?_ (fun dd v H' m i n a o => q dd v H' _ (m1.trans m) i n a o)
    refine ad_c ?_
    (with_reducible refine ec_is "dict" ?_); refine ed_ty (T := "dict") (Bi.dict_ (by assumption)) bt_dict ?_
    refine ad_c ?_
    wtm_at "q.nm"
    refine ad_nil ?_
    have em : Γ.map pairK = (Γ.map fun p => (p.1, kD p.2)).map pairD := by rw [List.map_map]; rfl
    rw [em]
    refine cd_dictPx ?_
    refine ad_c ?_
    wtm_at "q.nm"
    have hl := cMerge_len (Γ.map fun p => (p.1, kD p.2)) []
    have hl2 := hp.len
    simp only [List.length_nil, List.length_map] at hl
    exact ad_nil ⟨rfl, _, Γ, t, p, rfl, CtxM.of Γ, by omega, hd, hsz, hlow, hw, rfl⟩
  refine pss_w (pss_cons wS_ps (pss_cons wS_ps wSs_pss)) ?_
  refine A1.run σ H _ hI hS (fun σ1 H1 s1 δ1 m1 i1 g1 q1 => ?_) (fun _ _ _ _ _ _ _ z => z.elim)
  obtain ⟨rfl, rfl⟩ := q1
  refine A2.run σ1 H1 _ i1 g1 (fun σ2 H2 s2 δ2 m2 i2 g2 q2 => ?_) (fun _ _ _ _ _ _ _ z => z.elim)
  obtain ⟨rfl, rfl⟩ := q2
  exact key σ2 H2 i2 g2 (m1.trans m2)
end
end
end
section
/-! W39: _law_told_kind. -/
def toldD : Res → PyData
  | .ok k => .list [.str "kind", kD k]
  | .error p => .list [.str "wrong", ptD p]
section
variable {X : Cx} {W : Wd} {s : W.St} {δ : De} {N : W.St → De → Prop} {R : W.St → Sv → Prop} {body : List Stmt} {h₀ : ExceptHandler} {hs : List ExceptHandler} {pos : Pos}
theorem sd_try0 (h : SDs X.nox W body s δ N R) : SD X W (.Try body (h₀ :: hs) [] [] pos) s δ N R := .mk fun σ H D hI hS hN hR => ps_w (ps_try_thru0 wSs_pss) (h.run σ H D hI hS hN hR)
end
section
variable {P : Program} {w : World} {K : PySem.W.Frag} {mg : Str → Option Value} {base : Heap} {k : Nat} {C : Addr}
def F_told : FT := fun W s xs Q => ∃ (Γ : Ctx) (t : Tm), xs = [.x (plT (Γ.map pairK)), .d (tD t)] ∧ CtxP Γ ∧ t.dp ≤ 50 ∧ t.sz ≤ 15000 ∧ Wf t ∧ Low 60 Γ t ∧ Q s (.d (toldD (walk Γ t)))
section
local macro_rules | `(tactic| wtm_at "q.nm") => `(tactic| first
  | ((with_reducible refine ed_is "_law_context" ?_); refine ed_vi 0 ?_; wtm_at "q.slot")
  | ((with_reducible refine ed_is "_law_term_here" ?_); refine ed_vi 1 ?_; wtm_at "q.slot")
  | ((with_reducible refine ed_is "e" ?_); refine ed_vi 2 ?_; wtm_at "q.slot")
  | fail)
local macro_rules | `(tactic| wtm_at "q.set") => `(tactic| first
  | ((with_reducible refine sd_is "_law_context" ?_); refine sd_v 0 (by assumption) ?_)
  | ((with_reducible refine sd_is "_law_term_here" ?_); refine sd_v 1 (by assumption) ?_)
  | ((with_reducible refine sd_is "e" ?_); refine sd_v 2 (by assumption) ?_)
  | fail)
local macro_rules | `(tactic| wtm_at "q.gnm") => `(tactic| first
  | ((with_reducible refine gd_is "_law_context" ?_); refine gd_v 0 (by assumption) ?_)
  | ((with_reducible refine gd_is "_law_term_here" ?_); refine gd_v 1 (by assumption) ?_)
  | ((with_reducible refine gd_is "e" ?_); refine gd_v 2 (by assumption) ?_)
  | fail)
theorem told_ok (D : Hd K mg "_law_told_kind" s_law_told_kind p_law_told_kind []) (CO : Fc P w K mg base k "kind_of" [] F_kof) (CR : FcR P w K mg base k "kind_of" C "place" G_kof) (F : WtK P w K mg base "WrongTerm" "place" C) : Fc P w K mg base (k + 1) "_law_told_kind" [] F_told := by
  refine D.go sc_law_told_kind (fun W s xs Q h => ?_) (fun f cdv A outer s0 H0 E hr W s xs Q h => ?_)
  · obtain ⟨Γ, t, rfl, _⟩ := h
    rfl
  obtain ⟨Γ, t, rfl, hp, hd, hsz, wf, hlow, q⟩ := h
  have nd := sc_law_told_kind.nd
  cases hw : walk Γ t with
  | ok kk =>
    rw [hw] at q
    refine sds_cons (sd_try0 ?_)
    refine sds_cons (sd_ret (ed_lst ?_))
    refine ad_c (ed_str ?_)
    refine ad_c ?_
    refine ed_fn CO hr ?_
    refine ad_c ?_
    wtm_at "q.nm"
    refine ad_c ?_
    wtm_at "q.nm"
    refine ad_nil ⟨Γ, t, kk, rfl, hp, hd, hsz, wf, hlow, hw, ?_⟩
    refine ad_nil ⟨_, rfl, sz_n (by show 2 ≤ 1000; omega), ?_⟩
    exact q
  | error p =>
    rw [hw] at q
    refine .mk fun σ H D hI hS hN hR => ?_
    refine pss_w (pss_one (ps_try_as (c := .ref C) (i := 2) (Wout := fun _ _ _ _ => False) (tb := fun Wx D' σ' H' => W.I s H' ∧ Sg K W.u H' σ' (startD n_law_told_kind [.x (plT (Γ.map pairK)), .d (tD t)]) ∧ ∀ dd v H'', Mv W.u H' H'' → W.I s H'' → dd ∉ W.u → H'' dd = some (.xd [("place", v)]) → Dv K W.u H'' v (ptD p) → Wx (.ref C) (some dd) σ' H'')
      (ts := fun a cls d D' σ' H' => ∃ dd v, σ'[2]? = some (some (.ref a)) ∧ cls = .ref C ∧ d = some dd ∧ H' dd = some (.xd [("place", v)]) ∧ ∀ b, H' b = none → D'.rt (.ref b) (upd H' b (.lst [.str "wrong", v])))
      rfl rfl nd rfl rfl ⟨(glB_ok (by kernel_rfl)).1, by decide, .inl F.gm⟩ (fun u s' ⟨_, _, _, _, _, _, _, _, _, _, _, _, _, _, _, _, z⟩ => z.elim) ?_ ?_)) ?_
    · intro Wx pn xe tk _
      refine ⟨fun pins s' σ' H' D' I z => ?_⟩
      obtain ⟨j, g, zq⟩ := z
      refine (pss_w (pss_one (ps_ret (pe_lst (pa_cons pe_str (pa_cons wE_pe pa_nil))))) ?_ : wSs _ _ D' σ' H') pins s' I
      show wE _ _ _ _ _
      refine callR_w (s := s) (δ := startD n_law_told_kind [.x (plT (Γ.map pairK)), .d (tD t)]) (d0 := ptD p) CR hr tk j g ?_ zq
      refine ad_c ?_
      wtm_at "q.nm"
      refine ad_c ?_
      wtm_at "q.nm"
      exact ad_nil ⟨rfl, Γ, t, p, rfl, hp, hd, hsz, wf, hlow, hw, rfl⟩
    · intro a oe cls d pn hz hf
      refine ⟨fun pins s' σ' H' D' I z => ?_⟩
      obtain ⟨dd, v, e1, rfl, rfl, e2, e3⟩ := z
      refine (pss_w (pss_one (ps_ret (pe_lst (pa_cons pe_str (pa_cons (pe_xf F.xf F.nof hz hf (pe_var (i := 2) rfl (visB_ok (by kernel_rfl)) (by decide) (by decide))) pa_nil))))) ?_ : wSs _ _ D' σ' H') pins s' I
      exact ⟨.ref a, e1, rfl, rfl, dd, _, v, rfl, e2, rfl, by rw [sizeLine_eq]; show 2 ≤ _; omega, fun b hb => e3 b hb⟩
    · refine ⟨hI, hS, fun dd v H1 m1 i1 n1 a1 o1 => ⟨true, F.exm, fun _ a ha => ?_, fun z => by cases z⟩⟩
      refine ⟨dd, v, List.getElem?_set_self (by rw [hS.len]; exact (show 2 < 3 by omega)), rfl, rfl, a1, fun b hb => ?_⟩
      refine hR (.ref b) _ s (.d (toldD (.error p))) (m1.trans (Mv.new hb)) (W.new i1 hb) ?_ q
      have o2 : Dv K W.u (upd H1 b (.lst [.str "wrong", v])) v (ptD p) := Dv.mv (Mv.new hb) (W.mu _ _ i1) o1
      exact (Dv.lst (W.fresh i1 hb) upd_same (.cons (Dv.str "wrong") (.cons o2 .nil))).sv
end
end
end
section
/-! W40: _law_is. -/
section
variable {P : Program} {w : World} {K : PySem.W.Frag} {mg : Str → Option Value} {base : Heap} {k : Nat}
def F_is : FT := fun W s xs Q => ∃ ds : List PyData, xs = [.d (.list ds), .d (.list ds)] ∧ (PyData.list ds).showable = true ∧ (PyData.list ds).hasDict = false ∧ (PyData.list ds).depth ≤ 62 ∧ (PyData.list ds).shown.length ≤ sizeLine ∧ Q s (.d (.bool true))
section
local macro_rules | `(tactic| wtm_at "q.nm") => `(tactic| first
  | ((with_reducible refine ed_is "_law_given" ?_); refine ed_vi 0 ?_; wtm_at "q.slot")
  | ((with_reducible refine ed_is "_law_due" ?_); refine ed_vi 1 ?_; wtm_at "q.slot")
  | fail)
local macro_rules | `(tactic| wtm_at "q.set") => `(tactic| first
  | ((with_reducible refine sd_is "_law_given" ?_); refine sd_v 0 (by assumption) ?_)
  | ((with_reducible refine sd_is "_law_due" ?_); refine sd_v 1 (by assumption) ?_)
  | fail)
local macro_rules | `(tactic| wtm_at "q.gnm") => `(tactic| first
  | ((with_reducible refine gd_is "_law_given" ?_); refine gd_v 0 (by assumption) ?_)
  | ((with_reducible refine gd_is "_law_due" ?_); refine gd_v 1 (by assumption) ?_)
  | fail)
theorem is_ok (D : Hd K mg "_law_is" s_law_is p_law_is []) (B : Bi mg) : FcG P w K mg base (k + 1) "_law_is" F_is := by
  refine D.goG sc_law_is (fun W s xs Q h => ?_) (fun f cdv A outer s0 H0 E hg hr W s xs Q h => ?_)
  · obtain ⟨ds, rfl, _⟩ := h
    rfl
  obtain ⟨ds, rfl, h2, h3, h5, h6, q⟩ := h
  wtm_at "q.run"
  refine cd_repr hr hg h2 h3 h5 h6 ?_
  wtm_at "q.run"
  refine cd_repr hr hg h2 h3 h5 h6 ?_
  wtm_at "q.run"
  refine (od_isC .Eq ?_)
  refine od_eqT ?_
  wtm_at "q.run"
  exact q
end
end
end
section
/-! W41: _law_right. -/
theorem Oth.sz {t t' : Tm} (o : Oth t t') : t'.sz ≤ 3 * t.sz + 100 := by
  have h0 := sz_pos t
  have h4 : fsz 4 ≤ 40 := by decide
  cases o with
  | flat a => have := Fl.sz a; omega
  | fold a b e =>
    have hb : ∀ {body : Tm}, (body = t ∨ body = .name "r" ∨ body = .name "h") → body.sz ≤ t.sz := fun {body} b => by
      rcases b with rfl | rfl | rfl
      · exact Nat.le_refl _
      · simp only [Tm.sz]; omega
      · simp only [Tm.sz]; omega
    have := hb b
    rcases e with rfl | e
    · simp only [Tm.sz]; omega
    · have := Fl.sz e; simp only [Tm.sz]; omega
  | _ => simp only [Tm.sz]; omega
theorem Bnd.sz {r : Bool} {t t' : Tm} (b : Bnd r t t') : t'.sz ≤ 3 * t.sz + 100 := by
  induction b with
  | root o => exact o.sz
  | _ => simp only [Tm.sz]; omega
def szB : Nat → Nat | 0 => 120 | n + 1 => 3 * szB n + 100
theorem szB_le {n : Nat} (h : n ≤ 3) : szB n ≤ 15000 := by
  match n with
  | 0 => decide
  | 1 => decide
  | 2 => decide
  | 3 => decide
  | n + 4 => omega
theorem TopOk.nil : TopOk [] := by
  exact ⟨⟨⟨⟨by simp, by simp, by simp⟩, by simp, fun m _ _ p hp => by cases hp⟩, by simp⟩, by simp, by simp⟩
def nm5 : List Str := ["x", "y", "a", "z", "b"]
theorem nm5_wn : ∀ x ∈ nm5, ∀ m < 300, x ≠ wn m := by decide +kernel
theorem nm5_nm : ∀ x ∈ nm5, x ∈ nmL0 := by decide +kernel
theorem nm5_ok : ∀ x ∈ nm5, PyData.strOk x = true := by decide +kernel
theorem TopOk.put {Γ : Ctx} (h : TopOk Γ) {x : Str} {k : Kd} (hx : x ∈ nm5) (hk : K4 k) (hl : Γ.length < 10) : TopOk (Γ ++ [(x, k)]) := by
  have mem : ∀ {p : Str × Kd} {R : Str × Kd → Prop}, (∀ p ∈ Γ, R p) → R (x, k) → p ∈ Γ ++ [(x, k)] → R p := fun {p R} h1 h2 hp => by
    rcases List.mem_append.mp hp with hp | hp
    · exact h1 p hp
    · rw [List.mem_singleton.mp hp]; exact h2
  have dk := hk.dp
  refine ⟨⟨⟨h.ctx.g.ok.snoc (nm5_ok x hx) (by omega) (by omega), fun p hp => mem (R := fun p => Nm p.1) h.ctx.g.nm (List.mem_append_left _ (nm5_nm x hx)) hp, fun m hm h3 p hp => ?_⟩, fun p hp => mem (R := fun p => p.2.dp ≤ 4) h.ctx.deep dk hp⟩, fun p hp => mem (R := fun p => K4 p.2) h.k4 hk hp, by rw [List.length_append, List.length_singleton]; omega⟩
  rw [List.length_append, List.length_singleton] at hm
  exact mem (R := fun p => p.1 ≠ wn m) (h.ctx.g.fresh m (by omega) h3) (nm5_wn x hx m h3) hp
theorem TopOk.ctxP {Γ : Ctx} (h : TopOk Γ) : CtxP Γ := ⟨h.ctx.g.nm, fun p hp => by have := h.ctx.deep p hp; omega, by have := h.len; omega⟩
section
variable {P : Program} {w : World} {K : PySem.W.Frag} {mg : Str → Option Value} {base : Heap} {k : Nat}
def F_right : FT := fun W s xs Q => ∃ a : Addr, xs = [.o a] ∧ Cap W a ∧ Q s (.d (.bool true))
section
local macro_rules | `(tactic| wtm_at "q.nm") => `(tactic| first
  | ((with_reducible refine ed_is "_law_urn_here" ?_); refine ed_vi 0 ?_; wtm_at "q.slot")
  | ((with_reducible refine ed_is "_law_context" ?_); refine ed_vi 1 ?_; wtm_at "q.slot")
  | ((with_reducible refine ed_is "_law_turn" ?_); refine ed_vi 2 ?_; wtm_at "q.slot")
  | ((with_reducible refine ed_is "_law_wish" ?_); refine ed_vi 3 ?_; wtm_at "q.slot")
  | ((with_reducible refine ed_is "_law_term_here" ?_); refine ed_vi 4 ?_; wtm_at "q.slot")
  | ((with_reducible refine ed_is "_law_lap" ?_); refine ed_vi 5 ?_; wtm_at "q.slot")
  | ((with_reducible refine ed_is "_law_kind" ?_); refine ed_vi 6 ?_; wtm_at "q.slot")
  | ((with_reducible refine ed_is "_law_path" ?_); refine ed_vi 7 ?_; wtm_at "q.slot")
  | ((with_reducible refine ed_is "_law_due" ?_); refine ed_vi 8 ?_; wtm_at "q.slot")
  | fail)
local macro_rules | `(tactic| wtm_at "q.set") => `(tactic| first
  | ((with_reducible refine sd_is "_law_urn_here" ?_); refine sd_v 0 (by assumption) ?_)
  | ((with_reducible refine sd_is "_law_context" ?_); refine sd_v 1 (by assumption) ?_)
  | ((with_reducible refine sd_is "_law_turn" ?_); refine sd_v 2 (by assumption) ?_)
  | ((with_reducible refine sd_is "_law_wish" ?_); refine sd_v 3 (by assumption) ?_)
  | ((with_reducible refine sd_is "_law_term_here" ?_); refine sd_v 4 (by assumption) ?_)
  | ((with_reducible refine sd_is "_law_lap" ?_); refine sd_v 5 (by assumption) ?_)
  | ((with_reducible refine sd_is "_law_kind" ?_); refine sd_v 6 (by assumption) ?_)
  | ((with_reducible refine sd_is "_law_path" ?_); refine sd_v 7 (by assumption) ?_)
  | ((with_reducible refine sd_is "_law_due" ?_); refine sd_v 8 (by assumption) ?_)
  | fail)
local macro_rules | `(tactic| wtm_at "q.gnm") => `(tactic| first
  | ((with_reducible refine gd_is "_law_urn_here" ?_); refine gd_v 0 (by assumption) ?_)
  | ((with_reducible refine gd_is "_law_context" ?_); refine gd_v 1 (by assumption) ?_)
  | ((with_reducible refine gd_is "_law_turn" ?_); refine gd_v 2 (by assumption) ?_)
  | ((with_reducible refine gd_is "_law_wish" ?_); refine gd_v 3 (by assumption) ?_)
  | ((with_reducible refine gd_is "_law_term_here" ?_); refine gd_v 4 (by assumption) ?_)
  | ((with_reducible refine gd_is "_law_lap" ?_); refine gd_v 5 (by assumption) ?_)
  | ((with_reducible refine gd_is "_law_kind" ?_); refine gd_v 6 (by assumption) ?_)
  | ((with_reducible refine gd_is "_law_path" ?_); refine gd_v 7 (by assumption) ?_)
  | ((with_reducible refine gd_is "_law_due" ?_); refine gd_v 8 (by assumption) ?_)
  | fail)
theorem right_ok (D : Hd K mg "_law_right" s_law_right p_law_right []) (B : Bi mg) (CP : Fc P w K mg base k "_law_pull" [] F_pull) (CO : Fc P w K mg base k "_law_one" [] F_one) (CA : Fc P w K mg base k "_law_argument_kind" [] F_argKind) (CK : Fc P w K mg base k "_law_other_kind" [] F_otherKind)
    (CC : Fc P w K mg base k "_law_can" [] (F_can 20)) (CT : Fc P w K mg base k "_law_text" [] F_text) (CW : Fc P w K mg base k "_law_walk" [] (F_walk 24)) (CB : Fc P w K mg base k "_law_bent_term" [] (F_bent 20)) (KO : FcK P w K mg base k "kind_of" ["term", "context"] kwG kwV F_kof) (CL : Fc P w K mg base k "_law_told_kind" [] F_told) (CI : FcG P w K mg base k "_law_is" F_is) :
    FcG P w K mg base (k + 1) "_law_right" F_right := by
  refine D.goG sc_law_right (fun W s xs Q h => ?_) (fun f cdv A outer s0 H0 E hg hr W s xs Q h => ?_)
  · obtain ⟨a, rfl, _⟩ := h
    rfl
  obtain ⟨a, rfl, C, q⟩ := h
  have nd := sc_law_right.nd
  refine sds_own 1 nd rfl (.inl rfl) rfl (fun p np => ?_)
  have C2 := C.own (K := K) np
  refine sds_cons ?_
  refine sd_for (jd_range rfl B.range_ ?_)
  refine ed_fn CP hr ?_
  wtm_at "q.run"
  refine ⟨a, 6, rfl, C2, by decide, by decide, fun n hn0 hn => ?_⟩
  have inv0 : ∃ Γ : Ctx, TopOk Γ ∧ Γ.length = 0 ∧ W.mkS (cxOf CX0 P w K mg base n_law_right "_law_right" (defScope s_law_right) f cdv A outer s0 H0 E).nox.K p s [] = (s, Γ.map pairK) := ⟨[], TopOk.nil, rfl, rfl⟩
  refine ⟨n, rfl, by omega, by omega, fun i st δ' => (∃ Γ : Ctx, TopOk Γ ∧ Γ.length = i ∧ st = (s, Γ.map pairK)) ∧ ∃ v2, noX v2 = true ∧ δ' = [some (.o a), some (.o p), v2, none, none, none, none, none, none], ⟨inv0, none, rfl, rfl⟩, ?_, ?_⟩
  · rintro i d st δ' hd ⟨⟨Γ, hΓ, hl, hst⟩, v2, hv2, rfl⟩
    obtain ⟨hi, rfl⟩ : i < 6 ∧ d = .int (i : Int) := by
      unfold rangeD at hd
      obtain ⟨hl, hd⟩ := List.getElem?_eq_some_iff.mp hd
      have hl2 : i < n.toNat := by simpa using hl
      refine ⟨by omega, ?_⟩
      rw [← hd]
      simp
    refine gd_v 2 nd ?_
    refine sds_cons (sd_append np ?_)
    wtm_at "q.nm"
    refine ⟨rfl, ?_⟩
    refine ed_tup ?_
    refine ad_c ?_
    refine ed_fn CO hr ?_
    wtm_at "q.run"
    refine ⟨a, _, .inr rfl, C2, by simp, by simp, fun x hx => ?_⟩
    refine ad_c ?_
    refine ed_fn CA hr ?_
    wtm_at "q.run"
    refine ⟨C2, fun kk hk => ?_⟩
    obtain ⟨nx, rfl, hnx⟩ : ∃ nx : Str, x = .str nx ∧ nx ∈ nm5 := by
      simp only [List.mem_cons, List.not_mem_nil, or_false] at hx
      rcases hx with rfl | rfl | rfl | rfl | rfl
      · exact ⟨_, rfl, by decide +kernel⟩
      · exact ⟨_, rfl, by decide +kernel⟩
      · exact ⟨_, rfl, by decide +kernel⟩
      · exact ⟨_, rfl, by decide +kernel⟩
      · exact ⟨_, rfl, by decide +kernel⟩
    refine ad_nil ⟨_, rfl, sz_n (by show 2 ≤ 1000; omega), ?_⟩
    refine ⟨_, rfl, by show (true && (noL (kD kk) && true)) = true; rw [noL_kD]; rfl, ?_, ?_⟩
    · rw [hst]
      show (Γ.map pairK).length < 16000
      rw [List.length_map]
      omega
    · refine sds_nil ⟨⟨Γ ++ [(nx, kk)], hΓ.put hnx hk (by omega), by rw [List.length_append, List.length_singleton, hl], ?_⟩, _, rfl, rfl⟩
      rw [hst]
      show (s, Γ.map pairK ++ [pairK (nx, kk)]) = _
      rw [List.map_append]
      rfl
  · rintro st δ' ⟨⟨Γ, hΓ, hl, hst⟩, v2, hv2, rfl⟩
    refine sds_freeze 1 np rfl (by simp only [List.all_cons, List.all_nil, hv2]; rfl) ?_
    rw [hst]
    have hc : (PyData.list (s, Γ.map pairK).2) = ctxD Γ := rfl
    rw [hc]
    have q : ((∃ d, Sv.d (.bool true) = .d d ∧ noL d = true) ∧ noX (some (.d (.bool true))) = true ∧ Q s (.d (.bool true))) := ⟨⟨_, rfl, rfl⟩, rfl, q⟩
    have hlen := hΓ.len
    have hok := hΓ.ctx.g.ok
    refine sds_cons (sd_for (jd_range rfl B.range_ ?_))
    wtm_at "q.run"
    refine ⟨by decide, by decide, fun i st δ' => st = s ∧ ∃ v2 v3 v4 v5 v6 v7 v8, δ' = [some (.o a), some (.d (ctxD Γ)), v2, v3, v4, v5, v6, v7, v8], ⟨rfl, v2, none, none, none, none, none, none, rfl⟩, ?_, ?_⟩
    · rintro i d st δ' hd ⟨rfl, v2, v3, v4, v5, v6, v7, v8, rfl⟩
      refine gd_v 2 nd ?_
      wtm_at "q.run"
      refine ed_fn CK hr ?_
      wtm_at "q.run"
      refine ⟨a, Γ, rfl, C, hok, by omega, fun kk hcan hkk => ?_⟩
      have k4 := hΓ.kind hkk
      have kdp := k4.dp
      wtm_at "q.run"
      refine ed_fn CC hr ?_
      wtm_at "q.run"
      refine ⟨kk, Γ, rfl, by omega, by omega, hok.mono (by decide), by omega, ?_⟩
      rw [hcan]
      wtm_at "q.run"
      refine ed_fn CT hr ?_
      wtm_at "q.run"
      refine ed_fn CP hr ?_
      wtm_at "q.run"
      refine ⟨a, 10, rfl, C, by decide, by decide, fun m hm0 hm => ?_⟩
      wtm_at "q.run"
      refine ⟨a, kk, Γ, _, rfl, C, ⟨hΓ.ctx, kdp, hcan, by omega⟩, by omega, by omega, fun t hb hsz => ?_⟩
      have hK : Kept 0 Γ t kk := .first hb.g kdp (by have := hb.dp; omega)
      have hw := g0_walk hb.g rfl
      have hd0 := hb.dp
      have d4 : ∀ p ∈ Γ, p.2.dp ≤ 4 := hΓ.ctx.deep
      wtm_at "q.run"
      refine ed_fnG CI hr hg ?_
      wtm_at "q.run"
      refine ed_fn CW hr ?_
      wtm_at "q.run"
      refine ⟨t, Γ, rfl, ⟨by omega, hK.wf.nmOk, hok.mono (by decide), by omega, hK.low (by decide) kdp d4⟩, ?_⟩
      rw [hw]
      wtm_at "q.run"
      refine ed_kw2 KO hr (fun _ _ => rfl) ?_
      wtm_at "q.nm"
      (with_reducible refine ec_is "tuple" ?_); refine ed_ty (T := "tuple") (Bi.tuple_ (by assumption)) bt_tuple ?_
      refine ad_c ?_
      wtm_at "q.nm"
      refine ad_nil (cd_tuplePx ?_)
      refine ⟨Γ, t, kk, rfl, hΓ.ctxP, by omega, by omega, hK.wf, hK.low (by decide) kdp d4, hw, ?_⟩
      have htl : kk.tl ≤ 8000000 := Nat.le_trans (tl_le kdp) (by decide)
      obtain ⟨i1, i2, i3, i4⟩ := IsOk.kinds (k := kk) (by omega) htl
      wtm_at "q.run"
      refine ⟨i1, i2, i3, i4, ?_⟩
      wtm_at "q.run"
      refine sd_for (jd_range rfl B.range_ ?_)
      wtm_at "q.run"
      refine ⟨by decide, by decide, fun j st' δ' => st' = st ∧ ∃ (t : Tm) (v5 v6 v7 v8 : Option Sv), Kept j Γ t kk ∧ t.sz ≤ szB j ∧ δ' = [some (.o a), some (.d (ctxD Γ)), some (.d d), some (.d (kD kk)), some (.d (tD t)), v5, v6, v7, v8], ⟨rfl, t, v5, v6, v7, v8, hK, hsz, rfl⟩, ?_, ?_⟩
      · clear hK hw hb hsz hd0 t
        rintro j d2 st' δ' hd2 ⟨rfl, t, v5, v6, v7, v8, hK, hsz, rfl⟩
        obtain ⟨hj, rfl⟩ : j < 3 ∧ d2 = .int (j : Int) := by
          unfold rangeD at hd2
          obtain ⟨hl, hd2⟩ := List.getElem?_eq_some_iff.mp hd2
          have hl2 : j < 3 := by simpa using hl
          refine ⟨hl2, ?_⟩
          rw [← hd2]
          simp
        have hd0 := hK.dp
        refine gd_v 5 nd ?_
        wtm_at "q.run"
        refine ed_fn CB hr ?_
        wtm_at "q.run"
        refine ⟨a, t, Γ, rfl, C, hΓ, by omega, fun r t' hB => ?_⟩
        have hK' := hK.bent kdp hB
        have hsz' : t'.sz ≤ szB (j + 1) := by have := hB.sz; show _ ≤ 3 * szB j + 100; omega
        have hs5 := szB_le (n := j + 1) (by omega)
        have hd1 := hK'.dp
        have hlow := hK'.low (by omega) kdp d4
        wtm_at "q.run"
        refine ed_fn CW hr ?_
        wtm_at "q.run"
        refine ⟨t', Γ, rfl, ⟨by omega, hK'.wf.nmOk, hok.mono (by decide), by omega, hlow⟩, ?_⟩
        cases hw : walk Γ t' with
        | ok k2 =>
          obtain ⟨l1, l2⟩ := hK'.tl (by omega) kdp d4 hw
          obtain ⟨i1, i2, i3, i4⟩ := IsOk.kind l2 l1
          wtm_at "q.run"
          refine ed_fnG CI hr hg ?_
          refine ad_c ?_
          refine ed_fn CL hr ?_
          refine ad_c ?_
          (with_reducible refine ec_is "tuple" ?_); refine ed_ty (T := "tuple") (Bi.tuple_ (by assumption)) bt_tuple ?_
          refine ad_c ?_
          wtm_at "q.nm"
          refine ad_nil (cd_tuplePx ?_)
          refine ad_c ?_
          wtm_at "q.nm"
          refine ad_nil ⟨Γ, t', rfl, hΓ.ctxP, by omega, by omega, hK'.wf, hlow, ?_⟩
          rw [hw]
          refine ad_c ?_
          wtm_at "q.nm"
          refine ad_nil ⟨_, rfl, i1, i2, i3, i4, ?_⟩
          wtm_at "q.run"
          exact ⟨rfl, t', _, _, _, _, hK', hsz', rfl⟩
        | error q2 =>
          obtain ⟨i1, i2, i3, i4⟩ := IsOk.wrong (path_good t' Γ q2 hw) (by omega)
          wtm_at "q.run"
          refine ed_fnG CI hr hg ?_
          refine ad_c ?_
          refine ed_fn CL hr ?_
          refine ad_c ?_
          (with_reducible refine ec_is "tuple" ?_); refine ed_ty (T := "tuple") (Bi.tuple_ (by assumption)) bt_tuple ?_
          refine ad_c ?_
          wtm_at "q.nm"
          refine ad_nil (cd_tuplePx ?_)
          refine ad_c ?_
          wtm_at "q.nm"
          refine ad_nil ⟨Γ, t', rfl, hΓ.ctxP, by omega, by omega, hK'.wf, hlow, ?_⟩
          rw [hw]
          refine ad_c ?_
          wtm_at "q.nm"
          refine ad_nil ⟨_, rfl, i1, i2, i3, i4, ?_⟩
          wtm_at "q.run"
          exact ⟨rfl, t', _, _, _, _, hK', hsz', rfl⟩
      · rintro st2 δ2 ⟨rfl, t2, v5, v6, v7, v8, _, _, rfl⟩
        wtm_at "q.run"
        exact ⟨rfl, _, _, _, _, _, _, _, rfl⟩
    · rintro st2 δ2 ⟨rfl, v2, v3, v4, v5, v6, v7, v8, rfl⟩
      wtm_at "q.run"
      exact q
end
end
end
section
/-! W42: _law_urn, law. -/
section
variable {P : Program} {w : World} {K : PySem.W.Frag} {mg : Str → Option Value} {base : Heap} {k : Nat}
theorem cut_int {ns : List Int} {l u : Option Int} : ∀ d ∈ cutD (nsD ns) l u, ∃ c : Int, d = .int c := fun d hd => by
  unfold cutD at hd
  have h := List.mem_of_mem_drop (List.mem_of_mem_take hd)
  obtain ⟨c, _, rfl⟩ := List.mem_map.mp h
  exact ⟨c, rfl⟩
theorem cut_len {ns : List Int} {l u : Option Int} : (cutD (nsD ns) l u).length ≤ ns.length := by
  unfold cutD nsD
  rw [List.length_take, List.length_drop, List.length_map]
  omega
local macro_rules | `(tactic| wtm_at "q.e") => `(tactic| refine ed_lstU 0 rfl ?_)
section
local macro_rules | `(tactic| wtm_at "q.nm") => `(tactic| first
  | ((with_reducible refine ed_is "_law_script" ?_); refine ed_vi 0 ?_; wtm_at "q.slot")
  | ((with_reducible refine ed_is "_law_turn" ?_); refine ed_vi 1 ?_; wtm_at "q.slot")
  | ((with_reducible refine ed_is "_law_own" ?_); refine ed_vi 2 ?_; wtm_at "q.slot")
  | ((with_reducible refine ed_is "_law_seed" ?_); refine ed_vi 3 ?_; wtm_at "q.slot")
  | ((with_reducible refine ed_is "_law_cell" ?_); refine ed_vi 4 ?_; wtm_at "q.slot")
  | fail)
local macro_rules | `(tactic| wtm_at "q.set") => `(tactic| first
  | ((with_reducible refine sd_is "_law_script" ?_); refine sd_v 0 (by assumption) ?_)
  | ((with_reducible refine sd_is "_law_turn" ?_); refine sd_v 1 (by assumption) ?_)
  | ((with_reducible refine sd_is "_law_own" ?_); refine sd_v 2 (by assumption) ?_)
  | ((with_reducible refine sd_is "_law_seed" ?_); refine sd_v 3 (by assumption) ?_)
  | ((with_reducible refine sd_is "_law_cell" ?_); refine sd_v 4 (by assumption) ?_)
  | fail)
local macro_rules | `(tactic| wtm_at "q.gnm") => `(tactic| first
  | ((with_reducible refine gd_is "_law_script" ?_); refine gd_v 0 (by assumption) ?_)
  | ((with_reducible refine gd_is "_law_turn" ?_); refine gd_v 1 (by assumption) ?_)
  | ((with_reducible refine gd_is "_law_own" ?_); refine gd_v 2 (by assumption) ?_)
  | ((with_reducible refine gd_is "_law_seed" ?_); refine gd_v 3 (by assumption) ?_)
  | ((with_reducible refine gd_is "_law_cell" ?_); refine gd_v 4 (by assumption) ?_)
  | fail)
theorem urn_ok (D : Hd K mg "_law_urn" s_law_urn p_law_urn []) (B : Bi mg) : FcU P w K mg base (k + 1) "_law_urn" := by
  refine D.goU sc_law_urn rfl (fun f cdv A outer s0 H0 E hr D ns i W s hn h0 h9 => ?_)
  have nd := sc_law_urn.nd
  refine sds_cons (sd_v 2 nd (ed_imp (Q := fun s' y => s' = s ∧ ∃ o : Int, y = .d (.int o)) ?_ ?_))
  · wtm_at "q.run"
    refine cd_lenSc ?_
    wtm_at "q.run"
    refine br_dec (fun h => ?_) (fun h => ?_)
    · wtm_at "q.run"
      obtain ⟨j, rfl⟩ := Int.eq_ofNat_of_zero_le h0
      have hj : j < ns.length := by omega
      refine id_sc (d := .int ns[j]) ?_ ?_
      · refine atI_nat (j := j) ?_
        unfold nsD
        rw [List.getElem?_map, List.getElem?_eq_getElem hj]
        rfl
      wtm_at "q.run"
      exact ⟨rfl, _, rfl⟩
    · wtm_at "q.run"
      exact ⟨rfl, _, rfl⟩
  rintro st0 _ ⟨hst0, own, rfl⟩
  subst hst0
  wtm_at "q.run"
  refine od_mul (.inl ⟨by decide, by decide⟩) ?_
  wtm_at "q.run"
  refine sd_for (jd_list (ed_sliceSc (D := D) (ns := ns) ?_))
  wtm_at "q.nm"
  refine ⟨rfl, pd_none (pd_some ?_)⟩
  wtm_at "q.run"
  refine ⟨fun j st δ' => st = st0 ∧ ∃ (sd : Int) (v4 : Option Sv), 0 ≤ sd ∧ sd < 2147483563 ∧ δ' = [some (.x (scX D ns)), some (.d (.int i)), some (.d (.int own)), some (.d (.int sd)), v4], ⟨rfl, _, none, by omega, by omega, rfl⟩, ?_, ?_⟩
  · rintro j d st δ' hd ⟨rfl, sd, v4, h1, h2, rfl⟩
    obtain ⟨c, rfl⟩ := cut_int d (List.mem_of_getElem? hd)
    refine gd_v 4 nd ?_
    wtm_at "q.run"
    refine od_mul (.inr ⟨by decide, by decide⟩) ?_
    wtm_at "q.run"
    refine od_mod (by decide) ?_
    wtm_at "q.run"
    refine od_mod (by decide) ?_
    wtm_at "q.run"
    exact ⟨rfl, _, _, Int.emod_nonneg _ (by decide), Int.emod_lt_of_pos _ (by decide), rfl⟩
  · rintro st δ' ⟨rfl, sd, v4, h1, h2, rfl⟩
    wtm_at "q.run"
    refine od_mul (.inr ⟨by decide, by decide⟩) ?_
    wtm_at "q.run"
    refine od_mod (by decide) ?_
    wtm_at "q.run"
    refine od_mul (.inr ⟨by decide, by decide⟩) ?_
    wtm_at "q.run"
    refine od_mod (by decide) ?_
    refine sds_cons (sd_ret (ed_lstU (ns := ns) 0 rfl ?_))
    refine ad_c (ed_imp (Q := fun s' y => s' = st ∧ ∃ b : Int, 0 ≤ b ∧ y = .d (.int b)) ?_ ?_)
    · wtm_at "q.run"
      refine br_dec (fun h => ?_) (fun h => ?_)
      · wtm_at "q.run"
        refine cd_abs ?_
        exact ⟨rfl, _, by rw [if_pos h]; omega, rfl⟩
      wtm_at "q.run"
      refine (od_isB .Pow ?_)
      refine od_powW (by unfold CPowW; decide +kernel) ?_
      wtm_at "q.run"
      refine br_dec (fun h2 => ?_) (fun h2 => ?_)
      · wtm_at "q.run"
        refine cd_abs ?_
        exact ⟨rfl, _, by rw [if_neg h]; omega, rfl⟩
      · wtm_at "q.run"
        exact ⟨rfl, _, Int.le_refl _, rfl⟩
    rintro st1 _ ⟨hst1, b, hb, rfl⟩
    subst hst1
    wtm_at "q.run"
    refine ⟨b, _, 0, rfl, ⟨hb, Int.emod_nonneg _ (by decide), Int.emod_lt_of_pos _ (by decide)⟩, rfl⟩
end
section
local macro_rules | `(tactic| wtm_at "q.nm") => `(tactic| first
  | ((with_reducible refine ed_is "_law_script" ?_); refine ed_vi 0 ?_; wtm_at "q.slot")
  | ((with_reducible refine ed_is "_law_turn" ?_); refine ed_vi 1 ?_; wtm_at "q.slot")
  | fail)
local macro_rules | `(tactic| wtm_at "q.set") => `(tactic| first
  | ((with_reducible refine sd_is "_law_script" ?_); refine sd_v 0 (by assumption) ?_)
  | ((with_reducible refine sd_is "_law_turn" ?_); refine sd_v 1 (by assumption) ?_)
  | fail)
local macro_rules | `(tactic| wtm_at "q.gnm") => `(tactic| first
  | ((with_reducible refine gd_is "_law_script" ?_); refine gd_v 0 (by assumption) ?_)
  | ((with_reducible refine gd_is "_law_turn" ?_); refine gd_v 1 (by assumption) ?_)
  | fail)
theorem law_ok (D : Hd K mg "law" s_law p_law []) (B : Bi mg) (CU : FcU P w K mg base k "_law_urn") (CR : FcG P w K mg base k "_law_right" F_right) : ∃ f fd, FnG P w K mg base CX0 (k + 1) f fd p_law (spL K) ∧ mg "law" = some (.ref f) ∧ PySem.W.keepIn K (.ref f) = true ∧ L2.Binds K fd p_law [] := by
  refine D.goL sc_law rfl (fun f cdv A outer s0 H0 E hg hr ns W s hu hn => ?_)
  have nd := sc_law.nd
  refine sds_cons ?_
  refine sd_for (jd_range rfl B.range_ ?_)
  wtm_at "q.run"
  refine cd_lenSc ?_
  wtm_at "q.run"
  refine cd_min2 ?_
  wtm_at "q.run"
  refine cd_max2 ?_
  have hb : ∀ n : Int, 0 ≤ n → (if (if (3 : Int) < n then 3 else n) > 1 then (if (3 : Int) < n then 3 else n) else 1) ≤ 3 ∧ 1 ≤ (if (if (3 : Int) < n then 3 else n) > 1 then (if (3 : Int) < n then 3 else n) else 1) := fun n h => by split <;> split <;> omega
  obtain ⟨b1, b2⟩ := hb ns.length (by omega)
  generalize (if (if (3 : Int) < (ns.length : Int) then 3 else (ns.length : Int)) > 1 then (if (3 : Int) < (ns.length : Int) then 3 else (ns.length : Int)) else 1) = n at b1 b2 ⊢
  refine ⟨n, rfl, by omega, by omega, fun i st δ' => ∃ v1, δ' = [some (.x (scX (fun _ => none) ns)), v1], ⟨none, rfl⟩, ?_, ?_⟩
  · rintro i d st δ' hd ⟨v1, rfl⟩
    obtain ⟨hi, rfl⟩ : i < 3 ∧ d = .int (i : Int) := by
      unfold rangeD at hd
      obtain ⟨hl, hd⟩ := List.getElem?_eq_some_iff.mp hd
      have hl2 : i < n.toNat := by simpa using hl
      refine ⟨by omega, ?_⟩
      rw [← hd]
      simp
    refine gd_v 1 nd ?_
    wtm_at "q.run"
    refine ed_urn (D := fun _ => none) (ns := ns) CU CR hr hg hu ?_
    wtm_at "q.nm"
    refine ⟨rfl, ?_⟩
    wtm_at "q.nm"
    refine ⟨(i : Int), rfl, hn, by omega, by omega, fun W' s3 c Q' hc hq => ⟨c, rfl, hc, hq true ?_⟩⟩
    wtm_at "q.run"
    exact ⟨_, rfl⟩
  · rintro st δ' ⟨v1, rfl⟩
    wtm_at "q.run"
    rfl
end
end
end
section
/-! W43: the levels joined. -/
structure Fx (w : World) (K : PySem.W.Frag) (mg : Str → Option Value) : Prop where
  bi : Bi mg
  pull : Hd K mg "_law_pull" s_law_pull p_law_pull []
  one : Hd K mg "_law_one" s_law_one p_law_one []
  truth : Hd K mg "_law_truth" s_law_truth p_law_truth []
  deep : Hd K mg "_law_deep" s_law_deep p_law_deep []
  shape : Hd K mg "_law_shape" s_law_shape p_law_shape []
  seen : Hd K mg "_law_seen" s_law_seen p_law_seen []
  can : Hd K mg "_law_can" s_law_can p_law_can []
  made : Hd K mg "_law_made_kind" s_law_made_kind p_law_made_kind []
  walkc : Hd K mg "_law_walk_case" s_law_walk_case p_law_walk_case []
  walk : Hd K mg "_law_walk" s_law_walk p_law_walk []
  inner : Hd K mg "_law_inner" s_law_inner p_law_inner []
  sizes : Hd K mg "_law_sizes" s_law_sizes p_law_sizes []
  small : Hd K mg "_law_is_small" s_law_is_small p_law_is_small []
  free : Hd K mg "_law_free" s_law_free p_law_free []
  dk : Hd K mg "_law_data_kind" s_law_data_kind p_law_data_kind []
  ak : Hd K mg "_law_argument_kind" s_law_argument_kind p_law_argument_kind []
  named : Hd K mg "_law_named" s_law_named p_law_named []
  ok : Hd K mg "_law_other_kind" s_law_other_kind p_law_other_kind []
  bound : Hd K mg "_law_bound" s_law_bound p_law_bound []
  flat : Hd K mg "_law_flat" s_law_flat p_law_flat []
  fold : Hd K mg "_law_fold" s_law_fold p_law_fold []
  built : Hd K mg "_law_built" s_law_built p_law_built []
  round : Hd K mg "_law_roundabout" s_law_roundabout p_law_roundabout []
  term : Hd K mg "_law_term" s_law_term p_law_term []
  text : Hd K mg "_law_text" s_law_text p_law_text []
  other : Hd K mg "_law_other_part" s_law_other_part p_law_other_part []
  bent : Hd K mg "_law_bent_term" s_law_bent_term p_law_bent_term []
  whole : Hd K mg "is_whole" s_is_whole p_is_whole []
  variable_ : Hd K mg "is_variable" s_is_variable p_is_variable []
  isnm : Hd K mg "is_named" s_is_named p_is_named []
  kinded : Hd K mg "is_kinded" s_is_kinded p_is_kinded []
  kindedD : Hd K mg "is_kinded" s_is_kinded p_is_kinded [.int 100]
  element : Hd K mg "is_element" s_is_element p_is_element []
  wrong : Hd K mg "wrong_by" s_wrong_by p_wrong_by []
  wrongT : Hd K mg "wrong_in_term" s_wrong_in_term p_wrong_in_term []
  ctm : Hd K mg "check_term" s_check_term p_check_term []
  ccx : Hd K mg "check_context" s_check_context p_check_context []
  kinds : Hd K mg "kinds_by" s_kinds_by p_kinds_by []
  kby : Hd K mg "kind_by" s_kind_by p_kind_by []
  chk : Hd K mg "checked_kind" s_checked_kind p_checked_kind []
  kof : HdZ K mg "kind_of" s_kind_of p_kind_of
  told : Hd K mg "_law_told_kind" s_law_told_kind p_law_told_kind []
  is_ : Hd K mg "_law_is" s_law_is p_law_is []
  right : Hd K mg "_law_right" s_law_right p_law_right []
  urn : Hd K mg "_law_urn" s_law_urn p_law_urn []
  law : Hd K mg "law" s_law p_law []
  vars : Con K mg "VARS" (.tuple (varsL.map .str))
  msigns : Con K mg "MOST_SIGNS" (.int 8)
  words : Con K mg "WORDS" (.tuple (wordsL.map .str))
  letters : Con K mg "LETTERS" (.str lettersS)
  figures : Con K mg "FIGURES" (.str figuresS)
  signs : Con K mg "SIGNS" (.tuple (signL.map .str))
  mdeep : Con K mg "MOST_DEEP" (.int 100)
  mkdeep : Con K mg "MOST_KIND_DEEP" (.int 100)
  mnames : Con K mg "MOST_NAMES" (.int 40)
  subs : Hd K mg "subterms" s_subterms p_subterms []
  tks : Tab K w mg "KIND_SIZES" kindTab
  tsh : Tab K w mg "SHAPES" shapeTab
theorem law_all {P : Program} {w : World} {K : PySem.W.Frag} {mg : Str → Option Value} {base : Heap} {C C2 : Addr} (X : Fx w K mg) (R : Kdr P w K mg base C) (T : WtK P w K mg base "WrongTerm" "place" C2) :
    ∃ f fd, FnG P w K mg base CX0 166 f fd p_law (spL K) ∧ mg "law" = some (.ref f) ∧ PySem.W.keepIn K (.ref f) = true ∧ L2.Binds K fd p_law [] := by
  have B := X.bi
  have CP : ∀ k, Fc P w K mg base (k + 1) "_law_pull" [] F_pull := fun k => pull_ok X.pull B
  have CO : ∀ k, Fc P w K mg base (k + 2) "_law_one" [] F_one := fun k => one_ok X.one B (CP k)
  have Ctr : ∀ k, Fc P w K mg base (k + 1) "_law_truth" [] F_truth := fun k => truth_ok X.truth
  have CS : ∀ k, Fc P w K mg base (k + 1) "_law_seen" [] F_seen := fun k => seen_ok X.seen
  have CH : ∀ k, Fc P w K mg base (k + 1) "_law_shape" [] F_shape := fun k => shape_ok X.shape
  have CM : ∀ k, Fc P w K mg base (k + 2) "_law_made_kind" [] F_made := fun k => made_ok X.made Ctr
  have CC := can_ok (P := P) (w := w) (base := base) X.can B CS 20
  have w24 := walk_ok (P := P) (w := w) (base := base) X.walk X.walkc B CS CH CM 24
  have CI : ∀ k, Fc P w K mg base (k + 2) "_law_inner" [] F_inner := fun k => inner_ok X.inner B (CH k)
  have d60 := deep_ok (P := P) (w := w) (base := base) X.deep B 60
  have small := small_ok X.small (sizes_ok X.sizes B CH CI d60 100)
  have free := free_ok (P := P) (w := w) (base := base) X.free CI 12
  have ak := argKind_ok X.ak (CP 4) (CO 3) (Ctr 4) (dataKind_ok X.dk CP CO Ctr 2)
  have ok := otherKind_ok X.ok (CP 21) (CO 20) (Ctr 21) CC
  have bound := bound_ok X.bound B ((named_ok X.named (CO 0)).mono (by omega)) CC
  have flat := flat_ok X.flat B CP CO CS CC 4
  have term := term_ok X.term X.round X.fold X.built B CP CO CS Ctr CC ok bound flat 15
  have text := text_ok X.text B (term.mono (by omega)) small (free.mono (by omega)) (flat.mono (by omega))
  have other := other_ok X.other (CP 26) (CO 25) (ok.mono (by omega)) flat
  have bent := bent_ok X.bent B CP CO CH other 20
  have CV : ∀ k, Fc P w K mg base (k + 1) "is_variable" [] F_var := fun k => variable_ok X.variable_ B X.vars
  have isnm : ∀ k, Fc P w K mg base (k + 1) "is_named" [] F_isnm := fun k => isnm_ok X.isnm B X.msigns X.words X.letters X.figures
  have k60 := kinded_ok X.kinded B X.tks CV 60
  have kD60 := kindedD_ok X.kinded X.kindedD B X.tks CV 60
  have el := element_ok X.element B X.signs (isnm 61) k60 (whole_ok X.whole B)
  have ctm := ctm_ok X.ctm (wrongT_ok X.wrongT X.mdeep X.mkdeep (wrong_ok X.wrong B X.tsh (el.mono (by omega)) 50))
  have ccx := ccx_ok X.ccx B X.mnames (isnm 62) kD60
  have kby := kby_ok X.kby (kinds_ok X.kinds B R)
  have chk := chk_ok X.chk kby
  have chkR := chkR_ok (k := 155) X.chk kby T
  have kof := kof_ok X.kof.hd B (ccx.mono (by omega : _ ≤ 158)) (ctm.mono (by omega)) chk
  have kofR := kofR_ok X.kof.hd B (ccx.mono (by omega : _ ≤ 158)) (ctm.mono (by omega)) chkR
  have kofK := kofK_ok X.kof B (ccx.mono (by omega : _ ≤ 158)) (ctm.mono (by omega)) chk
  have told := told_ok X.told kof kofR T
  have right := right_ok X.right B (CP 163) (CO 162) (ak.mono (by omega)) (ok.mono (by omega)) (CC.mono (by omega)) text (w24.mono (by omega)) (bent.mono (by omega)) (kofK.mono (by omega)) (told.mono (by omega)) (is_ok (k := 163) X.is_ B)
  exact law_ok X.law B (urn_ok (k := 164) X.urn B) right
end
end Kq
/-! K38: all that is looked at (printed by gen38.py). -/
namespace Kq
open PySem PySem.Spec PyProof.Rows L2
section
variable {w : World} {K : PySem.W.Frag} {h : Heap} {mg : Str → Option Value} {base : Heap}
theorem SaysK.all (c : SaysK w K) : boolK K = true := congrArg (fun z : AlK => z.1) c
theorem SaysK.fact (c : SaysK w K) (i : Nat) {f : He.Fa} (hf : faL[i]? = some f := by rfl) : f.ok K = true := List.all_eq_true.mp (He.ba c.all).1 f (List.mem_of_getElem? hf)
theorem SaysK.def_ (c : SaysK w K) (i : Nat) {d : He.DefD} (hd : fnL[i]? = some d := by rfl) : ∃ fd, FunD K d.name d.qual d.params d.body d.scope (d.dvs K) (d.kws K) (He.fAd K d.at_) fd := by
  have c2 := (He.ba (He.ba c.all).2).1
  have e : (fnL.map fun d => He.fnW K d.at_) = fnL.map He.DefD.val := congrArg (fun z : AlK => z.2.1) c
  have e2 : (fnL.map fun d => He.fnW K d.at_)[i]? = (fnL.map He.DefD.val)[i]? := by rw [e]
  rw [List.getElem?_map, List.getElem?_map, hd] at e2
  exact He.DefD.funD (Option.some.inj e2) (List.all_eq_true.mp c2 d (List.mem_of_getElem? hd))
theorem SaysK.con (c : SaysK w K) (X : K.In h) (G : h.Ns mainGlobals mg) (i : Nat) {x : Str} {d : PyData} (hi : coL[i]? = some (x, d) := by rfl) : Con K mg x d :=
  conB_ok X G (List.all_eq_true.mp (He.ba (He.ba (He.ba c.all).2).2).1 (x, d) (List.mem_of_getElem? hi))
theorem SaysK.kp (c : SaysK w K) (i : Nat) {d : He.DefD} (hd : fnL[i]? = some d := by rfl) : PySem.W.keepIn K (.ref (He.fAd K d.at_)) = true := by
  have c2 := (He.ba (He.ba c.all).2).1
  exact (He.ba (List.all_eq_true.mp c2 d (List.mem_of_getElem? hd))).1
theorem SaysK.rest (c : SaysK w K) : tabB K (He.ga K "KIND_SIZES") kindTab = true ∧ tabB K (He.ga K "SHAPES") shapeTab = true ∧ wtB K = true := by
  obtain ⟨a, b⟩ := He.ba (He.ba (He.ba (He.ba c.all).2).2).2
  obtain ⟨b, c⟩ := He.ba b
  exact ⟨a, b, c⟩
theorem h_pull (c : SaysK w K) (X : K.In h) (G : h.Ns mainGlobals mg) : Hd K mg "_law_pull" s_law_pull p_law_pull [] := by
  obtain ⟨fd, F⟩ := c.def_ 0 (d := d_0) rfl
  have F : FunD K "_law_pull" "_law_pull" (defArgs s_law_pull) (defBody s_law_pull) (defScope s_law_pull) [] [] _ fd := F
  exact ⟨_, fd, _, [], [], F, He.glo_ok X G (c.fact 0 (f := .glo "_law_pull") rfl), c.kp 0 (d := d_0) rfl, FunD.bindsN (ps := p_law_pull) F fun _ _ _ _ _ _ us hl => match us, hl with | [_, _], _ => rfl, .nil, fun _ _ => .nil⟩
theorem h_one (c : SaysK w K) (X : K.In h) (G : h.Ns mainGlobals mg) : Hd K mg "_law_one" s_law_one p_law_one [] := by
  obtain ⟨fd, F⟩ := c.def_ 1 (d := d_1) rfl
  have F : FunD K "_law_one" "_law_one" (defArgs s_law_one) (defBody s_law_one) (defScope s_law_one) [] [] _ fd := F
  exact ⟨_, fd, _, [], [], F, He.glo_ok X G (c.fact 1 (f := .glo "_law_one") rfl), c.kp 1 (d := d_1) rfl, FunD.bindsN (ps := p_law_one) F fun _ _ _ _ _ _ us hl => match us, hl with | [_, _], _ => rfl, .nil, fun _ _ => .nil⟩
theorem h_truth (c : SaysK w K) (X : K.In h) (G : h.Ns mainGlobals mg) : Hd K mg "_law_truth" s_law_truth p_law_truth [] := by
  obtain ⟨fd, F⟩ := c.def_ 2 (d := d_2) rfl
  have F : FunD K "_law_truth" "_law_truth" (defArgs s_law_truth) (defBody s_law_truth) (defScope s_law_truth) [] [] _ fd := F
  exact ⟨_, fd, _, [], [], F, He.glo_ok X G (c.fact 2 (f := .glo "_law_truth") rfl), c.kp 2 (d := d_2) rfl, FunD.bindsN (ps := p_law_truth) F fun _ _ _ _ _ _ us hl => match us, hl with | [], _ => rfl, .nil, fun _ _ => .nil⟩
theorem h_deep (c : SaysK w K) (X : K.In h) (G : h.Ns mainGlobals mg) : Hd K mg "_law_deep" s_law_deep p_law_deep [] := by
  obtain ⟨fd, F⟩ := c.def_ 3 (d := d_3) rfl
  have F : FunD K "_law_deep" "_law_deep" (defArgs s_law_deep) (defBody s_law_deep) (defScope s_law_deep) [] [] _ fd := F
  exact ⟨_, fd, _, [], [], F, He.glo_ok X G (c.fact 3 (f := .glo "_law_deep") rfl), c.kp 3 (d := d_3) rfl, FunD.bindsN (ps := p_law_deep) F fun _ _ _ _ _ _ us hl => match us, hl with | [_], _ => rfl, .nil, fun _ _ => .nil⟩
theorem h_shape (c : SaysK w K) (X : K.In h) (G : h.Ns mainGlobals mg) : Hd K mg "_law_shape" s_law_shape p_law_shape [] := by
  obtain ⟨fd, F⟩ := c.def_ 4 (d := d_4) rfl
  have F : FunD K "_law_shape" "_law_shape" (defArgs s_law_shape) (defBody s_law_shape) (defScope s_law_shape) [] [] _ fd := F
  exact ⟨_, fd, _, [], [], F, He.glo_ok X G (c.fact 4 (f := .glo "_law_shape") rfl), c.kp 4 (d := d_4) rfl, FunD.bindsN (ps := p_law_shape) F fun _ _ _ _ _ _ us hl => match us, hl with | [_], _ => rfl, .nil, fun _ _ => .nil⟩
theorem h_seen (c : SaysK w K) (X : K.In h) (G : h.Ns mainGlobals mg) : Hd K mg "_law_seen" s_law_seen p_law_seen [] := by
  obtain ⟨fd, F⟩ := c.def_ 5 (d := d_5) rfl
  have F : FunD K "_law_seen" "_law_seen" (defArgs s_law_seen) (defBody s_law_seen) (defScope s_law_seen) [] [] _ fd := F
  exact ⟨_, fd, _, [], [], F, He.glo_ok X G (c.fact 5 (f := .glo "_law_seen") rfl), c.kp 5 (d := d_5) rfl, FunD.bindsN (ps := p_law_seen) F fun _ _ _ _ _ _ us hl => match us, hl with | [_, _], _ => rfl, .nil, fun _ _ => .nil⟩
theorem h_can (c : SaysK w K) (X : K.In h) (G : h.Ns mainGlobals mg) : Hd K mg "_law_can" s_law_can p_law_can [] := by
  obtain ⟨fd, F⟩ := c.def_ 6 (d := d_6) rfl
  have F : FunD K "_law_can" "_law_can" (defArgs s_law_can) (defBody s_law_can) (defScope s_law_can) [] [] _ fd := F
  exact ⟨_, fd, _, [], [], F, He.glo_ok X G (c.fact 6 (f := .glo "_law_can") rfl), c.kp 6 (d := d_6) rfl, FunD.bindsN (ps := p_law_can) F fun _ _ _ _ _ _ us hl => match us, hl with | [_, _], _ => rfl, .nil, fun _ _ => .nil⟩
theorem h_made (c : SaysK w K) (X : K.In h) (G : h.Ns mainGlobals mg) : Hd K mg "_law_made_kind" s_law_made_kind p_law_made_kind [] := by
  obtain ⟨fd, F⟩ := c.def_ 7 (d := d_7) rfl
  have F : FunD K "_law_made_kind" "_law_made_kind" (defArgs s_law_made_kind) (defBody s_law_made_kind) (defScope s_law_made_kind) [] [] _ fd := F
  exact ⟨_, fd, _, [], [], F, He.glo_ok X G (c.fact 7 (f := .glo "_law_made_kind") rfl), c.kp 7 (d := d_7) rfl, FunD.bindsN (ps := p_law_made_kind) F fun _ _ _ _ _ _ us hl => match us, hl with | [_, _], _ => rfl, .nil, fun _ _ => .nil⟩
theorem h_walkc (c : SaysK w K) (X : K.In h) (G : h.Ns mainGlobals mg) : Hd K mg "_law_walk_case" s_law_walk_case p_law_walk_case [] := by
  obtain ⟨fd, F⟩ := c.def_ 8 (d := d_8) rfl
  have F : FunD K "_law_walk_case" "_law_walk_case" (defArgs s_law_walk_case) (defBody s_law_walk_case) (defScope s_law_walk_case) [] [] _ fd := F
  exact ⟨_, fd, _, [], [], F, He.glo_ok X G (c.fact 8 (f := .glo "_law_walk_case") rfl), c.kp 8 (d := d_8) rfl, FunD.bindsN (ps := p_law_walk_case) F fun _ _ _ _ _ _ us hl => match us, hl with | [_, _], _ => rfl, .nil, fun _ _ => .nil⟩
theorem h_walk (c : SaysK w K) (X : K.In h) (G : h.Ns mainGlobals mg) : Hd K mg "_law_walk" s_law_walk p_law_walk [] := by
  obtain ⟨fd, F⟩ := c.def_ 9 (d := d_9) rfl
  have F : FunD K "_law_walk" "_law_walk" (defArgs s_law_walk) (defBody s_law_walk) (defScope s_law_walk) [] [] _ fd := F
  exact ⟨_, fd, _, [], [], F, He.glo_ok X G (c.fact 9 (f := .glo "_law_walk") rfl), c.kp 9 (d := d_9) rfl, FunD.bindsN (ps := p_law_walk) F fun _ _ _ _ _ _ us hl => match us, hl with | [_, _], _ => rfl, .nil, fun _ _ => .nil⟩
theorem h_inner (c : SaysK w K) (X : K.In h) (G : h.Ns mainGlobals mg) : Hd K mg "_law_inner" s_law_inner p_law_inner [] := by
  obtain ⟨fd, F⟩ := c.def_ 10 (d := d_10) rfl
  have F : FunD K "_law_inner" "_law_inner" (defArgs s_law_inner) (defBody s_law_inner) (defScope s_law_inner) [] [] _ fd := F
  exact ⟨_, fd, _, [], [], F, He.glo_ok X G (c.fact 10 (f := .glo "_law_inner") rfl), c.kp 10 (d := d_10) rfl, FunD.bindsN (ps := p_law_inner) F fun _ _ _ _ _ _ us hl => match us, hl with | [_], _ => rfl, .nil, fun _ _ => .nil⟩
theorem h_sizes (c : SaysK w K) (X : K.In h) (G : h.Ns mainGlobals mg) : Hd K mg "_law_sizes" s_law_sizes p_law_sizes [] := by
  obtain ⟨fd, F⟩ := c.def_ 11 (d := d_11) rfl
  have F : FunD K "_law_sizes" "_law_sizes" (defArgs s_law_sizes) (defBody s_law_sizes) (defScope s_law_sizes) [] [] _ fd := F
  exact ⟨_, fd, _, [], [], F, He.glo_ok X G (c.fact 11 (f := .glo "_law_sizes") rfl), c.kp 11 (d := d_11) rfl, FunD.bindsN (ps := p_law_sizes) F fun _ _ _ _ _ _ us hl => match us, hl with | [_], _ => rfl, .nil, fun _ _ => .nil⟩
theorem h_small (c : SaysK w K) (X : K.In h) (G : h.Ns mainGlobals mg) : Hd K mg "_law_is_small" s_law_is_small p_law_is_small [] := by
  obtain ⟨fd, F⟩ := c.def_ 12 (d := d_12) rfl
  have F : FunD K "_law_is_small" "_law_is_small" (defArgs s_law_is_small) (defBody s_law_is_small) (defScope s_law_is_small) [] [] _ fd := F
  exact ⟨_, fd, _, [], [], F, He.glo_ok X G (c.fact 12 (f := .glo "_law_is_small") rfl), c.kp 12 (d := d_12) rfl, FunD.bindsN (ps := p_law_is_small) F fun _ _ _ _ _ _ us hl => match us, hl with | [_, _], _ => rfl, .nil, fun _ _ => .nil⟩
theorem h_free (c : SaysK w K) (X : K.In h) (G : h.Ns mainGlobals mg) : Hd K mg "_law_free" s_law_free p_law_free [] := by
  obtain ⟨fd, F⟩ := c.def_ 13 (d := d_13) rfl
  have F : FunD K "_law_free" "_law_free" (defArgs s_law_free) (defBody s_law_free) (defScope s_law_free) [] [] _ fd := F
  exact ⟨_, fd, _, [], [], F, He.glo_ok X G (c.fact 13 (f := .glo "_law_free") rfl), c.kp 13 (d := d_13) rfl, FunD.bindsN (ps := p_law_free) F fun _ _ _ _ _ _ us hl => match us, hl with | [_], _ => rfl, .nil, fun _ _ => .nil⟩
theorem h_dk (c : SaysK w K) (X : K.In h) (G : h.Ns mainGlobals mg) : Hd K mg "_law_data_kind" s_law_data_kind p_law_data_kind [] := by
  obtain ⟨fd, F⟩ := c.def_ 14 (d := d_14) rfl
  have F : FunD K "_law_data_kind" "_law_data_kind" (defArgs s_law_data_kind) (defBody s_law_data_kind) (defScope s_law_data_kind) [] [] _ fd := F
  exact ⟨_, fd, _, [], [], F, He.glo_ok X G (c.fact 14 (f := .glo "_law_data_kind") rfl), c.kp 14 (d := d_14) rfl, FunD.bindsN (ps := p_law_data_kind) F fun _ _ _ _ _ _ us hl => match us, hl with | [_, _], _ => rfl, .nil, fun _ _ => .nil⟩
theorem h_ak (c : SaysK w K) (X : K.In h) (G : h.Ns mainGlobals mg) : Hd K mg "_law_argument_kind" s_law_argument_kind p_law_argument_kind [] := by
  obtain ⟨fd, F⟩ := c.def_ 15 (d := d_15) rfl
  have F : FunD K "_law_argument_kind" "_law_argument_kind" (defArgs s_law_argument_kind) (defBody s_law_argument_kind) (defScope s_law_argument_kind) [] [] _ fd := F
  exact ⟨_, fd, _, [], [], F, He.glo_ok X G (c.fact 15 (f := .glo "_law_argument_kind") rfl), c.kp 15 (d := d_15) rfl, FunD.bindsN (ps := p_law_argument_kind) F fun _ _ _ _ _ _ us hl => match us, hl with | [_, _], _ => rfl, .nil, fun _ _ => .nil⟩
theorem h_named (c : SaysK w K) (X : K.In h) (G : h.Ns mainGlobals mg) : Hd K mg "_law_named" s_law_named p_law_named [] := by
  obtain ⟨fd, F⟩ := c.def_ 16 (d := d_16) rfl
  have F : FunD K "_law_named" "_law_named" (defArgs s_law_named) (defBody s_law_named) (defScope s_law_named) [] [] _ fd := F
  exact ⟨_, fd, _, [], [], F, He.glo_ok X G (c.fact 16 (f := .glo "_law_named") rfl), c.kp 16 (d := d_16) rfl, FunD.bindsN (ps := p_law_named) F fun _ _ _ _ _ _ us hl => match us, hl with | [_], _ => rfl, .nil, fun _ _ => .nil⟩
theorem h_ok (c : SaysK w K) (X : K.In h) (G : h.Ns mainGlobals mg) : Hd K mg "_law_other_kind" s_law_other_kind p_law_other_kind [] := by
  obtain ⟨fd, F⟩ := c.def_ 17 (d := d_17) rfl
  have F : FunD K "_law_other_kind" "_law_other_kind" (defArgs s_law_other_kind) (defBody s_law_other_kind) (defScope s_law_other_kind) [] [] _ fd := F
  exact ⟨_, fd, _, [], [], F, He.glo_ok X G (c.fact 17 (f := .glo "_law_other_kind") rfl), c.kp 17 (d := d_17) rfl, FunD.bindsN (ps := p_law_other_kind) F fun _ _ _ _ _ _ us hl => match us, hl with | [_, _], _ => rfl, .nil, fun _ _ => .nil⟩
theorem h_bound (c : SaysK w K) (X : K.In h) (G : h.Ns mainGlobals mg) : Hd K mg "_law_bound" s_law_bound p_law_bound [] := by
  obtain ⟨fd, F⟩ := c.def_ 18 (d := d_18) rfl
  have F : FunD K "_law_bound" "_law_bound" (defArgs s_law_bound) (defBody s_law_bound) (defScope s_law_bound) [] [] _ fd := F
  exact ⟨_, fd, _, [], [], F, He.glo_ok X G (c.fact 18 (f := .glo "_law_bound") rfl), c.kp 18 (d := d_18) rfl, FunD.bindsN (ps := p_law_bound) F fun _ _ _ _ _ _ us hl => match us, hl with | [_, _, _, _], _ => rfl, .nil, fun _ _ => .nil⟩
theorem h_flat (c : SaysK w K) (X : K.In h) (G : h.Ns mainGlobals mg) : Hd K mg "_law_flat" s_law_flat p_law_flat [] := by
  obtain ⟨fd, F⟩ := c.def_ 19 (d := d_19) rfl
  have F : FunD K "_law_flat" "_law_flat" (defArgs s_law_flat) (defBody s_law_flat) (defScope s_law_flat) [] [] _ fd := F
  exact ⟨_, fd, _, [], [], F, He.glo_ok X G (c.fact 19 (f := .glo "_law_flat") rfl), c.kp 19 (d := d_19) rfl, FunD.bindsN (ps := p_law_flat) F fun _ _ _ _ _ _ us hl => match us, hl with | [_, _, _], _ => rfl, .nil, fun _ _ => .nil⟩
theorem h_fold (c : SaysK w K) (X : K.In h) (G : h.Ns mainGlobals mg) : Hd K mg "_law_fold" s_law_fold p_law_fold [] := by
  obtain ⟨fd, F⟩ := c.def_ 20 (d := d_20) rfl
  have F : FunD K "_law_fold" "_law_fold" (defArgs s_law_fold) (defBody s_law_fold) (defScope s_law_fold) [] [] _ fd := F
  exact ⟨_, fd, _, [], [], F, He.glo_ok X G (c.fact 20 (f := .glo "_law_fold") rfl), c.kp 20 (d := d_20) rfl, FunD.bindsN (ps := p_law_fold) F fun _ _ _ _ _ _ us hl => match us, hl with | [_, _, _, _], _ => rfl, .nil, fun _ _ => .nil⟩
theorem h_built (c : SaysK w K) (X : K.In h) (G : h.Ns mainGlobals mg) : Hd K mg "_law_built" s_law_built p_law_built [] := by
  obtain ⟨fd, F⟩ := c.def_ 21 (d := d_21) rfl
  have F : FunD K "_law_built" "_law_built" (defArgs s_law_built) (defBody s_law_built) (defScope s_law_built) [] [] _ fd := F
  exact ⟨_, fd, _, [], [], F, He.glo_ok X G (c.fact 21 (f := .glo "_law_built") rfl), c.kp 21 (d := d_21) rfl, FunD.bindsN (ps := p_law_built) F fun _ _ _ _ _ _ us hl => match us, hl with | [_, _, _, _], _ => rfl, .nil, fun _ _ => .nil⟩
theorem h_round (c : SaysK w K) (X : K.In h) (G : h.Ns mainGlobals mg) : Hd K mg "_law_roundabout" s_law_roundabout p_law_roundabout [] := by
  obtain ⟨fd, F⟩ := c.def_ 22 (d := d_22) rfl
  have F : FunD K "_law_roundabout" "_law_roundabout" (defArgs s_law_roundabout) (defBody s_law_roundabout) (defScope s_law_roundabout) [] [] _ fd := F
  exact ⟨_, fd, _, [], [], F, He.glo_ok X G (c.fact 22 (f := .glo "_law_roundabout") rfl), c.kp 22 (d := d_22) rfl, FunD.bindsN (ps := p_law_roundabout) F fun _ _ _ _ _ _ us hl => match us, hl with | [_, _, _, _, _], _ => rfl, .nil, fun _ _ => .nil⟩
theorem h_term (c : SaysK w K) (X : K.In h) (G : h.Ns mainGlobals mg) : Hd K mg "_law_term" s_law_term p_law_term [] := by
  obtain ⟨fd, F⟩ := c.def_ 23 (d := d_23) rfl
  have F : FunD K "_law_term" "_law_term" (defArgs s_law_term) (defBody s_law_term) (defScope s_law_term) [] [] _ fd := F
  exact ⟨_, fd, _, [], [], F, He.glo_ok X G (c.fact 23 (f := .glo "_law_term") rfl), c.kp 23 (d := d_23) rfl, FunD.bindsN (ps := p_law_term) F fun _ _ _ _ _ _ us hl => match us, hl with | [_, _, _, _], _ => rfl, .nil, fun _ _ => .nil⟩
theorem h_text (c : SaysK w K) (X : K.In h) (G : h.Ns mainGlobals mg) : Hd K mg "_law_text" s_law_text p_law_text [] := by
  obtain ⟨fd, F⟩ := c.def_ 24 (d := d_24) rfl
  have F : FunD K "_law_text" "_law_text" (defArgs s_law_text) (defBody s_law_text) (defScope s_law_text) [] [] _ fd := F
  exact ⟨_, fd, _, [], [], F, He.glo_ok X G (c.fact 24 (f := .glo "_law_text") rfl), c.kp 24 (d := d_24) rfl, FunD.bindsN (ps := p_law_text) F fun _ _ _ _ _ _ us hl => match us, hl with | [_, _, _, _], _ => rfl, .nil, fun _ _ => .nil⟩
theorem h_other (c : SaysK w K) (X : K.In h) (G : h.Ns mainGlobals mg) : Hd K mg "_law_other_part" s_law_other_part p_law_other_part [] := by
  obtain ⟨fd, F⟩ := c.def_ 25 (d := d_25) rfl
  have F : FunD K "_law_other_part" "_law_other_part" (defArgs s_law_other_part) (defBody s_law_other_part) (defScope s_law_other_part) [] [] _ fd := F
  exact ⟨_, fd, _, [], [], F, He.glo_ok X G (c.fact 25 (f := .glo "_law_other_part") rfl), c.kp 25 (d := d_25) rfl, FunD.bindsN (ps := p_law_other_part) F fun _ _ _ _ _ _ us hl => match us, hl with | [_, _, _], _ => rfl, .nil, fun _ _ => .nil⟩
theorem h_bent (c : SaysK w K) (X : K.In h) (G : h.Ns mainGlobals mg) : Hd K mg "_law_bent_term" s_law_bent_term p_law_bent_term [] := by
  obtain ⟨fd, F⟩ := c.def_ 26 (d := d_26) rfl
  have F : FunD K "_law_bent_term" "_law_bent_term" (defArgs s_law_bent_term) (defBody s_law_bent_term) (defScope s_law_bent_term) [] [] _ fd := F
  exact ⟨_, fd, _, [], [], F, He.glo_ok X G (c.fact 26 (f := .glo "_law_bent_term") rfl), c.kp 26 (d := d_26) rfl, FunD.bindsN (ps := p_law_bent_term) F fun _ _ _ _ _ _ us hl => match us, hl with | [_, _, _], _ => rfl, .nil, fun _ _ => .nil⟩
theorem h_whole (c : SaysK w K) (X : K.In h) (G : h.Ns mainGlobals mg) : Hd K mg "is_whole" s_is_whole p_is_whole [] := by
  obtain ⟨fd, F⟩ := c.def_ 27 (d := d_27) rfl
  have F : FunD K "is_whole" "is_whole" (defArgs s_is_whole) (defBody s_is_whole) (defScope s_is_whole) [] [] _ fd := F
  exact ⟨_, fd, _, [], [], F, He.glo_ok X G (c.fact 27 (f := .glo "is_whole") rfl), c.kp 27 (d := d_27) rfl, FunD.bindsN (ps := p_is_whole) F fun _ _ _ _ _ _ us hl => match us, hl with | [_], _ => rfl, .nil, fun _ _ => .nil⟩
theorem h_variable_ (c : SaysK w K) (X : K.In h) (G : h.Ns mainGlobals mg) : Hd K mg "is_variable" s_is_variable p_is_variable [] := by
  obtain ⟨fd, F⟩ := c.def_ 28 (d := d_28) rfl
  have F : FunD K "is_variable" "is_variable" (defArgs s_is_variable) (defBody s_is_variable) (defScope s_is_variable) [] [] _ fd := F
  exact ⟨_, fd, _, [], [], F, He.glo_ok X G (c.fact 28 (f := .glo "is_variable") rfl), c.kp 28 (d := d_28) rfl, FunD.bindsN (ps := p_is_variable) F fun _ _ _ _ _ _ us hl => match us, hl with | [_], _ => rfl, .nil, fun _ _ => .nil⟩
theorem h_isnm (c : SaysK w K) (X : K.In h) (G : h.Ns mainGlobals mg) : Hd K mg "is_named" s_is_named p_is_named [] := by
  obtain ⟨fd, F⟩ := c.def_ 29 (d := d_29) rfl
  have F : FunD K "is_named" "is_named" (defArgs s_is_named) (defBody s_is_named) (defScope s_is_named) [] [] _ fd := F
  exact ⟨_, fd, _, [], [], F, He.glo_ok X G (c.fact 29 (f := .glo "is_named") rfl), c.kp 29 (d := d_29) rfl, FunD.bindsN (ps := p_is_named) F fun _ _ _ _ _ _ us hl => match us, hl with | [_], _ => rfl, .nil, fun _ _ => .nil⟩
theorem h_kinded (c : SaysK w K) (X : K.In h) (G : h.Ns mainGlobals mg) : Hd K mg "is_kinded" s_is_kinded p_is_kinded [] := by
  obtain ⟨fd, F⟩ := c.def_ 30 (d := d_30) rfl
  have F : FunD K "is_kinded" "is_kinded" (defArgs s_is_kinded) (defBody s_is_kinded) (defScope s_is_kinded) [.int 100] [] _ fd := F
  obtain ⟨ds, h1, h2⟩ := FunD.binds1 (ps := p_is_kinded) F 2 1 (by simp) rfl fun T kV doc pm an cdv ct us its hu hi => match us, its, hu, hi with | [_, _], [_], _, _ => ⟨_, rfl, rfl⟩
  cases h1
  exact ⟨_, fd, _, [], [], F, He.glo_ok X G (c.fact 30 (f := .glo "is_kinded") rfl), c.kp 30 (d := d_30) rfl, h2, .nil, fun _ _ => .nil⟩
theorem h_kindedD (c : SaysK w K) (X : K.In h) (G : h.Ns mainGlobals mg) : Hd K mg "is_kinded" s_is_kinded p_is_kinded [.int 100] := by
  obtain ⟨fd, F⟩ := c.def_ 30 (d := d_30) rfl
  have F : FunD K "is_kinded" "is_kinded" (defArgs s_is_kinded) (defBody s_is_kinded) (defScope s_is_kinded) [.int 100] [] _ fd := F
  obtain ⟨ds, h1, h2⟩ := FunD.binds1 (ps := p_is_kinded) F 1 0 (by simp) rfl fun T kV doc pm an cdv ct us its hu hi => match us, its, hu, hi with | [_], [_], _, _ => ⟨_, rfl, rfl⟩
  exact ⟨_, fd, _, [.int 100], ds, F, He.glo_ok X G (c.fact 30 (f := .glo "is_kinded") rfl), c.kp 30 (d := d_30) rfl, h2, h1, fun _ _ => .cons (.int 100) .nil⟩
theorem h_element (c : SaysK w K) (X : K.In h) (G : h.Ns mainGlobals mg) : Hd K mg "is_element" s_is_element p_is_element [] := by
  obtain ⟨fd, F⟩ := c.def_ 31 (d := d_31) rfl
  have F : FunD K "is_element" "is_element" (defArgs s_is_element) (defBody s_is_element) (defScope s_is_element) [] [] _ fd := F
  exact ⟨_, fd, _, [], [], F, He.glo_ok X G (c.fact 31 (f := .glo "is_element") rfl), c.kp 31 (d := d_31) rfl, FunD.bindsN (ps := p_is_element) F fun _ _ _ _ _ _ us hl => match us, hl with | [_, _, _], _ => rfl, .nil, fun _ _ => .nil⟩
theorem h_wrong (c : SaysK w K) (X : K.In h) (G : h.Ns mainGlobals mg) : Hd K mg "wrong_by" s_wrong_by p_wrong_by [] := by
  obtain ⟨fd, F⟩ := c.def_ 32 (d := d_32) rfl
  have F : FunD K "wrong_by" "wrong_by" (defArgs s_wrong_by) (defBody s_wrong_by) (defScope s_wrong_by) [] [] _ fd := F
  exact ⟨_, fd, _, [], [], F, He.glo_ok X G (c.fact 32 (f := .glo "wrong_by") rfl), c.kp 32 (d := d_32) rfl, FunD.bindsN (ps := p_wrong_by) F fun _ _ _ _ _ _ us hl => match us, hl with | [_, _, _], _ => rfl, .nil, fun _ _ => .nil⟩
theorem h_wrongT (c : SaysK w K) (X : K.In h) (G : h.Ns mainGlobals mg) : Hd K mg "wrong_in_term" s_wrong_in_term p_wrong_in_term [] := by
  obtain ⟨fd, F⟩ := c.def_ 33 (d := d_33) rfl
  have F : FunD K "wrong_in_term" "wrong_in_term" (defArgs s_wrong_in_term) (defBody s_wrong_in_term) (defScope s_wrong_in_term) [] [] _ fd := F
  exact ⟨_, fd, _, [], [], F, He.glo_ok X G (c.fact 33 (f := .glo "wrong_in_term") rfl), c.kp 33 (d := d_33) rfl, FunD.bindsN (ps := p_wrong_in_term) F fun _ _ _ _ _ _ us hl => match us, hl with | [_], _ => rfl, .nil, fun _ _ => .nil⟩
theorem h_ctm (c : SaysK w K) (X : K.In h) (G : h.Ns mainGlobals mg) : Hd K mg "check_term" s_check_term p_check_term [] := by
  obtain ⟨fd, F⟩ := c.def_ 34 (d := d_34) rfl
  have F : FunD K "check_term" "check_term" (defArgs s_check_term) (defBody s_check_term) (defScope s_check_term) [] [] _ fd := F
  exact ⟨_, fd, _, [], [], F, He.glo_ok X G (c.fact 34 (f := .glo "check_term") rfl), c.kp 34 (d := d_34) rfl, FunD.bindsN (ps := p_check_term) F fun _ _ _ _ _ _ us hl => match us, hl with | [_], _ => rfl, .nil, fun _ _ => .nil⟩
theorem h_ccx (c : SaysK w K) (X : K.In h) (G : h.Ns mainGlobals mg) : Hd K mg "check_context" s_check_context p_check_context [] := by
  obtain ⟨fd, F⟩ := c.def_ 35 (d := d_35) rfl
  have F : FunD K "check_context" "check_context" (defArgs s_check_context) (defBody s_check_context) (defScope s_check_context) [] [] _ fd := F
  exact ⟨_, fd, _, [], [], F, He.glo_ok X G (c.fact 35 (f := .glo "check_context") rfl), c.kp 35 (d := d_35) rfl, FunD.bindsN (ps := p_check_context) F fun _ _ _ _ _ _ us hl => match us, hl with | [_], _ => rfl, .nil, fun _ _ => .nil⟩
theorem h_kinds (c : SaysK w K) (X : K.In h) (G : h.Ns mainGlobals mg) : Hd K mg "kinds_by" s_kinds_by p_kinds_by [] := by
  obtain ⟨fd, F⟩ := c.def_ 36 (d := d_36) rfl
  have F : FunD K "kinds_by" "kinds_by" (defArgs s_kinds_by) (defBody s_kinds_by) (defScope s_kinds_by) [] [] _ fd := F
  exact ⟨_, fd, _, [], [], F, He.glo_ok X G (c.fact 36 (f := .glo "kinds_by") rfl), c.kp 36 (d := d_36) rfl, FunD.bindsN (ps := p_kinds_by) F fun _ _ _ _ _ _ us hl => match us, hl with | [_, _], _ => rfl, .nil, fun _ _ => .nil⟩
theorem h_kby (c : SaysK w K) (X : K.In h) (G : h.Ns mainGlobals mg) : Hd K mg "kind_by" s_kind_by p_kind_by [] := by
  obtain ⟨fd, F⟩ := c.def_ 37 (d := d_37) rfl
  have F : FunD K "kind_by" "kind_by" (defArgs s_kind_by) (defBody s_kind_by) (defScope s_kind_by) [] [] _ fd := F
  exact ⟨_, fd, _, [], [], F, He.glo_ok X G (c.fact 37 (f := .glo "kind_by") rfl), c.kp 37 (d := d_37) rfl, FunD.bindsN (ps := p_kind_by) F fun _ _ _ _ _ _ us hl => match us, hl with | [_, _], _ => rfl, .nil, fun _ _ => .nil⟩
theorem h_chk (c : SaysK w K) (X : K.In h) (G : h.Ns mainGlobals mg) : Hd K mg "checked_kind" s_checked_kind p_checked_kind [] := by
  obtain ⟨fd, F⟩ := c.def_ 38 (d := d_38) rfl
  have F : FunD K "checked_kind" "checked_kind" (defArgs s_checked_kind) (defBody s_checked_kind) (defScope s_checked_kind) [] [] _ fd := F
  exact ⟨_, fd, _, [], [], F, He.glo_ok X G (c.fact 38 (f := .glo "checked_kind") rfl), c.kp 38 (d := d_38) rfl, FunD.bindsN (ps := p_checked_kind) F fun _ _ _ _ _ _ us hl => match us, hl with | [_, _], _ => rfl, .nil, fun _ _ => .nil⟩
theorem h_kof (c : SaysK w K) (X : K.In h) (G : h.Ns mainGlobals mg) : HdZ K mg "kind_of" s_kind_of p_kind_of := by
  obtain ⟨fd, F⟩ := c.def_ 39 (d := d_39) rfl
  have F : FunD K "kind_of" "kind_of" (defArgs s_kind_of) (defBody s_kind_of) (defScope s_kind_of) [] [] _ fd := F
  exact ⟨_, fd, F, He.glo_ok X G (c.fact 39 (f := .glo "kind_of") rfl), c.kp 39 (d := d_39) rfl, FunD.bindsN (ps := p_kind_of) F fun _ _ _ _ _ _ us hl => match us, hl with | [_, _], _ => rfl⟩
theorem h_told (c : SaysK w K) (X : K.In h) (G : h.Ns mainGlobals mg) : Hd K mg "_law_told_kind" s_law_told_kind p_law_told_kind [] := by
  obtain ⟨fd, F⟩ := c.def_ 40 (d := d_40) rfl
  have F : FunD K "_law_told_kind" "_law_told_kind" (defArgs s_law_told_kind) (defBody s_law_told_kind) (defScope s_law_told_kind) [] [] _ fd := F
  exact ⟨_, fd, _, [], [], F, He.glo_ok X G (c.fact 40 (f := .glo "_law_told_kind") rfl), c.kp 40 (d := d_40) rfl, FunD.bindsN (ps := p_law_told_kind) F fun _ _ _ _ _ _ us hl => match us, hl with | [_, _], _ => rfl, .nil, fun _ _ => .nil⟩
theorem h_is_ (c : SaysK w K) (X : K.In h) (G : h.Ns mainGlobals mg) : Hd K mg "_law_is" s_law_is p_law_is [] := by
  obtain ⟨fd, F⟩ := c.def_ 41 (d := d_41) rfl
  have F : FunD K "_law_is" "_law_is" (defArgs s_law_is) (defBody s_law_is) (defScope s_law_is) [] [] _ fd := F
  exact ⟨_, fd, _, [], [], F, He.glo_ok X G (c.fact 41 (f := .glo "_law_is") rfl), c.kp 41 (d := d_41) rfl, FunD.bindsN (ps := p_law_is) F fun _ _ _ _ _ _ us hl => match us, hl with | [_, _], _ => rfl, .nil, fun _ _ => .nil⟩
theorem h_right (c : SaysK w K) (X : K.In h) (G : h.Ns mainGlobals mg) : Hd K mg "_law_right" s_law_right p_law_right [] := by
  obtain ⟨fd, F⟩ := c.def_ 42 (d := d_42) rfl
  have F : FunD K "_law_right" "_law_right" (defArgs s_law_right) (defBody s_law_right) (defScope s_law_right) [] [] _ fd := F
  exact ⟨_, fd, _, [], [], F, He.glo_ok X G (c.fact 42 (f := .glo "_law_right") rfl), c.kp 42 (d := d_42) rfl, FunD.bindsN (ps := p_law_right) F fun _ _ _ _ _ _ us hl => match us, hl with | [_], _ => rfl, .nil, fun _ _ => .nil⟩
theorem h_urn (c : SaysK w K) (X : K.In h) (G : h.Ns mainGlobals mg) : Hd K mg "_law_urn" s_law_urn p_law_urn [] := by
  obtain ⟨fd, F⟩ := c.def_ 43 (d := d_43) rfl
  have F : FunD K "_law_urn" "_law_urn" (defArgs s_law_urn) (defBody s_law_urn) (defScope s_law_urn) [] [] _ fd := F
  exact ⟨_, fd, _, [], [], F, He.glo_ok X G (c.fact 43 (f := .glo "_law_urn") rfl), c.kp 43 (d := d_43) rfl, FunD.bindsN (ps := p_law_urn) F fun _ _ _ _ _ _ us hl => match us, hl with | [_, _], _ => rfl, .nil, fun _ _ => .nil⟩
theorem h_law (c : SaysK w K) (X : K.In h) (G : h.Ns mainGlobals mg) : Hd K mg "law" s_law p_law [] := by
  obtain ⟨fd, F⟩ := c.def_ 44 (d := d_44) rfl
  have F : FunD K "law" "law" (defArgs s_law) (defBody s_law) (defScope s_law) [] [] _ fd := F
  exact ⟨_, fd, _, [], [], F, He.glo_ok X G (c.fact 44 (f := .glo "law") rfl), c.kp 44 (d := d_44) rfl, FunD.bindsN (ps := p_law) F fun _ _ _ _ _ _ us hl => match us, hl with | [_], _ => rfl, .nil, fun _ _ => .nil⟩
theorem h_subs (c : SaysK w K) (X : K.In h) (G : h.Ns mainGlobals mg) : Hd K mg "subterms" s_subterms p_subterms [] := by
  obtain ⟨fd, F⟩ := c.def_ 45 (d := d_45) rfl
  have F : FunD K "subterms" "subterms" (defArgs s_subterms) (defBody s_subterms) (defScope s_subterms) [] [] _ fd := F
  exact ⟨_, fd, _, [], [], F, He.glo_ok X G (c.fact 45 (f := .glo "subterms") rfl), c.kp 45 (d := d_45) rfl, FunD.bindsN (ps := p_subterms) F fun _ _ _ _ _ _ us hl => match us, hl with | [_], _ => rfl, .nil, fun _ _ => .nil⟩
theorem q_fail (c : SaysK w K) : Hm K (He.ga K "Kinder") "fail" s_K_fail p_K_fail := by
  obtain ⟨fd, F⟩ := c.def_ 47 (d := m_1) rfl
  have F : FunD K "fail" "Kinder.fail" (defArgs s_K_fail) (defBody s_K_fail) (defScope s_K_fail) [] [] _ fd := F
  exact ⟨_, _, fd, _, F, He.meth_ok (c.fact 73 (f := .meth "Kinder" "fail") rfl), FunD.bindsN (ps := p_K_fail) F fun _ _ _ _ _ _ us hl => match us, hl with | [_, _], _ => rfl⟩
theorem q_kind (c : SaysK w K) : Hm K (He.ga K "Kinder") "kind" s_K_kind p_K_kind := by
  obtain ⟨fd, F⟩ := c.def_ 48 (d := m_2) rfl
  have F : FunD K "kind" "Kinder.kind" (defArgs s_K_kind) (defBody s_K_kind) (defScope s_K_kind) [] [] _ fd := F
  exact ⟨_, _, fd, _, F, He.meth_ok (c.fact 74 (f := .meth "Kinder" "kind") rfl), FunD.bindsN (ps := p_K_kind) F fun _ _ _ _ _ _ us hl => match us, hl with | [_, _, _, _], _ => rfl⟩
theorem q_here (c : SaysK w K) : Hm K (He.ga K "Kinder") "kind_here" s_K_kind_here p_K_kind_here := by
  obtain ⟨fd, F⟩ := c.def_ 49 (d := m_3) rfl
  have F : FunD K "kind_here" "Kinder.kind_here" (defArgs s_K_kind_here) (defBody s_K_kind_here) (defScope s_K_kind_here) [] [] _ fd := F
  exact ⟨_, _, fd, _, F, He.meth_ok (c.fact 75 (f := .meth "Kinder" "kind_here") rfl), FunD.bindsN (ps := p_K_kind_here) F fun _ _ _ _ _ _ us hl => match us, hl with | [_, _, _, _], _ => rfl⟩
theorem q_bind (c : SaysK w K) : Hm K (He.ga K "Kinder") "binding" s_K_binding p_K_binding := by
  obtain ⟨fd, F⟩ := c.def_ 50 (d := m_4) rfl
  have F : FunD K "binding" "Kinder.binding" (defArgs s_K_binding) (defBody s_K_binding) (defScope s_K_binding) [] [] _ fd := F
  exact ⟨_, _, fd, _, F, He.meth_ok (c.fact 76 (f := .meth "Kinder" "binding") rfl), FunD.bindsN (ps := p_K_binding) F fun _ _ _ _ _ _ us hl => match us, hl with | [_, _, _, _], _ => rfl⟩
theorem q_built (c : SaysK w K) : Hm K (He.ga K "Kinder") "built" s_K_built p_K_built := by
  obtain ⟨fd, F⟩ := c.def_ 51 (d := m_5) rfl
  have F : FunD K "built" "Kinder.built" (defArgs s_K_built) (defBody s_K_built) (defScope s_K_built) [] [] _ fd := F
  exact ⟨_, _, fd, _, F, He.meth_ok (c.fact 77 (f := .meth "Kinder" "built") rfl), FunD.bindsN (ps := p_K_built) F fun _ _ _ _ _ _ us hl => match us, hl with | [_, _, _, _], _ => rfl⟩
theorem q_reck (c : SaysK w K) : Hm K (He.ga K "Kinder") "reckoned" s_K_reckoned p_K_reckoned := by
  obtain ⟨fd, F⟩ := c.def_ 52 (d := m_6) rfl
  have F : FunD K "reckoned" "Kinder.reckoned" (defArgs s_K_reckoned) (defBody s_K_reckoned) (defScope s_K_reckoned) [] [] _ fd := F
  exact ⟨_, _, fd, _, F, He.meth_ok (c.fact 78 (f := .meth "Kinder" "reckoned") rfl), FunD.bindsN (ps := p_K_reckoned) F fun _ _ _ _ _ _ us hl => match us, hl with | [_, _, _, _], _ => rfl⟩
theorem q_row (c : SaysK w K) : Hm K (He.ga K "Kinder") "rowed" s_K_rowed p_K_rowed := by
  obtain ⟨fd, F⟩ := c.def_ 53 (d := m_7) rfl
  have F : FunD K "rowed" "Kinder.rowed" (defArgs s_K_rowed) (defBody s_K_rowed) (defScope s_K_rowed) [] [] _ fd := F
  exact ⟨_, _, fd, _, F, He.meth_ok (c.fact 79 (f := .meth "Kinder" "rowed") rfl), FunD.bindsN (ps := p_K_rowed) F fun _ _ _ _ _ _ us hl => match us, hl with | [_, _, _, _], _ => rfl⟩
theorem bi_of (c : SaysK w K) (X : K.In h) (G : h.Ns mainGlobals mg) : Bi mg where
  len_ := He.free_ok X G (c.fact 50 (f := .free "len") rfl)
  max_ := He.free_ok X G (c.fact 51 (f := .free "max") rfl)
  min_ := He.free_ok X G (c.fact 52 (f := .free "min") rfl)
  sum_ := He.free_ok X G (c.fact 53 (f := .free "sum") rfl)
  all_ := He.free_ok X G (c.fact 54 (f := .free "all") rfl)
  abs_ := He.free_ok X G (c.fact 55 (f := .free "abs") rfl)
  divmod_ := He.free_ok X G (c.fact 56 (f := .free "divmod") rfl)
  repr_ := He.free_ok X G (c.fact 57 (f := .free "repr") rfl)
  isinstance_ := He.free_ok X G (c.fact 58 (f := .free "isinstance") rfl)
  int_ := He.free_ok X G (c.fact 59 (f := .free "int") rfl)
  str_ := He.free_ok X G (c.fact 60 (f := .free "str") rfl)
  bool_ := He.free_ok X G (c.fact 61 (f := .free "bool") rfl)
  dict_ := He.free_ok X G (c.fact 62 (f := .free "dict") rfl)
  tuple_ := He.free_ok X G (c.fact 63 (f := .free "tuple") rfl)
  list_ := He.free_ok X G (c.fact 64 (f := .free "list") rfl)
  range_ := He.free_ok X G (c.fact 65 (f := .free "range") rfl)
  enumerate_ := He.free_ok X G (c.fact 66 (f := .free "enumerate") rfl)
  zip_ := He.free_ok X G (c.fact 67 (f := .free "zip") rfl)
theorem fx_of (c : SaysK w K) (X : K.In h) (G : h.Ns mainGlobals mg) : Fx w K mg where
  bi := bi_of c X G
  pull := h_pull c X G
  one := h_one c X G
  truth := h_truth c X G
  deep := h_deep c X G
  shape := h_shape c X G
  seen := h_seen c X G
  can := h_can c X G
  made := h_made c X G
  walkc := h_walkc c X G
  walk := h_walk c X G
  inner := h_inner c X G
  sizes := h_sizes c X G
  small := h_small c X G
  free := h_free c X G
  dk := h_dk c X G
  ak := h_ak c X G
  named := h_named c X G
  ok := h_ok c X G
  bound := h_bound c X G
  flat := h_flat c X G
  fold := h_fold c X G
  built := h_built c X G
  round := h_round c X G
  term := h_term c X G
  text := h_text c X G
  other := h_other c X G
  bent := h_bent c X G
  whole := h_whole c X G
  variable_ := h_variable_ c X G
  isnm := h_isnm c X G
  kinded := h_kinded c X G
  kindedD := h_kindedD c X G
  element := h_element c X G
  wrong := h_wrong c X G
  wrongT := h_wrongT c X G
  ctm := h_ctm c X G
  ccx := h_ccx c X G
  kinds := h_kinds c X G
  kby := h_kby c X G
  chk := h_chk c X G
  kof := h_kof c X G
  told := h_told c X G
  is_ := h_is_ c X G
  right := h_right c X G
  urn := h_urn c X G
  law := h_law c X G
  subs := h_subs c X G
  vars := c.con X G 0
  msigns := c.con X G 1
  words := c.con X G 2
  letters := c.con X G 3
  figures := c.con X G 4
  signs := c.con X G 5
  mdeep := c.con X G 6
  mkdeep := c.con X G 7
  mnames := c.con X G 8
  tks := tab_ok X G (He.glo_ok X G (c.fact 48 (f := .glo "KIND_SIZES") rfl)) (congrArg (fun z : AlK => z.2.2.2.1) c) c.rest.1
  tsh := tab_ok X G (He.glo_ok X G (c.fact 49 (f := .glo "SHAPES") rfl)) (congrArg (fun z : AlK => z.2.2.2.2) c) c.rest.2.1
theorem kdr_of (c : SaysK w K) (X : K.In h) (G : h.Ns mainGlobals mg) : Kdr PP w K mg base (He.ga K "Kinder") := by
  have naW := He.noat_ok (c.fact 70 (f := .noat "Kinder" "wrong") rfl)
  have naK := He.noat_ok (c.fact 71 (f := .noat "Kinder" "kinds") rfl)
  have cl := He.cls_ok (c.fact 69 (f := .cls "Kinder") rfl)
  refine ⟨He.glo_ok X G (c.fact 46 (f := .glo "Kinder") rfl), cl, naW, naK, ?_, ⟨q_kind c, q_here c, q_bind c, q_built c, q_reck c, q_row c, q_fail c, h_subs c X G, c.con X G 9, c.con X G 10, c.con X G 11, tab_ok X G (He.glo_ok X G (c.fact 49 (f := .glo "SHAPES") rfl)) (congrArg (fun z : AlK => z.2.2.2.2) c) c.rest.2.1⟩⟩
  obtain ⟨fd, F⟩ := c.def_ 46 (d := m_0) rfl
  have F : FunD K "__init__" "Kinder.__init__" (defArgs s_K_init) (defBody s_K_init) (defScope s_K_init) [] [] _ fd := F
  exact ⟨_, fd, He.mkr_ok (c.fact 72 (f := .mkr "Kinder") rfl), init_ok (k := 0) F cl naW naK, FunD.bindsN (ps := p_K_init) F fun _ _ _ _ _ _ us hl => match us, hl with | [_], _ => rfl⟩
theorem wt_of (c : SaysK w K) (X : K.In h) (G : h.Ns mainGlobals mg) : WtK PP w K mg base "WrongTerm" "place" (wtA K) :=
  wtK_ok c.rest.2.2 (congrArg (fun z : AlK => z.2.2.1) c) (He.glo_ok X G (c.fact 47 (f := .glo "WrongTerm") rfl)) (He.free_ok X G (c.fact 68 (f := .free "super") rfl))
end
end Kq
/-! K40: the law's def, called by the claim. -/
namespace Kq
open PySem PySem.Spec PyProof.Rows L2
section
variable {P : Program} {w : World} {K : PySem.W.Frag} {mg mb : Str → Option Value} {k : Nat} {fa a : Addr} {x : Str} {s1 : Shared} {vs : List Value} {ns : List Int}
def EndG (s1 : Shared) : Result → Shared → Prop := fun r s' => r = .ok (.ret (.bool true)) ∧ OldK s1.heap s'.heap ∧ s'.os = s1.os ∧ AllBare s'.gens
/-- from a heap told by T, in which nothing but the script stands -/
theorem coreG (T : Hp) (KX : K.In s1.heap) (nsG : s1.heap.Ns mainGlobals mg) (nsB : s1.heap.Ns builtinsNs mb) (boot : ∀ x : Str, x ≠ "__name__" → mb x = bootBuiltins x) (noL : s1.heap.NoLimit) (gen : s1.gens = #[]) (at_ : ∃ o, s1.heap.get? a = some o ∧ ∀ es n, o.data ≠ .dict es n)
    (room : Room k callerA) (F : ∀ base : Heap, K.In base → base.Ns mainGlobals mg → ∃ fd, FnG P w K mg base CX0 k fa fd [x] (spL K) ∧ BindsTo s1 fd ⟨[.ref a], []⟩ [(x, .ref a)]) (hsc : scR ns K T a) (hn : ns.length ≤ 1000)
    (told : HOk P w T s1.heap) (only : ∀ b, T b ≠ none → b = a) (frz : ∀ b, T b = none ∨ ∃ o xs, T b = some (.frz o (.lst xs))) (apart : T a ≠ none → K.lookup a = none) : codeAny (model P w) callerA (.call (.ref fa) ⟨[.ref a], []⟩) (EndG s1) s1 := by
  obtain ⟨oa, ha, nd⟩ := at_
  have kept : ∀ {b : Addr} {o : Obj}, s1.heap.get? b = some o → T b = none → (hidT s1.heap T).get? b = some o := fun z n => hidT_get z n
  have isA : ∀ {b : Addr}, ¬ T b = none → b = a := fun {b} z => only b z
  have free : ∀ {b : Addr} {o : Obj} {es : Array DictEntry} {m : Nat}, s1.heap.get? b = some o → o.data = .dict es m → T b = none := fun {b o es m} z d => Classical.byContradiction fun q => by
    have y := isA q
    subst y
    rw [ha] at z
    cases z
    exact nd _ _ d
  have nsT : ∀ {b : Addr} {m : Str → Option Value}, s1.heap.Ns b m → (hidT s1.heap T).Ns b m := fun ⟨o, es, ep, z, d, r⟩ => ⟨o, es, ep, kept z (free z d), d, r⟩
  have inT : K.In (hidT s1.heap T) := fun b o z => kept (KX b o z) (Classical.byContradiction fun q => by
    have y := isA q
    subst y
    rw [apart q] at z
    cases z)
  have mod : Mod K mg (hidT s1.heap T) := ⟨inT, nsT nsG, ⟨mb, nsT nsB, boot⟩, noL.elim fun mc y => ⟨mc, nsT y.1, y.2⟩⟩
  have env : Env0 P w K mg (hidT s1.heap T) callerA [] s1 T := ⟨rfl, mod, fun b o z => of_hidT z, Nat.le_of_eq (hidT_size _ _), trivial, fun b hb => absurd (show b ∈ ([] : List Addr) from hb) (List.not_mem_nil), told, .of_eq gen⟩
  obtain ⟨fd, F, bnd⟩ := F _ inT (nsT nsG)
  have call := F.go callerA [] s1 T ⟨[.ref a], []⟩ [.ref a] [.ref a] (fun v _ => v = .bl true) E0 room rfl env bnd (.cons rfl .nil) ⟨ns, a, rfl, hsc, hn, fun _ => rfl⟩
  refine codeAny_mono call fun r s' h => ?_
  match r, h with
  | .error _, h => exact h.elim
  | .ok .next, h => exact h.elim
  | .ok .brk, h => exact h.elim
  | .ok .cont, h => exact h.elim
  | .ok (.ret u), ⟨v, T', os, bare, un, told', rv, (qv : v = .bl true)⟩ =>
    subst qv
    obtain rfl : u = Value.bool true := rv
    refine ⟨rfl, OldK.of_keep fun b o z => ?_, os, bare⟩
    rcases frz b with n | ⟨ob, xs, y⟩
    · exact un.keep b o z n (fun q => absurd (show b ∈ ([] : List Addr) from q) List.not_mem_nil) List.not_mem_nil
    · have e1 := (told b _ y).1
      have e2 := (told' b _ (un.frzs b ob _ y)).1
      rw [z] at e1
      cases e1
      exact e2
end
end Kq
namespace Kq
end Kq
/-! K41: the end. -/
namespace Kq
open PySem PySem.Spec PyProof.Rows L2
section
variable {P : Program} {w : World} {K : PySem.W.Frag} {mg mb : Str → Option Value} {k : Nat} {fa a : Addr} {x : Str} {s1 : Shared} {vs : List Value} {ns : List Int}
theorem lawG (KX : K.In s1.heap) (nsG : s1.heap.Ns mainGlobals mg) (nsB : s1.heap.Ns builtinsNs mb) (boot : ∀ x : Str, x ≠ "__name__" → mb x = bootBuiltins x) (noL : s1.heap.NoLimit) (gen : s1.gens = #[]) (ha : s1.heap.get? a = some { cls := .type "list", data := .seq vs.toArray })
    (hi : IntsAre vs ns) (hn : ns.length ≤ 1000) (room : Room k callerA) (F : ∀ base : Heap, K.In base → base.Ns mainGlobals mg → ∃ fd, FnG P w K mg base CX0 k fa fd [x] (spL K) ∧ BindsTo s1 fd ⟨[.ref a], []⟩ [(x, .ref a)]) : codeAny (model P w) callerA (.call (.ref fa) ⟨[.ref a], []⟩) (EndG s1) s1 := by
  have pv : Vals (nsV ns) vs := vals_ints hi
  have hl : vs.length = ns.length := hi.length
  have zl : ns.length ≤ sizeLine := by rw [sizeLine_eq]; omega
  have at_ : ∃ o, s1.heap.get? a = some o ∧ ∀ es n, o.data ≠ .dict es n := ⟨_, ha, fun es n e => by
    have e : Data.seq vs.toArray _ = Data.dict es n := e
    cases e⟩
  by_cases hk : K.lookup a = none
  · have here : (fun b : Addr => if b = a then some (HO.frz { cls := .type "list", data := .seq vs.toArray } (.lst (nsV ns))) else none) a = some (HO.frz { cls := .type "list", data := .seq vs.toArray } (.lst (nsV ns))) := if_pos rfl
    have away : ∀ {b : Addr}, b ≠ a → (fun b : Addr => if b = a then some (HO.frz { cls := .type "list", data := .seq vs.toArray } (.lst (nsV ns))) else none) b = none := fun hb => if_neg hb
    refine coreG (fun b => if b = a then some (.frz { cls := .type "list", data := .seq vs.toArray } (.lst (nsV ns))) else none) KX nsG nsB boot noL gen at_ room F (.inl ⟨_, here⟩) hn (fun b u z => ?_) (fun b z => ?_) (fun b => ?_) fun _ => hk
    · by_cases hb : b = a
      · subst hb
        rw [here] at z
        cases z
        exact ⟨ha, by unfold nsV; rw [List.length_map]; exact zl, vs, _, pv, ha⟩
      · rw [away hb] at z
        cases z
    · exact Classical.byContradiction fun hb => z (away hb)
    · by_cases hb : b = a
      · subst hb
        exact .inr ⟨_, _, here⟩
      · exact .inl (away hb)
  · obtain ⟨o, ho⟩ := Option.ne_none_iff_exists'.mp hk
    have e := KX a o ho
    rw [ha] at e
    cases e
    exact coreG (fun _ => none) KX nsG nsB boot noL gen at_ room F (.inr ⟨_, vs.toArray, _, ho, rfl, rfl, rfl, by rw [List.size_toArray, hl]; exact zl, by simpa using pv⟩) hn (fun b u z => nomatch z) (fun b z => absurd rfl z) (fun b => .inl rfl) fun z => absurd rfl z
end
end Kq
open PySem PySem.W PySem.Calls PyProof.Rows
theorem PySem.Challenge.cw_bykindalone_k20_whole_kinds_and_first_wr_holds : PySem.Challenge.rw_bykindalone_k20_whole_kinds_and_first_wr.Holds := by
  refine Kq.headK ?_
  refine Att.attach_call (l := PySem.Challenge.rw_bykindalone_k20_whole_kinds_and_first_wr) (n := 63) rfl Kq.topK.2 fun w s0 s1 mg mb fa o pm cd doc a vs ns G Y ho hd hcd hmg hobj hints hlen hg => ?_
  obtain ⟨K, KX, c⟩ := Y
  have hl : mg ("law" : PySem.Str) = some (.ref fa) := by
    rw [← Kq.topK.1]
    exact hmg
  refine Kq.lawG (k := 166) (x := "_law_script") KX G.T.g G.T.b G.T.builtins G.T.nolimit hg hobj hints (by omega) ⟨rfl, by decide, by decide⟩ fun base _ _ => ?_
  obtain ⟨f, fd, h1, h2, h3, h4⟩ := Kq.law_all (P := Kq.PP) (base := base) (Kq.fx_of c KX G.T.g) (Kq.kdr_of c KX G.T.g) (Kq.wt_of c KX G.T.g)
  rw [hl] at h2
  cases h2
  exact ⟨fd, h1, h4 s1 [.ref a] KX rfl⟩
