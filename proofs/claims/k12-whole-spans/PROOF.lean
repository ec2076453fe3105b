import PyProof.Rows.All
import Wide.All
import OpenK.AllK
import Wide.FinOn
import HandS.ForMost
import HandS.Exc
import HandS.Defaults
import HandS.Deep
import HandS.Property
import HandS.IsInst
import HandS.Lambda
import HandS.RaiseMore
import PyProof.ReprRoads
import PyProof.RulesMatch
import HandS.Conv
import PySem.Challenge.RW_drawnorders_k12_whole_spans
import HandS.Head0
import HandS.Head1
import HandS.Head2
import HandS.HeadEnd
import HandS.HeadHook1
import HandS.HeadHook2
import HandS.HeadHook3
import HandS.HeadHook4
import HandS.Codes
import HandS.EndTab
import HandS.HeadWalk
import KE.KSortKey
set_option Elab.async false
set_option linter.all false
set_option maxRecDepth 100000
set_option maxHeartbeats 0
/-! The semantic judgements (no term of rules), the world, and data in a known part of the heap. -/
namespace Dw
open PySem PySem.Spec PyProof.Rows L2 -- (Dw)
abbrev St := L2.St

/-! ### judgements told by what is wanted behind -/
def JE (X : Cx) (e : Expr) (σ : St) (H : Hp) (Q : VK) : Prop :=
  ∀ pins s, Inv X pins σ H s → wpAny (model X.prog X.w) X.A (eval e X.env) (EP X pins σ Q) X.xe s
def JB (X : Cx) (e : Expr) (σ : St) (H : Hp) (Q : Bool → Hp → Prop) : Prop :=
  ∀ pins s, Inv X pins σ H s → wpAny (model X.prog X.w) X.A (isTrue e X.env (eval e X.env)) (TP X pins σ Q) X.xe s
def JA (X : Cx) (es : List Expr) (σ : St) (H : Hp) (Q : List V → Hp → Prop) : Prop :=
  ∀ pos pins s, Inv X pins σ H s → wpAny (model X.prog X.w) X.A (spliced (backTo pos (starEach es X.env))) (AP X pins σ Q) X.xe s
def JS (X : Cx) (st : Stmt) (σ : St) (H : Hp) (D : Ends) : Prop :=
  ∀ pins s, Inv X pins σ H s → wpAny (model X.prog X.w) X.A (exec st X.env) (SP X pins D) X.xe s
def JSs (X : Cx) (sts : List Stmt) (σ : St) (H : Hp) (D : Ends) : Prop :=
  ∀ pins s, Inv X pins σ H s → wpAny (model X.prog X.w) X.A (execs sts X.env) (SP X pins D) X.xe s
theorem pe_self {X : Cx} {e : Expr} : PE X e (fun σ H Q => JE X e σ H Q) := ⟨fun pins s _ _ _ I h => h pins s I⟩
theorem pt_self {X : Cx} {e : Expr} : PT X e (fun σ H Q => JB X e σ H Q) := ⟨fun pins s _ _ _ I h => h pins s I⟩
theorem pa_self {X : Cx} {es : List Expr} : PA X es (fun σ H Q => JA X es σ H Q) := ⟨fun pos pins s _ _ _ I h => h pos pins s I⟩
theorem ps_self {X : Cx} {st : Stmt} : PS X st (fun D σ H => JS X st σ H D) := ⟨fun pins s _ _ _ I h => h pins s I⟩
theorem pss_self {X : Cx} {sts : List Stmt} : PSs X sts (fun D σ H => JSs X sts σ H D) := ⟨fun pins s _ _ _ I h => h pins s I⟩
theorem je_of {X : Cx} {e : Expr} {t : TE} {σ : St} {H : Hp} {Q : VK} (h : PE X e t) (q : t σ H Q) : JE X e σ H Q := fun pins s I => h.run pins s σ H Q I q
theorem jb_of {X : Cx} {e : Expr} {t : TT} {σ : St} {H : Hp} {Q : Bool → Hp → Prop} (h : PT X e t) (q : t σ H Q) : JB X e σ H Q := fun pins s I => h.run pins s σ H Q I q
theorem ja_of {X : Cx} {es : List Expr} {t : TA} {σ : St} {H : Hp} {Q : List V → Hp → Prop} (h : PA X es t) (q : t σ H Q) : JA X es σ H Q := fun pos pins s I => h.run pos pins s σ H Q I q
theorem js_of {X : Cx} {st : Stmt} {t : TS} {σ : St} {H : Hp} {D : Ends} (h : PS X st t) (q : t D σ H) : JS X st σ H D := fun pins s I => h.run pins s σ H D I q
theorem jss_of {X : Cx} {sts : List Stmt} {t : TS} {σ : St} {H : Hp} {D : Ends} (h : PSs X sts t) (q : t D σ H) : JSs X sts σ H D := fun pins s I => h.run pins s σ H D I q
theorem JE.imp {X : Cx} {e : Expr} {σ : St} {H : Hp} {Q Q' : VK} (h : JE X e σ H Q) (q : ∀ v H', Q v H' → Q' v H') : JE X e σ H Q' := fun pins s I =>
  thn (h pins s I) fun _ _ ⟨v, H', I', r, z⟩ => ⟨v, H', I', r, q v H' z⟩
theorem JB.imp {X : Cx} {e : Expr} {σ : St} {H : Hp} {Q Q' : Bool → Hp → Prop} (h : JB X e σ H Q) (q : ∀ b H', Q b H' → Q' b H') : JB X e σ H Q' := fun pins s I =>
  thn (h pins s I) fun _ _ ⟨H', I', z⟩ => ⟨H', I', q _ H' z⟩

/-! ### heaps that grow -/
def Ex (H H' : Hp) : Prop := ∀ a o, H a = some o → H' a = some o -- (Dw)
theorem Ex.refl (H : Hp) : Ex H H := fun _ _ h => h -- (Dw)
theorem Ex.trans {A B C : Hp} (x : Ex A B) (y : Ex B C) : Ex A C := fun a o h => y a o (x a o h)
theorem Ex.no {A B : Hp} (x : Ex A B) {a : Addr} (h : B a = none) : A a = none := by
  cases q : A a with
  | none => rfl
  | some o => rw [x a o q] at h; cases h
theorem Ex.new {H : Hp} {p : Addr} {o : HO} (h : H p = none) : Ex H (upd H p o) := fun a u e => by -- (Dw)
  rw [upd_ne (ne_of_none e h)]; exact e
/-- an object that the known part does not hold may change -/
theorem Ex.mut {F H : Hp} {p : Addr} {o : HO} (e : Ex F H) (h : F p = Option.none) : Ex F (upd H p o) := fun a u ha => by
  rw [upd_ne (ne_of_none ha h)]; exact e a u ha

/-! ### the world: what may be written besides one's own -/
structure Wo where
  m : Addr → Prop
  ok : Hp → Prop
  there : ∀ {H a}, ok H → m a → ∃ o, H a = some o
  mono : ∀ {H H'}, Ex H H' → ok H → ok H'
  lst : ∀ {H p xs ys}, ¬ m p → H p = some (.lst xs) → ok H → ok (upd H p (.lst ys))
  ins : ∀ {H p C dx fs gs}, ¬ m p → H p = some (.ins C dx fs) → ok H → ok (upd H p (.ins C dx gs))
def W0 : Wo := ⟨fun _ => False, fun _ => True, fun _ h => h.elim, fun _ _ => trivial, fun _ _ _ => trivial, fun _ _ _ => trivial⟩
/-- the heap H, of which F is known and stays -/
structure Good (W : Wo) (F H : Hp) : Prop where
  fh : Ex F H
  mf : ∀ a, W.m a → F a = none
  ok : W.ok H
/-- the known part F has grown to G, the heap H to J -/
structure Gr (W : Wo) (F H G J : Hp) : Prop where
  fg : Ex F G
  gj : Ex G J
  hj : ∀ a o, ¬ W.m a → H a = some o → J a = some o
  ok : W.ok J
  new : ∀ a o, H a = some o → G a = F a
section
variable {W : Wo} {F G H J A B : Hp}
theorem Good.gr (g : Good W F H) : Gr W F H F H := ⟨Ex.refl F, g.fh, fun _ _ _ h => h, g.ok, fun _ _ _ => rfl⟩
theorem Gr.good (r : Gr W F H G J) (g : Good W F H) : Good W G J := ⟨r.gj, fun a ha => by
  obtain ⟨o, e⟩ := W.there g.ok ha
  rw [r.new a o e]; exact g.mf a ha, r.ok⟩
theorem Gr.trans (r : Gr W F H G J) (q : Gr W G J A B) (g : Good W F H) : Gr W F H A B := by
  refine ⟨r.fg.trans q.fg, q.gj, fun a o n e => q.hj a o n (r.hj a o n e), q.ok, fun a o e => ?_⟩
  by_cases hm : W.m a
  · obtain ⟨o', e'⟩ := W.there r.ok hm
    rw [q.new a o' e', r.new a o e]
  · rw [q.new a o (r.hj a o hm e), r.new a o e]
/-- a world within a greater one -/
structure Sub (V W : Wo) : Prop where
  m : ∀ a, V.m a → W.m a
  ok : ∀ {H}, W.ok H → V.ok H
  back : ∀ {H J}, W.ok H → V.ok J → (∀ a o, ¬ V.m a → H a = some o → J a = some o) → W.ok J
theorem Sub.refl (W : Wo) : Sub W W := ⟨fun _ h => h, fun h => h, fun _ h _ => h⟩
theorem sub0 (W : Wo) : Sub W0 W := ⟨fun _ h => h.elim, fun _ => trivial, fun h _ k => W.mono (fun a o e => k a o (fun z => z) e) h⟩
theorem Good.sub {V W : Wo} (s : Sub V W) (g : Good W F H) : Good V F H := ⟨g.fh, fun a h => g.mf a (s.m a h), s.ok g.ok⟩
theorem Gr.sub {V W : Wo} (s : Sub V W) (g : Good W F H) (r : Gr V F H G J) : Gr W F H G J :=
  ⟨r.fg, r.gj, fun a o n e => r.hj a o (fun z => n (s.m a z)) e, s.back g.ok r.ok r.hj, r.new⟩
/-- a known part that is greater from the start -/
def join (A B : Hp) : Hp := fun a => match A a with
  | some o => some o
  | none => B a
theorem join_l {A B : Hp} {a : Addr} {o : HO} (h : A a = some o) : join A B a = some o := by unfold join; rw [h]
theorem join_r {A B : Hp} {a : Addr} (h : A a = none) : join A B a = B a := by unfold join; rw [h]
theorem Gr.more {F' : Hp} (e : Ex F F') (g : Good W F' H) (r : Gr W F H G J) : Gr W F' H (join F' G) J ∧ Ex G (join F' G) := by
  have k : ∀ a o, G a = some o → join F' G a = some o := fun a o h => by
    cases q : F' a with
    | none => rw [join_r q]; exact h
    | some u =>
      rw [join_l q]
      have z := r.new a u (g.fh a u q)
      rw [h] at z
      rw [e a o z.symm] at q
      rw [← q]
  refine ⟨⟨fun a o h => join_l h, fun a o h => ?_, r.hj, r.ok, fun a o h => ?_⟩, k⟩
  · cases q : F' a with
    | none => rw [join_r q] at h; exact r.gj a o h
    | some u =>
      rw [join_l q] at h
      obtain rfl : u = o := Option.some.inj h
      by_cases hm : W.m a
      · rw [g.mf a hm] at q; cases q
      · exact r.hj a u hm (g.fh a u q)
  · cases q : F' a with
    | none =>
      rw [join_r q, r.new a o h]
      exact e.no q
    | some u => exact join_l q
/-- a new object that becomes known -/
theorem Gr.know {p : Addr} {o : HO} (g : Good W F H) (h : H p = none) : Gr W F H (upd F p o) (upd H p o) := by
  have hf : F p = none := g.fh.no h
  refine ⟨Ex.new hf, fun a u e => ?_, fun a u _ e => Ex.new h a u e, W.mono (Ex.new h) g.ok, fun a u e => upd_ne (ne_of_none e h)⟩
  by_cases q : a = p
  · subst q; rw [upd_same] at e ⊢; exact e
  · rw [upd_ne q] at e ⊢; exact g.fh a u e
/-- a new object of one's own -/
theorem Good.own {p : Addr} {o : HO} (g : Good W F H) (h : H p = none) : Good W F (upd H p o) := ⟨g.fh.trans (Ex.new h), g.mf, W.mono (Ex.new h) g.ok⟩
theorem Gr.own {p : Addr} {o : HO} (g : Good W F H) (h : H p = none) : Gr W F H F (upd H p o) := ⟨Ex.refl F, g.fh.trans (Ex.new h), fun a u _ e => Ex.new h a u e, W.mono (Ex.new h) g.ok, fun _ _ _ => rfl⟩
/-- one's own list is written -/
theorem Good.put {p : Addr} {xs ys : List V} (g : Good W F H) (hp : H p = some (.lst xs)) (hf : F p = none) (hm : ¬ W.m p) : Good W F (upd H p (.lst ys)) :=
  ⟨g.fh.mut hf, g.mf, W.lst hm hp g.ok⟩
theorem Good.putI {p C dx : Addr} {fs gs : List (Str × V)} (g : Good W F H) (hp : H p = some (.ins C dx fs)) (hf : F p = none) (hm : ¬ W.m p) : Good W F (upd H p (.ins C dx gs)) :=
  ⟨g.fh.mut hf, g.mf, W.ins hm hp g.ok⟩
/-- what is new is no part of the world -/
theorem Good.nom {p : Addr} (g : Good W F H) (h : H p = none) : ¬ W.m p := fun z => by
  obtain ⟨o, e⟩ := W.there g.ok z
  rw [h] at e; cases e
/-- one's own object becomes known -/
theorem Good.keep {p : Addr} {o : HO} (g : Good W F H) (hp : H p = some o) (hf : F p = none) (hm : ¬ W.m p) : Good W (upd F p o) H := by
  refine ⟨fun a u e => ?_, fun a ha => ?_, g.ok⟩
  · by_cases q : a = p
    · subst q; rw [upd_same] at e; rw [hp]; exact e
    · rw [upd_ne q] at e; exact g.fh a u e
  · by_cases q : a = p
    · exact absurd (q ▸ ha) hm
    · rw [upd_ne q]; exact g.mf a ha
end

/-! ### data that stands in the known part -/
mutual
inductive Dq (H : Hp) : V → PyData → Prop
  | non : Dq H .non .none
  | bl (b : Bool) : Dq H (.bl b) (.bool b)
  | int (i : Int) : Dq H (.int i) (.int i)
  | str (x : Str) : Dq H (.str x) (.str x)
  | lst {a : Addr} {xs : List V} {ds : List PyData} : H a = some (.lst xs) → DqAll H xs ds → Dq H (.ref a) (.list ds)
  | tup {a : Addr} {xs : List V} {ds : List PyData} : H a = some (.tup xs) → DqAll H xs ds → Dq H (.ref a) (.tuple ds)
inductive DqAll (H : Hp) : List V → List PyData → Prop
  | nil : DqAll H [] []
  | cons {v : V} {vs : List V} {d : PyData} {ds : List PyData} : Dq H v d → DqAll H vs ds → DqAll H (v :: vs) (d :: ds)
end
mutual
theorem Dq.mono {H H' : Hp} (e : Ex H H') : ∀ (d : PyData) (v : V), Dq H v d → Dq H' v d
  | .none, _, .non => .non
  | .bool _, _, .bl b => .bl b
  | .int _, _, .int i => .int i
  | .str _, _, .str x => .str x
  | .list ds, _, .lst h k => .lst (e _ _ h) (DqAll.mono e ds _ k)
  | .tuple ds, _, .tup h k => .tup (e _ _ h) (DqAll.mono e ds _ k)
theorem DqAll.mono {H H' : Hp} (e : Ex H H') : ∀ (ds : List PyData) (vs : List V), DqAll H vs ds → DqAll H' vs ds
  | [], _, .nil => .nil
  | d :: ds, _, .cons h k => .cons (Dq.mono e d _ h) (DqAll.mono e ds _ k)
end
theorem Dq.up {H H' : Hp} {v : V} {d : PyData} (h : Dq H v d) (e : Ex H H') : Dq H' v d := Dq.mono e d v h
theorem DqAll.up {H H' : Hp} {vs : List V} {ds : List PyData} (h : DqAll H vs ds) (e : Ex H H') : DqAll H' vs ds := DqAll.mono e ds vs h
mutual
theorem Dq.dp {K : PySem.W.Frag} {H : Hp} : ∀ (d : PyData) (v : V), Dq H v d → Dp K H v d
  | .none, _, .non => .non
  | .bool _, _, .bl b => .bl b
  | .int _, _, .int i => .int i
  | .str _, _, .str x => .str x
  | .list ds, _, .lst h k => .lst (SqL.of h) (DqAll.dp ds _ k)
  | .tuple ds, _, .tup h k => .tup (SqT.of h) (DqAll.dp ds _ k)
theorem DqAll.dp {K : PySem.W.Frag} {H : Hp} : ∀ (ds : List PyData) (vs : List V), DqAll H vs ds → DpAll K H vs ds
  | [], _, .nil => .nil
  | d :: ds, _, .cons h k => .cons (Dq.dp d _ h) (DqAll.dp ds _ k)
end
theorem Dq.to {K : PySem.W.Frag} {H : Hp} {v : V} {d : PyData} (h : Dq H v d) : Dp K H v d := Dq.dp d v h
section
variable {H : Hp} {vs ws : List V} {ds es : List PyData}
theorem DqAll.len (h : DqAll H vs ds) : vs.length = ds.length := by
  induction vs generalizing ds with -- (Dw)
  | nil => cases h; rfl
  | cons v vs ih => cases h with | cons _ k => simp [ih k]
theorem DqAll.at_ (h : DqAll H vs ds) {i : Nat} {v : V} {d : PyData} (a : vs[i]? = some v) (b : ds[i]? = some d) : Dq H v d := by
  induction vs generalizing ds i with
  | nil => simp at a
  | cons w vs ih =>
    cases h with
    | cons h k =>
      cases i with
      | zero => simp at a b; subst a b; exact h
      | succ i => simp at a b; exact ih k a b
theorem DqAll.ex (h : DqAll H vs ds) {i : Nat} {d : PyData} (b : ds[i]? = some d) : ∃ v, vs[i]? = some v ∧ Dq H v d := by
  have hi : i < vs.length := by rw [h.len]; exact (List.getElem?_eq_some_iff.mp b).1
  exact ⟨vs[i], List.getElem?_eq_getElem hi, h.at_ (List.getElem?_eq_getElem hi) b⟩
theorem DqAll.exV (h : DqAll H vs ds) {i : Nat} {v : V} (b : vs[i]? = some v) : ∃ d, ds[i]? = some d ∧ Dq H v d := by
  have hi : i < ds.length := by rw [← h.len]; exact (List.getElem?_eq_some_iff.mp b).1
  exact ⟨ds[i], List.getElem?_eq_getElem hi, h.at_ b (List.getElem?_eq_getElem hi)⟩
theorem DqAll.app (h : DqAll H vs ds) (k : DqAll H ws es) : DqAll H (vs ++ ws) (ds ++ es) := by
  induction vs generalizing ds with -- (Dw)
  | nil => cases h; exact k
  | cons v vs ih => cases h with | cons a b => exact .cons a (ih b)
theorem DqAll.one {v : V} {d : PyData} (h : Dq H v d) : DqAll H [v] [d] := .cons h .nil
theorem DqAll.take (h : DqAll H vs ds) (n : Nat) : DqAll H (vs.take n) (ds.take n) := by
  induction n generalizing vs ds with
  | zero => simp; exact .nil
  | succ n ih => cases h with
    | nil => simp; exact .nil
    | cons a b => simp; exact .cons a (ih b)
theorem DqAll.drop (h : DqAll H vs ds) (n : Nat) : DqAll H (vs.drop n) (ds.drop n) := by
  induction n generalizing vs ds with
  | zero => simp; exact h
  | succ n ih => cases h with
    | nil => simp; exact .nil
    | cons a b => simp; exact ih b
theorem DqAll.erase (h : DqAll H vs ds) (n : Nat) : DqAll H (vs.eraseIdx n) (ds.eraseIdx n) := by
  induction n generalizing vs ds with
  | zero => cases h with
    | nil => exact .nil
    | cons a b => exact b
  | succ n ih => cases h with
    | nil => exact .nil
    | cons a b => exact .cons a (ih b)
theorem DqAll.ints (ns : List Int) : DqAll H (ns.map V.int) (ns.map PyData.int) := by
  induction ns with
  | nil => exact .nil
  | cons n ns ih => exact .cons (.int n) ih
theorem DqAll.bools (ns : List Bool) : DqAll H (ns.map V.bl) (ns.map PyData.bool) := by
  induction ns with
  | nil => exact .nil
  | cons n ns ih => exact .cons (.bl n) ih
theorem DqAll.ints_of {ns : List Int} (h : DqAll H vs (ns.map PyData.int)) : vs = ns.map V.int := by
  induction ns generalizing vs with
  | nil => cases h; rfl
  | cons n ns ih => cases h with | cons a b => cases a; rw [ih b]; rfl
theorem DqAll.bools_of {ns : List Bool} (h : DqAll H vs (ns.map PyData.bool)) : vs = ns.map V.bl := by
  induction ns generalizing vs with
  | nil => cases h; rfl
  | cons n ns ih => cases h with | cons a b => cases a; rw [ih b]; rfl
end
end Dw
/-! Expressions, told by the data that they give. -/
namespace Dw
open PySem PySem.Spec PyProof.Rows L2 -- (Dw)

def JD (W : Wo) (X : Cx) (e : Expr) (σ : St) (F : Hp) (P : PyData → Prop) : Prop :=
  ∀ H, Good W F H → ∀ Q : VK, (∀ v d G J, Gr W F H G J → P d → Dq G v d → Q v J) → JE X e σ H Q
def JDs (W : Wo) (X : Cx) (es : List Expr) (σ : St) (F : Hp) (P : List PyData → Prop) : Prop :=
  ∀ H, Good W F H → ∀ Q : List V → Hp → Prop, (∀ vs ds G J, Gr W F H G J → P ds → DqAll G vs ds → Q vs J) → JA X es σ H Q
def JT (W : Wo) (X : Cx) (e : Expr) (σ : St) (F : Hp) (P : Bool → Prop) : Prop :=
  ∀ H, Good W F H → ∀ Q : Bool → Hp → Prop, (∀ b G J, Gr W F H G J → P b → Q b J) → JB X e σ H Q
abbrev Is {α : Type} (d : α) : α → Prop := fun z => z = d
theorem Good.less {W : Wo} {F G H : Hp} (e : Ex F G) (g : Good W G H) : Good W F H := ⟨e.trans g.fh, fun a h => e.no (g.mf a h), g.ok⟩
section
variable {W Wa : Wo} {X : Cx} {e a b : Expr} {es : List Expr} {σ : St} {F G : Hp} {P P' Pa Pb : PyData → Prop} {pos : Pos}
theorem JD.up (h : JD W X e σ F P) (x : Ex F G) : JD W X e σ G P := fun H g Q q => h H (g.less x) Q fun v d _ J r p k =>
  let ⟨r', x'⟩ := Gr.more x g r
  q v d _ J r' p (k.up x')
theorem JDs.up {P : List PyData → Prop} (h : JDs W X es σ F P) (x : Ex F G) : JDs W X es σ G P := fun H g Q q => h H (g.less x) Q fun v d _ J r p k =>
  let ⟨r', x'⟩ := Gr.more x g r
  q v d _ J r' p (k.up x')
theorem JT.up {P : Bool → Prop} (h : JT W X e σ F P) (x : Ex F G) : JT W X e σ G P := fun H g Q q => h H (g.less x) Q fun b _ J r p =>
  q b _ J (Gr.more x g r).1 p
theorem JD.imp (h : JD W X e σ F P) (k : ∀ d, P d → P' d) : JD W X e σ F P' := fun H g Q q => h H g Q fun v d G J r p => q v d G J r (k d p)
theorem JT.imp {P P' : Bool → Prop} (h : JT W X e σ F P) (k : ∀ d, P d → P' d) : JT W X e σ F P' := fun H g Q q => h H g Q fun b G J r p => q b G J r (k b p)
theorem JD.is {d d' : PyData} (h : JD W X e σ F (Is d)) (k : d = d') : JD W X e σ F (Is d') := k ▸ h
theorem JT.is {d d' : Bool} (h : JT W X e σ F (Is d)) (k : d = d') : JT W X e σ F (Is d') := k ▸ h
theorem JD.sub (s : Sub Wa W) (h : JD Wa X e σ F P) : JD W X e σ F P := fun H g Q q => h H (g.sub s) Q fun v d G J r p k => q v d G J (r.sub s g) p k

/-! ### names, constants -/
theorem jd_var (i : Nat) {x : Str} {v : V} {d : PyData} (hs : σ[i]? = some (some v)) (h : Dq F v d) (hN : X.N[i]? = some x := by rfl) (hv : Vis X.env.scope x := by first | exact Or.inl rfl | exact Or.inr (Or.inl rfl) | exact Or.inr (Or.inr rfl))
    (hd : (x == ("__debug__" : Str)) = false := by decide) (hcd : (x == ("__classdict__" : Str)) = false := by decide) : JD W X (.Name x pos) σ F (Is d) :=
  fun H g Q q => je_of (pe_var hN hv hd hcd) ⟨v, hs, q v d F H g.gr rfl h⟩
theorem jd_int {i : Int} {j} : JD W X (.Constant (.int i) j pos) σ F (Is (.int i)) := fun H g Q q => je_of pe_int (q _ _ F H g.gr rfl (.int i))
theorem jd_bool {i : Bool} {j} : JD W X (.Constant (.bool i) j pos) σ F (Is (.bool i)) := fun H g Q q => je_of pe_bl (q _ _ F H g.gr rfl (.bl i))
theorem jd_none {j} : JD W X (.Constant .none j pos) σ F (Is .none) := fun H g Q q => je_of pe_non (q _ _ F H g.gr rfl .non)
theorem jd_str {x : Str} {j} : JD W X (.Constant (.str x) j pos) σ F (Is (.str x)) := fun H g Q q => je_of pe_str (q _ _ F H g.gr rfl (.str x))

/-! ### operators -/
/-- what an operator of two makes of data -/
def OpD (W : Wo) (X : Cx) (f : Value → Value → Sem Value) (x y : PyData) (P : PyData → Prop) : Prop :=
  ∃ r : R2, OpR X f r ∧ ∀ F H, Good W F H → ∀ v u Q, Dq F v x → Dq F u y → (∀ z d G J, Gr W F H G J → P d → Dq G z d → Q z J) → r v u H Q
theorem jd_op {op : Operator} (ha : JD W X a σ F Pa) (hb : JD W X b σ F Pb) (ho : ∀ x y, Pa x → Pb y → OpD W X (binaryOp op) x y P) : JD W X (.BinOp a op b pos) σ F P := fun H g Q q => fun pins s I => by
  refine wpAny_BinOp (thn (ha H g (fun v J => ∃ d G, Gr W F H G J ∧ Pa d ∧ Dq G v d) (fun v d G J r p k => ⟨d, G, r, p, k⟩) pins s I) fun v s1 ⟨x, H1, I1, rx, d, G, r, p, k⟩ => ?_)
  refine thn ((hb.up r.fg) H1 (r.good g) (fun u J => ∃ d' G', Gr W G H1 G' J ∧ Pb d' ∧ Dq G' u d') (fun v d G J r p k => ⟨d, G, r, p, k⟩) pins s1 I1) fun u s2 ⟨y, H2, I2, ry, d', G', r', p', k'⟩ => ?_
  obtain ⟨rr, hr, hq⟩ := ho d d' p p'
  exact hr pins s2 σ H2 x y v u Q I2 rx ry (hq G' H2 (r'.good (r.good g)) x y Q (k.up r'.fg) k' fun z d'' G'' J r'' p'' k'' => q z d'' G'' J ((r.trans r' g).trans r'' g) p'' k'')
theorem jd_cmp {op : CmpOp} (ha : JD W X a σ F Pa) (hb : JD W X b σ F Pb) (ho : ∀ x y, Pa x → Pb y → OpD W X (compareOp op) x y P) (hm : behindInMarks op b = false := by first | exact nobehind _ (by decide) (by decide) | rfl) :
    JD W X (.Compare a [op] [b] pos) σ F P := fun H g Q q => fun pins s I => by
  refine wpAny_Compare1 (thn (ha H g (fun v J => ∃ d G, Gr W F H G J ∧ Pa d ∧ Dq G v d) (fun v d G J r p k => ⟨d, G, r, p, k⟩) pins s I) fun v s1 ⟨x, H1, I1, rx, d, G, r, p, k⟩ => ?_) hm
  refine thn ((hb.up r.fg) H1 (r.good g) (fun u J => ∃ d' G', Gr W G H1 G' J ∧ Pb d' ∧ Dq G' u d') (fun v d G J r p k => ⟨d, G, r, p, k⟩) pins s1 I1) fun u s2 ⟨y, H2, I2, ry, d', G', r', p', k'⟩ => ?_
  obtain ⟨rr, hr, hq⟩ := ho d d' p p'
  exact hr pins s2 σ H2 x y v u Q I2 rx ry (hq G' H2 (r'.good (r.good g)) x y Q (k.up r'.fg) k' fun z d'' G'' J r'' p'' k'' => q z d'' G'' J ((r.trans r' g).trans r'' g) p'' k'')
theorem jt_cmp {op : CmpOp} {P : Bool → Prop} (ha : JD W X a σ F Pa) (hb : JD W X b σ F Pb) (ho : ∀ x y, Pa x → Pb y → OpD W X (compareOp op) x y (fun d => ∃ k, d = .bool k ∧ P k)) (hm : behindInMarks op b = false := by first | exact nobehind _ (by decide) (by decide) | rfl) :
    JT W X (.Compare a [op] [b] pos) σ F P := fun H g Q q => fun pins s I => by
  refine wpAny_isTrue_Compare1 (thn (ha H g (fun v J => ∃ d G, Gr W F H G J ∧ Pa d ∧ Dq G v d) (fun v d G J r p k => ⟨d, G, r, p, k⟩) pins s I) fun v s1 ⟨x, H1, I1, rx, d, G, r, p, k⟩ => ?_) hm
  refine thn ((hb.up r.fg) H1 (r.good g) (fun u J => ∃ d' G', Gr W G H1 G' J ∧ Pb d' ∧ Dq G' u d') (fun v d G J r p k => ⟨d, G, r, p, k⟩) pins s1 I1) fun u s2 ⟨y, H2, I2, ry, d', G', r', p', k'⟩ => ?_
  obtain ⟨rr, hr, hq⟩ := ho d d' p p'
  refine thn (hr pins s2 σ H2 x y v u (fun z J => ∃ k, z = .bl k ∧ Q k J) I2 rx ry (hq G' H2 (r'.good (r.good g)) x y _ (k.up r'.fg) k' fun z d'' G'' J r'' p'' k'' => ?_)) fun c s3 ⟨z, H3, I3, rz, m, ez, qz⟩ => ?_
  · obtain ⟨m, rfl, pm⟩ := p''
    cases k''
    exact ⟨m, rfl, q m G'' J ((r.trans r' g).trans r'' g) pm⟩
  · subst ez
    cases rz
    exact wpAny_truthy_bool ⟨H3, I3, qz⟩
/-- an expression that gives a truth value, as a test -/
theorem jt_val {P : Bool → Prop} (h : JD W X e σ F (fun d => ∃ k, d = .bool k ∧ P k)) (he : ∀ whole, isTrue e X.env whole = (do let v ← whole; standAt e.pos; holding [v] (truthy v)) := by intro _; rfl) : JT W X e σ F P := fun H g Q q =>
  jb_of (pt_val pe_self he) (h H g _ fun v d G J r ⟨k, ed, p⟩ kd => by
    subst ed
    cases kd
    exact ⟨k, rfl, q k G J r p⟩)
theorem jt_not {P P' : Bool → Prop} (h : JT W X a σ F P) (k : ∀ b, P b → P' (!b)) : JT W X (.UnaryOp .Not a pos) σ F P' := fun H g Q q =>
  jb_of (pt_not pt_self) (h H g _ fun b G J r p => q _ G J r (k b p))
theorem jt_notIs {m : Bool} (h : JT W X a σ F (Is m)) : JT W X (.UnaryOp .Not a pos) σ F (Is (!m)) := jt_not h fun _ p => by rw [p]
theorem jd_not {Pb : Bool → Prop} (h : JD W X a σ F (fun d => ∃ k, d = .bool k ∧ Pb k)) (k : ∀ b, Pb b → P (.bool (!b))) : JD W X (.UnaryOp .Not a pos) σ F P := fun H g Q q =>
  je_of (pe_not pe_self) (h H g _ fun v d G J r ⟨m, ed, p⟩ kd => by
    subst ed
    cases kd
    exact ⟨m, rfl, q _ _ G J r (k m p) (.bl _)⟩)
theorem jd_notIs {m : Bool} (h : JD W X a σ F (Is (.bool m))) : JD W X (.UnaryOp .Not a pos) σ F (Is (.bool (!m))) :=
  jd_not (Pb := Is m) (h.imp fun d e => ⟨m, e, rfl⟩) fun b e => by rw [e]
/-- and, or: the second is asked only where the first leaves it open -/
theorem jd_and {op m n : Bool} {rest : List Expr} (ha : JD W X a σ F (Is (.bool m))) (hb : m = true → JD W X (.BoolOp .And (b :: rest) pos) σ F (Is (.bool n))) : JD W X (.BoolOp .And (a :: b :: rest) pos) σ F (Is (.bool (m && n))) := fun H g Q q =>
  je_of (pe_and pe_self pe_self) (ha H g _ fun v d G J r p kd => by
    subst p
    cases kd
    refine ⟨m, rfl, ?_⟩
    cases m with
    | true => rw [if_pos rfl]; exact ((hb rfl).up r.fg) J (r.good g) Q fun v d G' J' r' p' k' => q v d G' J' (r.trans r' g) p' k'
    | false => rw [if_neg Bool.false_ne_true]; exact q _ _ G J r rfl (.bl _))
theorem jd_or {m n : Bool} {rest : List Expr} (ha : JD W X a σ F (Is (.bool m))) (hb : m = false → JD W X (.BoolOp .Or (b :: rest) pos) σ F (Is (.bool n))) : JD W X (.BoolOp .Or (a :: b :: rest) pos) σ F (Is (.bool (m || n))) := fun H g Q q =>
  je_of (pe_or pe_self pe_self) (ha H g _ fun v d G J r p kd => by
    subst p
    cases kd
    refine ⟨m, rfl, ?_⟩
    cases m with
    | false => rw [if_neg Bool.false_ne_true]; exact ((hb rfl).up r.fg) J (r.good g) Q fun v d G' J' r' p' k' => q v d G' J' (r.trans r' g) p' k'
    | true => rw [if_pos rfl]; exact q _ _ G J r rfl (.bl _))
theorem jd_one {op} (ha : JD W X a σ F P) : JD W X (.BoolOp op [a] pos) σ F P := fun H g Q q => je_of (pe_one pe_self) (ha H g Q q)
/-- the same as tests -/
def JW (W : Wo) (X : Cx) (e : Expr) (σ : St) (F : Hp) (P : Bool → Prop) : Prop :=
  ∀ (whole : Sem Value) H, Good W F H → ∀ Q : Bool → Hp → Prop, (∀ b G J, Gr W F H G J → P b → Q b J) → ∀ pins s, Inv X pins σ H s → wpAny (model X.prog X.w) X.A (isTrue e X.env whole) (TP X pins σ Q) X.xe s
theorem JW.t {P : Bool → Prop} (h : JW W X e σ F P) : JT W X e σ F P := fun H g Q q pins s I => h _ H g Q q pins s I
theorem jw_and1 {P : Bool → Prop} (ha : JT W X a σ F P) : JW W X (.BoolOp .And [a] pos) σ F P := fun wh H g Q q pins s I =>
  (pw_and1 pt_self).run wh pins s σ H Q I (ha H g Q q)
theorem jw_or1 {P : Bool → Prop} (ha : JT W X a σ F P) : JW W X (.BoolOp .Or [a] pos) σ F P := fun wh H g Q q pins s I =>
  (pw_or1 pt_self).run wh pins s σ H Q I (ha H g Q q)
theorem jw_and {P P1 : Bool → Prop} {rest : List Expr} (ha : JT W X a σ F P1) (h0 : P1 false → P false) (hb : P1 true → JW W X (.BoolOp .And (b :: rest) pos) σ F P) : JW W X (.BoolOp .And (a :: b :: rest) pos) σ F P := fun wh H g Q q pins s I => by
  refine isTrue_and (thn (ha H g (fun b J => ∃ G, Gr W F H G J ∧ P1 b) (fun b G J r p => ⟨G, r, p⟩) pins s I) fun c s1 ⟨H1, I1, G, r, p⟩ => ?_)
  cases c with
  | true =>
    have hb' := hb p
    refine hb' wh H1 ((r.good g).less r.fg) Q (fun b G' J' r' p' => ?_) pins s1 I1
    have rr : Gr W F H G' J' := by
      refine ⟨r'.fg, r'.gj, fun a o n e => r'.hj a o n (r.hj a o n e), r'.ok, fun a o e => ?_⟩
      by_cases hm : W.m a
      · obtain ⟨o', e'⟩ := W.there r.ok hm
        exact r'.new a o' e'
      · exact r'.new a o (r.hj a o hm e)
    exact q b G' J' rr p'
  | false => exact ⟨H1, I1, q false G H1 r (h0 p)⟩
theorem jw_or {P P1 : Bool → Prop} {rest : List Expr} (ha : JT W X a σ F P1) (h0 : P1 true → P true) (hb : P1 false → JW W X (.BoolOp .Or (b :: rest) pos) σ F P) : JW W X (.BoolOp .Or (a :: b :: rest) pos) σ F P := fun wh H g Q q pins s I => by
  refine isTrue_or (thn (ha H g (fun b J => ∃ G, Gr W F H G J ∧ P1 b) (fun b G J r p => ⟨G, r, p⟩) pins s I) fun c s1 ⟨H1, I1, G, r, p⟩ => ?_)
  cases c with
  | false =>
    have hb' := hb p
    refine hb' wh H1 ((r.good g).less r.fg) Q (fun b G' J' r' p' => ?_) pins s1 I1
    have rr : Gr W F H G' J' := by
      refine ⟨r'.fg, r'.gj, fun a o n e => r'.hj a o n (r.hj a o n e), r'.ok, fun a o e => ?_⟩
      by_cases hm : W.m a
      · obtain ⟨o', e'⟩ := W.there r.ok hm
        exact r'.new a o' e'
      · exact r'.new a o (r.hj a o hm e)
    exact q b G' J' rr p'
  | true => exact ⟨H1, I1, q true G H1 r (h0 p)⟩
/-! ### argument lists, displays -/
theorem jds_nil : JDs W X [] σ F (Is []) := fun H g Q q => ja_of pa_nil (q [] [] F H g.gr rfl .nil)
theorem jds_cons {Ps P : List PyData → Prop} (ha : JD W X a σ F Pa) (hr : JDs W X es σ F Ps) (k : ∀ d ds, Pa d → Ps ds → P (d :: ds)) (hs : starEach (a :: es) X.env = (false, eval a X.env) :: starEach es X.env := by rfl) : JDs W X (a :: es) σ F P := fun H g Q q =>
  ja_of (pa_cons pe_self pa_self hs) (ha H g _ fun v d G J r p kd => (hr.up r.fg) J (r.good g) _ fun vs ds G' J' r' p' k' => q _ _ G' J' (r.trans r' g) (k d ds p p') (.cons (kd.up r'.fg) k'))
theorem jds_is {d : PyData} {ds : List PyData} (ha : JD W X a σ F (Is d)) (hr : JDs W X es σ F (Is ds)) (hs : starEach (a :: es) X.env = (false, eval a X.env) :: starEach es X.env := by rfl) : JDs W X (a :: es) σ F (Is (d :: ds)) :=
  jds_cons ha hr (fun _ _ p q => by rw [p, q]) hs
theorem jd_list {Ps : List PyData → Prop} (h : JDs W X es σ F Ps) (hp : ∀ ds, Ps ds → ds.length ≤ 100000 ∧ P (.list ds)) : JD W X (.List es pos) σ F P := fun H g Q q =>
  je_of (pe_lst pa_self) (h H g _ fun vs ds G J r p kd => ⟨by rw [kd.len]; exact Nat.le_trans (hp ds p).1 (by decide), fun l hl => by
    have r2 := Gr.know (o := .lst vs) (r.good g) hl
    exact q _ _ _ _ (r.trans r2 g) (hp ds p).2 (.lst upd_same (kd.up r2.fg))⟩)
theorem jd_tup {Ps : List PyData → Prop} {k : Nat} (h : JDs W X es σ F Ps) (hp : ∀ ds, Ps ds → ds.length ≤ 100000 ∧ P (.tuple ds)) : JD W X (.Tuple es k pos) σ F P := fun H g Q q =>
  je_of (pe_tup pa_self) (h H g _ fun vs ds G J r p kd => ⟨by rw [kd.len]; exact Nat.le_trans (hp ds p).1 (by decide), fun l hl => by
    have r2 := Gr.know (o := .tup vs) (r.good g) hl
    exact q _ _ _ _ (r.trans r2 g) (hp ds p).2 (.tup upd_same (kd.up r2.fg))⟩)
end
end Dw
/-! Operators, subscripts, slices, built-ins, calls: by data. -/
namespace Dw
open PySem PySem.Spec PyProof.Rows L2 -- (Dw)
section
variable {W : Wo} {X : Cx} {e a b : Expr} {es : List Expr} {σ : St} {F : Hp} {P Pa Pb : PyData → Prop} {pos p : Pos} {x y d : PyData}
theorem jd_bin {op : Operator} (ha : JD W X a σ F (Is x)) (hb : JD W X b σ F (Is y)) (ho : OpD W X (binaryOp op) x y P) : JD W X (.BinOp a op b pos) σ F P :=
  jd_op ha hb fun _ _ h k => by rw [h, k]; exact ho
theorem jd_cp {op : CmpOp} (ha : JD W X a σ F (Is x)) (hb : JD W X b σ F (Is y)) (ho : OpD W X (compareOp op) x y P) (hm : behindInMarks op b = false := by first | exact nobehind _ (by decide) (by decide) | rfl) : JD W X (.Compare a [op] [b] pos) σ F P :=
  jd_cmp ha hb (fun _ _ h k => by rw [h, k]; exact ho) hm
theorem jt_cp {op : CmpOp} {k : Bool} (ha : JD W X a σ F (Is x)) (hb : JD W X b σ F (Is y)) (ho : OpD W X (compareOp op) x y (Is (.bool k))) (hm : behindInMarks op b = false := by first | exact nobehind _ (by decide) (by decide) | rfl) : JT W X (.Compare a [op] [b] pos) σ F (Is k) :=
  jt_cmp ha hb (fun _ _ h h' => by
    rw [h, h']
    obtain ⟨r, o, q⟩ := ho
    exact ⟨r, o, fun F H g v u Q hv hu w => q F H g v u Q hv hu fun z d G J r ed kd => w z d G J r ⟨k, ed, rfl⟩ kd⟩) hm
theorem jt_of {k : Bool} (h : JD W X e σ F (Is (.bool k))) (he : ∀ whole, isTrue e X.env whole = (do let v ← whole; standAt e.pos; holding [v] (truthy v)) := by intro _; rfl) : JT W X e σ F (Is k) :=
  jt_val (h.imp fun d q => ⟨k, q, rfl⟩) he
theorem od_0 {f : Value → Value → Sem Value} {g : Int → Int → V} {i j : Int} (h : OpR X f (rI0 g)) (hg : ∀ H, Dq H (g i j) d) : OpD W X f (.int i) (.int j) (Is d) :=
  ⟨_, h, fun F H gd v u Q hv hu q => by cases hv; cases hu; exact ⟨i, j, rfl, rfl, q _ _ F H gd.gr rfl (hg _)⟩⟩
theorem od_1 {f : Value → Value → Sem Value} {C : Int → Int → Prop} {g : Int → Int → V} {i j : Int} (h : OpR X f (rI C g)) (hc : C i j) (hg : ∀ H, Dq H (g i j) d) : OpD W X f (.int i) (.int j) (Is d) :=
  ⟨_, h, fun F H gd v u Q hv hu q => by cases hv; cases hu; exact ⟨i, j, rfl, rfl, hc, q _ _ F H gd.gr rfl (hg _)⟩⟩
variable {i j : Int} {k l : Bool} {s t : Str}
theorem od_add : OpD W X (binaryOp .Add) (.int i) (.int j) (Is (.int (i + j))) := od_0 op_add fun _ => .int _
theorem od_sub : OpD W X (binaryOp .Sub) (.int i) (.int j) (Is (.int (i - j))) := od_0 op_sub fun _ => .int _
theorem od_mul (h : CMul i j) : OpD W X (binaryOp .Mult) (.int i) (.int j) (Is (.int (i * j))) := od_1 op_mul h fun _ => .int _
theorem od_mod (h : 0 < j) : OpD W X (binaryOp .Mod) (.int i) (.int j) (Is (.int (i % j))) := od_1 op_mod h fun _ => .int _
theorem od_div (h : CDiv i j) : OpD W X (binaryOp .FloorDiv) (.int i) (.int j) (Is (.int (i / j))) := od_1 op_fdiv h fun _ => .int _
theorem od_pow (h : CPow i j) : OpD W X (binaryOp .Pow) (.int i) (.int j) (Is (.int (i ^ j.toNat))) := od_1 op_pow h fun _ => .int _
theorem od_shl (h : CPow i j) : OpD W X (binaryOp .LShift) (.int i) (.int j) (Is (.int (i * 2 ^ j.toNat))) := od_1 op_shl h fun _ => .int _
theorem od_shr (h : 0 ≤ j) : OpD W X (binaryOp .RShift) (.int i) (.int j) (Is (.int (i / 2 ^ j.toNat))) := od_1 op_shr h fun _ => .int _
theorem od_and : OpD W X (binaryOp .BitAnd) (.int i) (.int j) (Is (.int (Builtin.bitAnd i j))) := od_0 op_and fun _ => .int _
theorem od_or : OpD W X (binaryOp .BitOr) (.int i) (.int j) (Is (.int (Builtin.bitOr i j))) := od_0 op_or fun _ => .int _
theorem od_lt : OpD W X (compareOp .Lt) (.int i) (.int j) (Is (.bool (decide (i < j)))) := od_0 op_lt fun _ => .bl _
theorem od_le : OpD W X (compareOp .LtE) (.int i) (.int j) (Is (.bool (decide (i ≤ j)))) := od_0 op_le fun _ => .bl _
theorem od_gt : OpD W X (compareOp .Gt) (.int i) (.int j) (Is (.bool (decide (j < i)))) := od_0 op_gt fun _ => .bl _
theorem od_ge : OpD W X (compareOp .GtE) (.int i) (.int j) (Is (.bool (decide (j ≤ i)))) := od_0 op_ge fun _ => .bl _
theorem od_eqI : OpD W X (compareOp .Eq) (.int i) (.int j) (Is (.bool (decide (i = j)))) :=
  ⟨_, op_eq, fun F H gd v u Q hv hu q => by cases hv; cases hu; exact ⟨rfl, q _ _ F H gd.gr (by simp) (.bl _)⟩⟩
theorem od_neI : OpD W X (compareOp .NotEq) (.int i) (.int j) (Is (.bool (!decide (i = j)))) :=
  ⟨_, op_ne, fun F H gd v u Q hv hu q => by cases hv; cases hu; exact ⟨rfl, q _ _ F H gd.gr (by simp) (.bl _)⟩⟩
theorem od_eqS : OpD W X (compareOp .Eq) (.str s) (.str t) (Is (.bool (decide (s = t)))) :=
  ⟨_, op_eq, fun F H gd v u Q hv hu q => by cases hv; cases hu; exact ⟨rfl, q _ _ F H gd.gr (by simp) (.bl _)⟩⟩
theorem od_neS : OpD W X (compareOp .NotEq) (.str s) (.str t) (Is (.bool (!decide (s = t)))) :=
  ⟨_, op_ne, fun F H gd v u Q hv hu q => by cases hv; cases hu; exact ⟨rfl, q _ _ F H gd.gr (by simp) (.bl _)⟩⟩
theorem od_neB : OpD W X (compareOp .NotEq) (.bool k) (.bool l) (Is (.bool (!decide (k = l)))) :=
  ⟨_, op_ne, fun F H gd v u Q hv hu q => by cases hv; cases hu; exact ⟨rfl, q _ _ F H gd.gr (by simp) (.bl _)⟩⟩
def isNon : PyData → Bool
  | .none => true
  | _ => false
theorem isNon_v {H : Hp} {v : V} (h : Dq H v x) : decide (v = .non) = isNon x := by cases h <;> simp [isNon]
theorem od_isN : OpD W X (compareOp .Is) x .none (Is (.bool (isNon x))) :=
  ⟨_, op_isN, fun F H gd v u Q hv hu q => by cases hu; exact ⟨rfl, q _ _ F H gd.gr (by rw [isNon_v hv]) (.bl _)⟩⟩
theorem od_notN : OpD W X (compareOp .IsNot) x .none (Is (.bool (!isNon x))) :=
  ⟨_, op_notN, fun F H gd v u Q hv hu q => by cases hu; exact ⟨rfl, q _ _ F H gd.gr (by rw [isNon_v hv]) (.bl _)⟩⟩
theorem Dq.inG {F H : Hp} {v : V} (g : Good W F H) (h : Dq F v x) : Dq H v x := h.up g.fh
theorem od_eqD (hu : X.A.units + 64 < cLine) (hx : SeqAt.shaped x = true) (hy : SeqAt.shaped y = true) : OpD W X (compareOp .Eq) x y (Is (.bool (PyData.eqv x y))) :=
  ⟨_, op_eqD hu, fun F H gd v u Q hv hu q => ⟨x, y, (hv.inG gd).to, (hu.inG gd).to, hx, hy, q _ _ F H gd.gr rfl (.bl _)⟩⟩
theorem od_notInD {ds : List PyData} (hu : X.A.units + 65 < cLine) (hx : SeqAt.shaped x = true) (hy : SeqAt.shaped (.list ds) = true) : OpD W X (compareOp .NotIn) x (.list ds) (Is (.bool (!ds.any fun z => PyData.eqv z x))) :=
  ⟨_, op_notInD hu, fun F H gd v u Q hv hu q => ⟨x, ds, (hv.inG gd).to, (hu.inG gd).to, hx, hy, q _ _ F H gd.gr rfl (.bl _)⟩⟩
theorem flat_ints (ns : List Int) : (ns.map V.int).all flatV = true := by
  rw [List.all_map]; exact List.all_eq_true.mpr fun _ _ => rfl
theorem inV_ints (ns : List Int) : inV (.int i) (ns.map V.int) = decide (i ∈ ns) := by
  induction ns with
  | nil => rfl
  | cons n ns ih =>
    have e : inV (.int i) ((n :: ns).map V.int) = ((n == i) || inV (.int i) (ns.map V.int)) := rfl
    rw [e, ih, Bool.eq_iff_iff]
    simp only [Bool.or_eq_true, beq_iff_eq, decide_eq_true_eq, List.mem_cons]
    exact ⟨fun h => h.elim (fun z => .inl z.symm) .inr, fun h => h.elim (fun z => .inl z.symm) .inr⟩
theorem od_inL {ns : List Int} : OpD W X (compareOp .In) (.int i) (.list (ns.map .int)) (Is (.bool (decide (i ∈ ns)))) :=
  ⟨_, op_in_seq, fun F H gd v u Q hv hu q => by
    cases hv
    cases hu with
    | lst ha hk =>
      rw [hk.ints_of] at ha
      exact ⟨_, _, rfl, .inl (SqL.of (gd.fh _ _ ha)), rfl, flat_ints ns, q _ _ F H gd.gr (by rw [if_neg Bool.false_ne_true, inV_ints]) (.bl _)⟩⟩
theorem od_notInL {ns : List Int} : OpD W X (compareOp .NotIn) (.int i) (.list (ns.map .int)) (Is (.bool (!decide (i ∈ ns)))) :=
  ⟨_, op_notIn_seq, fun F H gd v u Q hv hu q => by
    cases hv
    cases hu with
    | lst ha hk =>
      rw [hk.ints_of] at ha
      exact ⟨_, _, rfl, .inl (SqL.of (gd.fh _ _ ha)), rfl, flat_ints ns, q _ _ F H gd.gr (by rw [if_pos rfl, inV_ints]) (.bl _)⟩⟩
theorem od_notInT {ns : List Int} : OpD W X (compareOp .NotIn) (.int i) (.tuple (ns.map .int)) (Is (.bool (!decide (i ∈ ns)))) :=
  ⟨_, op_notIn_seq, fun F H gd v u Q hv hu q => by
    cases hv
    cases hu with
    | tup ha hk =>
      rw [hk.ints_of] at ha
      exact ⟨_, _, rfl, .inr (SqT.of (gd.fh _ _ ha)), rfl, flat_ints ns, q _ _ F H gd.gr (by rw [if_pos rfl, inV_ints]) (.bl _)⟩⟩
theorem od_cat {ds fs : List PyData} (h : ds.length + fs.length ≤ 100000) : OpD W X (binaryOp .Add) (.list ds) (.list fs) (Is (.list (ds ++ fs))) :=
  ⟨_, op_cat, fun F H gd v u Q hv hu q => by
    cases hv with
    | lst ha hk =>
      cases hu with
      | lst hb hl =>
        exact ⟨_, _, _, _, rfl, rfl, gd.fh _ _ ha, gd.fh _ _ hb, by rw [hk.len, hl.len]; exact Nat.le_trans h (by decide), fun p hp =>
          q _ _ _ _ (Gr.know gd hp) rfl (.lst upd_same ((hk.app hl).up (Gr.know gd hp).fg))⟩⟩
theorem DqAll.rep {H : Hp} {vs : List V} {ds : List PyData} (h : DqAll H vs ds) : ∀ n : Nat, DqAll H (List.replicate n vs).flatten (List.replicate n ds).flatten
  | 0 => .nil
  | n + 1 => by
    rw [List.replicate_succ, List.replicate_succ, List.flatten_cons, List.flatten_cons] -- (Dw)
    exact h.app (DqAll.rep h n)
theorem flat_rep1 {α : Type} (z : α) (n : Nat) : (List.replicate n [z]).flatten = List.replicate n z := by
  induction n with
  | zero => rfl
  | succ n ih => rw [List.replicate_succ, List.flatten_cons, ih]; rfl
theorem od_rep1 {z : PyData} {n : Nat} (h : n ≤ 100000) : OpD W X (binaryOp .Mult) (.list [z]) (.int (n : Int)) (Is (.list (List.replicate n z))) :=
  ⟨_, op_rep, fun F H gd v u Q hv hu q => by
    cases hu
    cases hv with
    | @lst A xs _ ha hk =>
      refine ⟨_, _, _, rfl, rfl, gd.fh _ _ ha, by omega, by omega, ?_, fun p hp => ?_⟩
      · rw [hk.len]; show 1 * (n : Int).toNat ≤ sizeLine; rw [sizeLine_eq]; omega
      · have r := Gr.know (o := .lst (List.replicate (n : Int).toNat xs).flatten) gd hp
        refine q _ _ _ _ r rfl (.lst upd_same ?_)
        have z2 := (DqAll.rep hk n).up r.fg
        rw [flat_rep1] at z2
        exact z2⟩
/-! ### one value after another -/
theorem JD.dq {Q : VK} {H : Hp} (h : JD W X e σ F P) (g : Good W F H) (q : ∀ v d G J, Gr W F H G J → Good W G J → P d → Dq G v d → Q v J) : JE X e σ H Q :=
  h H g Q fun v d G J r p k => q v d G J r (r.good g) p k
theorem je_2 {t : TE} {Pa Pb : PyData → Prop} {ta : R2} {Q : VK} {H : Hp} (hp : PE X e (tOp ta (fun σ H Q => JE X a σ H Q) (fun σ H Q => JE X b σ H Q))) (g : Good W F H) (ha : JD W X a σ F Pa) (hb : JD W X b σ F Pb)
    (h : ∀ v u x y G J, Gr W F H G J → Good W G J → Pa x → Pb y → Dq G v x → Dq G u y → ta v u J Q) : JE X e σ H Q :=
  je_of hp (ha.dq g fun v x G J r g' p k => (hb.up r.fg).dq g' fun u y G' J' r' g'' p' k' => h v u x y G' J' (r.trans r' g) g'' p p' (k.up r'.fg) k')
/-! ### subscripts -/
theorem jd_ixP (ha : JD W X a σ F Pa) (hb : JD W X b σ F Pb) (h : ∀ x y, Pa x → Pb y → ∃ (ds : List PyData) (k : Nat) (d : PyData), x = .list ds ∧ y = .int (k : Int) ∧ ds[k]? = some d ∧ P d) (hs : PlainIx b := by exact fun _ _ => rfl) :
    JD W X (.Subscript a b pos) σ F P := fun H g Q q => je_2 (t := fun _ _ _ => True) (pe_ix ix_list pe_self pe_self hs) g ha hb fun v u x y G J r g' p p' k k' => by
  obtain ⟨ds, n, d, rfl, rfl, hd, pd⟩ := h x y p p'
  cases k'
  cases k with
  | lst hA hk =>
    obtain ⟨w, hw, kd⟩ := hk.ex hd
    exact ⟨_, _, _, w, rfl, rfl, SqL.of (g'.fh _ _ hA), atI_nat hw, q _ _ G J r pd kd⟩
theorem jd_ix {ds : List PyData} {k : Nat} {d : PyData} (ha : JD W X a σ F (Is (.list ds))) (hb : JD W X b σ F (Is (.int (k : Int)))) (hd : ds[k]? = some d) (hs : PlainIx b := by exact fun _ _ => rfl) : JD W X (.Subscript a b pos) σ F (Is d) :=
  jd_ixP ha hb (fun _ _ h h' => ⟨ds, k, d, h, h', hd, rfl⟩) hs
theorem jd_ixTP (ha : JD W X a σ F Pa) (hb : JD W X b σ F Pb) (h : ∀ x y, Pa x → Pb y → ∃ (ds : List PyData) (k : Nat) (d : PyData), x = .tuple ds ∧ y = .int (k : Int) ∧ ds[k]? = some d ∧ P d) (hs : PlainIx b := by exact fun _ _ => rfl) :
    JD W X (.Subscript a b pos) σ F P := fun H g Q q => je_2 (t := fun _ _ _ => True) (pe_ix ix_tup pe_self pe_self hs) g ha hb fun v u x y G J r g' p p' k k' => by
  obtain ⟨ds, n, d, rfl, rfl, hd, pd⟩ := h x y p p'
  cases k'
  cases k with
  | tup hA hk =>
    obtain ⟨w, hw, kd⟩ := hk.ex hd
    exact ⟨_, _, _, w, rfl, rfl, SqT.of (g'.fh _ _ hA), atI_nat hw, q _ _ G J r pd kd⟩
theorem jd_ixT {ds : List PyData} {k : Nat} {d : PyData} (ha : JD W X a σ F (Is (.tuple ds))) (hb : JD W X b σ F (Is (.int (k : Int)))) (hd : ds[k]? = some d) (hs : PlainIx b := by exact fun _ _ => rfl) : JD W X (.Subscript a b pos) σ F (Is d) :=
  jd_ixTP ha hb (fun _ _ h h' => ⟨ds, k, d, h, h', hd, rfl⟩) hs
/-! ### slices -/
theorem cut_to (vs : List V) (k : Nat) : cutV vs none (some (k : Int)) = vs.take k := by
  unfold cutV
  rw [HT.sIx_none, HT.sIx_nat, List.drop_zero, Nat.sub_zero]
  rcases Nat.le_total k vs.length with h | h
  · rw [Nat.min_eq_left h]
  · rw [Nat.min_eq_right h, List.take_of_length_le (Nat.le_refl _), List.take_of_length_le h]
theorem cut_from (vs : List V) (k : Nat) : cutV vs (some (k : Int)) none = vs.drop k := by
  unfold cutV
  rw [HT.sIx_none, HT.sIx_nat]
  rcases Nat.le_total k vs.length with h | h
  · rw [Nat.min_eq_left h, List.take_of_length_le (by rw [List.length_drop]; exact Nat.le_refl _)]
  · rw [Nat.min_eq_right h, Nat.sub_self, List.take_zero, List.drop_eq_nil_of_le h]
theorem jd_cutTo {ds : List PyData} {k : Nat} {p2 : Pos} (ha : JD W X a σ F (Is (.list ds))) (hb : JD W X b σ F (Is (.int (k : Int)))) : JD W X (.Subscript a (.Slice none (some b) none p2) pos) σ F (Is (.list (ds.take k))) := fun H g Q q =>
  je_of (pe_slice sl_list pe_self po_none (po_some pe_self)) (ha.dq g fun v x G J r g' ex kx => (hb.up r.fg).dq g' fun u y G' J' r' g'' ey ky => by
    subst ex ey
    cases ky
    cases kx with
    | @lst A xs _ hA hk => exact ⟨_, rfl, _, _, rfl, SqL.of (g''.fh _ _ (r'.fg _ _ hA)), fun p hp => by
        rw [cut_to]
        have r3 := Gr.know (o := .lst (xs.take k)) g'' hp
        exact q _ _ _ _ ((r.trans r' g).trans r3 g) rfl (.lst upd_same ((hk.take k).up (r'.fg.trans r3.fg)))⟩)
theorem jd_cutFrom {ds : List PyData} {k : Nat} {p2 : Pos} (ha : JD W X a σ F (Is (.list ds))) (hb : JD W X b σ F (Is (.int (k : Int)))) : JD W X (.Subscript a (.Slice (some b) none none p2) pos) σ F (Is (.list (ds.drop k))) := fun H g Q q =>
  je_of (pe_slice sl_list pe_self (po_some pe_self) po_none) (ha.dq g fun v x G J r g' ex kx => (hb.up r.fg).dq g' fun u y G' J' r' g'' ey ky => by
    subst ex ey
    cases ky
    cases kx with
    | @lst A xs _ hA hk => exact ⟨_, rfl, _, _, rfl, SqL.of (g''.fh _ _ (r'.fg _ _ hA)), fun p hp => by
        rw [cut_from]
        have r3 := Gr.know (o := .lst (xs.drop k)) g'' hp
        exact q _ _ _ _ ((r.trans r' g).trans r3 g) rfl (.lst upd_same ((hk.drop k).up (r'.fg.trans r3.fg)))⟩)
theorem jd_cutToT {ds : List PyData} {k : Nat} {p2 : Pos} (ha : JD W X a σ F (Is (.tuple ds))) (hb : JD W X b σ F (Is (.int (k : Int)))) (hk : k < ds.length) : JD W X (.Subscript a (.Slice none (some b) none p2) pos) σ F (Is (.tuple (ds.take k))) := fun H g Q q =>
  je_of (pe_slice sl_tup pe_self po_none (po_some pe_self)) (ha.dq g fun v x G J r g' ex kx => (hb.up r.fg).dq g' fun u y G' J' r' g'' ey ky => by
    subst ex ey
    cases ky
    cases kx with
    | @tup A xs _ hA hd => exact ⟨_, rfl, _, _, rfl, SqT.of (g''.fh _ _ (r'.fg _ _ hA)), (fun z => by
        have z2 := z.2
        rw [HT.sIx_nat] at z2
        have := hd.len
        omega), fun p hp => by
        rw [cut_to]
        have r3 := Gr.know (o := .tup (xs.take k)) g'' hp
        exact q _ _ _ _ ((r.trans r' g).trans r3 g) rfl (.tup upd_same ((hd.take k).up (r'.fg.trans r3.fg)))⟩)
/-! ### built-ins -/
theorem jd_callB {n : Str} {id : String} {r : List V → Hp → VK → Prop} {Ps : List PyData → Prop} (hc : CallR X (.builtin id) r) (hg : Gl X n) (hm : X.mg n = none) (hv : bootBuiltins n = some (.builtin id)) (ha : JDs W X (e :: es) σ F Ps)
    (h : ∀ F H vs ds Q, Good W F H → Ps ds → DqAll F vs ds → (∀ z d G J, Gr W F H G J → P d → Dq G z d → Q z J) → r vs H Q) (hn : n ≠ "__name__" := by decide) (hdb : (n == ("__debug__" : Str)) = false := by decide)
    (he : starEach (e :: es) X.env = (false, eval e X.env) :: starEach es X.env := by rfl) (hpl : (backTo pos (starEach es X.env)).any (·.1) = false := by rfl) : JD W X (.Call (.Name n p) (e :: es) [] pos) σ F P := fun H g Q q =>
  je_of (pe_callB hc hg hm hv pa_self hn hdb he hpl) (ha H g _ fun vs ds G J r' pd kd => h G J vs ds Q (r'.good g) pd kd fun z d G' J' r2 p2 k2 => q z d G' J' (r'.trans r2 g) p2 k2)
theorem jd_callTy {n : Str} {T : String} {r : List V → Hp → VK → Prop} {Ps : List PyData → Prop} (hc : CallR X (.type T) r) (hg : Gl X n) (hm : X.mg n = none) (hv : bootBuiltins n = some (.type T)) (ha : JDs W X (e :: es) σ F Ps)
    (h : ∀ F H vs ds Q, Good W F H → Ps ds → DqAll F vs ds → (∀ z d G J, Gr W F H G J → P d → Dq G z d → Q z J) → r vs H Q) (hn : n ≠ "__name__" := by decide) (hdb : (n == ("__debug__" : Str)) = false := by decide)
    (he : starEach (e :: es) X.env = (false, eval e X.env) :: starEach es X.env := by rfl) (hpl : (backTo pos (starEach es X.env)).any (·.1) = false := by rfl) : JD W X (.Call (.Name n p) (e :: es) [] pos) σ F P := fun H g Q q =>
  je_of (pe_callTy hc hg hm hv pa_self hn hdb he hpl) (ha H g _ fun vs ds G J r' pd kd => h G J vs ds Q (r'.good g) pd kd fun z d G' J' r2 p2 k2 => q z d G' J' (r'.trans r2 g) p2 k2)
theorem jds1 {hs : starEach [a] X.env = (false, eval a X.env) :: starEach [] X.env} (ha : JD W X a σ F P) : JDs W X [a] σ F (fun ds => ∃ d, ds = [d] ∧ P d) :=
  jds_cons ha jds_nil (fun d ds p q => ⟨d, by rw [q], p⟩) hs
theorem jd_lenP (hm : X.mg "len" = none) (ha : JD W X a σ F Pa) (h : ∀ x, Pa x → (∃ ds : List PyData, x = .list ds ∧ P (.int (ds.length : Int))) ∨ ∃ ds : List PyData, x = .tuple ds ∧ P (.int (ds.length : Int))) (hg : Gl X "len" := by rfl)
    (hs : starEach [a] X.env = (false, eval a X.env) :: starEach [] X.env := by rfl) (hpl : (backTo pos (starEach [] X.env)).any (·.1) = false := by rfl) : JD W X (.Call (.Name "len" p) [a] [] pos) σ F P :=
  jd_callB call_len_seq hg hm PySem.boot_len (jds1 (hs := hs) ha) (fun F H vs ds Q g ⟨d, ed, pd⟩ kd q => by
    subst ed
    cases kd with
    | cons k1 k2 =>
      cases k2
      rcases h d pd with ⟨es, rfl, pe⟩ | ⟨es, rfl, pe⟩
      · cases k1 with
        | lst hA hk => exact ⟨_, _, rfl, .inl (SqL.of (g.fh _ _ hA)), q _ _ F H g.gr pe (by rw [hk.len]; exact .int _)⟩
      · cases k1 with
        | tup hA hk => exact ⟨_, _, rfl, .inr (SqT.of (g.fh _ _ hA)), q _ _ F H g.gr pe (by rw [hk.len]; exact .int _)⟩) (by decide) (by decide) hs hpl
theorem jd_len {ds : List PyData} (hm : X.mg "len" = none) (ha : JD W X a σ F (Is (.list ds))) (hg : Gl X "len" := by rfl)
    (hs : starEach [a] X.env = (false, eval a X.env) :: starEach [] X.env := by rfl) (hpl : (backTo pos (starEach [] X.env)).any (·.1) = false := by rfl) : JD W X (.Call (.Name "len" p) [a] [] pos) σ F (Is (.int (ds.length : Int))) :=
  jd_lenP hm ha (fun x ex => .inl ⟨ds, ex, rfl⟩) hg hs hpl
theorem jd_lenT {ds : List PyData} (hm : X.mg "len" = none) (ha : JD W X a σ F (Is (.tuple ds))) (hg : Gl X "len" := by rfl)
    (hs : starEach [a] X.env = (false, eval a X.env) :: starEach [] X.env := by rfl) (hpl : (backTo pos (starEach [] X.env)).any (·.1) = false := by rfl) : JD W X (.Call (.Name "len" p) [a] [] pos) σ F (Is (.int (ds.length : Int))) :=
  jd_lenP hm ha (fun x ex => .inr ⟨ds, ex, rfl⟩) hg hs hpl
/-- list(xs), a new one -/
theorem jd_listOf {ds : List PyData} (hm : X.mg "list" = none) (ha : JD W X a σ F (fun x => x = .list ds ∨ x = .tuple ds)) (hg : Gl X "list" := by rfl)
    (hs : starEach [a] X.env = (false, eval a X.env) :: starEach [] X.env := by rfl) (hpl : (backTo pos (starEach [] X.env)).any (·.1) = false := by rfl) : JD W X (.Call (.Name "list" p) [a] [] pos) σ F (Is (.list ds)) :=
  jd_callTy call_list_of hg hm PyProof.Rows.boot_list (jds1 (hs := hs) ha) (fun F H vs ds' Q g ⟨d, ed, pd⟩ kd q => by
    subst ed
    cases kd with
    | cons k1 k2 =>
      cases k2
      rcases pd with rfl | rfl
      · cases k1 with
        | lst hA hk => exact ⟨_, _, rfl, .inl (SqL.of (g.fh _ _ hA)), fun l hl => q _ _ _ _ (Gr.know g hl) rfl (.lst upd_same (hk.up (Gr.know g hl).fg))⟩
      · cases k1 with
        | tup hA hk => exact ⟨_, _, rfl, .inr (SqT.of (g.fh _ _ hA)), fun l hl => q _ _ _ _ (Gr.know g hl) rfl (.lst upd_same (hk.up (Gr.know g hl).fg))⟩) (by decide) (by decide) hs hpl
theorem jd_tupOf {ds : List PyData} (hm : X.mg "tuple" = none) (ha : JD W X a σ F (Is (.list ds))) (hg : Gl X "tuple" := by rfl)
    (hs : starEach [a] X.env = (false, eval a X.env) :: starEach [] X.env := by rfl) (hpl : (backTo pos (starEach [] X.env)).any (·.1) = false := by rfl) : JD W X (.Call (.Name "tuple" p) [a] [] pos) σ F (Is (.tuple ds)) :=
  jd_callTy call_tuple_of hg hm PyProof.Rows.boot_tuple (jds1 (hs := hs) ha) (fun F H vs ds' Q g ⟨d, ed, pd⟩ kd q => by
    subst ed pd
    cases kd with
    | cons k1 k2 =>
      cases k2
      cases k1 with
      | lst hA hk => exact ⟨_, _, rfl, .inl ⟨SqL.of (g.fh _ _ hA), fun l hl => q _ _ _ _ (Gr.know g hl) rfl (.tup upd_same (hk.up (Gr.know g hl).fg))⟩⟩) (by decide) (by decide) hs hpl
theorem jd_intI {i : Int} (hm : X.mg "int" = none) (ha : JD W X a σ F (Is (.int i))) (hg : Gl X "int" := by rfl)
    (hs : starEach [a] X.env = (false, eval a X.env) :: starEach [] X.env := by rfl) (hpl : (backTo pos (starEach [] X.env)).any (·.1) = false := by rfl) : JD W X (.Call (.Name "int" p) [a] [] pos) σ F (Is (.int i)) :=
  jd_callTy call_int1 hg hm PyProof.Rows.boot_int (jds1 (hs := hs) ha) (fun F H vs ds' Q g ⟨d, ed, pd⟩ kd q => by
    subst ed pd
    cases kd with
    | cons k1 k2 =>
      cases k2
      cases k1
      exact .inl ⟨_, rfl, q _ _ F H g.gr rfl (.int _)⟩) (by decide) (by decide) hs hpl
theorem jd_intB {k : Bool} (hm : X.mg "int" = none) (ha : JD W X a σ F (Is (.bool k))) (hg : Gl X "int" := by rfl)
    (hs : starEach [a] X.env = (false, eval a X.env) :: starEach [] X.env := by rfl) (hpl : (backTo pos (starEach [] X.env)).any (·.1) = false := by rfl) : JD W X (.Call (.Name "int" p) [a] [] pos) σ F (Is (.int (if k then 1 else 0))) :=
  jd_callTy call_int1 hg hm PyProof.Rows.boot_int (jds1 (hs := hs) ha) (fun F H vs ds' Q g ⟨d, ed, pd⟩ kd q => by
    subst ed pd
    cases kd with
    | cons k1 k2 =>
      cases k2
      cases k1
      exact .inr ⟨_, rfl, q _ _ F H g.gr rfl (.int _)⟩) (by decide) (by decide) hs hpl
theorem jd_all {bs : List Bool} (hc : X.calm = true) (hm : X.mg "all" = none) (ha : JD W X a σ F (Is (.list (bs.map .bool)))) (hg : Gl X "all" := by rfl)
    (hs : starEach [a] X.env = (false, eval a X.env) :: starEach [] X.env := by rfl) (hpl : (backTo pos (starEach [] X.env)).any (·.1) = false := by rfl) : JD W X (.Call (.Name "all" p) [a] [] pos) σ F (Is (.bool (bs.all id))) :=
  jd_callB (cr_all hc) hg hm PyProof.Rows.boot_all (jds1 (hs := hs) ha) (fun F H vs ds' Q g ⟨d, ed, pd⟩ kd q => by
    subst ed pd
    cases kd with
    | cons k1 k2 =>
      cases k2
      cases k1 with
      | lst hA hk =>
        rw [hk.bools_of] at hA
        exact ⟨_, _, rfl, SqL.of (g.fh _ _ hA), q _ _ F H g.gr rfl (.bl _)⟩) (by decide) (by decide) hs hpl
theorem jd_any {bs : List Bool} (hc : X.calm = true) (hm : X.mg "any" = none) (ha : JD W X a σ F (Is (.list (bs.map .bool)))) (hg : Gl X "any" := by rfl)
    (hs : starEach [a] X.env = (false, eval a X.env) :: starEach [] X.env := by rfl) (hpl : (backTo pos (starEach [] X.env)).any (·.1) = false := by rfl) : JD W X (.Call (.Name "any" p) [a] [] pos) σ F (Is (.bool (bs.any id))) :=
  jd_callB (cr_any hc) hg hm PyProof.Rows.boot_any (jds1 (hs := hs) ha) (fun F H vs ds' Q g ⟨d, ed, pd⟩ kd q => by
    subst ed pd
    cases kd with
    | cons k1 k2 =>
      cases k2
      cases k1 with
      | lst hA hk =>
        rw [hk.bools_of] at hA
        exact ⟨_, _, rfl, SqL.of (g.fh _ _ hA), q _ _ F H g.gr rfl (.bl _)⟩) (by decide) (by decide) hs hpl
/-- list(range(n)) -/
def dInts (ns : List Int) : PyData := .list (ns.map .int)
def upto (n : Nat) : List Int := (List.range n).map fun (k : Nat) => (k : Int)
theorem jd_listRange {n : Nat} {p1 p2 : Pos} (hc : X.calm = true) (hm : X.mg "list" = none) (hr : X.mg "range" = none) (hn : n ≤ 100000) (ha : JD W X a σ F (Is (.int (n : Int)))) (hg : Gl X "list" := by rfl) (hg2 : Gl X "range" := by rfl)
    (hs : starEach [a] X.env = (false, eval a X.env) :: starEach [] X.env := by rfl)
    (hs2 : starEach [.Call (.Name "range" p1) [a] [] p2] X.env = (false, eval (.Call (.Name "range" p1) [a] [] p2) X.env) :: starEach [] X.env := by rfl) :
    JD W X (.Call (.Name "list" p) [.Call (.Name "range" p1) [a] [] p2] [] pos) σ F (Is (dInts (upto n))) := fun H g Q q =>
  je_of (pe_listRg hc hg hm (prg_1 hg2 hr pe_self hs) hs2) (ha.dq g fun v x G J r g' ex kx => by
    subst ex
    cases kx
    refine ⟨_, rfl, RgOk.of_le (by omega) (by omega) (by omega) (by omega), fun l hl => ?_⟩
    have r2 := Gr.know (o := .lst (rgV 0 (n : Int))) g' hl
    refine q _ _ _ _ (r.trans r2 g) rfl (.lst upd_same ?_)
    have e : rgV 0 (n : Int) = (upto n).map V.int := by
      unfold rgV upto
      rw [List.map_map, show ((n : Int) - 0).toNat = n by omega]
      refine List.map_congr_left fun k _ => ?_ -- (Dw)
      show V.int (0 + (k : Int)) = V.int (k : Int)
      rw [Int.zero_add]
    rw [e]
    exact DqAll.ints _)
end
/-! ### a def by its name -/
structure Kn (P : Program) (w : World) (K : PySem.W.Frag) (mg : Str → Option Value) (base : Heap) (x : Str) (k : Nat) (ps : List Str) (sp : Sp) : Prop where
  ex : ∃ f fd, FnOk P w K mg base CX0 k f fd ps sp ∧ mg x = some (.ref f) ∧ PySem.W.keepIn K (.ref f) = true ∧ Binds K fd ps []
section
variable {W : Wo} {X : Cx} {e a b : Expr} {es : List Expr} {σ : St} {F : Hp} {P Pa Pb : PyData → Prop} {pos p : Pos} {H : Hp} {Q : VK} {n : Str} {k j : Nat} {ps : List Str} {sp : Sp}
theorem je_call (kn : Kn X.prog X.w X.K X.mg X.base n j ps sp) (hr : Room k X.A) (h : JA X (e :: es) σ H (fun vs H1 => sp vs H1 Q E0)) (hj : j ≤ k := by decide) (hg : Gl X n := by rfl) (hdb : (n == ("__debug__" : Str)) = false := by decide)
    (he : starEach (e :: es) X.env = (false, eval e X.env) :: starEach es X.env := by rfl) (hpl : (backTo pos (starEach es X.env)).any (·.1) = false := by rfl) : JE X (.Call (.Name n p) (e :: es) [] pos) σ H Q := by
  obtain ⟨f, fd, G, hm, hk, hb⟩ := kn.ex
  refine je_of (pe_call G (hr.mono hj) hg hm hk hb .nil pass0 pa_self hdb he hpl) ?_
  show JA X (e :: es) σ H fun vs H1 => sp (vs ++ []) H1 Q E0
  simpa only [List.append_nil] using h
/-- a promise by data: no world is touched -/
def spP (S : List PyData → (PyData → Prop) → Prop) : Sp := fun vs H Q _ => ∃ F ds, Good W0 F H ∧ DqAll F vs ds ∧ S ds (fun d => ∀ v G J, Gr W0 F H G J → Dq G v d → Q v J)
theorem jd_fn {S : List PyData → (PyData → Prop) → Prop} {Ps : List PyData → Prop} (kn : Kn X.prog X.w X.K X.mg X.base n j ps (spP S)) (hr : Room k X.A) (ha : JDs W X (e :: es) σ F Ps) (hS : ∀ ds R, Ps ds → (∀ d, P d → R d) → S ds R)
    (hj : j ≤ k := by decide) (hg : Gl X n := by rfl) (hdb : (n == ("__debug__" : Str)) = false := by decide)
    (he : starEach (e :: es) X.env = (false, eval e X.env) :: starEach es X.env := by rfl) (hpl : (backTo pos (starEach es X.env)).any (·.1) = false := by rfl) : JD W X (.Call (.Name n p) (e :: es) [] pos) σ F P := fun H g Q q =>
  je_call kn hr (ha H g _ fun vs ds G J r pd kd => ⟨G, ds, (r.good g).sub (sub0 W), kd, hS ds _ pd fun d pd' v G' J' r' kd' => q v d G' J' (r.trans (r'.sub (sub0 W) (r.good g)) g) pd' kd'⟩) hj hg hdb he hpl
end
end Dw
/-! What is walked; comprehensions; statements; a def's body. -/
namespace Dw
open PySem PySem.Spec PyProof.Rows L2 -- (Dw)
inductive All2 {α β : Type} (R : α → β → Prop) : List α → List β → Prop
  | nil : All2 R [] []
  | cons {a : α} {b : β} {as : List α} {bs : List β} : R a b → All2 R as bs → All2 R (a :: as) (b :: bs)
section
variable {α β : Type} {R : α → β → Prop} {as : List α} {bs : List β}
theorem All2.len (h : All2 R as bs) : as.length = bs.length := by
  induction h with
  | nil => rfl
  | cons _ _ ih => simp [ih]
theorem All2.snoc {a : α} {b : β} (h : All2 R as bs) (r : R a b) : All2 R (as ++ [a]) (bs ++ [b]) := by
  induction h with
  | nil => exact .cons r .nil
  | cons p _ ih => exact .cons p ih
theorem All2.map_eq {f : α → β} (h : All2 (fun a b => b = f a) as bs) : bs = as.map f := by
  induction h with
  | nil => rfl
  | cons p _ ih => rw [p, ih]; rfl
theorem All2.at_ (h : All2 R as bs) {i : Nat} {a : α} (e : as[i]? = some a) : ∃ b, bs[i]? = some b ∧ R a b := by
  induction h generalizing i with -- (Dw)
  | nil => simp at e
  | cons p _ ih =>
    cases i with
    | zero => simp at e; subst e; exact ⟨_, rfl, p⟩
    | succ i => simp at e; simpa using ih e
theorem All2.imp {S : α → β → Prop} (h : All2 R as bs) (k : ∀ a b, a ∈ as → R a b → S a b) : All2 S as bs := by
  induction h with
  | nil => exact .nil
  | cons p _ ih => exact .cons (k _ _ List.mem_cons_self p) (ih fun a b m r => k a b (List.mem_cons_of_mem _ m) r)
end
theorem Gr.put {W : Wo} {F H G J : Hp} {p : Addr} {xs ys : List V} (r : Gr W F H G J) (hp : J p = some (.lst xs)) (h0 : H p = none) (hG : G p = none) (hm : ¬ W.m p) : Gr W F H G (upd J p (.lst ys)) :=
  ⟨r.fg, r.gj.mut hG, fun a o n e => by rw [upd_ne (ne_of_none e h0)]; exact r.hj a o n e, W.lst hm hp r.ok, r.new⟩
theorem Gr.keep {W : Wo} {F H G J : Hp} {p : Addr} {o : HO} (r : Gr W F H G J) (hp : J p = some o) (h0 : H p = none) (hG : G p = none) : Gr W F H (upd G p o) J := by
  refine ⟨r.fg.trans (Ex.new hG), fun a u e => ?_, r.hj, r.ok, fun a u e => ?_⟩
  · by_cases q : a = p
    · subst q; rw [upd_same] at e; rw [hp]; exact e
    · rw [upd_ne q] at e; exact r.gj a u e
  · rw [upd_ne (ne_of_none e h0)]; exact r.new a u e
/-! ### what is walked -/
structure Walks (J : It) (G : Hp) (ds : List PyData) : Prop where
  go : ∀ i H, Ex G H → i < ds.length → J.go i H
  yld : ∀ i H x H', Ex G H → J.yld i H x H' → H' = H ∧ (i < ds.length → ∃ d, ds[i]? = some d ∧ Dq G x d)
  stop : ∀ i H, Ex G H → ds.length ≤ i → J.stop i H
def JI (W : Wo) (X : Cx) (tg iter : Expr) (σ : St) (F : Hp) (ds : List PyData) : Prop :=
  ∃ wi : TI, PI X tg iter wi ∧ ∀ H, Good W F H → ∀ R : It → Hp → Prop, (∀ J G H', Gr W F H G H' → Walks J G ds → R J H') → wi σ H R
section
variable {W : Wo} {X : Cx} {e a b tg iter elt : Expr} {es : List Expr} {σ : St} {F H : Hp} {pos p : Pos} {ds : List PyData}
theorem ji_list (h : JD W X iter σ F (Is (.list ds))) : JI W X tg iter σ F ds :=
  ⟨_, pi_list pe_self, fun H g R q => h.dq g fun v d G J r g' ed kd => by
    subst ed
    cases kd with
    | @lst A xs _ hA hk =>
      refine ⟨A, rfl, ⟨xs, SqL.of (g'.fh _ _ hA)⟩, q _ G J r ⟨fun i H e hi => ?_, fun i H x H' e y => ?_, fun i H e hi => ?_⟩⟩
      · obtain ⟨v, hv, _⟩ := hk.ex (List.getElem?_eq_getElem hi)
        exact ⟨xs, v, SqL.of (e _ _ hA), hv⟩
      · obtain ⟨rfl, y⟩ := y
        refine ⟨rfl, fun hi => ?_⟩
        obtain ⟨v, hv, kd⟩ := hk.ex (List.getElem?_eq_getElem hi)
        rw [y xs (SqL.of (e _ _ hA))] at hv
        cases hv
        exact ⟨_, List.getElem?_eq_getElem hi, kd⟩
      · exact ⟨xs, SqL.of (e _ _ hA), by rw [hk.len]; exact hi⟩⟩
theorem ji_tup (h : JD W X iter σ F (Is (.tuple ds))) : JI W X tg iter σ F ds :=
  ⟨_, pi_tup pe_self, fun H g R q => h.dq g fun v d G J r g' ed kd => by
    subst ed
    cases kd with
    | @tup A xs _ hA hk =>
      refine ⟨A, rfl, ⟨xs, SqT.of (g'.fh _ _ hA)⟩, q _ G J r ⟨fun i H e hi => ?_, fun i H x H' e y => ?_, fun i H e hi => ?_⟩⟩
      · obtain ⟨v, hv, _⟩ := hk.ex (List.getElem?_eq_getElem hi)
        exact ⟨xs, v, SqT.of (e _ _ hA), hv⟩
      · obtain ⟨rfl, y⟩ := y
        refine ⟨rfl, fun hi => ?_⟩
        obtain ⟨v, hv, kd⟩ := hk.ex (List.getElem?_eq_getElem hi)
        rw [y xs (SqT.of (e _ _ hA))] at hv
        cases hv
        exact ⟨_, List.getElem?_eq_getElem hi, kd⟩
      · exact ⟨xs, SqT.of (e _ _ hA), by rw [hk.len]; exact hi⟩⟩
/-- lo, lo + 1, .., n of them -/
def rng (lo : Int) (n : Nat) : List PyData := (List.range n).map fun (k : Nat) => .int (lo + (k : Int))
theorem rng_len (lo : Int) (n : Nat) : (rng lo n).length = n := by unfold rng; rw [List.length_map, List.length_range]
theorem rng_at {lo : Int} {n i : Nat} (h : i < n) : (rng lo n)[i]? = some (.int (lo + (i : Int))) := by
  unfold rng; rw [List.getElem?_map, List.getElem?_range h]; rfl
theorem rng_of {lo : Int} {n i : Nat} {d : PyData} (h : (rng lo n)[i]? = some d) : i < n ∧ d = .int (lo + (i : Int)) := by
  have hi : i < n := by have := (List.getElem?_eq_some_iff.mp h).1; rwa [rng_len] at this
  rw [rng_at hi] at h
  exact ⟨hi, (Option.some.inj h).symm⟩
theorem walks_rng {lo : Int} {n : Nat} {G : Hp} : Walks (Itr lo n) G (rng lo n) :=
  ⟨fun i H e hi => by rw [rng_len] at hi; exact hi, fun i H x H' e y => by
    obtain ⟨rfl, rfl⟩ := y
    exact ⟨rfl, fun hi => ⟨_, rng_at (by rw [rng_len] at hi; exact hi), .int _⟩⟩, fun i H e hi => by rw [rng_len] at hi; exact hi⟩
def rngN (n : Nat) : List PyData := (List.range n).map fun (k : Nat) => .int (k : Int)
theorem rngN_eq (n : Nat) : rng 0 n = rngN n := by
  unfold rng rngN
  exact List.map_congr_left fun k _ => by rw [Int.zero_add]
theorem rngN_len (n : Nat) : (rngN n).length = n := by rw [← rngN_eq, rng_len]
theorem rngN_of {n i : Nat} {d : PyData} (h : (rngN n)[i]? = some d) : i < n ∧ d = .int (i : Int) := by
  rw [← rngN_eq] at h
  obtain ⟨h1, h2⟩ := rng_of h
  exact ⟨h1, by rw [h2, Int.zero_add]⟩
theorem ji_range {n : Nat} (hm : X.mg "range" = none) (hn : n ≤ 100000) (h : JD W X a σ F (Is (.int (n : Int)))) (hg : Gl X "range" := by rfl) (hs : starEach [a] X.env = [(false, eval a X.env)] := by rfl) :
    JI W X tg (.Call (.Name "range" p) [a] [] pos) σ F (rngN n) :=
  ⟨_, pi_range1 hg hm (pa_cons pe_self pa_nil hs) hs, fun H g R q => h.dq g fun v d G J r g' ed kd => by
    subst ed
    cases kd
    exact ⟨(n : Int), rfl, by omega, by omega, q _ G J r (rngN_eq n ▸ walks_rng)⟩⟩
theorem ji_range2 {lo hi : Int} {n : Nat} (hm : X.mg "range" = none) (hn : n = (hi - lo).toNat) (h1 : -100000 ≤ lo ∧ lo ≤ 100000 ∧ -100000 ≤ hi ∧ hi ≤ 100000) (ha : JD W X a σ F (Is (.int lo))) (hb : JD W X b σ F (Is (.int hi))) (hg : Gl X "range" := by rfl)
    (hs : starEach [a, b] X.env = [(false, eval a X.env), (false, eval b X.env)] := by rfl) (hs2 : starEach [b] X.env = [(false, eval b X.env)] := by rfl) :
    JI W X tg (.Call (.Name "range" p) [a, b] [] pos) σ F (rng lo n) :=
  ⟨_, pi_range2 hg hm (pa_cons pe_self (pa_cons pe_self pa_nil hs2) (by rw [hs, hs2])) hs hs2, fun H g R q => ha.dq g fun v d G J r g' ed kd => (hb.up r.fg).dq g' fun u d' G' J' r' g'' ed' kd' => by
    subst ed ed' hn
    cases kd
    cases kd'
    exact ⟨lo, hi, rfl, ⟨by omega, by omega, by omega, by omega⟩, q _ G' J' (r.trans r' g) walks_rng⟩⟩
/-! ### comprehensions -/
/-- what a target makes of an item -/
def Tgt (σ0 : St) (g : TG) (Sg : Hp → V → PyData → St → Prop) : Prop := ∀ G H x d (Q : St → Hp → Prop), Ex G H → Dq G x d → (∃ σ2, Sg G x d σ2) → (∀ σ2, Sg G x d σ2 → Q σ2 H) → g x σ0 H Q
theorem lc_run {α : Type} {xs : List α} {enc : α → PyData} {wi : TI} {g : TG} {tt : TT} {te : TE} {vs : List Nat} {Q : VK} {Sg : Hp → V → PyData → St → Prop} (hJ : ∀ H, Good W F H → ∀ R : It → Hp → Prop, (∀ J G H', Gr W F H G H' → Walks J G (xs.map enc) → R J H') → wi σ H R) (gd : Good W F H)
    (hlen : xs.length ≤ 100000) (t : α → Bool) (R : α → PyData → Prop) (hg : Tgt (wipe σ vs) g Sg)
    (hsg : ∀ (k : Nat) d G x, xs[k]? = some d → Ex F G → Dq G x (enc d) → ∃ σ2, Sg G x (enc d) σ2)
    (hw : ∀ (k : Nat) d G x σ2, xs[k]? = some d → Sg G x (enc d) σ2 → wipe σ2 vs = wipe σ vs)
    (ht : ∀ (k : Nat) d G x σ2, xs[k]? = some d → Ex F G → Dq G x (enc d) → Sg G x (enc d) σ2 → ∀ H, Good W G H → ∀ Q, (∀ G' J', Gr W G H G' J' → Q (t d) J') → tt σ2 H Q)
    (he : ∀ (k : Nat) d G x σ2, xs[k]? = some d → t d = true → Ex F G → Dq G x (enc d) → Sg G x (enc d) σ2 → ∀ G', Ex G G' → ∀ H, Good W G' H → ∀ Q, (∀ v e G'' J', Gr W G' H G'' J' → R d e → Dq G'' v e → Q v J') → te σ2 H Q)
    (hq : ∀ v zs G J, Gr W F H G J → All2 R (xs.filter t) zs → Dq G v (.list zs) → Q v J) : tLc wi g tt te vs σ H Q := by
  refine hJ H gd _ fun J G1 H1 r1 wk => fun D hD => ?_
  have hD0 : H D = none := by
    cases q : H D with
    | none => rfl
    | some o =>
      by_cases hm : W.m D
      · obtain ⟨o', e'⟩ := W.there r1.ok hm
        rw [hD] at e'; cases e'
      · rw [r1.hj D o hm q] at hD; cases hD
  have hmD : ¬ W.m D := gd.nom hD0
  have g1 := r1.good gd
  refine ⟨fun i m Hi => m = xs.length - i ∧ i ≤ xs.length ∧ ∃ G vs' zs, Gr W F H G Hi ∧ Ex G1 G ∧ Hi D = some (.lst vs') ∧ G D = none ∧ DqAll G vs' zs ∧ All2 R ((xs.take i).filter t) zs, ⟨xs.length, rfl, Nat.zero_le _, G1, [], [], r1.trans (Gr.own g1 hD) gd, Ex.refl _, upd_same, g1.fh.no hD, .nil, .nil⟩, ?_⟩
  rintro i m Hi ⟨rfl, hi, G, vs', zs, r, e1, hL, hG, kA, a2⟩
  have gG := r.good gd
  by_cases hlt : i < xs.length
  · refine .inr ⟨wk.go i Hi (e1.trans gG.fh) (by rw [List.length_map]; exact hlt), fun H' => ∃ G vs' zs, Gr W F H G H' ∧ Ex G1 G ∧ H' D = some (.lst vs') ∧ G D = none ∧ DqAll G vs' zs ∧ All2 R ((xs.take (i + 1)).filter t) zs, fun H' h => ⟨xs.length - (i + 1), by omega, rfl, hlt, h⟩, fun x H' hy => ?_⟩
    obtain ⟨eH, hz⟩ := wk.yld i Hi x H' (e1.trans gG.fh) hy
    subst eH
    obtain ⟨d0, hd0, kx⟩ := hz (by rw [List.length_map]; exact hlt)
    rw [List.getElem?_map] at hd0
    obtain ⟨d, hd, ed0⟩ := Option.map_eq_some_iff.mp hd0
    subst ed0
    have kx' := kx.up e1
    have etake : (xs.take (i + 1)).filter t = (xs.take i).filter t ++ (if t d = true then [d] else []) := by
      rw [List.take_add_one, hd, List.filter_append]
      show _ ++ [d].filter t = _
      rw [List.filter_cons]
      split <;> rfl
    refine hg G H' x (enc d) _ gG.fh kx' (hsg i d G x hd r.fg kx') fun σ2 s2 => ⟨hw i d G x σ2 hd s2, ?_⟩
    refine ht i d G x σ2 hd r.fg kx' s2 H' gG _ fun G' J' r' => ?_
    have hD' : J' D = some (.lst vs') := r'.hj D _ hmD hL
    have hG' : G' D = none := by rw [r'.new D _ hL]; exact hG
    cases htd : t d with
    | true =>
      rw [if_pos rfl]
      refine he i d G x σ2 hd htd r.fg kx' s2 G' r'.fg J' (r'.good gG) _ fun v z G'' J'' r'' hR kv => ?_
      have hD'' : J'' D = some (.lst vs') := r''.hj D _ hmD hD'
      have hG'' : G'' D = none := by rw [r''.new D _ hD']; exact hG'
      refine ⟨vs', hD'', ?_, G'', vs' ++ [v], zs ++ [z], (((r.trans r' gd).trans r'' gd)).put hD'' hD0 hG'' hmD, e1.trans (r'.fg.trans r''.fg), upd_same, hG'', ((kA.up (r'.fg.trans r''.fg)).app (.one kv)), ?_⟩
      · have z1 := kA.len
        have z2 := a2.len
        have z3 := List.length_filter_le t (xs.take i)
        rw [List.length_take] at z3
        rw [sizeLine_eq]
        omega
      · rw [etake, htd, if_pos rfl]
        exact a2.snoc hR
    | false =>
      rw [if_neg Bool.false_ne_true] -- (Dw)
      refine ⟨G', vs', zs, r.trans r' gd, e1.trans r'.fg, hD', hG', kA.up r'.fg, ?_⟩
      rw [etake, htd, if_neg Bool.false_ne_true, List.append_nil]
      exact a2
  · have ei : i = xs.length := by omega
    subst ei
    refine .inl ⟨wk.stop _ Hi (e1.trans gG.fh) (by rw [List.length_map]; exact Nat.le_refl _), hq _ zs _ Hi (r.keep hL hD0 hG) ?_ (.lst upd_same (kA.up (Ex.new hG)))⟩
    rw [List.take_length] at a2
    exact a2
/-- the block's contexts -/
abbrev BX (X : Cx) (scope : Scope) (s0 : Shared) (H0 : Hp) (C : Addr) (cl : List (Str × Addr)) (fp : List Addr) : Cx := X.blk s0 H0 scope (compEnvC scope cl C X.env) fp
def InB (X : Cx) (scope : Scope) (J : Cx → Prop) : Prop := ∀ s0 H0 C cl fp, J (BX X scope s0 H0 C cl fp)
def teB (X : Cx) (scope : Scope) (e : Expr) : TE := fun σ H Q => InB X scope fun Y => JE Y e σ H Q
def ttB (X : Cx) (scope : Scope) (e : Expr) : TT := fun σ H Q => InB X scope fun Y => JB Y e σ H Q
theorem Sg1.tgt {i : Nat} {vs : List Nat} : Tgt (wipe σ vs) (gName i) (fun _ x _ σ2 => σ2 = (wipe σ vs).set i (some x)) := fun G H x d Q _ _ _ h => h _ rfl
theorem wipe1 {i : Nat} {x : Option V} : wipe ((wipe σ [i]).set i x) [i] = wipe σ [i] := by simp [wipe, List.set_set]
theorem set1 {i : Nat} {x : Option V} : (wipe σ [i]).set i x = σ.set i x := by simp [wipe, List.set_set]
/-- [e for x in ..] -/
theorem lc_name {α : Type} {xs : List α} {enc : α → PyData} {i : Nat} {scope : Scope} {Q : VK} {wi : TI} (hJ : ∀ H, Good W F H → ∀ R : It → Hp → Prop, (∀ J G H', Gr W F H G H' → Walks J G (xs.map enc) → R J H') → wi σ H R) (gd : Good W F H) (hlen : xs.length ≤ 100000) (R : α → PyData → Prop)
    (he : ∀ (k : Nat) d G v, xs[k]? = some d → Ex F G → Dq G v (enc d) → InB X scope fun Y => JD W Y elt (σ.set i (some v)) G (R d))
    (hq : ∀ v zs G J, Gr W F H G J → All2 R xs zs → Dq G v (.list zs) → Q v J) : tLc wi (gName i) tYes (teB X scope elt) [i] σ H Q :=
  lc_run hJ gd hlen (fun _ => true) R Sg1.tgt (fun k d G x _ _ _ => ⟨_, rfl⟩) (fun k d G x σ2 _ e => by rw [e]; exact wipe1)
    (fun k d G x σ2 _ _ _ _ H g Q q => q G H g.gr)
    (fun k d G x σ2 hd _ eF kx e G' eG H g Q q => fun s0 H0 C cl fp => by
      rw [e, set1]
      exact (((he k d G x hd eF kx) s0 H0 C cl fp).up eG) H g Q q)
    (fun v zs G J r a kd => hq v zs G J r (by rw [show xs.filter (fun _ => true) = xs from List.filter_eq_self.mpr fun _ _ => rfl] at a; exact a) kd)
/-- [e for x in .. if t] -/
theorem lc_nameIf {α : Type} {xs : List α} {enc : α → PyData} {i : Nat} {scope : Scope} {c : Expr} {Q : VK} {wi : TI} (hJ : ∀ H, Good W F H → ∀ R : It → Hp → Prop, (∀ J G H', Gr W F H G H' → Walks J G (xs.map enc) → R J H') → wi σ H R) (gd : Good W F H) (hlen : xs.length ≤ 100000) (t : α → Bool) (R : α → PyData → Prop)
    (ht : ∀ (k : Nat) d G v, xs[k]? = some d → Ex F G → Dq G v (enc d) → InB X scope fun Y => JT W Y c (σ.set i (some v)) G (Is (t d)))
    (he : ∀ (k : Nat) d G v, xs[k]? = some d → t d = true → Ex F G → Dq G v (enc d) → InB X scope fun Y => JD W Y elt (σ.set i (some v)) G (R d))
    (hq : ∀ v zs G J, Gr W F H G J → All2 R (xs.filter t) zs → Dq G v (.list zs) → Q v J) : tLc wi (gName i) (ttB X scope c) (teB X scope elt) [i] σ H Q :=
  lc_run hJ gd hlen t R Sg1.tgt (fun k d G x _ _ _ => ⟨_, rfl⟩) (fun k d G x σ2 _ e => by rw [e]; exact wipe1)
    (fun k d G x σ2 hd eF kx e H g Q q => fun s0 H0 C cl fp => by
      rw [e, set1]
      exact ((ht k d G x hd eF kx) s0 H0 C cl fp) H g Q fun b G' J' r p => by rw [p]; exact q G' J' r)
    (fun k d G x σ2 hd htd eF kx e G' eG H g Q q => fun s0 H0 C cl fp => by
      rw [e, set1]
      exact (((he k d G x hd htd eF kx) s0 H0 C cl fp).up eG) H g Q q)
    hq
theorem pts_self {scope : Scope} {c : Expr} : ∀ (s : Shared) (H : Hp) (C : Addr) (cl : List (Str × Addr)) (fp : List Addr), PTs (X.blk s H scope (compEnvC scope cl C X.env) fp) [c] (ttB X scope c) := fun s H C cl fp =>
  pts_one ⟨fun pins s' σ H' Q I h => h s H C cl fp pins s' I⟩
theorem peb_self {scope : Scope} {e : Expr} : ∀ (s : Shared) (H : Hp) (C : Addr) (cl : List (Str × Addr)) (fp : List Addr), PE (X.blk s H scope (compEnvC scope cl C X.env) fp) e (teB X scope e) := fun s H C cl fp =>
  ⟨fun pins s' σ H' Q I h => h s H C cl fp pins s' I⟩
/-- the place of the target among the names, in the block -/
def TgOk (X : Cx) (scope : Scope) (x : Str) (i : Nat) : Prop := ∀ (s : Shared) (H : Hp) (C : Addr) (cl : List (Str × Addr)) (fp : List Addr) (px : Pos), PG (X.blk s H scope (compEnvC scope cl C X.env) fp) (.Name x px) (gName i)
theorem tg_ok {scope : Scope} {x : Str} {i : Nat} (hN : X.N.Nodup) (hi : X.N[i]? = some x) (hl : (relS scope X.env.scope).names.lookup x = some .local ∨ (scope.names.lookup x = some .cell ∧ (relS scope X.env.scope).names.lookup x = some .cell)) : TgOk X scope x i := fun s H C cl fp px => by
  rcases hl with h | ⟨h0, h⟩
  · exact pg_name (X := X.blk s H scope (compEnvC scope cl C X.env) fp) hN hi (.inl h) (.inr h)
  · exact pg_name (X := X.blk s H scope (compEnvC scope cl C X.env) fp) hN hi (.inr h) (.inl (by show (scope.names.lookup x == some .cell) = true; rw [h0]; rfl))
section
variable {α : Type} {xs : List α} {enc : α → PyData} {x : Str} {i : Nat} {px : Pos} {scope : Scope} {c : Expr}
theorem jd_lc (R : α → PyData → Prop) (hN : X.N.Nodup) (hJ : JI W X (.Name x px) iter σ F (xs.map enc)) (ok : BlkOk X.N X.env.scope scope [(x, i)]) (tg : TgOk X scope x i) (hlen : xs.length ≤ 100000)
    (he : ∀ (k : Nat) d G v, xs[k]? = some d → Ex F G → Dq G v (enc d) → InB X scope fun Y => JD W Y elt (σ.set i (some v)) G (R d)) (hc : X.calm = true := by rfl) (hs : ∀ x, foldedSetIterable iter X.env x = pure x := by intro _; rfl) :
    JD W X (.ListComp elt [⟨.Name x px, iter, [], 0⟩] scope pos) σ F (fun z => ∃ zs, All2 R xs zs ∧ z = .list zs) := fun H g Q q => by
  obtain ⟨wi, hi, hJ⟩ := hJ
  exact je_of (pe_lc (own := [(x, i)]) hc hN hi ok (fun s H C cl fp => tg s H C cl fp px) (fun _ _ _ _ _ => pts_nil) peb_self hs) (lc_name hJ g hlen R he fun v zs G J r a k => q v _ G J r ⟨zs, a, rfl⟩ k)
theorem jd_lcIf (t : α → Bool) (R : α → PyData → Prop) (hN : X.N.Nodup) (hJ : JI W X (.Name x px) iter σ F (xs.map enc)) (ok : BlkOk X.N X.env.scope scope [(x, i)]) (tg : TgOk X scope x i) (hlen : xs.length ≤ 100000)
    (ht : ∀ (k : Nat) d G v, xs[k]? = some d → Ex F G → Dq G v (enc d) → InB X scope fun Y => JT W Y c (σ.set i (some v)) G (Is (t d)))
    (he : ∀ (k : Nat) d G v, xs[k]? = some d → t d = true → Ex F G → Dq G v (enc d) → InB X scope fun Y => JD W Y elt (σ.set i (some v)) G (R d)) (hc : X.calm = true := by rfl) (hs : ∀ x, foldedSetIterable iter X.env x = pure x := by intro _; rfl) :
    JD W X (.ListComp elt [⟨.Name x px, iter, [c], 0⟩] scope pos) σ F (fun z => ∃ zs, All2 R (xs.filter t) zs ∧ z = .list zs) := fun H g Q q => by
  obtain ⟨wi, hi, hJ⟩ := hJ
  exact je_of (pe_lc (own := [(x, i)]) hc hN hi ok (fun s H C cl fp => tg s H C cl fp px) pts_self peb_self hs) (lc_nameIf hJ g hlen t R ht he fun v zs G J r a k => q v _ G J r ⟨zs, a, rfl⟩ k)
/-- the element a function of the item -/
theorem jd_lcM (f : α → PyData) (hN : X.N.Nodup) (hJ : JI W X (.Name x px) iter σ F (xs.map enc)) (ok : BlkOk X.N X.env.scope scope [(x, i)]) (tg : TgOk X scope x i) (hlen : xs.length ≤ 100000)
    (he : ∀ (k : Nat) d G v, xs[k]? = some d → Ex F G → Dq G v (enc d) → InB X scope fun Y => JD W Y elt (σ.set i (some v)) G (Is (f d))) (hc : X.calm = true := by rfl) (hs : ∀ x, foldedSetIterable iter X.env x = pure x := by intro _; rfl) :
    JD W X (.ListComp elt [⟨.Name x px, iter, [], 0⟩] scope pos) σ F (Is (.list (xs.map f))) :=
  (jd_lc (fun d e => e = f d) hN hJ ok tg hlen he hc hs).imp fun z ⟨zs, a, ez⟩ => by rw [ez, a.map_eq]
theorem jd_lcIfM (t : α → Bool) (f : α → PyData) (hN : X.N.Nodup) (hJ : JI W X (.Name x px) iter σ F (xs.map enc)) (ok : BlkOk X.N X.env.scope scope [(x, i)]) (tg : TgOk X scope x i) (hlen : xs.length ≤ 100000)
    (ht : ∀ (k : Nat) d G v, xs[k]? = some d → Ex F G → Dq G v (enc d) → InB X scope fun Y => JT W Y c (σ.set i (some v)) G (Is (t d)))
    (he : ∀ (k : Nat) d G v, xs[k]? = some d → t d = true → Ex F G → Dq G v (enc d) → InB X scope fun Y => JD W Y elt (σ.set i (some v)) G (Is (f d))) (hc : X.calm = true := by rfl) (hs : ∀ x, foldedSetIterable iter X.env x = pure x := by intro _; rfl) :
    JD W X (.ListComp elt [⟨.Name x px, iter, [c], 0⟩] scope pos) σ F (Is (.list ((xs.filter t).map f))) :=
  (jd_lcIf t (fun d e => e = f d) hN hJ ok tg hlen ht he hc hs).imp fun z ⟨zs, a, ez⟩ => by rw [ez, a.map_eq]
/-- over range(n) -/
theorem range_at {n k d : Nat} (h : (List.range n)[k]? = some d) : d < n := by
  have := List.mem_of_getElem? h
  exact List.mem_range.mp this
theorem jd_lcR {n : Nat} (f : Nat → PyData) (hN : X.N.Nodup) (hJ : JI W X (.Name x px) iter σ F (rngN n)) (ok : BlkOk X.N X.env.scope scope [(x, i)]) (tg : TgOk X scope x i) (hlen : n ≤ 100000)
    (he : ∀ (k : Nat) G, k < n → Ex F G → InB X scope fun Y => JD W Y elt (σ.set i (some (.int (k : Int)))) G (Is (f k))) (hc : X.calm = true := by rfl) (hs : ∀ x, foldedSetIterable iter X.env x = pure x := by intro _; rfl) :
    JD W X (.ListComp elt [⟨.Name x px, iter, [], 0⟩] scope pos) σ F (Is (.list ((List.range n).map f))) :=
  jd_lcM f hN hJ ok tg (by rw [List.length_range]; exact hlen) (fun k d G v hd e kv => by cases kv; exact he d G (range_at hd) e) hc hs
theorem jd_lcIfR {n : Nat} (t : Nat → Bool) (f : Nat → PyData) (hN : X.N.Nodup) (hJ : JI W X (.Name x px) iter σ F (rngN n)) (ok : BlkOk X.N X.env.scope scope [(x, i)]) (tg : TgOk X scope x i) (hlen : n ≤ 100000)
    (ht : ∀ (k : Nat) G, k < n → Ex F G → InB X scope fun Y => JT W Y c (σ.set i (some (.int (k : Int)))) G (Is (t k)))
    (he : ∀ (k : Nat) G, k < n → t k = true → Ex F G → InB X scope fun Y => JD W Y elt (σ.set i (some (.int (k : Int)))) G (Is (f k))) (hc : X.calm = true := by rfl) (hs : ∀ x, foldedSetIterable iter X.env x = pure x := by intro _; rfl) :
    JD W X (.ListComp elt [⟨.Name x px, iter, [c], 0⟩] scope pos) σ F (Is (.list (((List.range n).filter t).map f))) :=
  jd_lcIfM t f hN hJ ok tg (by rw [List.length_range]; exact hlen) (fun k d G v hd e kv => by cases kv; exact ht d G (range_at hd) e) (fun k d G v hd htd e kv => by cases kv; exact he d G (range_at hd) htd e) hc hs
end
end
/-! ### statements -/
section
variable {W : Wo} {X : Cx} {e a b tg iter elt : Expr} {es : List Expr} {σ : St} {F H : Hp} {pos p : Pos} {ds : List PyData} {st : Stmt} {sts rest : List Stmt} {D : Ends}
theorem jss_nil (h : D.nx σ H) : JSs X [] σ H D := jss_of pss_nil h
theorem jss_cons (h : JS X st σ H { D with nx := fun σ' H' => JSs X rest σ' H' D }) : JSs X (st :: rest) σ H D := jss_of (pss_cons ps_self pss_self) h
theorem jss_one (h : JS X st σ H D) : JSs X [st] σ H D := jss_of (pss_one ps_self) h
theorem js_set (i : Nat) {x : Str} {px : Pos} (hN : X.N.Nodup) (h : JE X e σ H (fun v H' => D.nx (σ.set i (some v)) H')) (hi : X.N[i]? = some x := by rfl) (hx : Loc X.env.scope x := by first | exact .inl rfl | exact .inr rfl)
    (hs : swapsWith e (some (.Name x px)) pos.line X.env = pure false := by rfl) (hf : X.fn x = true ∨ X.env.scope.names.lookup x = some .local := by first | exact .inl rfl | exact .inr rfl) : JS X (.Assign [.Name x px] e pos) σ H D :=
  js_of (ps_set hN hi hx pe_self hs hf) h
theorem js_setLc {α : Type} {xs : List α} {enc : α → PyData} {x y : Str} {i : Nat} (j : Nat) {px py spos : Pos} {scope : Scope} (R : α → PyData → Prop) (gd : Good W F H) (hN : X.N.Nodup) (hJ : JI W X (.Name x px) iter σ F (xs.map enc)) (ok : BlkOk X.N X.env.scope scope [(x, i)]) (tg : TgOk X scope x i) (hlen : xs.length ≤ 100000)
    (hsw : swapsWith (.ListComp elt [⟨.Name x px, iter, [], 0⟩] scope pos) (some (.Name y py)) spos.line X.env = pure true)
    (he : ∀ (k : Nat) d G v, xs[k]? = some d → Ex F G → Dq G v (enc d) → InB X scope fun Y => JD W Y elt (σ.set i (some v)) G (R d))
    (h : ∀ v zs G J, Gr W F H G J → Good W G J → All2 R xs zs → Dq G v (.list zs) → D.nx (σ.set j (some v)) J) (hy : X.N[j]? = some y := by rfl) (hyl : X.env.scope.names.lookup y = some .local := by rfl)
    (hc : X.calm = true := by rfl) (hs : ∀ x, foldedSetIterable iter X.env x = pure x := by intro _; rfl) :
    JS X (.Assign [.Name y py] (.ListComp elt [⟨.Name x px, iter, [], 0⟩] scope pos) spos) σ H D := by
  obtain ⟨wi, hi, hJ⟩ := hJ
  exact js_of (ps_setLc (own := [(x, i)]) hc hN hy hyl hsw hi ok (fun s H C cl fp => tg s H C cl fp px) (fun _ _ _ _ _ => pts_nil) peb_self hs) (lc_name hJ gd hlen R he fun v zs G J r a k => h v zs G J r (r.good gd) a k)
theorem js_expr (h : JE X e σ H (fun _ H' => D.nx σ H')) (hs : swapsWith e none pos.line X.env = pure false := by rfl) : JS X (.Expr e pos) σ H D := js_of (ps_expr pe_self hs) h
theorem js_ret (h : JE X e σ H D.rt) : JS X (.Return (some e) pos) σ H D := js_of (ps_ret pe_self) h
theorem js_if {c : Expr} {as bs : List Stmt} (h : JB X c σ H fun k H' => if k = true then JSs X as σ H' D else JSs X bs σ H' D) : JS X (.If c as bs pos) σ H D := js_of (ps_if pt_self pss_self pss_self) h
theorem js_cont (h : D.ct σ H) : JS X (.Continue pos) σ H D := js_of ps_continue h
theorem js_for {g : TG} {body : List Stmt} (hJ : JI W X tg iter σ F ds) (hg : PG X tg g) (gd : Good W F H) (Pv : Hp → Nat → St → Hp → Prop) (hk : ∀ G i σ' H', Pv G i σ' H' → Ex G H') (h0 : ∀ G J, Gr W F H G J → Good W G J → Pv G 0 σ J)
    (hs : ∀ G (i : Nat) x d σ' H', Ex F G → ds[i]? = some d → Dq G x d → Pv G i σ' H' → g x σ' H' fun σ2 H2 => JSs X body σ2 H2 { D with nx := Pv G (i + 1), ct := Pv G (i + 1), bk := D.nx })
    (hd : ∀ G σ' H', Ex F G → Pv G ds.length σ' H' → D.nx σ' H') (hc : X.calm = true := by rfl) (hp : PassesOwn (model X.prog X.w) X.A X.env X.xe := by exact PassesOwn.never) (hf : ∀ x, foldedSetIterable iter X.env x = pure x := by intro _; rfl) :
    JS X (.For tg iter body [] pos) σ H D := by
  obtain ⟨wi, hi, hJ⟩ := hJ
  refine js_of (ps_for hp hc hi hg pss_self hf) ?_
  refine hJ H gd _ fun J G H1 r wk => ?_
  refine ⟨fun i m σ' H' => m = ds.length - i ∧ i ≤ ds.length ∧ Pv G i σ' H', ⟨ds.length, rfl, Nat.zero_le _, h0 G H1 r (r.good gd)⟩, ?_⟩
  rintro i m σ' H' ⟨rfl, hi, pv⟩
  have ex := hk G i σ' H' pv
  by_cases hlt : i < ds.length
  · refine .inr ⟨wk.go i H' ex hlt, Pv G (i + 1), fun σ2 H2 q => ⟨ds.length - (i + 1), by omega, rfl, hlt, q⟩, fun x H2 hy => ?_⟩
    obtain ⟨eH, hz⟩ := wk.yld i H' x H2 ex hy
    subst eH
    obtain ⟨d, hd', kx⟩ := hz hlt
    exact hs G i x d σ' H2 r.fg hd' kx pv
  · have ei : i = ds.length := by omega
    subst ei
    exact .inl ⟨wk.stop _ H' ex (Nat.le_refl _), hd G σ' H' r.fg pv⟩
theorem js_while {c : Expr} {body : List Stmt} (Wm : Nat → St → Hp → Prop) (m0 : Nat) (h0 : Wm m0 σ H)
    (hs : ∀ m σ' H', Wm m σ' H' → JB X c σ' H' fun k H1 => if k = true then ∃ N : St → Hp → Prop, (∀ σ2 H2, N σ2 H2 → ∃ m', m' < m ∧ Wm m' σ2 H2) ∧ JSs X body σ' H1 { D with nx := N, ct := N, bk := D.nx } else D.nx σ' H1)
    (hp : PassesOwn (model X.prog X.w) X.A X.env X.xe := by exact PassesOwn.never) : JS X (.While c body [] pos) σ H D :=
  js_of (ps_while hp pt_self pss_self) ⟨Wm, ⟨m0, h0⟩, hs⟩
/-- x += e -/
theorem js_aug (i : Nat) {x : Str} {px : Pos} {m n : Int} (hN : X.N.Nodup) (gd : Good W F H) (hx0 : σ[i]? = some (some (.int m))) (he : JD W X e σ F (Is (.int n))) (h : ∀ G J, Gr W F H G J → D.nx (σ.set i (some (.int (m + n)))) J) (hi : X.N[i]? = some x := by rfl) (hx : Loc X.env.scope x := by first | exact .inl rfl | exact .inr rfl)
    (hf : X.fn x = true ∨ X.env.scope.names.lookup x = some .local := by first | exact .inl rfl | exact .inr rfl) : JS X (.AugAssign (.Name x px) .Add e pos) σ H D :=
  js_of (ps_aug hN hi hx pe_self ip_add hf) ⟨_, hx0, he.dq gd fun v d G J r g' ed kd => by
    subst ed
    cases kd
    exact ⟨m, n, rfl, rfl, h G J r⟩⟩
/-- a, b, .. = e (a tuple) -/
theorem js_asg {g : TG} (h : JE X e σ H (fun v H' => g v σ H' D.nx)) (hg : PG X tg g) (hs : swapsWithSole [tg] e pos.line X.env = pure false := by rfl) (hw : swappedStores [tg] e X.env = pure none := by rfl)
    (h1 : (assignEach [tg] X.env).map (·.2) = [assign tg X.env] := by rfl) : JS X (.Assign [tg] e pos) σ H D := js_of (ps_asg pe_self hg hs hw h1) h
/-- the test is told first -/
theorem js_ifT {c : Expr} {as bs : List Stmt} {P : Bool → Prop} (gd : Good W F H) (hc : JT W X c σ F P) (h1 : ∀ G J, Gr W F H G J → Good W G J → P true → JSs X as σ J D) (h2 : ∀ G J, Gr W F H G J → Good W G J → P false → JSs X bs σ J D) : JS X (.If c as bs pos) σ H D :=
  js_if (hc H gd _ fun k G J r p => by
    cases k with
    | true => rw [if_pos rfl]; exact h1 G J r (r.good gd) p
    | false => rw [if_neg Bool.false_ne_true]; exact h2 G J r (r.good gd) p)
theorem js_setD (i : Nat) {x : Str} {px : Pos} {P : PyData → Prop} (hN : X.N.Nodup) (gd : Good W F H) (he : JD W X e σ F P) (h : ∀ v d G J, Gr W F H G J → Good W G J → P d → Dq G v d → D.nx (σ.set i (some v)) J) (hi : X.N[i]? = some x := by rfl) (hx : Loc X.env.scope x := by first | exact .inl rfl | exact .inr rfl)
    (hs : swapsWith e (some (.Name x px)) pos.line X.env = pure false := by rfl) (hf : X.fn x = true ∨ X.env.scope.names.lookup x = some .local := by first | exact .inl rfl | exact .inr rfl) : JS X (.Assign [.Name x px] e pos) σ H D :=
  js_set i hN (he.dq gd fun v d G J r g' pd k => h v d G J r g' pd k) hi hx hs hf
theorem js_retD {P : PyData → Prop} (gd : Good W F H) (he : JD W X e σ F P) (h : ∀ v d G J, Gr W F H G J → P d → Dq G v d → D.rt v J) : JS X (.Return (some e) pos) σ H D :=
  js_ret (he.dq gd fun v d G J r _ pd k => h v d G J r pd k)
end
/-! ### a def -/
abbrev FnP (K : PySem.W.Frag) (x : Str) (st : Stmt) (f : Addr) (fd : FuncData) : Prop := FunD K x x (defArgs st) (defBody st) (defScope st) [] [] f fd -- (Dw)
theorem ok_fn {P : Program} {w : World} {K : PySem.W.Frag} {mg : Str → Option Value} {base : Heap} {x : Str} {st : Stmt} {f : Addr} {fd : FuncData} {N ps : List Str} {k : Nat} {sp : Sp} (Fd : FnP K x st f fd) (hm : mg x = some (.ref f)) (hb : Binds K fd ps []) (S : FnScope N ps (defScope st)) (len : ∀ vs H Q E, sp vs H Q E → vs.length = ps.length)
    (body : ∀ (cdv : Value) (A : Around) (outer : List Env) (s : Shared) (H : Hp) (vs : List V) (Q : VK) (E : XK), Room k (A.deeper (envOfC x (defScope st) s.heap.objs.size f cdv)) → sp vs H Q E →
      JSs (cxOf CX0 P w K mg base N x (defScope st) f cdv A outer s H E).nox (defBody st) (start N vs) H { nx := fun _ H' => Q .non H', rt := Q }) : Kn P w K mg base x (k + 1) ps sp :=
  ⟨f, fd, Fd.ok S len fun cdv A outer s H vs Q E hr h => ⟨_, (pss_self).nox, body cdv A outer s H vs Q E hr h⟩, hm, Fd.kp, hb⟩
end Dw
/-! The defs of the text by their places: names, scopes, bindings (printed by gen_defs.py). -/
namespace Dw
open PySem PySem.Spec PyProof.Rows L2 -- (Dw)
abbrev topS (i : Nat) : Stmt := PySem.Challenge.pw_drawnorders_k12_whole_spans.main.body.getD i (.Pass ⟨0, 0, 0, 0⟩)
/-- the def stands there under its name -/
structure At (K : PySem.W.Frag) (mg : Str → Option Value) (x : Str) (st : Stmt) : Prop where
  ex : ∃ f fd, FnP K x st f fd ∧ mg x = some (.ref f)
section
variable {P : Program} {w : World} {K : PySem.W.Frag} {mg : Str → Option Value} {base : Heap} {sp : Sp} {k : Nat}
abbrev Bdy (P : Program) (w : World) (K : PySem.W.Frag) (mg : Str → Option Value) (base : Heap) (N : List Str) (x : Str) (st : Stmt) (k : Nat) (sp : Sp) : Prop :=
  ∀ (f : Addr) (cdv : Value) (A : Around) (outer : List Env) (s : Shared) (H : Hp) (vs : List V) (Q : VK) (E : XK), Room k (A.deeper (envOfC x (defScope st) s.heap.objs.size f cdv)) → sp vs H Q E →
    JSs (cxOf CX0 P w K mg base N x (defScope st) f cdv A outer s H E).nox (defBody st) (start N vs) H { nx := fun _ H' => Q .non H', rt := Q }
abbrev N7 : List Str := ["mask", "found", "at"]
theorem sc7 : FnScope N7 ["mask"] (defScope (topS 7)) := ⟨rfl, rfl, rfl, by decide +kernel, rfl, by decide +kernel, by decide +kernel⟩
theorem kn7 (F : At K mg "elements_of" (topS 7)) (len : ∀ vs H Q E, sp vs H Q E → vs.length = 1) (body : Bdy P w K mg base N7 "elements_of" (topS 7) k sp) : Kn P w K mg base "elements_of" (k + 1) ["mask"] sp := by
  obtain ⟨f, fd, F, hm⟩ := F.ex
  exact ok_fn F hm (F.bindsN fun _ _ _ _ _ _ us hl => match us, hl with | [_], _ => rfl) sc7 len (body f)
abbrev N8 : List Str := ["members", "mask", "element"]
theorem sc8 : FnScope N8 ["members"] (defScope (topS 8)) := ⟨rfl, rfl, rfl, by decide +kernel, rfl, by decide +kernel, by decide +kernel⟩
theorem kn8 (F : At K mg "mask_of" (topS 8)) (len : ∀ vs H Q E, sp vs H Q E → vs.length = 1) (body : Bdy P w K mg base N8 "mask_of" (topS 8) k sp) : Kn P w K mg base "mask_of" (k + 1) ["members"] sp := by
  obtain ⟨f, fd, F, hm⟩ := F.ex
  exact ok_fn F hm (F.bindsN fun _ _ _ _ _ _ us hl => match us, hl with | [_], _ => rfl) sc8 len (body f)
abbrev N9 : List Str := ["direct", "state", "first", "way", "left", "following"]
theorem sc9 : FnScope N9 ["direct"] (defScope (topS 9)) := ⟨rfl, rfl, rfl, by decide +kernel, rfl, by decide +kernel, by decide +kernel⟩
theorem kn9 (F : At K mg "found_ring" (topS 9)) (len : ∀ vs H Q E, sp vs H Q E → vs.length = 1) (body : Bdy P w K mg base N9 "found_ring" (topS 9) k sp) : Kn P w K mg base "found_ring" (k + 1) ["direct"] sp := by
  obtain ⟨f, fd, F, hm⟩ := F.ex
  exact ok_fn F hm (F.bindsN fun _ _ _ _ _ _ us hl => match us, hl with | [_], _ => rfl) sc9 len (body f)
abbrev N10 : List Str := ["direct", "masks", "row", "through", "element"]
theorem sc10 : FnScope N10 ["direct"] (defScope (topS 10)) := ⟨rfl, rfl, rfl, by decide +kernel, rfl, by decide +kernel, by decide +kernel⟩
theorem kn10 (F : At K mg "closed_masks" (topS 10)) (len : ∀ vs H Q E, sp vs H Q E → vs.length = 1) (body : Bdy P w K mg base N10 "closed_masks" (topS 10) k sp) : Kn P w K mg base "closed_masks" (k + 1) ["direct"] sp := by
  obtain ⟨f, fd, F, hm⟩ := F.ex
  exact ok_fn F hm (F.bindsN fun _ _ _ _ _ _ us hl => match us, hl with | [_], _ => rfl) sc10 len (body f)
abbrev N13 : List Str := ["order", "masks", "element"]
theorem sc13 : FnScope N13 ["order"] (defScope (topS 13)) := ⟨rfl, rfl, rfl, by decide +kernel, rfl, by decide +kernel, by decide +kernel⟩
theorem kn13 (F : At K mg "lower_sets" (topS 13)) (len : ∀ vs H Q E, sp vs H Q E → vs.length = 1) (body : Bdy P w K mg base N13 "lower_sets" (topS 13) k sp) : Kn P w K mg base "lower_sets" (k + 1) ["order"] sp := by
  obtain ⟨f, fd, F, hm⟩ := F.ex
  exact ok_fn F hm (F.bindsN fun _ _ _ _ _ _ us hl => match us, hl with | [_], _ => rfl) sc13 len (body f)
abbrev N14 : List Str := ["order", "one", "other", "low", "other_low"]
theorem sc14 : FnScope N14 ["order", "one", "other"] (defScope (topS 14)) := ⟨rfl, rfl, rfl, by decide +kernel, rfl, by decide +kernel, by decide +kernel⟩
theorem kn14 (F : At K mg "crossed" (topS 14)) (len : ∀ vs H Q E, sp vs H Q E → vs.length = 3) (body : Bdy P w K mg base N14 "crossed" (topS 14) k sp) : Kn P w K mg base "crossed" (k + 1) ["order", "one", "other"] sp := by
  obtain ⟨f, fd, F, hm⟩ := F.ex
  exact ok_fn F hm (F.bindsN fun _ _ _ _ _ _ us hl => match us, hl with | [_, _, _], _ => rfl) sc14 len (body f)
abbrev N15 : List Str := ["order", "one", "other", "first", "second"]
theorem sc15 : FnScope N15 ["order"] (defScope (topS 15)) := ⟨rfl, rfl, rfl, by decide +kernel, rfl, by decide +kernel, by decide +kernel⟩
theorem kn15 (F : At K mg "span_fault" (topS 15)) (len : ∀ vs H Q E, sp vs H Q E → vs.length = 1) (body : Bdy P w K mg base N15 "span_fault" (topS 15) k sp) : Kn P w K mg base "span_fault" (k + 1) ["order"] sp := by
  obtain ⟨f, fd, F, hm⟩ := F.ex
  exact ok_fn F hm (F.bindsN fun _ _ _ _ _ _ us hl => match us, hl with | [_], _ => rfl) sc15 len (body f)
abbrev N16 : List Str := ["order", "fault", "masks", "spans", "element", "left", "right"]
theorem sc16 : FnScope N16 ["order"] (defScope (topS 16)) := ⟨rfl, rfl, rfl, by decide +kernel, rfl, by decide +kernel, by decide +kernel⟩
theorem kn16 (F : At K mg "draw_spans" (topS 16)) (len : ∀ vs H Q E, sp vs H Q E → vs.length = 1) (body : Bdy P w K mg base N16 "draw_spans" (topS 16) k sp) : Kn P w K mg base "draw_spans" (k + 1) ["order"] sp := by
  obtain ⟨f, fd, F, hm⟩ := F.ex
  exact ok_fn F hm (F.bindsN fun _ _ _ _ _ _ us hl => match us, hl with | [_], _ => rfl) sc16 len (body f)
abbrev N17 : List Str := ["order"]
theorem sc17 : FnScope N17 ["order"] (defScope (topS 17)) := ⟨rfl, rfl, rfl, by decide +kernel, rfl, by decide +kernel, by decide +kernel⟩
theorem kn17 (F : At K mg "end_count" (topS 17)) (len : ∀ vs H Q E, sp vs H Q E → vs.length = 1) (body : Bdy P w K mg base N17 "end_count" (topS 17) k sp) : Kn P w K mg base "end_count" (k + 1) ["order"] sp := by
  obtain ⟨f, fd, F, hm⟩ := F.ex
  exact ok_fn F hm (F.bindsN fun _ _ _ _ _ _ us hl => match us, hl with | [_], _ => rfl) sc17 len (body f)
abbrev N56 : List Str := ["order", "kind"]
theorem sc56 : FnScope N56 ["order", "kind"] (defScope (topS 56)) := ⟨rfl, rfl, rfl, by decide +kernel, rfl, by decide +kernel, by decide +kernel⟩
theorem kn56 (F : At K mg "draw" (topS 56)) (len : ∀ vs H Q E, sp vs H Q E → vs.length = 2) (body : Bdy P w K mg base N56 "draw" (topS 56) k sp) : Kn P w K mg base "draw" (k + 1) ["order", "kind"] sp := by
  obtain ⟨f, fd, F, hm⟩ := F.ex
  exact ok_fn F hm (F.bindsN fun _ _ _ _ _ _ us hl => match us, hl with | [_, _], _ => rfl) sc56 len (body f)
abbrev N58 : List Str := ["_law_script", "_law_k"]
theorem sc58 : FnScope N58 ["_law_script", "_law_k"] (defScope (topS 58)) := ⟨rfl, rfl, rfl, by decide +kernel, rfl, by decide +kernel, by decide +kernel⟩
theorem kn58 (F : At K mg "_law_cell" (topS 58)) (len : ∀ vs H Q E, sp vs H Q E → vs.length = 2) (body : Bdy P w K mg base N58 "_law_cell" (topS 58) k sp) : Kn P w K mg base "_law_cell" (k + 1) ["_law_script", "_law_k"] sp := by
  obtain ⟨f, fd, F, hm⟩ := F.ex
  exact ok_fn F hm (F.bindsN fun _ _ _ _ _ _ us hl => match us, hl with | [_, _], _ => rfl) sc58 len (body f)
abbrev N59 : List Str := ["_law_cell_here"]
theorem sc59 : FnScope N59 ["_law_cell_here"] (defScope (topS 59)) := ⟨rfl, rfl, rfl, by decide +kernel, rfl, by decide +kernel, by decide +kernel⟩
theorem kn59 (F : At K mg "_law_stream" (topS 59)) (len : ∀ vs H Q E, sp vs H Q E → vs.length = 1) (body : Bdy P w K mg base N59 "_law_stream" (topS 59) k sp) : Kn P w K mg base "_law_stream" (k + 1) ["_law_cell_here"] sp := by
  obtain ⟨f, fd, F, hm⟩ := F.ex
  exact ok_fn F hm (F.bindsN fun _ _ _ _ _ _ us hl => match us, hl with | [_], _ => rfl) sc59 len (body f)
abbrev N60 : List Str := ["_law_stream_here", "_law_many", "_law_digit", "_law_mixed_here"]
theorem sc60 : FnScope N60 ["_law_stream_here", "_law_many"] (defScope (topS 60)) := ⟨rfl, rfl, rfl, by decide +kernel, rfl, by decide +kernel, by decide +kernel⟩
theorem kn60 (F : At K mg "_law_draw" (topS 60)) (len : ∀ vs H Q E, sp vs H Q E → vs.length = 2) (body : Bdy P w K mg base N60 "_law_draw" (topS 60) k sp) : Kn P w K mg base "_law_draw" (k + 1) ["_law_stream_here", "_law_many"] sp := by
  obtain ⟨f, fd, F, hm⟩ := F.ex
  exact ok_fn F hm (F.bindsN fun _ _ _ _ _ _ us hl => match us, hl with | [_, _], _ => rfl) sc60 len (body f)
abbrev N61 : List Str := ["_law_stream_here", "_law_items", "_law_rest", "_law_found", "_law_k"]
theorem sc61 : FnScope N61 ["_law_stream_here", "_law_items"] (defScope (topS 61)) := ⟨rfl, rfl, rfl, by decide +kernel, rfl, by decide +kernel, by decide +kernel⟩
theorem kn61 (F : At K mg "_law_mixed" (topS 61)) (len : ∀ vs H Q E, sp vs H Q E → vs.length = 2) (body : Bdy P w K mg base N61 "_law_mixed" (topS 61) k sp) : Kn P w K mg base "_law_mixed" (k + 1) ["_law_stream_here", "_law_items"] sp := by
  obtain ⟨f, fd, F, hm⟩ := F.ex
  exact ok_fn F hm (F.bindsN fun _ _ _ _ _ _ us hl => match us, hl with | [_, _], _ => rfl) sc61 len (body f)
abbrev N62 : List Str := ["_law_size", "_law_pairs_here", "_law_table", "_law_k", "_law_low", "_law_high", "_law_through"]
theorem sc62 : FnScope N62 ["_law_size", "_law_pairs_here"] (defScope (topS 62)) := ⟨rfl, rfl, rfl, by decide +kernel, rfl, by decide +kernel, by decide +kernel⟩
theorem kn62 (F : At K mg "_law_closed" (topS 62)) (len : ∀ vs H Q E, sp vs H Q E → vs.length = 2) (body : Bdy P w K mg base N62 "_law_closed" (topS 62) k sp) : Kn P w K mg base "_law_closed" (k + 1) ["_law_size", "_law_pairs_here"] sp := by
  obtain ⟨f, fd, F, hm⟩ := F.ex
  exact ok_fn F hm (F.bindsN fun _ _ _ _ _ _ us hl => match us, hl with | [_, _], _ => rfl) sc62 len (body f)
abbrev N63 : List Str := ["_law_table", "_law_found", "_law_low", "_law_high"]
theorem sc63 : FnScope N63 ["_law_table"] (defScope (topS 63)) := ⟨rfl, rfl, rfl, by decide +kernel, rfl, by decide +kernel, by decide +kernel⟩
theorem kn63 (F : At K mg "_law_pairs" (topS 63)) (len : ∀ vs H Q E, sp vs H Q E → vs.length = 1) (body : Bdy P w K mg base N63 "_law_pairs" (topS 63) k sp) : Kn P w K mg base "_law_pairs" (k + 1) ["_law_table"] sp := by
  obtain ⟨f, fd, F, hm⟩ := F.ex
  exact ok_fn F hm (F.bindsN fun _ _ _ _ _ _ us hl => match us, hl with | [_], _ => rfl) sc63 len (body f)
abbrev N64 : List Str := ["_law_table", "_law_one", "_law_other"]
theorem sc64 : FnScope N64 ["_law_table", "_law_one", "_law_other"] (defScope (topS 64)) := ⟨rfl, rfl, rfl, by decide +kernel, rfl, by decide +kernel, by decide +kernel⟩
theorem kn64 (F : At K mg "_law_apart" (topS 64)) (len : ∀ vs H Q E, sp vs H Q E → vs.length = 3) (body : Bdy P w K mg base N64 "_law_apart" (topS 64) k sp) : Kn P w K mg base "_law_apart" (k + 1) ["_law_table", "_law_one", "_law_other"] sp := by
  obtain ⟨f, fd, F, hm⟩ := F.ex
  exact ok_fn F hm (F.bindsN fun _ _ _ _ _ _ us hl => match us, hl with | [_, _, _], _ => rfl) sc64 len (body f)
abbrev N65 : List Str := ["_law_table", "_law_pairs_here", "_law_one", "_law_other"]
theorem sc65 : FnScope N65 ["_law_table", "_law_pairs_here"] (defScope (topS 65)) := ⟨rfl, rfl, rfl, by decide +kernel, rfl, by decide +kernel, by decide +kernel⟩
theorem kn65 (F : At K mg "_law_all_apart" (topS 65)) (len : ∀ vs H Q E, sp vs H Q E → vs.length = 2) (body : Bdy P w K mg base N65 "_law_all_apart" (topS 65) k sp) : Kn P w K mg base "_law_all_apart" (k + 1) ["_law_table", "_law_pairs_here"] sp := by
  obtain ⟨f, fd, F, hm⟩ := F.ex
  exact ok_fn F hm (F.bindsN fun _ _ _ _ _ _ us hl => match us, hl with | [_, _], _ => rfl) sc65 len (body f)
abbrev N66 : List Str := ["_law_table", "_law_low", "_law_high", "_law_k"]
theorem sc66 : FnScope N66 ["_law_table", "_law_low", "_law_high"] (defScope (topS 66)) := ⟨rfl, rfl, rfl, by decide +kernel, rfl, by decide +kernel, by decide +kernel⟩
theorem kn66 (F : At K mg "_law_covers" (topS 66)) (len : ∀ vs H Q E, sp vs H Q E → vs.length = 3) (body : Bdy P w K mg base N66 "_law_covers" (topS 66) k sp) : Kn P w K mg base "_law_covers" (k + 1) ["_law_table", "_law_low", "_law_high"] sp := by
  obtain ⟨f, fd, F, hm⟩ := F.ex
  exact ok_fn F hm (F.bindsN fun _ _ _ _ _ _ us hl => match us, hl with | [_, _, _], _ => rfl) sc66 len (body f)
abbrev N67 : List Str := ["_law_table", "_law_element", "_law_low"]
theorem sc67 : FnScope N67 ["_law_table", "_law_element"] (defScope (topS 67)) := ⟨rfl, rfl, rfl, by decide +kernel, rfl, by decide +kernel, by decide +kernel⟩
theorem kn67 (F : At K mg "_law_lower" (topS 67)) (len : ∀ vs H Q E, sp vs H Q E → vs.length = 2) (body : Bdy P w K mg base N67 "_law_lower" (topS 67) k sp) : Kn P w K mg base "_law_lower" (k + 1) ["_law_table", "_law_element"] sp := by
  obtain ⟨f, fd, F, hm⟩ := F.ex
  exact ok_fn F hm (F.bindsN fun _ _ _ _ _ _ us hl => match us, hl with | [_, _], _ => rfl) sc67 len (body f)
abbrev N68 : List Str := ["_law_actual"]
theorem sc68 : FnScope N68 ["_law_actual"] (defScope (topS 68)) := ⟨rfl, rfl, rfl, by decide +kernel, rfl, by decide +kernel, by decide +kernel⟩
theorem kn68 (F : At K mg "_law_is_integer" (topS 68)) (len : ∀ vs H Q E, sp vs H Q E → vs.length = 1) (body : Bdy P w K mg base N68 "_law_is_integer" (topS 68) k sp) : Kn P w K mg base "_law_is_integer" (k + 1) ["_law_actual"] sp := by
  obtain ⟨f, fd, F, hm⟩ := F.ex
  exact ok_fn F hm (F.bindsN fun _ _ _ _ _ _ us hl => match us, hl with | [_], _ => rfl) sc68 len (body f)
abbrev N69 : List Str := ["_law_actual", "_law_item"]
theorem sc69 : FnScope N69 ["_law_actual"] (defScope (topS 69)) := ⟨rfl, rfl, rfl, by decide +kernel, rfl, by decide +kernel, by decide +kernel⟩
theorem kn69 (F : At K mg "_law_are_integers" (topS 69)) (len : ∀ vs H Q E, sp vs H Q E → vs.length = 1) (body : Bdy P w K mg base N69 "_law_are_integers" (topS 69) k sp) : Kn P w K mg base "_law_are_integers" (k + 1) ["_law_actual"] sp := by
  obtain ⟨f, fd, F, hm⟩ := F.ex
  exact ok_fn F hm (F.bindsN fun _ _ _ _ _ _ us hl => match us, hl with | [_], _ => rfl) sc69 len (body f)
abbrev N70 : List Str := ["_law_stream_here", "_law_size", "_law_names", "_law_often", "_law_pairs_here", "_law_low", "_law_high"]
theorem sc70 : FnScope N70 ["_law_stream_here", "_law_size"] (defScope (topS 70)) := ⟨rfl, rfl, rfl, by decide +kernel, rfl, by decide +kernel, by decide +kernel⟩
theorem kn70 (F : At K mg "_law_any_pairs" (topS 70)) (len : ∀ vs H Q E, sp vs H Q E → vs.length = 2) (body : Bdy P w K mg base N70 "_law_any_pairs" (topS 70) k sp) : Kn P w K mg base "_law_any_pairs" (k + 1) ["_law_stream_here", "_law_size"] sp := by
  obtain ⟨f, fd, F, hm⟩ := F.ex
  exact ok_fn F hm (F.bindsN fun _ _ _ _ _ _ us hl => match us, hl with | [_, _], _ => rfl) sc70 len (body f)
abbrev N71 : List Str := ["_law_stream_here", "_law_size", "_law_most", "_law_length", "_law_spans", "_law_k", "_law_left", "_law_right_here"]
theorem sc71 : FnScope N71 ["_law_stream_here", "_law_size", "_law_most", "_law_length"] (defScope (topS 71)) := ⟨rfl, rfl, rfl, by decide +kernel, rfl, by decide +kernel, by decide +kernel⟩
theorem kn71 (F : At K mg "_law_any_spans" (topS 71)) (len : ∀ vs H Q E, sp vs H Q E → vs.length = 4) (body : Bdy P w K mg base N71 "_law_any_spans" (topS 71) k sp) : Kn P w K mg base "_law_any_spans" (k + 1) ["_law_stream_here", "_law_size", "_law_most", "_law_length"] sp := by
  obtain ⟨f, fd, F, hm⟩ := F.ex
  exact ok_fn F hm (F.bindsN fun _ _ _ _ _ _ us hl => match us, hl with | [_, _, _, _], _ => rfl) sc71 len (body f)
abbrev N72 : List Str := ["_law_spans", "_law_size", "_law_found", "_law_low", "_law_high"]
theorem sc72 : FnScope N72 ["_law_spans"] (defScope (topS 72)) := ⟨rfl, rfl, rfl, by decide +kernel, rfl, by decide +kernel, by decide +kernel⟩
theorem kn72 (F : At K mg "_law_by_spans" (topS 72)) (len : ∀ vs H Q E, sp vs H Q E → vs.length = 1) (body : Bdy P w K mg base N72 "_law_by_spans" (topS 72) k sp) : Kn P w K mg base "_law_by_spans" (k + 1) ["_law_spans"] sp := by
  obtain ⟨f, fd, F, hm⟩ := F.ex
  exact ok_fn F hm (F.bindsN fun _ _ _ _ _ _ us hl => match us, hl with | [_], _ => rfl) sc72 len (body f)
abbrev N73 : List Str := ["_law_one", "_law_other", "_law_found", "_law_at", "_law_high"]
theorem sc73 : FnScope N73 ["_law_one", "_law_other"] (defScope (topS 73)) := ⟨rfl, rfl, rfl, by decide +kernel, rfl, by decide +kernel, by decide +kernel⟩
theorem kn73 (F : At K mg "_law_by_rows" (topS 73)) (len : ∀ vs H Q E, sp vs H Q E → vs.length = 2) (body : Bdy P w K mg base N73 "_law_by_rows" (topS 73) k sp) : Kn P w K mg base "_law_by_rows" (k + 1) ["_law_one", "_law_other"] sp := by
  obtain ⟨f, fd, F, hm⟩ := F.ex
  exact ok_fn F hm (F.bindsN fun _ _ _ _ _ _ us hl => match us, hl with | [_, _], _ => rfl) sc73 len (body f)
abbrev N74 : List Str := ["_law_stream_here", "_law_members_here", "_law_word", "_law_parts", "_law_rest", "_law_k", "_law_many", "_law_following", "_law_branch"]
theorem sc74 : FnScope N74 ["_law_stream_here", "_law_members_here", "_law_word"] (defScope (topS 74)) := ⟨rfl, rfl, rfl, by decide +kernel, rfl, by decide +kernel, by decide +kernel⟩
theorem kn74 (F : At K mg "_law_any_tree" (topS 74)) (len : ∀ vs H Q E, sp vs H Q E → vs.length = 3) (body : Bdy P w K mg base N74 "_law_any_tree" (topS 74) k sp) : Kn P w K mg base "_law_any_tree" (k + 1) ["_law_stream_here", "_law_members_here", "_law_word"] sp := by
  obtain ⟨f, fd, F, hm⟩ := F.ex
  exact ok_fn F hm (F.bindsN fun _ _ _ _ _ _ us hl => match us, hl with | [_, _, _], _ => rfl) sc74 len (body f)
abbrev N75 : List Str := ["_law_tree", "_law_found", "_law_branch"]
theorem sc75 : FnScope N75 ["_law_tree"] (defScope (topS 75)) := ⟨rfl, rfl, rfl, by decide +kernel, rfl, by decide +kernel, by decide +kernel⟩
theorem kn75 (F : At K mg "_law_tree_members" (topS 75)) (len : ∀ vs H Q E, sp vs H Q E → vs.length = 1) (body : Bdy P w K mg base N75 "_law_tree_members" (topS 75) k sp) : Kn P w K mg base "_law_tree_members" (k + 1) ["_law_tree"] sp := by
  obtain ⟨f, fd, F, hm⟩ := F.ex
  exact ok_fn F hm (F.bindsN fun _ _ _ _ _ _ us hl => match us, hl with | [_], _ => rfl) sc75 len (body f)
abbrev N76 : List Str := ["_law_tree", "_law_found", "_law_lower_here", "_law_branch", "_law_members_here", "_law_low", "_law_high"]
theorem sc76 : FnScope N76 ["_law_tree"] (defScope (topS 76)) := ⟨rfl, rfl, rfl, by decide +kernel, rfl, by decide +kernel, by decide +kernel⟩
theorem kn76 (F : At K mg "_law_by_tree" (topS 76)) (len : ∀ vs H Q E, sp vs H Q E → vs.length = 1) (body : Bdy P w K mg base N76 "_law_by_tree" (topS 76) k sp) : Kn P w K mg base "_law_by_tree" (k + 1) ["_law_tree"] sp := by
  obtain ⟨f, fd, F, hm⟩ := F.ex
  exact ok_fn F hm (F.bindsN fun _ _ _ _ _ _ us hl => match us, hl with | [_], _ => rfl) sc76 len (body f)
abbrev N77 : List Str := ["_law_stream_here", "_law_size", "_law_nodes", "_law_arcs", "_law_k", "_law_tail"]
theorem sc77 : FnScope N77 ["_law_stream_here", "_law_size"] (defScope (topS 77)) := ⟨rfl, rfl, rfl, by decide +kernel, rfl, by decide +kernel, by decide +kernel⟩
theorem kn77 (F : At K mg "_law_any_arcs" (topS 77)) (len : ∀ vs H Q E, sp vs H Q E → vs.length = 2) (body : Bdy P w K mg base N77 "_law_any_arcs" (topS 77) k sp) : Kn P w K mg base "_law_any_arcs" (k + 1) ["_law_stream_here", "_law_size"] sp := by
  obtain ⟨f, fd, F, hm⟩ := F.ex
  exact ok_fn F hm (F.bindsN fun _ _ _ _ _ _ us hl => match us, hl with | [_, _], _ => rfl) sc77 len (body f)
abbrev N78 : List Str := ["_law_arcs", "_law_size", "_law_found", "_law_low", "_law_high"]
theorem sc78 : FnScope N78 ["_law_arcs"] (defScope (topS 78)) := ⟨rfl, rfl, rfl, by decide +kernel, rfl, by decide +kernel, by decide +kernel⟩
theorem kn78 (F : At K mg "_law_by_arcs" (topS 78)) (len : ∀ vs H Q E, sp vs H Q E → vs.length = 1) (body : Bdy P w K mg base N78 "_law_by_arcs" (topS 78) k sp) : Kn P w K mg base "_law_by_arcs" (k + 1) ["_law_arcs"] sp := by
  obtain ⟨f, fd, F, hm⟩ := F.ex
  exact ok_fn F hm (F.bindsN fun _ _ _ _ _ _ us hl => match us, hl with | [_], _ => rfl) sc78 len (body f)
abbrev N79 : List Str := ["_law_stream_here", "_law_size", "_law_names", "_law_parents", "_law_k"]
theorem sc79 : FnScope N79 ["_law_stream_here", "_law_size"] (defScope (topS 79)) := ⟨rfl, rfl, rfl, by decide +kernel, rfl, by decide +kernel, by decide +kernel⟩
theorem kn79 (F : At K mg "_law_any_parents" (topS 79)) (len : ∀ vs H Q E, sp vs H Q E → vs.length = 2) (body : Bdy P w K mg base N79 "_law_any_parents" (topS 79) k sp) : Kn P w K mg base "_law_any_parents" (k + 1) ["_law_stream_here", "_law_size"] sp := by
  obtain ⟨f, fd, F, hm⟩ := F.ex
  exact ok_fn F hm (F.bindsN fun _ _ _ _ _ _ us hl => match us, hl with | [_, _], _ => rfl) sc79 len (body f)
abbrev N80 : List Str := ["_law_parents", "_law_k"]
theorem sc80 : FnScope N80 ["_law_parents"] (defScope (topS 80)) := ⟨rfl, rfl, rfl, by decide +kernel, rfl, by decide +kernel, by decide +kernel⟩
theorem kn80 (F : At K mg "_law_by_parents" (topS 80)) (len : ∀ vs H Q E, sp vs H Q E → vs.length = 1) (body : Bdy P w K mg base N80 "_law_by_parents" (topS 80) k sp) : Kn P w K mg base "_law_by_parents" (k + 1) ["_law_parents"] sp := by
  obtain ⟨f, fd, F, hm⟩ := F.ex
  exact ok_fn F hm (F.bindsN fun _ _ _ _ _ _ us hl => match us, hl with | [_], _ => rfl) sc80 len (body f)
abbrev N81 : List Str := ["_law_ranks", "_law_size", "_law_found", "_law_low", "_law_high"]
theorem sc81 : FnScope N81 ["_law_ranks"] (defScope (topS 81)) := ⟨rfl, rfl, rfl, by decide +kernel, rfl, by decide +kernel, by decide +kernel⟩
theorem kn81 (F : At K mg "_law_by_ranks" (topS 81)) (len : ∀ vs H Q E, sp vs H Q E → vs.length = 1) (body : Bdy P w K mg base N81 "_law_by_ranks" (topS 81) k sp) : Kn P w K mg base "_law_by_ranks" (k + 1) ["_law_ranks"] sp := by
  obtain ⟨f, fd, F, hm⟩ := F.ex
  exact ok_fn F hm (F.bindsN fun _ _ _ _ _ _ us hl => match us, hl with | [_], _ => rfl) sc81 len (body f)
abbrev N82 : List Str := ["_law_stream_here", "_law_size", "_law_names", "_law_pairs_here", "_law_k", "_law_j", "_law_low", "_law_high"]
theorem sc82 : FnScope N82 ["_law_stream_here", "_law_size"] (defScope (topS 82)) := ⟨rfl, rfl, rfl, by decide +kernel, rfl, by decide +kernel, by decide +kernel⟩
theorem kn82 (F : At K mg "_law_crown" (topS 82)) (len : ∀ vs H Q E, sp vs H Q E → vs.length = 2) (body : Bdy P w K mg base N82 "_law_crown" (topS 82) k sp) : Kn P w K mg base "_law_crown" (k + 1) ["_law_stream_here", "_law_size"] sp := by
  obtain ⟨f, fd, F, hm⟩ := F.ex
  exact ok_fn F hm (F.bindsN fun _ _ _ _ _ _ us hl => match us, hl with | [_, _], _ => rfl) sc82 len (body f)
abbrev N83 : List Str := ["_law_stream_here", "_law_size", "_law_family_here", "_law_k"]
theorem sc83 : FnScope N83 ["_law_stream_here", "_law_size", "_law_family_here"] (defScope (topS 83)) := ⟨rfl, rfl, rfl, by decide +kernel, rfl, by decide +kernel, by decide +kernel⟩
theorem kn83 (F : At K mg "_law_family" (topS 83)) (len : ∀ vs H Q E, sp vs H Q E → vs.length = 3) (body : Bdy P w K mg base N83 "_law_family" (topS 83) k sp) : Kn P w K mg base "_law_family" (k + 1) ["_law_stream_here", "_law_size", "_law_family_here"] sp := by
  obtain ⟨f, fd, F, hm⟩ := F.ex
  exact ok_fn F hm (F.bindsN fun _ _ _ _ _ _ us hl => match us, hl with | [_, _, _], _ => rfl) sc83 len (body f)
abbrev N84 : List Str := ["_law_stream_here", "_law_most", "_law_size", "_law_pairs_here", "_law_table", "_law_kept", "_law_low", "_law_high"]
theorem sc84 : FnScope N84 ["_law_stream_here", "_law_most"] (defScope (topS 84)) := ⟨rfl, rfl, rfl, by decide +kernel, rfl, by decide +kernel, by decide +kernel⟩
theorem kn84 (F : At K mg "_law_any_order" (topS 84)) (len : ∀ vs H Q E, sp vs H Q E → vs.length = 2) (body : Bdy P w K mg base N84 "_law_any_order" (topS 84) k sp) : Kn P w K mg base "_law_any_order" (k + 1) ["_law_stream_here", "_law_most"] sp := by
  obtain ⟨f, fd, F, hm⟩ := F.ex
  exact ok_fn F hm (F.bindsN fun _ _ _ _ _ _ us hl => match us, hl with | [_, _], _ => rfl) sc84 len (body f)
abbrev N85 : List Str := ["_law_stream_here", "_law_table", "_law_pairs_here", "_law_low", "_law_high"]
theorem sc85 : FnScope N85 ["_law_stream_here", "_law_table"] (defScope (topS 85)) := ⟨rfl, rfl, rfl, by decide +kernel, rfl, by decide +kernel, by decide +kernel⟩
theorem kn85 (F : At K mg "_law_told" (topS 85)) (len : ∀ vs H Q E, sp vs H Q E → vs.length = 2) (body : Bdy P w K mg base N85 "_law_told" (topS 85) k sp) : Kn P w K mg base "_law_told" (k + 1) ["_law_stream_here", "_law_table"] sp := by
  obtain ⟨f, fd, F, hm⟩ := F.ex
  exact ok_fn F hm (F.bindsN fun _ _ _ _ _ _ us hl => match us, hl with | [_, _], _ => rfl) sc85 len (body f)
abbrev N86 : List Str := ["_law_actual"]
theorem sc86 : FnScope N86 ["_law_actual"] (defScope (topS 86)) := ⟨rfl, rfl, rfl, by decide +kernel, rfl, by decide +kernel, by decide +kernel⟩
theorem kn86 (F : At K mg "_law_is_short" (topS 86)) (len : ∀ vs H Q E, sp vs H Q E → vs.length = 1) (body : Bdy P w K mg base N86 "_law_is_short" (topS 86) k sp) : Kn P w K mg base "_law_is_short" (k + 1) ["_law_actual"] sp := by
  obtain ⟨f, fd, F, hm⟩ := F.ex
  exact ok_fn F hm (F.bindsN fun _ _ _ _ _ _ us hl => match us, hl with | [_], _ => rfl) sc86 len (body f)
abbrev N87 : List Str := ["_law_actual", "_law_item"]
theorem sc87 : FnScope N87 ["_law_actual"] (defScope (topS 87)) := ⟨rfl, rfl, rfl, by decide +kernel, rfl, by decide +kernel, by decide +kernel⟩
theorem kn87 (F : At K mg "_law_are_pairs" (topS 87)) (len : ∀ vs H Q E, sp vs H Q E → vs.length = 1) (body : Bdy P w K mg base N87 "_law_are_pairs" (topS 87) k sp) : Kn P w K mg base "_law_are_pairs" (k + 1) ["_law_actual"] sp := by
  obtain ⟨f, fd, F, hm⟩ := F.ex
  exact ok_fn F hm (F.bindsN fun _ _ _ _ _ _ us hl => match us, hl with | [_], _ => rfl) sc87 len (body f)
abbrev N88 : List Str := ["_law_actual", "_law_size"]
theorem sc88 : FnScope N88 ["_law_actual", "_law_size"] (defScope (topS 88)) := ⟨rfl, rfl, rfl, by decide +kernel, rfl, by decide +kernel, by decide +kernel⟩
theorem kn88 (F : At K mg "_law_is_row" (topS 88)) (len : ∀ vs H Q E, sp vs H Q E → vs.length = 2) (body : Bdy P w K mg base N88 "_law_is_row" (topS 88) k sp) : Kn P w K mg base "_law_is_row" (k + 1) ["_law_actual", "_law_size"] sp := by
  obtain ⟨f, fd, F, hm⟩ := F.ex
  exact ok_fn F hm (F.bindsN fun _ _ _ _ _ _ us hl => match us, hl with | [_, _], _ => rfl) sc88 len (body f)
abbrev N89 : List Str := ["_law_actual", "_law_members_here", "_law_branch"]
theorem sc89 : FnScope N89 ["_law_actual", "_law_members_here"] (defScope (topS 89)) := ⟨rfl, rfl, rfl, by decide +kernel, rfl, by decide +kernel, by decide +kernel⟩
theorem kn89 (F : At K mg "_law_is_tree" (topS 89)) (len : ∀ vs H Q E, sp vs H Q E → vs.length = 2) (body : Bdy P w K mg base N89 "_law_is_tree" (topS 89) k sp) : Kn P w K mg base "_law_is_tree" (k + 1) ["_law_actual", "_law_members_here"] sp := by
  obtain ⟨f, fd, F, hm⟩ := F.ex
  exact ok_fn F hm (F.bindsN fun _ _ _ _ _ _ us hl => match us, hl with | [_, _], _ => rfl) sc89 len (body f)
abbrev N90 : List Str := ["_law_actual", "_law_members_here"]
theorem sc90 : FnScope N90 ["_law_actual"] (defScope (topS 90)) := ⟨rfl, rfl, rfl, by decide +kernel, rfl, by decide +kernel, by decide +kernel⟩
theorem kn90 (F : At K mg "_law_table_of_tree" (topS 90)) (len : ∀ vs H Q E, sp vs H Q E → vs.length = 1) (body : Bdy P w K mg base N90 "_law_table_of_tree" (topS 90) k sp) : Kn P w K mg base "_law_table_of_tree" (k + 1) ["_law_actual"] sp := by
  obtain ⟨f, fd, F, hm⟩ := F.ex
  exact ok_fn F hm (F.bindsN fun _ _ _ _ _ _ us hl => match us, hl with | [_], _ => rfl) sc90 len (body f)
abbrev N91 : List Str := ["_law_actual", "_law_item"]
theorem sc91 : FnScope N91 ["_law_actual"] (defScope (topS 91)) := ⟨rfl, rfl, rfl, by decide +kernel, rfl, by decide +kernel, by decide +kernel⟩
theorem kn91 (F : At K mg "_law_table_of_parents" (topS 91)) (len : ∀ vs H Q E, sp vs H Q E → vs.length = 1) (body : Bdy P w K mg base N91 "_law_table_of_parents" (topS 91) k sp) : Kn P w K mg base "_law_table_of_parents" (k + 1) ["_law_actual"] sp := by
  obtain ⟨f, fd, F, hm⟩ := F.ex
  exact ok_fn F hm (F.bindsN fun _ _ _ _ _ _ us hl => match us, hl with | [_], _ => rfl) sc91 len (body f)
abbrev N92 : List Str := ["_law_actual", "_law_size"]
theorem sc92 : FnScope N92 ["_law_actual"] (defScope (topS 92)) := ⟨rfl, rfl, rfl, by decide +kernel, rfl, by decide +kernel, by decide +kernel⟩
theorem kn92 (F : At K mg "_law_table_of_rows" (topS 92)) (len : ∀ vs H Q E, sp vs H Q E → vs.length = 1) (body : Bdy P w K mg base N92 "_law_table_of_rows" (topS 92) k sp) : Kn P w K mg base "_law_table_of_rows" (k + 1) ["_law_actual"] sp := by
  obtain ⟨f, fd, F, hm⟩ := F.ex
  exact ok_fn F hm (F.bindsN fun _ _ _ _ _ _ us hl => match us, hl with | [_], _ => rfl) sc92 len (body f)
abbrev N93 : List Str := ["_law_actual", "_law_start"]
theorem sc93 : FnScope N93 ["_law_actual"] (defScope (topS 93)) := ⟨rfl, rfl, rfl, by decide +kernel, rfl, by decide +kernel, by decide +kernel⟩
theorem kn93 (F : At K mg "_law_table_of_unit" (topS 93)) (len : ∀ vs H Q E, sp vs H Q E → vs.length = 1) (body : Bdy P w K mg base N93 "_law_table_of_unit" (topS 93) k sp) : Kn P w K mg base "_law_table_of_unit" (k + 1) ["_law_actual"] sp := by
  obtain ⟨f, fd, F, hm⟩ := F.ex
  exact ok_fn F hm (F.bindsN fun _ _ _ _ _ _ us hl => match us, hl with | [_], _ => rfl) sc93 len (body f)
abbrev N94 : List Str := ["_law_kind", "_law_actual", "_law_table", "_law_span", "_law_k"]
theorem sc94 : FnScope N94 ["_law_kind", "_law_actual"] (defScope (topS 94)) := ⟨rfl, rfl, rfl, by decide +kernel, rfl, by decide +kernel, by decide +kernel⟩
theorem kn94 (F : At K mg "_law_table_of" (topS 94)) (len : ∀ vs H Q E, sp vs H Q E → vs.length = 2) (body : Bdy P w K mg base N94 "_law_table_of" (topS 94) k sp) : Kn P w K mg base "_law_table_of" (k + 1) ["_law_kind", "_law_actual"] sp := by
  obtain ⟨f, fd, F, hm⟩ := F.ex
  exact ok_fn F hm (F.bindsN fun _ _ _ _ _ _ us hl => match us, hl with | [_, _], _ => rfl) sc94 len (body f)
abbrev N95 : List Str := ["_law_actual", "_law_size", "_law_count", "_law_item", "_law_k"]
theorem sc95 : FnScope N95 ["_law_actual", "_law_size", "_law_count"] (defScope (topS 95)) := ⟨rfl, rfl, rfl, by decide +kernel, rfl, by decide +kernel, by decide +kernel⟩
theorem kn95 (F : At K mg "_law_members" (topS 95)) (len : ∀ vs H Q E, sp vs H Q E → vs.length = 3) (body : Bdy P w K mg base N95 "_law_members" (topS 95) k sp) : Kn P w K mg base "_law_members" (k + 1) ["_law_actual", "_law_size", "_law_count"] sp := by
  obtain ⟨f, fd, F, hm⟩ := F.ex
  exact ok_fn F hm (F.bindsN fun _ _ _ _ _ _ us hl => match us, hl with | [_, _, _], _ => rfl) sc95 len (body f)
abbrev N96 : List Str := ["_law_table", "_law_actual", "_law_arc", "_law_k", "_law_a", "_law_b", "_law_c", "_law_d", "_law_first", "_law_second"]
theorem sc96 : FnScope N96 ["_law_table", "_law_actual"] (defScope (topS 96)) := ⟨rfl, rfl, rfl, by decide +kernel, rfl, by decide +kernel, by decide +kernel⟩
theorem kn96 (F : At K mg "_law_bars_rows" (topS 96)) (len : ∀ vs H Q E, sp vs H Q E → vs.length = 2) (body : Bdy P w K mg base N96 "_law_bars_rows" (topS 96) k sp) : Kn P w K mg base "_law_bars_rows" (k + 1) ["_law_table", "_law_actual"] sp := by
  obtain ⟨f, fd, F, hm⟩ := F.ex
  exact ok_fn F hm (F.bindsN fun _ _ _ _ _ _ us hl => match us, hl with | [_, _], _ => rfl) sc96 len (body f)
abbrev N97 : List Str := ["_law_table", "_law_kind", "_law_actual", "_law_a", "_law_b", "_law_c", "_law_d", "_law_two"]
theorem sc97 : FnScope N97 ["_law_table", "_law_kind", "_law_actual"] (defScope (topS 97)) := ⟨rfl, rfl, rfl, by decide +kernel, rfl, by decide +kernel, by decide +kernel⟩
theorem kn97 (F : At K mg "_law_bars_four" (topS 97)) (len : ∀ vs H Q E, sp vs H Q E → vs.length = 3) (body : Bdy P w K mg base N97 "_law_bars_four" (topS 97) k sp) : Kn P w K mg base "_law_bars_four" (k + 1) ["_law_table", "_law_kind", "_law_actual"] sp := by
  obtain ⟨f, fd, F, hm⟩ := F.ex
  exact ok_fn F hm (F.bindsN fun _ _ _ _ _ _ us hl => match us, hl with | [_, _, _], _ => rfl) sc97 len (body f)
abbrev N98 : List Str := ["_law_table", "_law_kind", "_law_actual", "_law_a", "_law_b", "_law_c"]
theorem sc98 : FnScope N98 ["_law_table", "_law_kind", "_law_actual"] (defScope (topS 98)) := ⟨rfl, rfl, rfl, by decide +kernel, rfl, by decide +kernel, by decide +kernel⟩
theorem kn98 (F : At K mg "_law_bars" (topS 98)) (len : ∀ vs H Q E, sp vs H Q E → vs.length = 3) (body : Bdy P w K mg base N98 "_law_bars" (topS 98) k sp) : Kn P w K mg base "_law_bars" (k + 1) ["_law_table", "_law_kind", "_law_actual"] sp := by
  obtain ⟨f, fd, F, hm⟩ := F.ex
  exact ok_fn F hm (F.bindsN fun _ _ _ _ _ _ us hl => match us, hl with | [_, _, _], _ => rfl) sc98 len (body f)
abbrev N99 : List Str := ["_law_table", "_law_kind", "_law_size", "_law_a", "_law_b", "_law_c", "_law_other", "_law_d"]
theorem sc99 : FnScope N99 ["_law_table", "_law_kind"] (defScope (topS 99)) := ⟨rfl, rfl, rfl, by decide +kernel, rfl, by decide +kernel, by decide +kernel⟩
theorem kn99 (F : At K mg "_law_has_bar" (topS 99)) (len : ∀ vs H Q E, sp vs H Q E → vs.length = 2) (body : Bdy P w K mg base N99 "_law_has_bar" (topS 99) k sp) : Kn P w K mg base "_law_has_bar" (k + 1) ["_law_table", "_law_kind"] sp := by
  obtain ⟨f, fd, F, hm⟩ := F.ex
  exact ok_fn F hm (F.bindsN fun _ _ _ _ _ _ us hl => match us, hl with | [_, _], _ => rfl) sc99 len (body f)
abbrev N100 : List Str := ["_law_table", "_law_kind", "_law_told_here"]
theorem sc100 : FnScope N100 ["_law_table", "_law_kind", "_law_told_here"] (defScope (topS 100)) := ⟨rfl, rfl, rfl, by decide +kernel, rfl, by decide +kernel, by decide +kernel⟩
theorem kn100 (F : At K mg "_law_right" (topS 100)) (len : ∀ vs H Q E, sp vs H Q E → vs.length = 3) (body : Bdy P w K mg base N100 "_law_right" (topS 100) k sp) : Kn P w K mg base "_law_right" (k + 1) ["_law_table", "_law_kind", "_law_told_here"] sp := by
  obtain ⟨f, fd, F, hm⟩ := F.ex
  exact ok_fn F hm (F.bindsN fun _ _ _ _ _ _ us hl => match us, hl with | [_, _, _], _ => rfl) sc100 len (body f)
abbrev N101 : List Str := ["_law_table", "_law_found", "_law_element"]
theorem sc101 : FnScope N101 ["_law_table"] (defScope (topS 101)) := ⟨rfl, rfl, rfl, by decide +kernel, rfl, by decide +kernel, by decide +kernel⟩
theorem kn101 (F : At K mg "_law_lower_sets" (topS 101)) (len : ∀ vs H Q E, sp vs H Q E → vs.length = 1) (body : Bdy P w K mg base N101 "_law_lower_sets" (topS 101) k sp) : Kn P w K mg base "_law_lower_sets" (k + 1) ["_law_table"] sp := by
  obtain ⟨f, fd, F, hm⟩ := F.ex
  exact ok_fn F hm (F.bindsN fun _ _ _ _ _ _ us hl => match us, hl with | [_], _ => rfl) sc101 len (body f)
abbrev N102 : List Str := ["_law_table", "_law_series", "_law_spans", "_law_element", "_law_own", "_law_left", "_law_row", "_law_one"]
theorem sc102 : FnScope N102 ["_law_table"] (defScope (topS 102)) := ⟨rfl, rfl, rfl, by decide +kernel, rfl, by decide +kernel, by decide +kernel⟩
theorem kn102 (F : At K mg "_law_spans_of" (topS 102)) (len : ∀ vs H Q E, sp vs H Q E → vs.length = 1) (body : Bdy P w K mg base N102 "_law_spans_of" (topS 102) k sp) : Kn P w K mg base "_law_spans_of" (k + 1) ["_law_table"] sp := by
  obtain ⟨f, fd, F, hm⟩ := F.ex
  exact ok_fn F hm (F.bindsN fun _ _ _ _ _ _ us hl => match us, hl with | [_], _ => rfl) sc102 len (body f)
abbrev N103 : List Str := ["_law_script", "_law_stream_here", "_law_table", "_law_planted", "_law_size", "_law_pairs_here", "_law_order", "_law_told_here", "_law_again"]
theorem sc103 : FnScope N103 ["_law_script"] (defScope (topS 103)) := ⟨rfl, rfl, rfl, by decide +kernel, rfl, by decide +kernel, by decide +kernel⟩
theorem kn103 (F : At K mg "law" (topS 103)) (len : ∀ vs H Q E, sp vs H Q E → vs.length = 1) (body : Bdy P w K mg base N103 "law" (topS 103) k sp) : Kn P w K mg base "law" (k + 1) ["_law_script"] sp := by
  obtain ⟨f, fd, F, hm⟩ := F.ex
  exact ok_fn F hm (F.bindsN fun _ _ _ _ _ _ us hl => match us, hl with | [_], _ => rfl) sc103 len (body f)
end
end Dw
/-! The head's facts: an own Hook that looks at a few addresses only. -/
namespace Dw
open PySem PySem.Spec PyProof.Rows L2 -- (Dw)
abbrev meS (j : Nat) : Stmt := (match topS 11 with
  | .ClassDef (body := b) .. => b -- (Dw)
  | _ => []).getD j (.Pass ⟨0, 0, 0, 0⟩)
def refsAt (g : Addr → Option Obj) (a : Addr) : List Addr := match g a with
  | some o => He.refsO o
  | none => []
def tops : List (Str × Nat) := (([("elements_of", 7), ("mask_of", 8), ("found_ring", 9), ("closed_masks", 10), ("lower_sets", 13), ("crossed", 14), ("span_fault", 15), ("draw_spans", 16), ("end_count", 17), ("draw", 56), ("_law_cell", 58), ("_law_stream", 59), ("_law_draw", 60), ("_law_mixed", 61), ("_law_closed", 62), ("_law_pairs", 63), ("_law_apart", 64), ("_law_all_apart", 65), ("_law_covers", 66), ("_law_lower", 67), ("_law_is_integer", 68), ("_law_are_integers", 69), ("_law_any_pairs", 70), ("_law_any_spans", 71), ("_law_by_spans", 72), ("_law_by_rows", 73), ("_law_any_tree", 74), ("_law_tree_members", 75), ("_law_by_tree", 76), ("_law_any_arcs", 77), ("_law_by_arcs", 78), ("_law_any_parents", 79), ("_law_by_parents", 80), ("_law_by_ranks", 81), ("_law_crown", 82), ("_law_family", 83), ("_law_any_order", 84), ("_law_told", 85), ("_law_is_short", 86), ("_law_are_pairs", 87)] : List (String × Nat)).map fun p => (Str.ofString p.1, p.2))
def tops2 : List (Str × Nat) := (([("_law_table_of", 94), ("_law_members", 95), ("_law_bars_four", 97), ("_law_bars", 98), ("_law_has_bar", 99), ("_law_right", 100), ("_law_lower_sets", 101), ("_law_spans_of", 102), ("law", 103)] : List (String × Nat)).map fun p => (Str.ofString p.1, p.2))
abbrev cO (K : PySem.W.Frag) : Addr := He.ga K "Order"
def gA (K : PySem.W.Frag) : Addr := match PySem.W.recIn K (He.ma K (cO K) "size") "property" with
  | some (.ref g :: _) => g
  | _ => 0
/-- the addresses that are looked at -/
def asY (g : Addr → Option Obj) : List Addr :=
  let k0 := He.frG g [mainGlobals]
  let a1 := cO k0 :: (tops ++ tops2).map fun p => He.ga k0 p.1
  let a2 := a1.flatMap (refsAt g)
  let k2 := He.frG g (mainGlobals :: (a1 ++ a2))
  let a3 := [He.ma k2 (cO k2) "__init__", He.ma k2 (cO k2) "down_mask", He.ma k2 (cO k2) "size"]
  let a4 := a3.flatMap (refsAt g)
  let k4 := He.frG g (He.ma k2 (cO k2) "size" :: mainGlobals :: (a1 ++ (a2 ++ (a3 ++ a4))))
  let a5 := refsAt g (gA k4)
  mainGlobals :: (a1 ++ (a2 ++ (a3 ++ (a4 ++ a5))))
structure Fy where
  at_ : PySem.W.Frag → Addr
  name : Str
  qual : Str
  st : Stmt
def fyT (p : Str × Nat) : Fy := ⟨fun K => He.ga K p.1, p.1, p.1, topS p.2⟩
def fys : List Fy := [⟨fun K => He.ma K (cO K) "__init__", "__init__", "Order.__init__", meS 0⟩, ⟨fun K => He.ma K (cO K) "down_mask", "down_mask", "Order.down_mask", meS 7⟩, ⟨gA, "size", "Order.size", meS 1⟩] ++ (tops ++ tops2).map fyT
def fnAt (K : PySem.W.Frag) (a : Addr) : He.FnW := match K.lookup a with
  | some ⟨_, _, .func fd, _⟩ => some (fd.name, fd.qualname, fd.params, fd.body, fd.scope, fd.globals, fd.closure, fd.builtins) -- (Dw)
  | _ => none
def Fy.val (d : Fy) : He.FnW := some (d.name, d.qual, defArgs d.st, .stmts (defBody d.st), defScope d.st, mainGlobals, [], builtinsNs)
def Fy.ok (K : PySem.W.Frag) (d : Fy) : Bool := PySem.W.keepIn K (.ref (d.at_ K)) && (match K.lookup (d.at_ K) with
  | some ⟨_, _, .func fd, _⟩ => PySem.W.codeIn K fd.code d.qual && (He.dflB K fd.defaults [] && He.kwdB K fd.kwdefaults [])
  | _ => false)
theorem Fy.funD {K : PySem.W.Frag} {d : Fy} (e : fnAt K (d.at_ K) = d.val) (c : d.ok K = true) : ∃ fd, FunD K d.name d.qual (defArgs d.st) (defBody d.st) (defScope d.st) [] [] (d.at_ K) fd := by
  unfold Fy.ok at c
  unfold fnAt at e
  obtain ⟨kp, c2⟩ := Bool.and_eq_true_iff.mp c
  cases q : K.lookup (d.at_ K) with -- (Dw)
  | none => rw [q] at c2; cases c2
  | some o =>
    obtain ⟨oc, od, dt, osl⟩ := o
    rw [q] at c2 e
    cases dt with
    | func fd =>
      obtain ⟨m1, m2, m3, m4, m5, m6, m7, m8, m9, m10, m11, m12, m13, m14, m15⟩ := fd
      have e2 : (some (m1, m2, m3, m4, m5, m6, m7, m15) : He.FnW) = some (d.name, d.qual, defArgs d.st, .stmts (defBody d.st), defScope d.st, mainGlobals, [], builtinsNs) := e
      simp only [Option.some.injEq, Prod.mk.injEq] at e2 -- (Dw)
      obtain ⟨h1, h2, h3, h4, h5, h6, h7, h8⟩ := e2 -- (Dw)
      subst h1 h2 h3 h4 h5 h6 h7 h8
      have c3 : (PySem.W.codeIn K m13 d.qual && (He.dflB K m8 [] && He.kwdB K m9 [])) = true := c2
      simp only [Bool.and_eq_true] at c3
      exact ⟨_, ⟨oc, od, m8, m9, m10, m11, m12, m13, m14, osl, rfl, q, c3.1, He.dflB_ok c3.2.1, He.kwdB_ok c3.2.2⟩, kp⟩
    | _ => cases c2
def fcs : List He.Fa := (tops ++ tops2).map (fun p => He.Fa.glo p.1) ++ [.glo "Order", .int "MOST" 40, .cls "Order", .noat "Order" "_size", .noat "Order" "_up", .noat "Order" "_down", .noat "Order" "_pairs", .mkr "Order", .meth "Order" "down_mask",
  .free "len", .free "range", .free "list", .free "tuple", .free "int", .free "all", .free "any", .free "max", .free "isinstance", .free "sorted", .free "repr", .free "enumerate", .free "bool"]
/-- the property size -/
def prB (K : PySem.W.Frag) : Bool := He.eqO (PySem.W.findIn K (.ref (cO K)) "size") (some (some (.ref (He.ma K (cO K) "size")))) && (He.eqO (PySem.W.specialIn K (.ref (He.ma K (cO K) "size")) "__get__") (some (some (.builtin "property.__get__"))) && (decide (PySem.W.takesIn K (.ref (He.ma K (cO K) "size")) = some true) &&
  (match PySem.W.recIn K (He.ma K (cO K) "size") "property" with
    | some (.ref g :: _) => decide (g = gA K)
    | _ => false)))
theorem prB_ok {K : PySem.W.Frag} (h : prB K = true) : PropOf K (cO K) "size" (He.ma K (cO K) "size") (gA K) := by
  unfold prB at h
  simp only [Bool.and_eq_true] at h -- (Dw)
  obtain ⟨h1, h2, h3, h4⟩ := h
  refine ⟨He.eqO_ok h1, He.eqO_ok h2, of_decide_eq_true h3, ?_⟩
  split at h4
  · rename_i g r q
    have e := of_decide_eq_true h4
    subst e
    exact ⟨r, q⟩
  · cases h4
abbrev lsT : He.Defn := ("lower_sets", none)
structure SaysY (h : Heap) (K : PySem.W.Frag) : Prop where
  fa : fcs.all (fun f => f.ok K) = true
  fn : fys.all (fun d => d.ok K) = true
  vals : fys.map (fun d => fnAt K (d.at_ K)) = fys.map Fy.val
  pr : prB K = true
  hd : PySem.W.codeHdIn K (He.cT K lsT).1 (He.cT K lsT).2 = true
  out : K.lookup (He.cT K lsT).2 = none
  empty : h.get? (He.cT K lsT).2 = some { cls := .none, data := .fields #[] }
abbrev AlY : Type := Bool × List He.FnW
def obsY (g : Addr → Option Obj) : AlY :=
  let K := He.frT g (asY g)
  (fcs.all (fun f => f.ok K) && (fys.all (fun d => d.ok K) && (prB K && He.tabsB g [lsT] K)), fys.map fun d => fnAt K (d.at_ K))
def valY : AlY := (true, fys.map Fy.val)
theorem saysY_of {h : Heap} (e : obsY h.get? = valY) : SaysY h (He.frT h.get? (asY h.get?)) := by
  have e1 := congrArg Prod.fst e -- (Dw)
  have e2 := congrArg Prod.snd e
  have e1 : (fcs.all (fun f => f.ok (He.frT h.get? (asY h.get?))) && (fys.all (fun d => d.ok (He.frT h.get? (asY h.get?))) && (prB (He.frT h.get? (asY h.get?)) && He.tabsB h.get? [lsT] (He.frT h.get? (asY h.get?))))) = true := e1
  rw [Bool.and_eq_true, Bool.and_eq_true, Bool.and_eq_true] at e1
  obtain ⟨a1, a2, a3, a4⟩ := e1
  have a5 := List.all_eq_true.mp a4 lsT List.mem_cons_self
  rw [Bool.and_eq_true] at a5
  obtain ⟨b1, b2⟩ := a5
  cases q : h.get? (He.cT (He.frT h.get? (asY h.get?)) lsT).2 with
  | none => rw [q] at b2; cases b2
  | some o =>
    rw [q] at b2
    exact ⟨a1, a2, e2, a3, b1, He.frT_none q b2, by rw [q, He.emptyTab_eq b2]⟩
def hookY : PySem.W.Hook where
  α := AlY
  obs := fun s => obsY s.heap.get?
  val := fun _ => valY
  says := fun _ h => ∃ K : PySem.W.Frag, K.In h ∧ SaysY h K
  of := fun _ _ e => ⟨_, He.frT_in, saysY_of e⟩
  keeps := fun _ _ _ ⟨K, hK, c⟩ k => ⟨K, PySem.W.Frag.In.keeps hK k, ⟨c.fa, c.fn, c.vals, c.pr, c.hd, c.out, k _ _ c.empty⟩⟩
end Dw
/-! The top is run. -/
namespace Dw
open PySem PySem.Spec PyProof.Rows L2 -- (Dw)
def names : List PySem.Str := (((List.range 103).filterMap fun i => match topS i with
  | .FunctionDef n _ _ _ _ _ _ _ _ _ => some n
  | .ClassDef n _ _ _ _ _ _ _ _ _ _ => some n
  | _ => none)) ++ ([("MOST" : PySem.Str)] : List PySem.Str)
abbrev R : PySem.W.OpenRow := PySem.W.OpenLaw.row PySem.Challenge.rw_drawnorders_k12_whole_spans
def ob (s : PySem.W.SharedT) : AlY := obsY (HandSHeadRun.getT s)
theorem ob_eq (s : PySem.W.SharedT) : ob s = hookY.obs s.abs := by
  have e : HandSHeadRun.getT s = s.abs.heap.get? := funext (HandSHeadRun.getT_eq s)
  show obsY (HandSHeadRun.getT s) = obsY s.abs.heap.get?
  rw [e]
theorem run (w : World) : HandSHeadRun.RunEq R (PySem.W.view R.prog [103]) hookY ob 20000 names w := by
  intro os
  kernel_rfl
end Dw
/-! Tables; the law's readers of a table. -/
namespace Dw
open PySem PySem.Spec PyProof.Rows L2 -- (Dw)
/-- the built-ins' names stand for the built-ins -/
structure Bl (mg : Str → Option Value) : Prop where
  len : mg "len" = none
  range : mg "range" = none
  list : mg "list" = none
  tuple : mg "tuple" = none
  int : mg "int" = none
  all : mg "all" = none
  any : mg "any" = none
  max : mg "max" = none
  isinstance : mg "isinstance" = none
  sorted : mg "sorted" = none
  repr : mg "repr" = none
  enumerate : mg "enumerate" = none
  bool : mg "bool" = none
def dRow (n : Nat) (f : Nat → Bool) : PyData := .list (((List.range n).map f).map .bool)
/-- an n times n table -/
def dTab (n : Nat) (f : Nat → Nat → Bool) : PyData := .list ((List.range n).map fun i => dRow n (f i))
theorem dRow_at {n j : Nat} {f : Nat → Bool} (h : j < n) : (((List.range n).map f).map PyData.bool)[j]? = some (.bool (f j)) := by
  rw [List.getElem?_map, List.getElem?_map, List.getElem?_range h]; rfl
theorem dTab_at {n i : Nat} {f : Nat → Nat → Bool} (h : i < n) : ((List.range n).map fun i => dRow n (f i))[i]? = some (dRow n (f i)) := by
  rw [List.getElem?_map, List.getElem?_range h]; rfl
theorem dTab_len (n : Nat) (f : Nat → Nat → Bool) : ((List.range n).map fun i => dRow n (f i)).length = n := by rw [List.length_map, List.length_range]
theorem spP_len {S : List PyData → (PyData → Prop) → Prop} {n : Nat} (h : ∀ ds R, S ds R → ds.length = n) : ∀ vs H Q E, spP S vs H Q E → vs.length = n := by
  intro vs H Q E ⟨F, ds, _, k, s⟩
  rw [k.len]; exact h _ _ s
theorem dq2 {H : Hp} {vs : List V} {a b : PyData} (h : DqAll H vs [a, b]) : ∃ v u, vs = [v, u] ∧ Dq H v a ∧ Dq H u b := by
  cases h with | cons h1 h2 => cases h2 with | cons h2 h3 => cases h3; exact ⟨_, _, rfl, h1, h2⟩
theorem dq1 {H : Hp} {vs : List V} {a : PyData} (h : DqAll H vs [a]) : ∃ v, vs = [v] ∧ Dq H v a := by
  cases h with | cons h1 h2 => cases h2; exact ⟨_, rfl, h1⟩
theorem dq3 {H : Hp} {vs : List V} {a b c : PyData} (h : DqAll H vs [a, b, c]) : ∃ v u w, vs = [v, u, w] ∧ Dq H v a ∧ Dq H u b ∧ Dq H w c := by
  cases h with | cons h1 h2 => obtain ⟨u, w, rfl, k1, k2⟩ := dq2 h2; exact ⟨_, _, _, rfl, h1, k1, k2⟩
theorem dq4 {H : Hp} {vs : List V} {a b c d : PyData} (h : DqAll H vs [a, b, c, d]) : ∃ v u w z, vs = [v, u, w, z] ∧ Dq H v a ∧ Dq H u b ∧ Dq H w c ∧ Dq H z d := by
  cases h with | cons h1 h2 => obtain ⟨u, w, z, rfl, k1, k2, k3⟩ := dq3 h2; exact ⟨_, _, _, _, rfl, h1, k1, k2, k3⟩
section
variable {W : Wo} {X : Cx} {a b c : Expr} {σ : St} {F : Hp} {pos pos2 : Pos} {n i j : Nat} {f : Nat → Nat → Bool}
/-- table[i][j] -/
theorem jd_tab (ha : JD W X a σ F (Is (dTab n f))) (hb : JD W X b σ F (Is (.int (i : Int)))) (hc : JD W X c σ F (Is (.int (j : Int)))) (hi : i < n) (hj : j < n)
    (hs : PlainIx b := by exact fun _ _ => rfl) (hs2 : PlainIx c := by exact fun _ _ => rfl) : JD W X (.Subscript (.Subscript a b pos) c pos2) σ F (Is (.bool (f i j))) :=
  jd_ix (jd_ix ha hb (dTab_at hi) hs) hc (dRow_at hj) hs2
end
/-! ### _law_lower -/
def nats (ns : List Nat) : List Int := ns.map fun (k : Nat) => (k : Int)
def lowerL (n : Nat) (f : Nat → Nat → Bool) (e : Nat) : List Nat := (List.range n).filter fun l => f l e
def S_lower (ds : List PyData) (R : PyData → Prop) : Prop := ∃ n f e, ds = [dTab n f, .int ((e : Nat) : Int)] ∧ n ≤ 40 ∧ e < n ∧ R (dInts (nats (lowerL n f e)))
section
variable {P : Program} {w : World} {K : PySem.W.Frag} {mg : Str → Option Value} {base : Heap} -- (Dw)
theorem ok_lower (F : At K mg "_law_lower" (topS 67)) (B : Bl mg) : Kn P w K mg base "_law_lower" 1 ["_law_table", "_law_element"] (spP S_lower) := by
  refine kn67 F (spP_len fun ds R ⟨_, _, _, e, _⟩ => by rw [e]; rfl) fun fa cdv A outer s H vs Q E hr ⟨Fk, ds, g, kd, n, f, e, ed, hn, he, hR⟩ => ?_
  subst ed
  obtain ⟨v, u, rfl, k1, k2⟩ := dq2 kd
  cases k2
  refine jss_one (js_retD g (jd_lcIfR (n := n) (i := 2) (fun l => f l e) (fun l => .int ((l : Nat) : Int)) sc67.nd
    (ji_range B.range (by omega) ((jd_len B.len (jd_var 0 rfl k1)).is (by rw [dTab_len])))
    (blkOk_by (N := N67) (sc := defScope (topS 67)) (by decide +kernel)) (tg_ok sc67.nd rfl (.inl rfl)) (by omega)
    (fun l G hl eG => fun s0 H0 C cl fp => jt_of (jd_tab (jd_var 0 rfl (k1.up eG)) (jd_var 2 rfl (.int _)) (jd_var 1 rfl (.int _)) hl he))
    (fun l G hl _ eG => fun s0 H0 C cl fp => jd_var 2 rfl (.int _))) fun v d G J r ed kd => ?_)
  subst ed
  have e2 : PyData.list (((List.range n).filter fun l => f l e).map fun l => .int ((l : Nat) : Int)) = dInts (nats (lowerL n f e)) := by
    unfold dInts nats lowerL; rw [List.map_map]; rfl
  rw [e2] at kd
  exact hR v G J r kd
end
end Dw
/-! isinstance; pairs as targets; one's own lists; the loops that make pairs. -/
namespace Dw
open PySem PySem.Spec PyProof.Rows L2 -- (Dw)
/-! ### isinstance -/
def tyNm : PyData → String
  | .none => "NoneType"
  | .bool _ => "bool"
  | .int _ => "int"
  | .str _ => "str"
  | .list _ => "list"
  | .tuple _ => "tuple"
  | .dict _ => "dict"
theorem tyx_of {K : PySem.W.Frag} {F H : Hp} {v : V} {d : PyData} (e : Ex F H) (h : Dq F v d) : TyX K H v (.type (tyNm d)) := by
  cases h with
  | non => exact .base .non
  | bl b => exact .base (.bl b)
  | int i => exact .base (.int i)
  | str x => exact .base (.str x)
  | lst h _ => exact .base (.lst (e _ _ h))
  | tup h _ => exact .base (.tup (e _ _ h))
section
variable {W : Wo} {X : Cx} {e a b c o tg iter elt : Expr} {es : List Expr} {σ : St} {F G H : Hp} {pos pos2 p1 p2 p3 : Pos} {P : PyData → Prop} {D : Ends}
theorem jd_isi {d : PyData} {n : Str} {T : String} {r : Bool} (hm : X.mg "isinstance" = none) (hT : X.mg n = none) (hv : bootBuiltins n = some (.type T)) (ha : JD W X a σ F (Is d)) (hk : kitB (tyNm d) T = some r) (hg : Gl X "isinstance" := by rfl) (hgT : Gl X n := by rfl)
    (hn : n ≠ "__name__" := by decide) (hdb : (n == ("__debug__" : Str)) = false := by decide)
    (hs2 : starEach [.Name n p2] X.env = (false, eval (.Name n p2) X.env) :: starEach [] X.env := by rfl) (hs : starEach [a, .Name n p2] X.env = (false, eval a X.env) :: starEach [.Name n p2] X.env := by rfl)
    (hpl : (backTo pos (starEach [.Name n p2] X.env)).any (·.1) = false := by rfl) : JD W X (.Call (.Name "isinstance" p1) [a, .Name n p2] [] pos) σ F (Is (.bool r)) := fun H g Q q =>
  je_of (pe_callB call_isi hg hm PyProof.Rows.boot_isinstance (pa_cons pe_self (pa_cons (pe_bltn (v := .ty T) hgT hT hv rfl hn hdb) pa_nil hs2) hs) (by decide) (by decide) hs hpl) (ha.dq g fun v z G J r' g' ez kz => by
    subst ez
    exact ⟨v, .ty T, _, _, r, rfl, .ty T, tyx_of g'.fh kz, kit_ty hk, q _ _ G J r' rfl (.bl r)⟩)
/-! ### a pair as a comprehension's target -/
def prN (p : Nat × Nat) : PyData := .tuple [.int (p.1 : Int), .int (p.2 : Int)]
def dPN (ps : List (Nat × Nat)) : PyData := .list (ps.map prN)
theorem Dq.pr {v : V} {p : Nat × Nat} (h : Dq F v (prN p)) : ∃ t, v = .ref t ∧ F t = some (.tup [.int (p.1 : Int), .int (p.2 : Int)]) := by
  cases h with
  | tup hA hk =>
    obtain ⟨x, y, rfl, k1, k2⟩ := dq2 hk
    cases k1
    cases k2
    exact ⟨_, rfl, hA⟩
theorem Dq.mkPr {t : Addr} {p : Nat × Nat} (h : F t = some (.tup [.int (p.1 : Int), .int (p.2 : Int)])) : Dq F (.ref t) (prN p) := .tup h (.cons (.int _) (.cons (.int _) .nil))
abbrev gPair (K : PySem.W.Frag) (i j : Nat) : TG := gTup K 2 (gCons (gName i) (gCons (gName j) gNil))
theorem gPair_run {K : PySem.W.Frag} {i j : Nat} {v : V} {p : Nat × Nat} {Q : St → Hp → Prop} (e : Ex F H) (h : Dq F v (prN p)) (q : Q ((σ.set i (some (.int (p.1 : Int)))).set j (some (.int (p.2 : Int)))) H) : gPair K i j v σ H Q := by
  obtain ⟨t, rfl, ht⟩ := h.pr
  exact ⟨t, _, rfl, SqT.of (e _ _ ht), rfl, _, _, rfl, _, _, rfl, rfl, q⟩
theorem wipe2 {i j : Nat} (h : i ≠ j) {x y : Option V} : wipe (((wipe σ [i, j]).set i x).set j y) [i, j] = wipe σ [i, j] := by
  simp only [wipe]
  rw [List.set_set, List.set_comm _ _ (Ne.symm h), List.set_set, List.set_set, List.set_comm _ _ h, List.set_set]
theorem set2 {i j : Nat} (h : i ≠ j) {x y : Option V} : ((wipe σ [i, j]).set i x).set j y = (σ.set i x).set j y := by
  simp only [wipe]
  rw [List.set_set, List.set_comm _ _ (Ne.symm h), List.set_set]
/-- [e for a, b in ..], the items pairs -/
theorem jd_lcPr {xs : List (Nat × Nat)} {x y : Str} {i j k : Nat} {px py pt : Pos} {scope : Scope} (f : Nat × Nat → PyData) (hij : i ≠ j) (hN : X.N.Nodup) (hJ : JI W X (.Tuple [.Name x px, .Name y py] k pt) iter σ F (xs.map prN)) (ok : BlkOk X.N X.env.scope scope [(x, i), (y, j)])
    (tg : TgOk X scope x i) (tg2 : TgOk X scope y j) (hlen : xs.length ≤ 100000)
    (he : ∀ (m : Nat) p G, xs[m]? = some p → Ex F G → InB X scope fun Y => JD W Y elt ((σ.set i (some (.int (p.1 : Int)))).set j (some (.int (p.2 : Int)))) G (Is (f p))) (hc : X.calm = true := by rfl) (hs : ∀ x, foldedSetIterable iter X.env x = pure x := by intro _; rfl)
    (hn : ∀ env : Env, (assignEach [.Name x px, .Name y py] env).length = 2 := by intro _; rfl) (hst : ∀ env : Env, (assignEach [.Name x px, .Name y py] env).findIdx? (·.1) = none := by intro _; rfl) :
    JD W X (.ListComp elt [⟨.Tuple [.Name x px, .Name y py] k pt, iter, [], 0⟩] scope pos) σ F (Is (.list (xs.map f))) := fun H g Q q => by
  obtain ⟨wi, hi, hJ⟩ := hJ
  refine je_of (pe_lc (own := [(x, i), (y, j)]) hc hN hi ok (fun s H C cl fp => pg_tup (X := X.blk s H scope (compEnvC scope cl C X.env) fp) hc (pgs_cons (tg s H C cl fp px) (pgs_cons (tg2 s H C cl fp py) pgs_nil)) (hn _) (hst _)) (fun _ _ _ _ _ => pts_nil) peb_self hs)
    (lc_run (xs := xs) (enc := prN) (g := gPair X.K i j) (Sg := fun _ _ d σ2 => ∃ p, d = prN p ∧ σ2 = ((wipe σ [i, j]).set i (some (.int ((p.1 : Nat) : Int)))).set j (some (.int ((p.2 : Nat) : Int)))) hJ g hlen (fun _ => true) (fun p d => d = f p) ?_ ?_ ?_ ?_ ?_ ?_)
  · intro G H v d Q e kd ⟨σ2, p, ed, _⟩ h
    subst ed
    exact gPair_run e kd (h _ ⟨p, rfl, rfl⟩)
  · exact fun m p G v _ _ _ => ⟨_, p, rfl, rfl⟩
  · intro m p G v σ2 _ ⟨p', _, e⟩
    rw [e]; exact wipe2 hij
  · exact fun m p G v σ2 _ _ _ _ H g Q q => q G H g.gr
  · intro m p G v σ2 hp _ eF kv ⟨p', ep, e⟩ G' eG H g Q q s0 H0 C cl fp
    have e1 : p = p' := by
      have z := ep
      unfold prN at z
      injection z with z
      injection z with z1 z2
      injection z2 with z2 _
      injection z1 with z1
      injection z2 with z2
      exact Prod.ext (by omega) (by omega)
    subst e1
    rw [e, set2 hij]
    exact (((he m p G hp eF) s0 H0 C cl fp).up eG) H g Q q
  · intro v zs G J r a kd
    have a' : All2 (fun p d => d = f p) xs zs := by
      rw [show xs.filter (fun _ => true) = xs from List.filter_eq_self.mpr fun _ _ => rfl] at a; exact a
    exact q v _ G J r (by rw [a'.map_eq]) kd
/-! ### raw values: an expression that leaves the heap -/
def RV (X : Cx) (e : Expr) (σ : St) (H : Hp) (v : V) : Prop := ∀ Q : VK, Q v H → JE X e σ H Q
theorem rv_var (i : Nat) {x : Str} {v : V} (hs : σ[i]? = some (some v)) (hN : X.N[i]? = some x := by rfl) (hv : Vis X.env.scope x := by first | exact Or.inl rfl | exact Or.inr (Or.inl rfl) | exact Or.inr (Or.inr rfl))
    (hd : (x == ("__debug__" : Str)) = false := by decide) (hcd : (x == ("__classdict__" : Str)) = false := by decide) : RV X (.Name x pos) σ H v := fun Q q => je_of (pe_var hN hv hd hcd) ⟨v, hs, q⟩
theorem rv_int {i : Int} {j} : RV X (.Constant (.int i) j pos) σ H (.int i) := fun Q q => je_of pe_int q
theorem rv_str {i : Str} {j} : RV X (.Constant (.str i) j pos) σ H (.str i) := fun Q q => je_of pe_str q
theorem rv_op {op : Operator} {r : R2} {x y z : V} (ho : OpR X (binaryOp op) r) (ha : RV X a σ H x) (hb : RV X b σ H y) (hr : ∀ Q : VK, Q z H → r x y H Q) : RV X (.BinOp a op b pos) σ H z := fun Q q =>
  je_of (pe_op ho pe_self pe_self) (ha _ (hb _ (hr Q q)))
theorem rv_add {i j : Int} (ha : RV X a σ H (.int i)) (hb : RV X b σ H (.int j)) : RV X (.BinOp a .Add b pos) σ H (.int (i + j)) := rv_op op_add ha hb fun Q q => ⟨i, j, rfl, rfl, q⟩
theorem rv_un {op : UnaryOp} {r : V → Hp → VK → Prop} {x z : V} (ho : UnR X (unaryOp op) r) (ha : RV X a σ H x) (hr : ∀ Q : VK, Q z H → r x H Q) : RV X (.UnaryOp op a pos) σ H z := fun Q q => je_of (pe_un ho pe_self) (ha _ (hr Q q))
theorem rv_neg {i : Int} (ha : RV X a σ H (.int i)) : RV X (.UnaryOp .USub a pos) σ H (.int (-i)) := rv_un un_neg ha fun Q q => ⟨i, rfl, q⟩
theorem rv_ix {l : Addr} {xs : List V} {i : Int} {v : V} (ha : RV X a σ H (.ref l)) (hb : RV X b σ H (.int i)) (hl : H l = some (.lst xs)) (hv : atI xs i = some v) (hs : PlainIx b := by exact fun _ _ => rfl) : RV X (.Subscript a b pos) σ H v := fun Q q =>
  je_of (pe_ix ix_list pe_self pe_self hs) (ha _ (hb _ ⟨l, xs, i, v, rfl, rfl, SqL.of hl, hv, q⟩))
theorem rv_len {l : Addr} {xs : List V} (hm : X.mg "len" = none) (ha : RV X a σ H (.ref l)) (hl : H l = some (.lst xs)) (hg : Gl X "len" := by rfl) (hs : starEach [a] X.env = (false, eval a X.env) :: starEach [] X.env := by rfl)
    (hpl : (backTo pos (starEach [] X.env)).any (·.1) = false := by rfl) : RV X (.Call (.Name "len" p1) [a] [] pos) σ H (.int (xs.length : Int)) := fun Q q =>
  je_of (pe_callB call_len_seq hg hm PySem.boot_len (pa_cons pe_self pa_nil hs) (by decide) (by decide) hs hpl) (ha _ ⟨l, xs, rfl, .inl (SqL.of hl), q⟩)
/-- a test, raw -/
def RT (X : Cx) (e : Expr) (σ : St) (H : Hp) (k : Bool) : Prop := ∀ Q : Bool → Hp → Prop, Q k H → JB X e σ H Q
theorem rt_cmp {op : CmpOp} {r : R2} {x y : V} {k : Bool} (ho : OpR X (compareOp op) r) (ha : RV X a σ H x) (hb : RV X b σ H y) (hr : ∀ Q : VK, Q (.bl k) H → r x y H Q) (hm : behindInMarks op b = false := by first | exact nobehind _ (by decide) (by decide) | rfl) : RT X (.Compare a [op] [b] pos) σ H k := fun Q q =>
  jb_of (pt_cmpR ho pe_self pe_self hm) (ha _ (hb _ (hr _ ⟨k, rfl, q⟩)))
theorem rt_eq {x y : V} (ha : RV X a σ H x) (hb : RV X b σ H y) (hs : scal x y = true := by rfl) : RT X (.Compare a [.Eq] [b] pos) σ H (decide (x = y)) := rt_cmp op_eq ha hb fun Q q => ⟨hs, q⟩
theorem rt_gt {i j : Int} (ha : RV X a σ H (.int i)) (hb : RV X b σ H (.int j)) : RT X (.Compare a [.Gt] [b] pos) σ H (decide (j < i)) := rt_cmp op_gt ha hb fun Q q => ⟨i, j, rfl, rfl, q⟩
theorem js_ifR {c : Expr} {as bs : List Stmt} {k : Bool} (hc : RT X c σ H k) (h1 : k = true → JSs X as σ H D) (h2 : k = false → JSs X bs σ H D) : JS X (.If c as bs pos) σ H D := js_if (hc _ (by
  cases k with
  | true => rw [if_pos rfl]; exact h1 rfl
  | false => rw [if_neg Bool.false_ne_true]; exact h2 rfl))
/-! ### one's own list -/
theorem je_app {l : Addr} {xs : List V} {apos cpos : Pos} {Q : VK} (ho : RV X o σ H (.ref l)) (hl : H l = some (.lst xs)) (h : JE X e σ H fun v J => ∃ ys, J l = some (.lst ys) ∧ ys.length < 100000 ∧ Q .non (upd J l (.lst (ys ++ [v]))))
    (hbase : attributeBase o "append" X.env (eval o X.env) = eval o X.env := by rfl)
    (hfew : ((backTo cpos (starEach [e] X.env)).all (fun x => !x.1) && (backToKw cpos (keywordEach [] X.env)).all (fun x => x.1.isSome) -- (Dw)
      && decide (([e] : List Expr).length + ([] : List Keyword).length + (if ([] : List Keyword).isEmpty then 0 else 1) < 30)) = true := by rfl) -- (Dw)
    (hline : (apos.endLine == cpos.line) = true := by rfl) (hs : starEach [e] X.env = (false, eval e X.env) :: starEach [] X.env := by rfl) (hplain : (backTo cpos (starEach [] X.env)).any (·.1) = false := by rfl) : -- (Dw)
    JE X (.Call (.Attribute o "append" apos) [e] [] cpos) σ H Q :=
  je_of (pe_bm PySem.F.plainAttrs_list PySem.F.slot_list_append PySem.F.type_list_append mt_append pe_self (pa_cons pe_self pa_nil hs) hbase hfew hline hs hplain)
    (ho _ ⟨.inl ⟨rfl, xs, SqL.of hl⟩, h.imp fun v J ⟨ys, hy, hz, q⟩ => ⟨l, ys, v, rfl, rfl, hy, Nat.lt_of_lt_of_le hz (by decide), q⟩⟩)
theorem js_app {l : Addr} {xs : List V} {apos cpos : Pos} {P : PyData → Prop} (gd : Good W F H) (ho : RV X o σ H (.ref l)) (hl : H l = some (.lst xs)) (hm : ¬ W.m l) (hz : xs.length < 100000) (he : JD W X e σ F P)
    (h : ∀ v d G J, Gr W F H G J → Good W G J → P d → Dq G v d → J l = some (.lst xs) → D.nx σ (upd J l (.lst (xs ++ [v]))))
    (hsw : swapsWith (.Call (.Attribute o "append" apos) [e] [] cpos) none pos.line X.env = pure false := by rfl) (hbase : attributeBase o "append" X.env (eval o X.env) = eval o X.env := by rfl)
    (hfew : ((backTo cpos (starEach [e] X.env)).all (fun x => !x.1) && (backToKw cpos (keywordEach [] X.env)).all (fun x => x.1.isSome) -- (Dw)
      && decide (([e] : List Expr).length + ([] : List Keyword).length + (if ([] : List Keyword).isEmpty then 0 else 1) < 30)) = true := by rfl) -- (Dw)
    (hline : (apos.endLine == cpos.line) = true := by rfl) (hs : starEach [e] X.env = (false, eval e X.env) :: starEach [] X.env := by rfl) (hplain : (backTo cpos (starEach [] X.env)).any (·.1) = false := by rfl) : -- (Dw)
    JS X (.Expr (.Call (.Attribute o "append" apos) [e] [] cpos) pos) σ H D :=
  js_expr (je_app ho hl (he.dq gd fun v d G J r g' p k => ⟨xs, r.hj _ _ hm hl, hz, h v d G J r g' p k (r.hj _ _ hm hl)⟩) hbase hfew hline hs hplain) hsw
/-- x = [] -/
theorem js_new (i : Nat) {x : Str} {px p0 : Pos} (hN : X.N.Nodup) (h : ∀ l, H l = none → D.nx (σ.set i (some (.ref l))) (upd H l (.lst []))) (hi : X.N[i]? = some x := by rfl) (hx : Loc X.env.scope x := by first | exact .inl rfl | exact .inr rfl)
    (hs : swapsWith (.List [] p0) (some (.Name x px)) pos.line X.env = pure false := by rfl) (hf : X.fn x = true ∨ X.env.scope.names.lookup x = some .local := by first | exact .inl rfl | exact .inr rfl) : JS X (.Assign [.Name x px] (.List [] p0) pos) σ H D :=
  js_set i hN (je_of (pe_lst pa_nil) ⟨Nat.zero_le _, fun l hl => h l hl⟩) hi hx hs hf
/-- o[i] = e -/
theorem js_store {l : Addr} {j : Nat} {op : Pos} (h : JE X e σ H fun v J => ∃ ys k, RV X o σ J (.ref l) ∧ RV X a σ J (.int k) ∧ J l = some (.lst ys) ∧ ixN ys.length k = some j ∧ D.nx σ (upd J l (.lst (ys.set j v))))
    (ha : ∀ v, assign (.Subscript o a op) X.env v = (do
      let ov ← holding [v] (eval o X.env) -- (Dw)
      let iv ← holding [v, ov] (eval a X.env)
      standAt op
      holding [v, ov, iv] (setItem ov iv v) -- (Dw)
      release [v, ov, iv] []) := by intro _; rfl)
    (hs : swapsWithSole [.Subscript o a op] e pos.line X.env = pure false := by rfl) (hw : swappedStores [.Subscript o a op] e X.env = pure none := by rfl)
    (h1 : (assignEach [.Subscript o a op] X.env).map (·.2) = [assign (.Subscript o a op) X.env] := by rfl) : JS X (.Assign [.Subscript o a op] e pos) σ H D :=
  js_asg (h.imp fun v J ⟨ys, k, ho, hi, hl, hx, q⟩ => ho _ (hi _ ⟨l, ys, k, j, rfl, rfl, hl, hx, q⟩)) (pg_sub pe_self pe_self set_list ha) hs hw h1
end
/-! ### pairs by a relation -/
def relP (n : Nat) (g : Nat → Nat → Bool) : List (Nat × Nat) := (List.range n).flatMap fun l => ((List.range n).filter (g l)).map fun h => (l, h)
def relTo (n i : Nat) (g : Nat → Nat → Bool) : List (Nat × Nat) := (List.range i).flatMap fun l => ((List.range n).filter (g l)).map fun h => (l, h)
theorem relTo_succ (n i : Nat) (g : Nat → Nat → Bool) : relTo n (i + 1) g = relTo n i g ++ ((List.range n).filter (g i)).map fun h => (i, h) := by
  unfold relTo
  rw [List.range_succ, List.flatMap_append]
  simp
theorem relTo_len (n i : Nat) (g : Nat → Nat → Bool) : (relTo n i g).length ≤ i * n := by
  induction i with
  | zero => simp [relTo]
  | succ i ih =>
    rw [relTo_succ, List.length_append, List.length_map, Nat.succ_mul]
    have h := List.length_filter_le (g i) (List.range n)
    rw [List.length_range] at h
    omega
theorem relP_len (n : Nat) (g : Nat → Nat → Bool) : (relP n g).length ≤ n * n := relTo_len n n g
theorem relP_mem {n : Nat} {g : Nat → Nat → Bool} {p : Nat × Nat} : p ∈ relP n g ↔ p.1 < n ∧ p.2 < n ∧ g p.1 p.2 = true := by
  unfold relP
  simp only [List.mem_flatMap, List.mem_map, List.mem_filter, List.mem_range]
  constructor
  · rintro ⟨l, hl, h, ⟨hh, hg⟩, rfl⟩
    exact ⟨hl, hh, hg⟩
  · intro ⟨h1, h2, h3⟩
    exact ⟨p.1, h1, p.2, ⟨h2, h3⟩, rfl⟩
section
variable {W : Wo} {X : Cx} {iter iter2 c : Expr} {σ : St} {F H : Hp} {q1 q2 q3 q4 q5 q6 q7 q8 q9 q10 pos spos : Pos} {D : Ends} {low high found : Str} {scope : Scope} {kt : Nat}
/-- for low in ..: found = found + [(low, high) for high in .. if c] -/
theorem js_rel {n : Nat} (g : Nat → Nat → Bool) (il ih jf : Nat) (mk : Option V → V → St) (v0 : V) (e0 : σ = mk none v0) (hn : n ≤ 40) (hN : X.N.Nodup) (gd : Good W F H) (k0 : Dq F v0 (.list []))
    (m1 : ∀ lv fv x, (mk lv fv).set il x = mk x fv) (m2 : ∀ lv fv y, (mk lv fv).set jf (some y) = mk lv y) (m3 : ∀ lv fv, (mk lv fv)[jf]? = some (some fv)) (m4 : ∀ lv fv x, ((mk lv fv).set ih x)[il]? = some lv) (m5 : ∀ lv fv x, ((mk lv fv).set ih x)[ih]? = some x)
    (hJ : JI W X (.Name low q1) iter σ F (rngN n)) (hg : PG X (.Name low q1) (gName il)) (hJ2 : ∀ G lv fv, Ex F G → JI W X (.Name high q2) iter2 (mk lv fv) G (rngN n)) (ok : BlkOk X.N X.env.scope scope [(high, ih)]) (tg : TgOk X scope high ih)
    (hc : ∀ (l h : Nat) G fv, l < n → h < n → Ex F G → InB X scope fun Y => JT W Y c ((mk (some (.int (l : Int))) fv).set ih (some (.int (h : Int)))) G (Is (g l h)))
    (hlow : ∀ (l h : Nat) G fv, InB X scope fun Y => JD W Y (.Name low q3) ((mk (some (.int (l : Int))) fv).set ih (some (.int (h : Int)))) G (Is (.int (l : Int))))
    (hhigh : ∀ (l h : Nat) G fv, InB X scope fun Y => JD W Y (.Name high q4) ((mk (some (.int (l : Int))) fv).set ih (some (.int (h : Int)))) G (Is (.int (h : Int))))
    (hfound : ∀ G lv fv (d : PyData), Dq G fv d → JD W X (.Name found q5) (mk lv fv) G (Is d))
    (hd : ∀ G J lv fv, Gr W F H G J → Good W G J → Dq G fv (dPN (relP n g)) → D.nx (mk lv fv) J)
    (hs1 : InB X scope fun Y => starEach [.Name low q3, .Name high q4] Y.env = (false, eval (.Name low q3) Y.env) :: starEach [.Name high q4] Y.env := by intro _ _ _ _ _; rfl) (hs2 : InB X scope fun Y => starEach [.Name high q4] Y.env = (false, eval (.Name high q4) Y.env) :: starEach [] Y.env := by intro _ _ _ _ _; rfl)
    (hfi : X.N[jf]? = some found := by rfl) (hx : Loc X.env.scope found := by first | exact .inl rfl | exact .inr rfl) (hss : swapsWith (.BinOp (.Name found q5) .Add (.ListComp (.Tuple [.Name low q3, .Name high q4] kt q6) [⟨.Name high q2, iter2, [c], 0⟩] scope pos) q7) (some (.Name found q8)) q9.line X.env = pure false := by rfl)
    (hf : X.fn found = true ∨ X.env.scope.names.lookup found = some .local := by first | exact .inl rfl | exact .inr rfl) (hcm : X.calm = true := by rfl) (hp : PassesOwn (model X.prog X.w) X.A X.env X.xe := by exact PassesOwn.never)
    (hfo : ∀ x, foldedSetIterable iter X.env x = pure x := by intro _; rfl) (hfo2 : ∀ x, foldedSetIterable iter2 X.env x = pure x := by intro _; rfl) :
    JS X (.For (.Name low q1) iter [.Assign [.Name found q8] (.BinOp (.Name found q5) .Add (.ListComp (.Tuple [.Name low q3, .Name high q4] kt q6) [⟨.Name high q2, iter2, [c], 0⟩] scope pos) q7) q9] [] spos) σ H D := by
  refine js_for hJ hg gd (fun G0 i σ' H' => ∃ G lv fv, σ' = mk lv fv ∧ Ex G0 G ∧ Gr W F H G H' ∧ Good W G H' ∧ Dq G fv (dPN (relTo n i g))) (fun G0 i σ' H' ⟨G, lv, fv, _, e, _, g', _⟩ => e.trans g'.fh) (fun G J r g' => ⟨G, none, v0, e0, Ex.refl G, r, g', k0.up r.fg⟩) ?_ ?_ hcm hp hfo
  · rintro G0 i x d σ' H' eF hdi kx ⟨G, lv, fv, rfl, eG, r, g', kf⟩
    obtain ⟨hi, rfl⟩ := rngN_of hdi
    cases kx
    show JSs X _ ((mk lv fv).set il _) H' _
    rw [m1]
    have hl2 : ((((List.range n).filter (g i)).map fun (h : Nat) => prN (i, h)).length) ≤ n := by
      rw [List.length_map]
      have := List.length_filter_le (g i) (List.range n)
      rw [List.length_range] at this
      exact this
    refine jss_one (js_setD jf hN g' (jd_bin (hfound G _ fv _ kf) (jd_lcIfR (i := ih) (n := n) (g i) (fun h => prN (i, h)) hN (hJ2 G _ fv r.fg) ok tg (by omega)
      (fun h G2 hh e2 => hc i h G2 fv hi hh (r.fg.trans e2)) (fun h G2 hh _ e2 => fun s0 H0 C cl fp => jd_tup (jds_is (hlow i h G2 fv s0 H0 C cl fp) (jds_is (hhigh i h G2 fv s0 H0 C cl fp) jds_nil (hs2 s0 H0 C cl fp)) (hs1 s0 H0 C cl fp)) (fun ds ed => by
        subst ed
        exact ⟨by show 2 ≤ 100000; omega, rfl⟩)) hcm hfo2) (od_cat ?_)) (fun v d G2 J2 r2 g2 ed kd => ?_) hfi hx hss hf)
    · rw [List.length_map]
      have h1 := relTo_len n i g
      have h2 : i * n ≤ 40 * 40 := Nat.mul_le_mul (by omega) hn
      omega
    · subst ed
      refine ⟨G2, _, v, m2 _ _ _, eG.trans r2.fg, r.trans r2 gd, g2, ?_⟩
      rw [relTo_succ]
      unfold dPN
      rw [List.map_append, List.map_map]
      exact kd
  · rintro G0 σ' H' eF ⟨G, lv, fv, rfl, _, r, g', kf⟩
    rw [rngN_len] at kf
    exact hd G H' lv fv r g' kf
end
end Dw
/-! More of the law's readers. -/
namespace Dw
open PySem PySem.Spec PyProof.Rows L2 -- (Dw)
def apB (f : Nat → Nat → Bool) (a b : Nat) : Bool := (!decide ((a : Int) = (b : Int))) && ((!f a b) && (!f b a))
def S_apart (ds : List PyData) (R : PyData → Prop) : Prop := ∃ n f a b, ds = [dTab n f, .int ((a : Nat) : Int), .int ((b : Nat) : Int)] ∧ n ≤ 40 ∧ a < n ∧ b < n ∧ R (.bool (apB f a b))
def S_allap (ds : List PyData) (R : PyData → Prop) : Prop := ∃ n f ps, ds = [dTab n f, dPN ps] ∧ n ≤ 40 ∧ ps.length ≤ 1000 ∧ (∀ p ∈ ps, p.1 < n ∧ p.2 < n) ∧ R (.bool (ps.all fun p => apB f p.1 p.2))
def cvB (n : Nat) (f : Nat → Nat → Bool) (l h : Nat) : Bool := f l h && !((List.range n).any fun k => f l k && f k h)
def S_covers (ds : List PyData) (R : PyData → Prop) : Prop := ∃ n f l h, ds = [dTab n f, .int ((l : Nat) : Int), .int ((h : Nat) : Int)] ∧ n ≤ 40 ∧ l < n ∧ h < n ∧ R (.bool (cvB n f l h))
def S_pairs (ds : List PyData) (R : PyData → Prop) : Prop := ∃ n f, ds = [dTab n f] ∧ n ≤ 40 ∧ R (dPN (relP n f))
section
variable {P : Program} {w : World} {K : PySem.W.Frag} {mg : Str → Option Value} {base : Heap} -- (Dw)
theorem ok_apart (F : At K mg "_law_apart" (topS 64)) (B : Bl mg) : Kn P w K mg base "_law_apart" 1 ["_law_table", "_law_one", "_law_other"] (spP S_apart) := by
  refine kn64 F (spP_len fun ds R ⟨_, _, _, _, e, _⟩ => by rw [e]; rfl) fun fa cdv A outer s H vs Q E hr ⟨Fk, ds, g, kd, n, f, a, b, ed, hn, ha, hb, hR⟩ => ?_
  subst ed
  obtain ⟨v, u, z, rfl, k1, k2, k3⟩ := dq3 kd
  cases k2
  cases k3
  exact jss_one (js_retD g (jd_and (op := false) (jd_cp (jd_var 1 rfl (.int _)) (jd_var 2 rfl (.int _)) od_neI)
    (fun _ => jd_and (op := false) (jd_notIs (jd_tab (jd_var 0 rfl k1) (jd_var 1 rfl (.int _)) (jd_var 2 rfl (.int _)) ha hb))
      (fun _ => jd_one (jd_notIs (jd_tab (jd_var 0 rfl k1) (jd_var 2 rfl (.int _)) (jd_var 1 rfl (.int _)) hb ha)))))
    fun v d G J r ed kd => hR v G J r (ed ▸ kd))
theorem ok_allap (F : At K mg "_law_all_apart" (topS 65)) (B : Bl mg) (k64 : Kn P w K mg base "_law_apart" 1 ["_law_table", "_law_one", "_law_other"] (spP S_apart)) :
    Kn P w K mg base "_law_all_apart" 2 ["_law_table", "_law_pairs_here"] (spP S_allap) := by
  refine kn65 F (spP_len fun ds R ⟨_, _, _, e, _⟩ => by rw [e]; rfl) fun fa cdv A outer s H vs Q E hr ⟨Fk, ds, g, kd, n, f, ps, ed, hn, hl, hp, hR⟩ => ?_
  subst ed
  obtain ⟨v, u, rfl, k1, k2⟩ := dq2 kd
  refine jss_one (js_retD g (jd_all (bs := ps.map fun p => apB f p.1 p.2) rfl B.all ((jd_lcPr (i := 2) (j := 3) (fun p => .bool (apB f p.1 p.2)) (by decide) sc65.nd (ji_list (jd_var 1 rfl k2))
    (blkOk_by (N := N65) (sc := defScope (topS 65)) (by decide +kernel)) (tg_ok sc65.nd rfl (.inl rfl)) (tg_ok sc65.nd rfl (.inl rfl)) (by omega) (fun m p G hm eG s0 H0 C cl fp => ?_)).is (by rw [List.map_map]; rfl))) fun v d G J r ed kd => ?_)
  · obtain ⟨h1, h2⟩ := hp p (List.mem_of_getElem? hm)
    exact jd_fn k64 hr (jds_is (jd_var 0 rfl (k1.up eG)) (jds_is (jd_var 2 rfl (.int _)) (jds_is (jd_var 3 rfl (.int _)) jds_nil))) fun ds R e q => ⟨n, f, p.1, p.2, e, hn, h1, h2, q _ rfl⟩
  · subst ed
    rw [List.all_map] at kd
    exact hR v G J r kd
theorem ok_covers (F : At K mg "_law_covers" (topS 66)) (B : Bl mg) : Kn P w K mg base "_law_covers" 1 ["_law_table", "_law_low", "_law_high"] (spP S_covers) := by
  refine kn66 F (spP_len fun ds R ⟨_, _, _, _, e, _⟩ => by rw [e]; rfl) fun fa cdv A outer s H vs Q E hr ⟨Fk, ds, g, kd, n, f, l, h, ed, hn, hl, hh, hR⟩ => ?_
  subst ed
  obtain ⟨v, u, z, rfl, k1, k2, k3⟩ := dq3 kd
  cases k2
  cases k3
  refine jss_cons (js_ifT g (jt_notIs (jt_of (jd_tab (jd_var 0 rfl k1) (jd_var 1 rfl (.int _)) (jd_var 2 rfl (.int _)) hl hh))) (fun G J r g' p => ?_) (fun G J r g' p => jss_nil ?_))
  · refine jss_one (js_retD g' jd_bool fun v d G' J' r' ed kd => hR v G' J' (r.trans r' g) ?_)
    have e : f l h = false := by simpa using p.symm
    rw [show cvB n f l h = false by unfold cvB; rw [e]; rfl]
    exact ed ▸ kd
  · have e : f l h = true := by simpa using p.symm
    have k1' := k1.up r.fg
    refine jss_one (js_retD g' (jd_notIs (jd_any (bs := (List.range n).map fun k => f l k && f k h) rfl B.any ((jd_lcR (n := n) (i := 3) (fun k => .bool (f l k && f k h)) sc66.nd (ji_range B.range (by omega) ((jd_len B.len (jd_var 0 rfl k1')).is (by rw [dTab_len])))
      (blkOk_by (N := N66) (sc := defScope (topS 66)) (by decide +kernel)) (tg_ok sc66.nd rfl (.inl rfl)) (by omega) (fun k G hk eG s0 H0 C cl fp => ?_)).is (by rw [List.map_map]; rfl)))) fun v d G' J' r' ed kd => hR v G' J' (r.trans r' g) ?_)
    · exact jd_and (op := false) (jd_tab (jd_var 0 rfl (k1'.up eG)) (jd_var 1 rfl (.int _)) (jd_var 3 rfl (.int _)) hl hk) fun _ => jd_one (jd_tab (jd_var 0 rfl (k1'.up eG)) (jd_var 3 rfl (.int _)) (jd_var 2 rfl (.int _)) hk hh)
    · subst ed
      unfold cvB
      rw [e, Bool.true_and]
      rw [List.any_map] at kd
      exact kd
theorem ok_pairs (F : At K mg "_law_pairs" (topS 63)) (B : Bl mg) : Kn P w K mg base "_law_pairs" 1 ["_law_table"] (spP S_pairs) := by
  refine kn63 F (spP_len fun ds R ⟨_, _, e, _⟩ => by rw [e]; rfl) fun fa cdv A outer s H vs Q E hr ⟨Fk, ds, g, kd, n, f, ed, hn, hR⟩ => ?_
  subst ed
  obtain ⟨v, rfl, k1⟩ := dq1 kd
  refine jss_cons (js_setD 1 sc63.nd g (jd_list jds_nil fun ds e => by subst e; exact ⟨Nat.zero_le _, rfl⟩) fun v0 d G J r g' ed kd => ?_)
  subst ed
  have k1' := k1.up r.fg
  refine jss_cons (js_rel f 2 3 1 (fun lv fv => [some v, some fv, lv, none]) v0 rfl hn sc63.nd g' kd (fun _ _ _ => rfl) (fun _ _ _ => rfl) (fun _ _ => rfl) (fun _ _ _ => rfl) (fun _ _ _ => rfl)
    (ji_range B.range (by omega) ((jd_len B.len (jd_var 0 rfl k1')).is (by rw [dTab_len]))) (pg_name (i := 2) sc63.nd rfl (.inr rfl))
    (fun G2 lv fv e => ji_range B.range (by omega) ((jd_len B.len (jd_var 0 rfl (k1'.up e))).is (by rw [dTab_len])))
    (blkOk_by (N := N63) (sc := defScope (topS 63)) (by decide +kernel)) (tg_ok sc63.nd rfl (.inl rfl))
    (fun l h G2 fv hl hh e s0 H0 C cl fp => jt_of (jd_tab (jd_var 0 rfl (k1'.up e)) (jd_var 2 rfl (.int _)) (jd_var 3 rfl (.int _)) hl hh))
    (fun l h G2 fv s0 H0 C cl fp => jd_var 2 rfl (.int _)) (fun l h G2 fv s0 H0 C cl fp => jd_var 3 rfl (.int _)) (fun G2 lv fv d kd => jd_var 1 rfl kd) fun G2 J2 lv fv r2 g2 k2 => ?_)
  exact jss_one (js_retD g2 (jd_var 1 rfl k2) fun v d G3 J3 r3 ed kd => hR v G3 J3 ((r.trans r2 g).trans r3 g) (ed ▸ kd))
end
end Dw
/-! Integers, pairs by spans, arcs, ranks, parents. -/
namespace Dw
open PySem PySem.Spec PyProof.Rows L2 -- (Dw)
theorem dIntsN (ns : List Nat) : dInts (nats ns) = .list (ns.map fun (k : Nat) => .int (k : Int)) := by unfold dInts nats; rw [List.map_map]; rfl
theorem boot_str : bootBuiltins "str" = some (.type "str") := by decide +kernel -- (Dw)
theorem boot_bool : bootBuiltins "bool" = some (.type "bool") := by decide +kernel -- (Dw)
def S_isint (ds : List PyData) (R : PyData → Prop) : Prop := ∃ i : Int, ds = [.int i] ∧ R (.bool true)
def S_areint (ds : List PyData) (R : PyData → Prop) : Prop := ∃ ns : List Int, ds = [.tuple (ns.map .int)] ∧ ns.length ≤ 100 ∧ R (.bool true)
def spG (sp : List (Nat × Nat)) (l h : Nat) : Bool := decide ((sp.getD l (0, 0)).2 < (sp.getD h (0, 0)).1)
def arG (sp : List (Nat × Nat)) (l h : Nat) : Bool := decide ((sp.getD l (0, 0)).2 = (sp.getD h (0, 0)).1)
def rkG (rk : List Nat) (l h : Nat) : Bool := decide (rk.getD l 0 < rk.getD h 0)
theorem pr_at {sp : List (Nat × Nat)} {i : Nat} (h : i < sp.length) : (sp.map prN)[i]? = some (prN (sp.getD i (0, 0))) := by
  rw [List.getElem?_map, List.getD_eq_getElem?_getD, List.getElem?_eq_getElem h]; rfl
theorem rk_at {rk : List Nat} {i : Nat} (h : i < rk.length) : (rk.map fun (k : Nat) => PyData.int (k : Int))[i]? = some (.int ((rk.getD i 0 : Nat) : Int)) := by
  rw [List.getElem?_map, List.getD_eq_getElem?_getD, List.getElem?_eq_getElem h]; rfl
def S_bysp (ds : List PyData) (R : PyData → Prop) : Prop := ∃ sp, ds = [dPN sp] ∧ sp.length ≤ 40 ∧ R (dPN (relP sp.length (spG sp)))
def S_byar (ds : List PyData) (R : PyData → Prop) : Prop := ∃ sp, ds = [dPN sp] ∧ sp.length ≤ 40 ∧ R (dPN (relP sp.length (arG sp)))
def S_byrk (ds : List PyData) (R : PyData → Prop) : Prop := ∃ rk : List Nat, ds = [.list (rk.map fun (k : Nat) => .int (k : Int))] ∧ rk.length ≤ 40 ∧ R (dPN (relP rk.length (rkG rk)))
/-- parents -/
def encO : Option Nat → PyData
  | none => .none
  | some p => .int (p : Int)
def paP (pa : List (Option Nat)) : List (Nat × Nat) := (List.range pa.length).filterMap fun k => (pa.getD k none).map fun p => (p, k)
def S_bypa (ds : List PyData) (R : PyData → Prop) : Prop := ∃ pa : List (Option Nat), ds = [.list (pa.map encO)] ∧ pa.length ≤ 40 ∧ R (dPN (paP pa))
theorem pa_at {pa : List (Option Nat)} {i : Nat} (h : i < pa.length) : (pa.map encO)[i]? = some (encO (pa.getD i none)) := by
  rw [List.getElem?_map, List.getD_eq_getElem?_getD, List.getElem?_eq_getElem h]; rfl
theorem isNon_encO (o : Option Nat) : isNon (encO o) = o.isNone := by cases o <;> rfl
theorem paP_eq (pa : List (Option Nat)) : ∀ ks : List Nat, (ks.filter fun k => !isNon (encO (pa.getD k none))).map (fun k => PyData.tuple [encO (pa.getD k none), .int (k : Int)]) = (ks.filterMap fun k => (pa.getD k none).map fun p => (p, k)).map prN
  | [] => rfl
  | k :: ks => by
    have ih := paP_eq pa ks
    cases e : pa.getD k none with
    | none =>
      rw [List.filter_cons, List.filterMap_cons, isNon_encO, e]
      simpa using ih
    | some p =>
      rw [List.filter_cons, List.filterMap_cons, isNon_encO, e]
      simp only [Option.isNone_some, Bool.not_false, if_true, List.map_cons, Option.map_some, e]
      rw [ih]
      rfl
section
variable {P : Program} {w : World} {K : PySem.W.Frag} {mg : Str → Option Value} {base : Heap} -- (Dw)
theorem ok_isint (F : At K mg "_law_is_integer" (topS 68)) (B : Bl mg) : Kn P w K mg base "_law_is_integer" 1 ["_law_actual"] (spP S_isint) := by
  refine kn68 F (spP_len fun ds R ⟨_, e, _⟩ => by rw [e]; rfl) fun fa cdv A outer s H vs Q E hr ⟨Fk, ds, g, kd, i, ed, hR⟩ => ?_
  subst ed
  obtain ⟨v, rfl, k1⟩ := dq1 kd
  exact jss_one (js_retD g (jd_and (op := false) (jd_isi (T := "int") B.isinstance B.int PyProof.Rows.boot_int (jd_var 0 rfl k1) (r := true) (show kitB "int" "int" = some true by decide +kernel)) (fun _ => jd_one (jd_notIs (jd_isi (T := "bool") B.isinstance B.bool boot_bool (jd_var 0 rfl k1) (r := false) (show kitB "int" "bool" = some false by decide +kernel)))))
    fun v d G J r ed kd => hR v G J r (ed ▸ kd))
theorem ok_areint (F : At K mg "_law_are_integers" (topS 69)) (B : Bl mg) (k68 : Kn P w K mg base "_law_is_integer" 1 ["_law_actual"] (spP S_isint)) : Kn P w K mg base "_law_are_integers" 2 ["_law_actual"] (spP S_areint) := by
  refine kn69 F (spP_len fun ds R ⟨_, e, _⟩ => by rw [e]; rfl) fun fa cdv A outer s H vs Q E hr ⟨Fk, ds, g, kd, ns, ed, hl, hR⟩ => ?_
  subst ed
  obtain ⟨v, rfl, k1⟩ := dq1 kd
  refine jss_one (js_retD g (jd_all (bs := ns.map fun _ => true) rfl B.all ((jd_lcM (xs := ns) (enc := PyData.int) (i := 1) (fun _ => .bool true) sc69.nd (ji_tup (jd_var 0 rfl k1))
    (blkOk_by (N := N69) (sc := defScope (topS 69)) (by decide +kernel)) (tg_ok sc69.nd rfl (.inl rfl)) (by omega) (fun m i G u hm eG ku s0 H0 C cl fp => ?_)).is (by rw [List.map_map]; rfl))) fun v d G J r ed kd => ?_)
  · exact jd_fn k68 hr (jds_is (jd_var 1 rfl ku) jds_nil) fun ds R e q => ⟨i, e, q _ rfl⟩
  · subst ed
    rw [show (ns.map fun _ => true).all id = true by simp] at kd
    exact hR v G J r kd
theorem ok_bysp (F : At K mg "_law_by_spans" (topS 72)) (B : Bl mg) : Kn P w K mg base "_law_by_spans" 1 ["_law_spans"] (spP S_bysp) := by
  refine kn72 F (spP_len fun ds R ⟨_, e, _⟩ => by rw [e]; rfl) fun fa cdv A outer s H vs Q E hr ⟨Fk, ds, g, kd, sp, ed, hn, hR⟩ => ?_
  subst ed
  obtain ⟨v, rfl, k1⟩ := dq1 kd
  refine jss_cons (js_setD 1 sc72.nd g ((jd_len B.len (jd_var 0 rfl k1)).is (by rw [List.length_map])) fun v1 d G1 J1 r1 g1 ed kn => ?_)
  subst ed
  cases kn
  refine jss_cons (js_setD 2 sc72.nd g1 (jd_list jds_nil fun ds e => by subst e; exact ⟨Nat.zero_le _, rfl⟩) fun v0 d G J r g' ed kd => ?_)
  subst ed
  have k1' := k1.up (r1.fg.trans r.fg)
  refine jss_cons (js_rel (spG sp) 3 4 2 (fun lv fv => [some v, some (.int (sp.length : Int)), some fv, lv, none]) v0 rfl hn sc72.nd g' kd (fun _ _ _ => rfl) (fun _ _ _ => rfl) (fun _ _ => rfl) (fun _ _ _ => rfl) (fun _ _ _ => rfl)
    (ji_range B.range (by omega) (jd_var 1 rfl (.int _))) (pg_name (i := 3) sc72.nd rfl (.inr rfl))
    (fun G2 lv fv e => ji_range B.range (by omega) (jd_var 1 rfl (.int _)))
    (blkOk_by (N := N72) (sc := defScope (topS 72)) (by decide +kernel)) (tg_ok sc72.nd rfl (.inl rfl))
    (fun l h G2 fv hl hh e s0 H0 C cl fp => (jt_cp (jd_ixT (k := 1) (jd_ix (jd_var 0 rfl (k1'.up e)) (jd_var 3 rfl (.int _)) (pr_at hl)) jd_int rfl) (jd_ixT (k := 0) (jd_ix (jd_var 0 rfl (k1'.up e)) (jd_var 4 rfl (.int _)) (pr_at hh)) jd_int rfl) od_lt).is (by unfold spG; rw [decide_eq_decide]; omega))
    (fun l h G2 fv s0 H0 C cl fp => jd_var 3 rfl (.int _)) (fun l h G2 fv s0 H0 C cl fp => jd_var 4 rfl (.int _)) (fun G2 lv fv d kd => jd_var 2 rfl kd) fun G2 J2 lv fv r2 g2 k2 => ?_)
  exact jss_one (js_retD g2 (jd_var 2 rfl k2) fun v d G3 J3 r3 ed kd => hR v G3 J3 (((r1.trans r g).trans r2 g).trans r3 g) (ed ▸ kd))
theorem ok_byar (F : At K mg "_law_by_arcs" (topS 78)) (B : Bl mg) : Kn P w K mg base "_law_by_arcs" 1 ["_law_arcs"] (spP S_byar) := by
  refine kn78 F (spP_len fun ds R ⟨_, e, _⟩ => by rw [e]; rfl) fun fa cdv A outer s H vs Q E hr ⟨Fk, ds, g, kd, sp, ed, hn, hR⟩ => ?_
  subst ed
  obtain ⟨v, rfl, k1⟩ := dq1 kd
  refine jss_cons (js_setD 1 sc78.nd g ((jd_len B.len (jd_var 0 rfl k1)).is (by rw [List.length_map])) fun v1 d G1 J1 r1 g1 ed kn => ?_)
  subst ed
  cases kn
  refine jss_cons (js_setD 2 sc78.nd g1 (jd_list jds_nil fun ds e => by subst e; exact ⟨Nat.zero_le _, rfl⟩) fun v0 d G J r g' ed kd => ?_)
  subst ed
  have k1' := k1.up (r1.fg.trans r.fg)
  refine jss_cons (js_rel (arG sp) 3 4 2 (fun lv fv => [some v, some (.int (sp.length : Int)), some fv, lv, none]) v0 rfl hn sc78.nd g' kd (fun _ _ _ => rfl) (fun _ _ _ => rfl) (fun _ _ => rfl) (fun _ _ _ => rfl) (fun _ _ _ => rfl)
    (ji_range B.range (by omega) (jd_var 1 rfl (.int _))) (pg_name (i := 3) sc78.nd rfl (.inr rfl))
    (fun G2 lv fv e => ji_range B.range (by omega) (jd_var 1 rfl (.int _)))
    (blkOk_by (N := N78) (sc := defScope (topS 78)) (by decide +kernel)) (tg_ok sc78.nd rfl (.inl rfl))
    (fun l h G2 fv hl hh e s0 H0 C cl fp => (jt_cp (jd_ixT (k := 1) (jd_ix (jd_var 0 rfl (k1'.up e)) (jd_var 3 rfl (.int _)) (pr_at hl)) jd_int rfl) (jd_ixT (k := 0) (jd_ix (jd_var 0 rfl (k1'.up e)) (jd_var 4 rfl (.int _)) (pr_at hh)) jd_int rfl) od_eqI).is (by unfold arG; rw [decide_eq_decide]; omega))
    (fun l h G2 fv s0 H0 C cl fp => jd_var 3 rfl (.int _)) (fun l h G2 fv s0 H0 C cl fp => jd_var 4 rfl (.int _)) (fun G2 lv fv d kd => jd_var 2 rfl kd) fun G2 J2 lv fv r2 g2 k2 => ?_)
  exact jss_one (js_retD g2 (jd_var 2 rfl k2) fun v d G3 J3 r3 ed kd => hR v G3 J3 (((r1.trans r g).trans r2 g).trans r3 g) (ed ▸ kd))
theorem ok_byrk (F : At K mg "_law_by_ranks" (topS 81)) (B : Bl mg) : Kn P w K mg base "_law_by_ranks" 1 ["_law_ranks"] (spP S_byrk) := by
  refine kn81 F (spP_len fun ds R ⟨_, e, _⟩ => by rw [e]; rfl) fun fa cdv A outer s H vs Q E hr ⟨Fk, ds, g, kd, rk, ed, hn, hR⟩ => ?_
  subst ed
  obtain ⟨v, rfl, k1⟩ := dq1 kd
  refine jss_cons (js_setD 1 sc81.nd g ((jd_len B.len (jd_var 0 rfl k1)).is (by rw [List.length_map])) fun v1 d G1 J1 r1 g1 ed kn => ?_)
  subst ed
  cases kn
  refine jss_cons (js_setD 2 sc81.nd g1 (jd_list jds_nil fun ds e => by subst e; exact ⟨Nat.zero_le _, rfl⟩) fun v0 d G J r g' ed kd => ?_)
  subst ed
  have k1' := k1.up (r1.fg.trans r.fg)
  refine jss_cons (js_rel (rkG rk) 3 4 2 (fun lv fv => [some v, some (.int (rk.length : Int)), some fv, lv, none]) v0 rfl hn sc81.nd g' kd (fun _ _ _ => rfl) (fun _ _ _ => rfl) (fun _ _ => rfl) (fun _ _ _ => rfl) (fun _ _ _ => rfl)
    (ji_range B.range (by omega) (jd_var 1 rfl (.int _))) (pg_name (i := 3) sc81.nd rfl (.inr rfl))
    (fun G2 lv fv e => ji_range B.range (by omega) (jd_var 1 rfl (.int _)))
    (blkOk_by (N := N81) (sc := defScope (topS 81)) (by decide +kernel)) (tg_ok sc81.nd rfl (.inl rfl))
    (fun l h G2 fv hl hh e s0 H0 C cl fp => (jt_cp (jd_ix (jd_var 0 rfl (k1'.up e)) (jd_var 3 rfl (.int _)) (rk_at hl)) (jd_ix (jd_var 0 rfl (k1'.up e)) (jd_var 4 rfl (.int _)) (rk_at hh)) od_lt).is (by unfold rkG; rw [decide_eq_decide]; omega))
    (fun l h G2 fv s0 H0 C cl fp => jd_var 3 rfl (.int _)) (fun l h G2 fv s0 H0 C cl fp => jd_var 4 rfl (.int _)) (fun G2 lv fv d kd => jd_var 2 rfl kd) fun G2 J2 lv fv r2 g2 k2 => ?_)
  exact jss_one (js_retD g2 (jd_var 2 rfl k2) fun v d G3 J3 r3 ed kd => hR v G3 J3 (((r1.trans r g).trans r2 g).trans r3 g) (ed ▸ kd))
theorem ok_bypa (F : At K mg "_law_by_parents" (topS 80)) (B : Bl mg) : Kn P w K mg base "_law_by_parents" 1 ["_law_parents"] (spP S_bypa) := by
  refine kn80 F (spP_len fun ds R ⟨_, e, _⟩ => by rw [e]; rfl) fun fa cdv A outer s H vs Q E hr ⟨Fk, ds, g, kd, pa, ed, hn, hR⟩ => ?_
  subst ed
  obtain ⟨v, rfl, k1⟩ := dq1 kd
  refine jss_one (js_retD g (jd_lcIfR (n := pa.length) (i := 1) (fun k => !isNon (encO (pa.getD k none))) (fun k => .tuple [encO (pa.getD k none), .int (k : Int)]) sc80.nd (ji_range B.range (by omega) ((jd_len B.len (jd_var 0 rfl k1)).is (by rw [List.length_map])))
    (blkOk_by (N := N80) (sc := defScope (topS 80)) (by decide +kernel)) (tg_ok sc80.nd rfl (.inl rfl)) (by omega)
    (fun k G hk eG s0 H0 C cl fp => jt_cp (jd_ix (jd_var 0 rfl (k1.up eG)) (jd_var 1 rfl (.int _)) (pa_at hk)) jd_none od_notN)
    (fun k G hk _ eG s0 H0 C cl fp => jd_tup (jds_is (jd_ix (jd_var 0 rfl (k1.up eG)) (jd_var 1 rfl (.int _)) (pa_at hk)) (jds_is (jd_var 1 rfl (.int _)) jds_nil)) fun ds e => by subst e; exact ⟨by show 2 ≤ 100000; omega, rfl⟩)) fun v d G J r ed kd => ?_)
  subst ed
  rw [paP_eq] at kd
  exact hR v G J r kd
end
end Dw
/-! What bars spans; its search; the lower sets' readers. -/
namespace Dw
open PySem PySem.Spec PyProof.Rows L2 -- (Dw)
theorem str_no {s t : Str} (p : Is (decide (s = t)) true) (h : decide (s = t) = false) : False := by
  have p' : true = decide (s = t) := p
  rw [h] at p'; cases p'
theorem str_yes {s t : Str} (p : Is (decide (s = t)) false) (h : decide (s = t) = true) : False := by
  have p' : false = decide (s = t) := p
  rw [h] at p'; cases p'
section
variable {W : Wo} {X : Cx} {a b c : Expr} {rest : List Expr} {σ : St} {F G H J : Hp} {pos : Pos} {P : Bool → Prop} {m k : Bool}
theorem jw_orF (ha : JT W X a σ F (Is false)) (hb : JW W X (.BoolOp .Or (b :: rest) pos) σ F P) : JW W X (.BoolOp .Or (a :: b :: rest) pos) σ F P := jw_or ha (fun z => by cases z) fun _ => hb
theorem jw_andIs (ha : JT W X a σ F (Is m)) (hb : m = true → JW W X (.BoolOp .And (b :: rest) pos) σ F (Is k)) : JW W X (.BoolOp .And (a :: b :: rest) pos) σ F (Is (m && k)) :=
  jw_and ha (fun z => by
    have z' : false = m := z
    show false = (m && k)
    rw [← z', Bool.false_and]) fun z => by
    have z' : true = m := z
    have h := hb z'.symm
    rw [← z', Bool.true_and]; exact h
theorem jw_orIs (ha : JT W X a σ F (Is m)) (hb : m = false → JW W X (.BoolOp .Or (b :: rest) pos) σ F (Is k)) : JW W X (.BoolOp .Or (a :: b :: rest) pos) σ F (Is (m || k)) :=
  jw_or ha (fun z => by
    have z' : true = m := z
    show true = (m || k)
    rw [← z', Bool.true_or]) fun z => by
    have z' : false = m := z
    have h := hb z'.symm
    rw [← z', Bool.false_or]; exact h
/-- what was known for a while is forgotten -/
theorem Gr.drop {F' : Hp} (e : Ex F F') (r : Gr W F' H G J) : Gr W F H F J := ⟨Ex.refl F, e.trans (r.fg.trans r.gj), r.hj, r.ok, fun _ _ _ => rfl⟩
end
def S_short (ds : List PyData) (R : PyData → Prop) : Prop := ∃ es : List PyData, ds = [.tuple es] ∧ es.length ≤ 40 ∧ R (.bool true)
def S_arepr (ds : List PyData) (R : PyData → Prop) : Prop := ∃ sp : List (Nat × Nat), ds = [.tuple (sp.map prN)] ∧ sp.length ≤ 40 ∧ R (.bool true)
def nodB (ns : List Nat) : Bool := (List.range 4).all fun k => !decide (((ns.getD k 0 : Nat) : Int) ∈ (nats ns).take k)
def dTupN (ns : List Nat) : PyData := .tuple ((nats ns).map .int)
def S_memb (ds : List PyData) (R : PyData → Prop) : Prop := ∃ (ns : List Nat) (n : Nat), ds = [dTupN ns, .int (n : Int), .int 4] ∧ ns.length = 4 ∧ (∀ k ∈ ns, k < n) ∧ R (.bool (nodB ns))
def twoB (f : Nat → Nat → Bool) (a b c d : Nat) : Bool := f a b && (f c d && ([(a, c), (a, d), (b, c), (b, d)].all fun p => apB f p.1 p.2))
def S_four (ds : List PyData) (R : PyData → Prop) : Prop := ∃ (n : Nat) (f : Nat → Nat → Bool) (a b c d : Nat), ds = [dTab n f, .str "spans", dTupN [a, b, c, d]] ∧ n ≤ 40 ∧ a < n ∧ b < n ∧ c < n ∧ d < n ∧ R (.bool (twoB f a b c d))
def barB (f : Nat → Nat → Bool) (a b c d : Nat) : Bool := nodB [a, b, c, d] && twoB f a b c d
def S_bars (ds : List PyData) (R : PyData → Prop) : Prop := ∃ (n : Nat) (f : Nat → Nat → Bool) (a b c d : Nat), ds = [dTab n f, .str "spans", dTupN [a, b, c, d]] ∧ n ≤ 40 ∧ a < n ∧ b < n ∧ c < n ∧ d < n ∧ R (.bool (barB f a b c d))
def hasB (n : Nat) (f : Nat → Nat → Bool) : Prop := ∃ a b c d, a < n ∧ b < n ∧ c < n ∧ d < n ∧ barB f a b c d = true
def S_hasbar (ds : List PyData) (R : PyData → Prop) : Prop := ∃ n f, ds = [dTab n f, .str "spans"] ∧ n ≤ 40 ∧ ∀ r : Bool, (r = true ↔ hasB n f) → R (.bool r)
theorem nats_at {ns : List Nat} {k : Nat} (h : k < ns.length) : ((nats ns).map PyData.int)[k]? = some (.int ((ns.getD k 0 : Nat) : Int)) := by
  unfold nats
  rw [List.getElem?_map, List.getElem?_map, List.getD_eq_getElem?_getD, List.getElem?_eq_getElem h]; rfl
section
variable {P : Program} {w : World} {K : PySem.W.Frag} {mg : Str → Option Value} {base : Heap} -- (Dw)
theorem ok_short (F : At K mg "_law_is_short" (topS 86)) (B : Bl mg) : Kn P w K mg base "_law_is_short" 1 ["_law_actual"] (spP S_short) := by
  refine kn86 F (spP_len fun ds R ⟨_, e, _⟩ => by rw [e]; rfl) fun fa cdv A outer s H vs Q E hr ⟨Fk, ds, g, kd, es, ed, hl, hR⟩ => ?_
  subst ed
  obtain ⟨v, rfl, k1⟩ := dq1 kd
  refine jss_one (js_retD g (jd_and (op := false) (jd_isi (T := "tuple") B.isinstance B.tuple PyProof.Rows.boot_tuple (jd_var 0 rfl k1) (r := true) (show kitB "tuple" "tuple" = some true by decide +kernel)) (fun _ => jd_one (jd_cp (jd_lenT B.len (jd_var 0 rfl k1)) jd_int od_le)))
    fun v d G J r ed kd => hR v G J r ?_)
  subst ed
  rw [Bool.true_and, decide_eq_true (show (es.length : Int) ≤ 40 by omega)] at kd
  exact kd
theorem ok_arepr (F : At K mg "_law_are_pairs" (topS 87)) (B : Bl mg) (k86 : Kn P w K mg base "_law_is_short" 1 ["_law_actual"] (spP S_short)) (k69 : Kn P w K mg base "_law_are_integers" 2 ["_law_actual"] (spP S_areint)) :
    Kn P w K mg base "_law_are_pairs" 3 ["_law_actual"] (spP S_arepr) := by
  refine kn87 F (spP_len fun ds R ⟨_, e, _⟩ => by rw [e]; rfl) fun fa cdv A outer s H vs Q E hr ⟨Fk, ds, g, kd, sp, ed, hl, hR⟩ => ?_
  subst ed
  obtain ⟨v, rfl, k1⟩ := dq1 kd
  refine jss_cons (js_ifT g (jt_notIs (jt_of (jd_fn (P := Is (.bool true)) k86 hr (jds_is (jd_var 0 rfl k1) jds_nil) fun ds R e q => ⟨_, e, by rw [List.length_map]; exact hl, q _ rfl⟩))) (fun G J r g' p => ?_) (fun G1 J1 r1 g1 p => jss_nil ?_))
  · cases p
  have k1' := k1.up r1.fg
  refine jss_cons (js_for (ji_tup (jd_var 0 rfl k1')) (pg_name (i := 1) sc87.nd rfl (.inl rfl)) g1 (fun G0 i σ' H' => ∃ lv G', σ' = [some v, lv] ∧ Ex G0 G' ∧ Gr W0 G1 J1 G' H' ∧ Good W0 G' H') (fun G0 i σ' H' ⟨_, G', _, e, _, g'⟩ => e.trans g'.fh)
    (fun G J r g' => ⟨none, G, rfl, Ex.refl G, r, g'⟩) ?_ ?_)
  · rintro G0 i x d σ' H' eF hd kx ⟨lv, G', rfl, eG, r, g'⟩
    rw [List.getElem?_map] at hd
    obtain ⟨p, hp, rfl⟩ := Option.map_eq_some_iff.mp hd
    have kx' := kx.up eG
    refine jss_one (js_ifT g' (JW.t (jw_orF (jt_notIs (jt_of (jd_isi (T := "tuple") B.isinstance B.tuple PyProof.Rows.boot_tuple (jd_var 1 rfl kx') (r := true) (show kitB "tuple" "tuple" = some true by decide +kernel))))
      (jw_orF ((jt_cp (jd_lenT B.len (jd_var 1 rfl kx')) jd_int od_neI).is (show (!decide (((2 : Nat) : Int) = 2)) = false by decide)) (jw_or1 (jt_notIs (jt_of (jd_fn (P := Is (.bool true)) k69 hr (jds_is (jd_var 1 rfl kx') jds_nil) fun ds R e q => ⟨[(p.1 : Int), (p.2 : Int)], e, by show 2 ≤ 100; omega, q _ rfl⟩))))))) (fun G J r3 g3 p => ?_) (fun G J r3 g3 p => jss_nil ?_))
    · cases p
    · exact ⟨some x, G, rfl, eG.trans r3.fg, r.trans r3 g1, g3⟩
  · rintro G0 σ' H' eF ⟨lv, G', rfl, eG, r, g'⟩
    exact jss_one (js_retD g' jd_bool fun v d G J r3 ed kd => hR v G J ((r1.trans r g).trans r3 g) (ed ▸ kd))
theorem ok_memb (F : At K mg "_law_members" (topS 95)) (B : Bl mg) (k69 : Kn P w K mg base "_law_are_integers" 2 ["_law_actual"] (spP S_areint)) :
    Kn P w K mg base "_law_members" 3 ["_law_actual", "_law_size", "_law_count"] (spP S_memb) := by
  refine kn95 F (spP_len fun ds R ⟨_, _, e, _⟩ => by rw [e]; rfl) fun fa cdv A outer s H vs Q E hr ⟨Fk, ds, g, kd, ns, n, ed, hl, hm, hR⟩ => ?_
  subst ed
  obtain ⟨v, u, z, rfl, k1, k2, k3⟩ := dq3 kd
  cases k2
  cases k3
  have hl2 : ((nats ns).map PyData.int).length = 4 := by unfold nats; rw [List.length_map, List.length_map, hl]
  refine jss_cons (js_ifT g (JW.t (jw_orF (jt_notIs (jt_of (jd_isi (T := "tuple") B.isinstance B.tuple PyProof.Rows.boot_tuple (jd_var 0 rfl k1) (r := true) (show kitB "tuple" "tuple" = some true by decide +kernel))))
    (jw_orF ((jt_cp (jd_lenT B.len (jd_var 0 rfl k1)) (jd_var 2 rfl (.int _)) od_neI).is (by rw [hl2]; decide)) (jw_or1 (jt_notIs (jt_of (jd_fn (P := Is (.bool true)) k69 hr (jds_is (jd_var 0 rfl k1) jds_nil) fun ds R e q => ⟨nats ns, e, by unfold nats; rw [List.length_map, hl]; omega, q _ rfl⟩))))))) (fun G J r3 g3 p => ?_) (fun G1 J1 r1 g1 p => jss_nil ?_))
  · cases p
  have k1' := k1.up r1.fg
  have eN : dTupN ns = .tuple (ns.map fun (k : Nat) => .int (k : Int)) := by unfold dTupN nats; rw [List.map_map]; rfl
  refine jss_cons (js_ifT g1 (jt_notIs (jt_of ((jd_all (bs := ns.map fun _ => true) rfl B.all ((jd_lcM (xs := ns) (enc := fun (k : Nat) => .int (k : Int)) (i := 3) (fun _ => .bool true) sc95.nd (ji_tup ((jd_var 0 rfl k1').is eN))
    (blkOk_by (N := N95) (sc := defScope (topS 95)) (by decide +kernel)) (tg_ok sc95.nd rfl (.inl rfl)) (by omega) (fun m k G u hk eG ku s0 H0 C cl fp => ?_)).is (by rw [List.map_map]; rfl))).is (d' := .bool true) (by simp)))) (fun G J r3 g3 p => ?_) (fun G2 J2 r2 g2 p => jss_nil ?_))
  · cases ku
    have hkn := hm k (List.mem_of_getElem? hk)
    exact (jd_and (op := false) (jd_cp jd_int (jd_var 3 rfl (.int _)) od_le) fun _ => jd_one (jd_cp (jd_var 3 rfl (.int _)) (jd_var 1 rfl (.int _)) od_lt)).is (by
      rw [decide_eq_true (show (0 : Int) ≤ (k : Int) by omega), decide_eq_true (show (k : Int) < (n : Int) by omega)]; rfl)
  · cases p
  have k1'' := k1'.up r2.fg
  refine jss_one (js_retD g2 (jd_all (bs := (List.range 4).map fun k => !decide (((ns.getD k 0 : Nat) : Int) ∈ (nats ns).take k)) rfl B.all ((jd_lcR (n := 4) (i := 4) (fun k => .bool (!decide (((ns.getD k 0 : Nat) : Int) ∈ (nats ns).take k))) sc95.nd (ji_range B.range (by omega) (jd_var 2 rfl (.int 4)))
    (blkOk_by (N := N95) (sc := defScope (topS 95)) (by decide +kernel)) (tg_ok sc95.nd rfl (.inl rfl)) (by omega) (fun k G hk eG s0 H0 C cl fp => ?_)).is (by rw [List.map_map]; rfl))) fun v d G J r3 ed kd => hR v G J ((r1.trans r2 g).trans r3 g) ?_)
  · exact jd_cp (jd_ixT (jd_var 0 rfl (k1''.up eG)) (jd_var 4 rfl (.int _)) (nats_at (by omega))) ((jd_cutToT (jd_var 0 rfl (k1''.up eG)) (jd_var 4 rfl (.int _)) (by omega)).is (by rw [← List.map_take])) od_notInT
  · subst ed
    unfold nodB
    rw [List.all_map] at kd
    exact kd
theorem ok_four (F : At K mg "_law_bars_four" (topS 97)) (B : Bl mg) (k65 : Kn P w K mg base "_law_all_apart" 2 ["_law_table", "_law_pairs_here"] (spP S_allap)) :
    Kn P w K mg base "_law_bars_four" 3 ["_law_table", "_law_kind", "_law_actual"] (spP S_four) := by
  refine kn97 F (spP_len fun ds R ⟨_, _, _, _, _, _, e, _⟩ => by rw [e]; rfl) fun fa cdv A outer s H vs Q E hr ⟨Fk, ds, g, kd, n, f, a, b, c, d, ed, hn, ha, hb, hc, hd, hR⟩ => ?_
  subst ed
  obtain ⟨v, u, z, rfl, k1, k2, k3⟩ := dq3 kd
  cases k2
  refine jss_cons (js_asg (g := gTup K 4 (gCons (gName 3) (gCons (gName 4) (gCons (gName 5) (gCons (gName 6) gNil))))) ((jd_var (W := W0) 2 rfl k3).dq g fun z' d' G J r g1 ed kz => ?_) (pg_tup rfl (pgs_cons (pg_name (i := 3) sc97.nd rfl (.inl rfl)) (pgs_cons (pg_name (i := 4) sc97.nd rfl (.inl rfl)) (pgs_cons (pg_name (i := 5) sc97.nd rfl (.inl rfl)) (pgs_cons (pg_name (i := 6) sc97.nd rfl (.inl rfl)) pgs_nil))))))
  subst ed
  cases kz with
  | tup hA hk =>
    obtain ⟨x1, x2, x3, x4, rfl, q1, q2, q3, q4⟩ := dq4 hk
    cases q1
    cases q2
    cases q3
    cases q4
    refine ⟨_, _, rfl, SqT.of (g1.fh _ _ hA), rfl, _, _, rfl, _, _, rfl, _, _, rfl, _, _, rfl, rfl, ?_⟩
    have k1' := k1.up r.fg
    refine jss_cons (js_ifT g1 (jt_cp (jd_var 1 rfl (.str _)) jd_str od_eqS) (fun G J r g' p => (str_no p (by decide +kernel)).elim) (fun G2 J2 r2 g2 _ => jss_nil ?_))
    refine jss_cons (js_ifT g2 (jt_cp (jd_var 1 rfl (.str _)) jd_str od_eqS) (fun G J r g' p => (str_no p (by decide +kernel)).elim) (fun G3 J3 r3 g3 _ => jss_nil ?_))
    have k1'' := (k1'.up r2.fg).up r3.fg
    refine jss_cons (js_setD 7 sc97.nd g3 (jd_and (op := false) (jd_tab (jd_var 0 rfl k1'') (jd_var 3 rfl (.int _)) (jd_var 4 rfl (.int _)) ha hb) fun _ => jd_and (op := false) (jd_tab (jd_var 0 rfl k1'') (jd_var 5 rfl (.int _)) (jd_var 6 rfl (.int _)) hc hd) fun _ =>
      jd_one (jd_fn (P := Is (.bool ([(a, c), (a, d), (b, c), (b, d)].all fun p => apB f p.1 p.2))) k65 hr (jds_is (jd_var 0 rfl k1'') (jds_is (d := dPN [(a, c), (a, d), (b, c), (b, d)]) (jd_list (jds_is (pr2 a c (jd_var 3 rfl (.int _)) (jd_var 5 rfl (.int _))) (jds_is (pr2 a d (jd_var 3 rfl (.int _)) (jd_var 6 rfl (.int _))) (jds_is (pr2 b c (jd_var 4 rfl (.int _)) (jd_var 5 rfl (.int _))) (jds_is (pr2 b d (jd_var 4 rfl (.int _)) (jd_var 6 rfl (.int _))) jds_nil))))
        (fun ds e => by subst e; exact ⟨by show 4 ≤ 100000; omega, rfl⟩)) jds_nil)) fun ds R e q => ⟨n, f, _, e, hn, by show 4 ≤ 1000; omega, fun p hp => ?_, q _ rfl⟩)) fun v' d' G4 J4 r4 g4 ed kd => ?_)
    · simp only [List.mem_cons, List.not_mem_nil, or_false] at hp
      rcases hp with rfl | rfl | rfl | rfl <;> exact ⟨by assumption, by assumption⟩
    subst ed
    cases kd
    refine jss_cons (js_ifT g4 (jt_cp (jd_var 1 rfl (.str _)) jd_str od_eqS) (fun G5 J5 r5 g5 p => ?_) (fun G J r g' p => (str_yes p (by decide +kernel)).elim))
    exact jss_one (js_retD g5 (jd_var 7 rfl (.bl _)) fun v'' d'' G6 J6 r6 ed kd => hR v'' G6 J6 (((((r.trans r2 g).trans r3 g).trans r4 g).trans r5 g).trans r6 g) (ed ▸ kd))
where pr2 {W : Wo} {X : Cx} {e1 e2 : Expr} {σ : St} {F : Hp} {pos : Pos} {kt : Nat} (a b : Nat) (h1 : JD W X e1 σ F (Is (.int (a : Int)))) (h2 : JD W X e2 σ F (Is (.int (b : Int)))) (hs2 : starEach [e2] X.env = (false, eval e2 X.env) :: starEach [] X.env := by rfl) (hs : starEach [e1, e2] X.env = (false, eval e1 X.env) :: starEach [e2] X.env := by rfl) :
    JD W X (.Tuple [e1, e2] kt pos) σ F (Is (prN (a, b))) := jd_tup (jds_is h1 (jds_is h2 jds_nil hs2) hs) fun ds e => by subst e; exact ⟨by show 2 ≤ 100000; omega, rfl⟩
theorem ok_bars (F : At K mg "_law_bars" (topS 98)) (B : Bl mg) (k95 : Kn P w K mg base "_law_members" 3 ["_law_actual", "_law_size", "_law_count"] (spP S_memb)) (k97 : Kn P w K mg base "_law_bars_four" 3 ["_law_table", "_law_kind", "_law_actual"] (spP S_four)) :
    Kn P w K mg base "_law_bars" 4 ["_law_table", "_law_kind", "_law_actual"] (spP S_bars) := by
  refine kn98 F (spP_len fun ds R ⟨_, _, _, _, _, _, e, _⟩ => by rw [e]; rfl) fun fa cdv A outer s H vs Q E hr ⟨Fk, ds, g, kd, n, f, a, b, c, d, ed, hn, ha, hb, hc, hd, hR⟩ => ?_
  subst ed
  obtain ⟨v, u, z, rfl, k1, k2, k3⟩ := dq3 kd
  cases k2
  refine jss_cons (js_ifT g (jt_cp (jd_var 1 rfl (.str _)) jd_str od_eqS) (fun G J r g' p => (str_no p (by decide +kernel)).elim) (fun G2 J2 r2 g2 _ => jss_nil ?_))
  refine jss_cons (js_ifT g2 (JW.t (jw_orF ((jt_cp (jd_var 1 rfl (.str _)) jd_str od_eqS).is (by decide +kernel)) (jw_or1 ((jt_cp (jd_var 1 rfl (.str _)) jd_str od_eqS).is (d' := false) (by decide +kernel))))) (fun G J r g' p => by cases p) (fun G3 J3 r3 g3 _ => jss_nil ?_))
  have k1' := (k1.up r2.fg).up r3.fg
  have k3' := (k3.up r2.fg).up r3.fg
  refine jss_one (js_retD g3 (jd_and (op := false) (jd_fn (P := Is (.bool (nodB [a, b, c, d]))) k95 hr (jds_is (jd_var 2 rfl k3') (jds_is ((jd_len B.len (jd_var 0 rfl k1')).is (d' := .int (n : Int)) (by rw [dTab_len])) (jds_is jd_int jds_nil))) fun ds R e q => ⟨_, n, e, rfl, fun k hk => ?_, q _ rfl⟩)
    fun _ => jd_one (jd_fn (P := Is (.bool (twoB f a b c d))) k97 hr (jds_is (jd_var 0 rfl k1') (jds_is (jd_var 1 rfl (.str _)) (jds_is (jd_var 2 rfl k3') jds_nil))) fun ds R e q => ⟨n, f, a, b, c, d, e, hn, ha, hb, hc, hd, q _ rfl⟩))
    fun v' d' G4 J4 r4 ed kd => hR v' G4 J4 ((r2.trans r3 g).trans r4 g) (ed ▸ kd))
  simp only [List.mem_cons, List.not_mem_nil, or_false] at hk
  rcases hk with rfl | rfl | rfl | rfl <;> assumption
end
end Dw
/-! The search for a bar; lower sets; the spans that the law reckons. -/
namespace Dw
open PySem PySem.Spec PyProof.Rows L2 -- (Dw)
theorem nod_ne {a b c d : Nat} (h : nodB [a, b, c, d] = true) : b ≠ a ∧ c ≠ a ∧ c ≠ b := by
  unfold nodB at h
  rw [List.all_eq_true] at h
  have h1 := h 1 (by decide)
  have h2 := h 2 (by decide)
  simp [nats] at h1 h2
  omega
theorem bar_ne {f : Nat → Nat → Bool} {a b c d : Nat} (h : barB f a b c d = true) : b ≠ a ∧ c ≠ a ∧ c ≠ b := by
  unfold barB at h
  rw [Bool.and_eq_true] at h
  exact nod_ne h.1
section
variable {P : Program} {w : World} {K : PySem.W.Frag} {mg : Str → Option Value} {base : Heap} -- (Dw)
theorem ok_hasbar (F : At K mg "_law_has_bar" (topS 99)) (B : Bl mg) (k98 : Kn P w K mg base "_law_bars" 4 ["_law_table", "_law_kind", "_law_actual"] (spP S_bars)) :
    Kn P w K mg base "_law_has_bar" 5 ["_law_table", "_law_kind"] (spP S_hasbar) := by
  refine kn99 F (spP_len fun ds R ⟨_, _, e, _⟩ => by rw [e]; rfl) fun fa cdv A outer s H vs Q E hr ⟨Fk, ds, g, kd, n, f, ed, hn, hR⟩ => ?_
  subst ed
  obtain ⟨v, u, rfl, k1, k2⟩ := dq2 kd
  cases k2
  refine jss_cons (js_setD 2 sc99.nd g ((jd_len B.len (jd_var 0 rfl k1)).is (d' := .int (n : Int)) (by rw [dTab_len])) fun v1 d1 G1 J1 r1 g1 ed kn => ?_)
  subst ed
  cases kn
  refine jss_cons (js_ifT g1 (JW.t (jw_orF ((jt_cp (jd_var 1 rfl (.str _)) jd_str od_eqS).is (by decide +kernel)) (jw_or1 ((jt_cp (jd_var 1 rfl (.str _)) jd_str od_eqS).is (d' := false) (by decide +kernel))))) (fun G J r g' p => by cases p) (fun G2 J2 r2 g2 _ => jss_nil ?_))
  have k1' := (k1.up r1.fg).up r2.fg
  have hRt : hasB n f → ∀ v d G J, Gr W0 Fk H G J → d = PyData.bool true → Dq G v d → Q v J := fun hb v d G J r ed kd => by
    subst ed
    exact hR true (by simp [hb]) v G J r kd
  -- for a
  refine jss_cons (js_for (ji_range B.range (by omega) (jd_var 2 rfl (.int _))) (pg_name (i := 3) sc99.nd rfl (.inr rfl)) g2
    (fun G0 i σ' H' => ∃ o3 o4 o5 o6 o7 G', σ' = [some v, some (.str "spans"), some (.int (n : Int)), o3, o4, o5, o6, o7] ∧ Ex G2 G' ∧ Ex G0 G' ∧ Gr W0 Fk H G' H' ∧ Good W0 G' H' ∧ ∀ a b c d, a < i → b < n → c < n → d < n → barB f a b c d = false) (fun G0 i σ' H' ⟨_, _, _, _, _, G', _, _, e, _, g', _⟩ => e.trans g'.fh)
    (fun G J r g' => ⟨none, none, none, none, none, G, rfl, r.fg, Ex.refl G, (r1.trans r2 g).trans r g, g', fun a b c d ha => absurd ha (Nat.not_lt_zero a)⟩) ?_ ?_)
  · rintro G0 a x d σ' H' eF hd kx ⟨o3, o4, o5, o6, o7, Ga, rfl, eGa, eG0, ra, ga, no⟩
    obtain ⟨ha, rfl⟩ := rngN_of hd
    cases kx
    have kt := k1'.up eGa
    -- for b
    refine jss_one (js_for (ds := ((List.range n).filter fun (b : Nat) => !decide ((b : Int) = (a : Int))).map fun (b : Nat) => PyData.int (b : Int)) (ji_list (jd_lcIfR (n := n) (i := 6) (fun (b : Nat) => !decide ((b : Int) = (a : Int))) (fun b => .int ((b : Nat) : Int)) sc99.nd (ji_range B.range (by omega) (jd_var 2 rfl (.int _)))
      (blkOk_by (N := N99) (sc := defScope (topS 99)) (by decide +kernel)) (tg_ok sc99.nd rfl (.inl rfl)) (by omega) (fun b G hb e s0 H0 C cl fp => jt_cp (jd_var 6 rfl (.int _)) (jd_var 3 rfl (.int _)) od_neI) (fun b G hb _ e s0 H0 C cl fp => jd_var 6 rfl (.int _))))
      (pg_name (i := 4) sc99.nd rfl (.inr rfl)) ga
      (fun G0' i σ' H' => ∃ o4 o5 o6 o7 G', σ' = [some v, some (.str "spans"), some (.int (n : Int)), some (.int (a : Int)), o4, o5, o6, o7] ∧ Ex Ga G' ∧ Ex G0' G' ∧ Gr W0 Fk H G' H' ∧ Good W0 G' H' ∧
        ∀ b c d, b ∈ ((List.range n).filter fun (b : Nat) => !decide ((b : Int) = (a : Int))).take i → c < n → d < n → barB f a b c d = false) (fun G0' i σ' H' ⟨_, _, _, _, G', _, _, e, _, g', _⟩ => e.trans g'.fh)
      (fun G J r g' => ⟨o4, o5, o6, o7, G, rfl, r.fg, Ex.refl G, ra.trans r g, g', fun b c d hb => by simp at hb⟩) ?_ ?_)
    · rintro G0' i x d σ' H' eF' hd kx ⟨o4, o5, o6, o7, Gb, rfl, eGb, eG0', rb, gb, no2⟩
      rw [List.getElem?_map] at hd
      obtain ⟨b, hb, rfl⟩ := Option.map_eq_some_iff.mp hd
      cases kx
      have hbm := List.mem_of_getElem? hb
      rw [List.mem_filter, List.mem_range] at hbm
      have hbn := hbm.1
      have kt' := kt.up eGb
      -- for c
      refine jss_one (js_for (ds := ((List.range n).filter fun (c : Nat) => !decide ((c : Int) = (a : Int)) && !decide ((c : Int) = (b : Int))).map fun (c : Nat) => PyData.int (c : Int)) (ji_list (jd_lcIfR (n := n) (i := 6) (fun (c : Nat) => !decide ((c : Int) = (a : Int)) && !decide ((c : Int) = (b : Int))) (fun c => .int ((c : Nat) : Int)) sc99.nd (ji_range B.range (by omega) (jd_var 2 rfl (.int _)))
        (blkOk_by (N := N99) (sc := defScope (topS 99)) (by decide +kernel)) (tg_ok sc99.nd rfl (.inl rfl)) (by omega)
        (fun c G hc e s0 H0 C cl fp => JW.t (jw_andIs (jt_cp (jd_var 6 rfl (.int _)) (jd_var 3 rfl (.int _)) od_neI) fun _ => jw_and1 (jt_cp (jd_var 6 rfl (.int _)) (jd_var 4 rfl (.int _)) od_neI))) (fun c G hc _ e s0 H0 C cl fp => jd_var 6 rfl (.int _))))
        (pg_name (i := 5) sc99.nd rfl (.inr rfl)) gb
        (fun G0'' i σ' H' => ∃ o5 o6 o7 G', σ' = [some v, some (.str "spans"), some (.int (n : Int)), some (.int (a : Int)), some (.int (b : Int)), o5, o6, o7] ∧ Ex Gb G' ∧ Ex G0'' G' ∧ Gr W0 Fk H G' H' ∧ Good W0 G' H' ∧
          ∀ c d, c ∈ ((List.range n).filter fun (c : Nat) => !decide ((c : Int) = (a : Int)) && !decide ((c : Int) = (b : Int))).take i → d < n → barB f a b c d = false) (fun G0'' i σ' H' ⟨_, _, _, G', _, _, e, _, g', _⟩ => e.trans g'.fh)
        (fun G J r g' => ⟨o5, o6, o7, G, rfl, r.fg, Ex.refl G, rb.trans r g, g', fun c d hc => by simp at hc⟩) ?_ ?_)
      · rintro G0'' j x d σ' H' eF'' hd kx ⟨o5, o6, o7, Gc, rfl, eGc, eG0'', rc, gc, no3⟩
        rw [List.getElem?_map] at hd
        obtain ⟨c, hc, rfl⟩ := Option.map_eq_some_iff.mp hd
        cases kx
        have hcm := List.mem_of_getElem? hc
        rw [List.mem_filter, List.mem_range] at hcm
        have hcn := hcm.1
        have kt'' := kt'.up eGc
        refine jss_one (js_ifT gc (jt_of (jd_any (bs := (List.range n).map fun d => barB f a b c d) rfl B.any ((jd_lcR (n := n) (i := 7) (fun d => .bool (barB f a b c d)) sc99.nd (ji_range B.range (by omega) (jd_var 2 rfl (.int _)))
          (blkOk_by (N := N99) (sc := defScope (topS 99)) (by decide +kernel)) (tg_ok sc99.nd rfl (.inl rfl)) (by omega) (fun d G hd e s0 H0 C cl fp => ?_)).is (by rw [List.map_map]; rfl)))) (fun G J r g' p => ?_) (fun G J r g' p => jss_nil ?_))
        · exact jd_fn (P := Is (.bool (barB f a b c d))) k98 hr (jds_is (jd_var 0 rfl (kt''.up e)) (jds_is (jd_var 1 rfl (.str _)) (jds_is (d := dTupN [a, b, c, d]) (jd_tup (jds_is (jd_var 3 rfl (.int _)) (jds_is (jd_var 4 rfl (.int _)) (jds_is (jd_var 5 rfl (.int _)) (jds_is (jd_var 7 rfl (.int _)) jds_nil))))
            (fun ds e => by subst e; exact ⟨by show 4 ≤ 100000; omega, rfl⟩)) jds_nil))) fun ds R e q => ⟨n, f, a, b, c, d, e, hn, ha, hbn, hcn, hd, q _ rfl⟩
        · have p' : ((List.range n).map fun d => barB f a b c d).any id = true := (show true = _ from p).symm
          rw [List.any_map, List.any_eq_true] at p'
          obtain ⟨d, hd, hbar⟩ := p'
          exact jss_one (js_retD g' jd_bool fun v d' G J r' ed kd => hRt ⟨a, b, c, d, ha, hbn, hcn, List.mem_range.mp hd, hbar⟩ v d' G J ((rc.trans r g).trans r' g) ed kd)
        · have p' : ((List.range n).map fun d => barB f a b c d).any id = false := (show false = _ from p).symm
          rw [List.any_map, List.any_eq_false] at p'
          refine ⟨some (.int (c : Int)), o6, o7, G, rfl, eGc.trans r.fg, eG0''.trans r.fg, rc.trans r g, g', fun c' d' hc' hd' => ?_⟩
          rw [List.take_add_one, hc, List.mem_append] at hc'
          rcases hc' with h | h
          · exact no3 c' d' h hd'
          · obtain rfl : c' = c := by simpa using h
            have z := p' d' (List.mem_range.mpr hd')
            simpa using z
      · rintro G0'' σ' H' eF'' ⟨o5, o6, o7, Gc, rfl, eGc, eG0'', rc, gc, no3⟩
        rw [List.length_map, List.take_length] at no3
        refine ⟨some (.int (b : Int)), o5, o6, o7, Gc, rfl, eGb.trans eGc, eG0'.trans eGc, rc, gc, fun b' c' d' hb' hc' hd' => ?_⟩
        rw [List.take_add_one, hb, List.mem_append] at hb'
        rcases hb' with h | h
        · exact no2 b' c' d' h hc' hd'
        · obtain rfl : b' = b := by simpa using h
          cases hbb : barB f a b' c' d' with
          | false => rfl
          | true =>
            have hne := bar_ne hbb
            rw [← hbb]
            refine no3 c' d' (List.mem_filter.mpr ⟨List.mem_range.mpr hc', ?_⟩) hd'
            rw [Bool.and_eq_true, Bool.not_eq_true', Bool.not_eq_true', decide_eq_false_iff_not, decide_eq_false_iff_not]
            omega
    · rintro G0' σ' H' eF' ⟨o4, o5, o6, o7, Gb, rfl, eGb, eG0', rb, gb, no2⟩
      rw [List.length_map, List.take_length] at no2
      refine ⟨some (.int (a : Int)), o4, o5, o6, o7, Gb, rfl, eGa.trans eGb, eG0.trans eGb, rb, gb, fun a' b' c' d' ha' hb' hc' hd' => ?_⟩
      by_cases hlt : a' < a
      · exact no a' b' c' d' hlt hb' hc' hd'
      · obtain rfl : a' = a := by omega
        cases hbb : barB f a' b' c' d' with
        | false => rfl
        | true =>
          have hne := bar_ne hbb
          rw [← hbb]
          refine no2 b' c' d' (List.mem_filter.mpr ⟨List.mem_range.mpr hb', ?_⟩) hc' hd'
          rw [Bool.not_eq_true', decide_eq_false_iff_not]
          omega
  · rintro G0 σ' H' eF ⟨o3, o4, o5, o6, o7, Ga, rfl, eGa, eG0, ra, ga, no⟩
    rw [rngN_len] at no
    refine jss_one (js_retD ga jd_bool fun v d G J r ed kd => hR false ?_ v G J (ra.trans r g) (ed ▸ kd))
    refine ⟨fun h => (by cases h), fun ⟨a, b, c, d, ha, hb, hc, hd, h⟩ => ?_⟩
    rw [no a b c d ha hb hc hd] at h
    exact h
end
end Dw
/-! One's own list of known data; shaped data. -/
namespace Dw
open PySem PySem.Spec PyProof.Rows L2 -- (Dw)
theorem Gr.fresh {W : Wo} {F H G J : Hp} {p : Addr} (r : Gr W F H G J) (h : J p = none) : H p = none := by
  cases q : H p with
  | none => rfl
  | some o =>
    by_cases hm : W.m p
    · obtain ⟨o', e'⟩ := W.there r.ok hm
      rw [h] at e'; cases e'
    · rw [r.hj p o hm q] at h; cases h
/-- at p stands a list of one's own, of the data ds; G is known besides; from F, H on -/
structure Own (W : Wo) (F H : Hp) (p : Addr) (G J : Hp) (ds : List PyData) : Prop where
  gr : Gr W F H G J
  gd : Good W G J
  h0 : H p = none
  nm : ¬ W.m p
  ex : ∃ vs, J p = some (.lst vs) ∧ G p = none ∧ DqAll G vs ds
section
variable {W : Wo} {F H G J G2 J2 : Hp} {p : Addr} {ds : List PyData}
theorem Own.new (g : Good W F H) (r : Gr W F H G J) (h : J p = none) : Own W F H p G (upd J p (.lst [])) [] := by
  have h0 := r.fresh h
  have hG := (r.good g).fh.no h
  exact ⟨r.trans (Gr.own (r.good g) h) g, (r.good g).own h, h0, g.nom h0, [], upd_same, hG, .nil⟩
theorem Own.step (o : Own W F H p G J ds) (g : Good W F H) (r : Gr W G J G2 J2) : Own W F H p G2 J2 ds := by
  obtain ⟨vs, h1, h2, h3⟩ := o.ex
  exact ⟨o.gr.trans r g, r.good o.gd, o.h0, o.nm, vs, r.hj _ _ o.nm h1, by rw [r.new _ _ h1]; exact h2, h3.up r.fg⟩
theorem Own.put {vs ys : List V} {es : List PyData} (o : Own W F H p G J ds) (h1 : J p = some (.lst vs)) (k : DqAll G ys es) : Own W F H p G (upd J p (.lst ys)) es := by
  obtain ⟨ws, h2, h3, h4⟩ := o.ex
  exact ⟨o.gr.put h1 o.h0 h3 o.nm, o.gd.put h1 h3 o.nm, o.h0, o.nm, ys, upd_same, h3, k⟩
/-- it becomes known for a while -/
theorem Own.known (o : Own W F H p G J ds) : ∃ G', Ex G G' ∧ Good W G' J ∧ Gr W F H G' J ∧ Dq G' (.ref p) (.list ds) := by
  obtain ⟨vs, h1, h2, h3⟩ := o.ex
  exact ⟨upd G p (.lst vs), Ex.new h2, o.gd.keep h1 h2 o.nm, o.gr.keep h1 o.h0 h2, .lst upd_same (h3.up (Ex.new h2))⟩
theorem Own.back {G' : Hp} (o : Own W F H p G J ds) (g : Good W F H) (e : Ex G G') (r : Gr W G' J G2 J2) : Own W F H p G J2 ds := o.step g (r.drop e)
theorem Own.len (o : Own W F H p G J ds) {vs : List V} (h : J p = some (.lst vs)) : vs.length = ds.length := by
  obtain ⟨ws, h1, _, h3⟩ := o.ex
  rw [h1] at h
  cases h
  exact h3.len
/-- another of one's own is written -/
theorem Own.other {q : Addr} {es : List PyData} (o : Own W F H p G J ds) (hq : p ≠ q) {xs : List V} (o2 : Own W F H q G (upd J q (.lst xs)) es) : Own W F H p G (upd J q (.lst xs)) ds := by
  obtain ⟨vs, h1, h2, h3⟩ := o.ex
  exact ⟨o2.gr, o2.gd, o.h0, o.nm, vs, by rw [upd_ne hq]; exact h1, h2, h3⟩
end
section
variable {W : Wo} {X : Cx} {o e : Expr} {σ : St} {F H G J : Hp} {p : Addr} {ds : List PyData} {pos apos cpos : Pos} {P : PyData → Prop} {D : Ends}
theorem js_newO (i : Nat) {x : Str} {px p0 : Pos} (hN : X.N.Nodup) (g : Good W F H) (r : Gr W F H G J) (h : ∀ l, Own W F H l G (upd J l (.lst [])) [] → J l = none → D.nx (σ.set i (some (.ref l))) (upd J l (.lst []))) (hi : X.N[i]? = some x := by rfl) (hx : Loc X.env.scope x := by first | exact .inl rfl | exact .inr rfl)
    (hs : swapsWith (.List [] p0) (some (.Name x px)) pos.line X.env = pure false := by rfl) (hf : X.fn x = true ∨ X.env.scope.names.lookup x = some .local := by first | exact .inl rfl | exact .inr rfl) : JS X (.Assign [.Name x px] (.List [] p0) pos) σ J D :=
  js_new i hN (fun l hl => h l (.new g r hl) hl) hi hx hs hf
theorem js_appO (ow : Own W F H p G J ds) (g : Good W F H) (ho : RV X o σ J (.ref p)) (hz : ds.length < 100000) (he : JD W X e σ G P) (h : ∀ d G2 J2, P d → Ex G G2 → Own W F H p G2 J2 (ds ++ [d]) → D.nx σ J2)
    (hsw : swapsWith (.Call (.Attribute o "append" apos) [e] [] cpos) none pos.line X.env = pure false := by rfl) (hbase : attributeBase o "append" X.env (eval o X.env) = eval o X.env := by rfl)
    (hfew : ((backTo cpos (starEach [e] X.env)).all (fun x => !x.1) && (backToKw cpos (keywordEach [] X.env)).all (fun x => x.1.isSome) -- (Dw)
      && decide (([e] : List Expr).length + ([] : List Keyword).length + (if ([] : List Keyword).isEmpty then 0 else 1) < 30)) = true := by rfl) -- (Dw)
    (hline : (apos.endLine == cpos.line) = true := by rfl) (hs : starEach [e] X.env = (false, eval e X.env) :: starEach [] X.env := by rfl) (hplain : (backTo cpos (starEach [] X.env)).any (·.1) = false := by rfl) : -- (Dw)
    JS X (.Expr (.Call (.Attribute o "append" apos) [e] [] cpos) pos) σ J D := by
  obtain ⟨vs, h1, h2, h3⟩ := ow.ex
  refine js_app ow.gd ho h1 ow.nm (by rw [h3.len]; exact hz) he (fun v d G2 J2 r g2 pd kd hl => ?_) hsw hbase hfew hline hs hplain
  exact h d G2 _ pd r.fg ((ow.step g r).put hl ((h3.up r.fg).app (.one kd)))
/-- a test that may look at it -/
theorem js_ifO {c : Expr} {as bs : List Stmt} {P : Bool → Prop} (ow : Own W F H p G J ds) (g : Good W F H) (hc : ∀ G', Ex G G' → Dq G' (.ref p) (.list ds) → JT W X c σ G' P) (h1 : ∀ J', P true → Own W F H p G J' ds → JSs X as σ J' D) (h2 : ∀ J', P false → Own W F H p G J' ds → JSs X bs σ J' D) : JS X (.If c as bs pos) σ J D := by
  obtain ⟨G', e, g', r', k⟩ := ow.known
  exact js_ifT g' (hc G' e k) (fun G2 J2 r _ pt => h1 J2 pt (ow.back g e r)) (fun G2 J2 r _ pt => h2 J2 pt (ow.back g e r))
end
/-! ### shaped data -/
theorem lay_ints (ns : List Int) : PyData.canLayAll0 (ns.map .int) = true := by
  induction ns with
  | nil => simp [PyData.canLayAll0]
  | cons n ns ih => simp [PyData.canLayAll0, PyData.canLay0, ih]
theorem dep_ints (ns : List Int) : PyData.depthAll (ns.map .int) = 0 := by
  induction ns with
  | nil => simp [PyData.depthAll]
  | cons n ns ih => simp [PyData.depthAll, PyData.depth, ih]
theorem lay_bools (ns : List Bool) : PyData.canLayAll0 (ns.map .bool) = true := by
  induction ns with
  | nil => simp [PyData.canLayAll0]
  | cons n ns ih => simp [PyData.canLayAll0, PyData.canLay0, ih]
theorem dep_bools (ns : List Bool) : PyData.depthAll (ns.map .bool) = 0 := by
  induction ns with
  | nil => simp [PyData.depthAll]
  | cons n ns ih => simp [PyData.depthAll, PyData.depth, ih]
theorem lay_all {α : Type} (f : α → PyData) (h : ∀ a, (f a).canLay0 = true) : ∀ l : List α, PyData.canLayAll0 (l.map f) = true
  | [] => by simp [PyData.canLayAll0] -- (Dw)
  | a :: l => by simp [PyData.canLayAll0, h a, lay_all f h l]
theorem dep_all {α : Type} (f : α → PyData) (n : Nat) (h : ∀ a, (f a).depth ≤ n) : ∀ l : List α, PyData.depthAll (l.map f) ≤ n
  | [] => by simp [PyData.depthAll] -- (Dw)
  | a :: l => by
    have h1 := h a
    have h2 := dep_all f n h l
    simp only [List.map_cons, PyData.depthAll] -- (Dw)
    omega
theorem shp {d : PyData} (h : d.canLay0 = true) (k : d.depth ≤ 64) : SeqAt.shaped d = true := by
  unfold SeqAt.shaped
  rw [h, decide_eq_true k]; rfl
theorem lay_dInts (ns : List Int) : (dInts ns).canLay0 = true := by unfold dInts; simp only [PyData.canLay0]; exact lay_ints ns
theorem dep_dInts (ns : List Int) : (dInts ns).depth = 1 := by unfold dInts; simp only [PyData.depth, dep_ints]
theorem shp_dInts (ns : List Int) : SeqAt.shaped (dInts ns) = true := shp (lay_dInts ns) (by rw [dep_dInts]; omega)
def dLL (ls : List (List Nat)) : PyData := .list (ls.map fun l => dInts (nats l))
theorem shp_dLL (ls : List (List Nat)) : SeqAt.shaped (dLL ls) = true := by
  refine shp ?_ ?_
  · unfold dLL; simp only [PyData.canLay0]; exact lay_all _ (fun l => lay_dInts _) ls
  · unfold dLL
    simp only [PyData.depth]
    have := dep_all (fun l => dInts (nats l)) 1 (fun l => by rw [dep_dInts]; omega) ls
    omega
theorem shp_dTab (n : Nat) (f : Nat → Nat → Bool) : SeqAt.shaped (dTab n f) = true := by
  have hr : ∀ i, (dRow n (f i)).canLay0 = true := fun i => by unfold dRow; simp only [PyData.canLay0]; exact lay_bools _
  have hd : ∀ i, (dRow n (f i)).depth ≤ 1 := fun i => by unfold dRow; simp only [PyData.depth, dep_bools]; omega
  refine shp ?_ ?_
  · unfold dTab; simp only [PyData.canLay0]; exact lay_all _ hr _
  · unfold dTab
    simp only [PyData.depth]
    have := dep_all (fun i => dRow n (f i)) 1 hd (List.range n)
    omega
theorem eqvAll_ints : ∀ a b : List Int, PyData.eqvAll (a.map .int) (b.map .int) = decide (a = b)
  | [], [] => by simp [PyData.eqvAll] -- (Dw)
  | [], _ :: _ => by simp [PyData.eqvAll] -- (Dw)
  | _ :: _, [] => by simp [PyData.eqvAll] -- (Dw)
  | x :: a, y :: b => by
    simp only [List.map_cons, PyData.eqvAll, PyData.eqv, eqvAll_ints a b]
    rw [Bool.eq_iff_iff]
    simp
theorem eqv_dInts (a b : List Int) : PyData.eqv (dInts a) (dInts b) = decide (a = b) := by unfold dInts; simp only [PyData.eqv]; exact eqvAll_ints a b
theorem nats_inj {a b : List Nat} : nats a = nats b ↔ a = b := by
  constructor
  · intro h
    exact (List.map_inj_right (f := fun (k : Nat) => (k : Int)) (fun x y e => by omega)).mp h
  · intro h; rw [h]
end Dw
/-! The law's lower sets and spans. -/
namespace Dw
open PySem PySem.Spec PyProof.Rows L2 -- (Dw)
def addNew (acc : List (List Nat)) (l : List Nat) : List (List Nat) := if l ∈ acc then acc else acc ++ [l]
def lsetsTo (n : Nat) (f : Nat → Nat → Bool) (i : Nat) : List (List Nat) := ((List.range i).map (lowerL n f)).foldl addNew []
theorem lsetsTo_succ (n : Nat) (f : Nat → Nat → Bool) (i : Nat) : lsetsTo n f (i + 1) = addNew (lsetsTo n f i) (lowerL n f i) := by
  unfold lsetsTo
  rw [List.range_succ, List.map_append, List.foldl_append]; rfl
theorem lsetsTo_len (n : Nat) (f : Nat → Nat → Bool) (i : Nat) : (lsetsTo n f i).length ≤ i := by
  induction i with
  | zero => simp [lsetsTo]
  | succ i ih =>
    rw [lsetsTo_succ]
    unfold addNew
    split
    · omega
    · rw [List.length_append, List.length_singleton]; omega -- (Dw)
def S_lsets (ds : List PyData) (R : PyData → Prop) : Prop := ∃ n f, ds = [dTab n f] ∧ n ≤ 40 ∧ R (dLL (lsetsTo n f n))
theorem anyD (ls : List (List Nat)) (l : List Nat) : ((ls.map fun l => dInts (nats l)).any fun z => PyData.eqv z (dInts (nats l))) = decide (l ∈ ls) := by
  rw [List.any_map, Bool.eq_iff_iff, List.any_eq_true, decide_eq_true_eq] -- (Dw)
  constructor
  · rintro ⟨m, hm, h⟩
    have h2 : PyData.eqv (dInts (nats m)) (dInts (nats l)) = true := h
    rw [eqv_dInts, decide_eq_true_eq, nats_inj] at h2
    rw [← h2]; exact hm
  · intro h
    refine ⟨l, h, ?_⟩
    show PyData.eqv (dInts (nats l)) (dInts (nats l)) = true
    rw [eqv_dInts, decide_eq_true_eq]
/-- the spans that the law reckons -/
def leftOf (n : Nat) (f : Nat → Nat → Bool) (e : Nat) : Nat := ((lsetsTo n f n).filter fun r => decide (r.length < (lowerL n f e).length) && r.all fun k => decide (k ∈ lowerL n f e)).length
def outOf (n : Nat) (f : Nat → Nat → Bool) (e : Nat) : Nat := ((lsetsTo n f n).filter fun r => !decide (e ∈ r)).length
def dSp (l : Nat) (r : Int) : PyData := .tuple [.int (l : Int), .int r]
def S_spans (ds : List PyData) (R : PyData → Prop) : Prop := ∃ n f, ds = [dTab n f] ∧ n ≤ 40 ∧ R (.tuple ((List.range n).map fun e => dSp (leftOf n f e) ((outOf n f e : Int) - 1)))
theorem mem_nats {k : Nat} {ns : List Nat} : ((k : Int) ∈ nats ns) ↔ k ∈ ns := by
  unfold nats
  rw [List.mem_map]
  constructor
  · rintro ⟨m, hm, e⟩
    have : m = k := by omega
    rw [← this]; exact hm
  · intro h; exact ⟨k, h, rfl⟩
section
variable {P : Program} {w : World} {K : PySem.W.Frag} {mg : Str → Option Value} {base : Heap} -- (Dw)
theorem ok_lsets (F : At K mg "_law_lower_sets" (topS 101)) (B : Bl mg) (k67 : Kn P w K mg base "_law_lower" 1 ["_law_table", "_law_element"] (spP S_lower)) :
    Kn P w K mg base "_law_lower_sets" 2 ["_law_table"] (spP S_lsets) := by
  refine kn101 F (spP_len fun ds R ⟨_, _, e, _⟩ => by rw [e]; rfl) fun fa cdv A outer s H vs Q E hr ⟨Fk, ds, g, kd, n, f, ed, hn, hR⟩ => ?_
  subst ed
  obtain ⟨v, rfl, k1⟩ := dq1 kd
  refine jss_cons (js_newO 1 sc101.nd g g.gr fun p o0 hp0 => ?_)
  refine jss_cons (js_for (ji_range B.range (by omega) ((jd_len B.len (jd_var 0 rfl k1)).is (d' := .int (n : Int)) (by rw [dTab_len]))) (pg_name (i := 2) sc101.nd rfl (.inl rfl)) o0.gd
    (fun G0 i σ' H' => ∃ lv G', σ' = [some v, some (.ref p), lv] ∧ Ex G0 G' ∧ Ex Fk G' ∧ Own W0 Fk H p G' H' ((lsetsTo n f i).map fun l => dInts (nats l))) (fun G0 i σ' H' ⟨_, G', _, e, _, o⟩ => e.trans o.gd.fh)
    (fun G J r g' => ⟨none, G, rfl, Ex.refl G, r.fg, o0.step g r⟩) ?_ ?_)
  · rintro G0 i x d σ' H' eF hd kx ⟨lv, G', rfl, eG, eF', o⟩
    obtain ⟨hi, rfl⟩ := rngN_of hd
    cases kx
    have kt := k1.up eF'
    refine jss_one (js_ifO o g (P := Is (!decide (lowerL n f i ∈ lsetsTo n f i))) (fun G e k => (jt_cp (jd_fn (P := Is (dInts (nats (lowerL n f i)))) k67 hr (jds_is (jd_var 0 rfl (kt.up e)) (jds_is (jd_var 2 rfl (.int _)) jds_nil)) fun ds R e q => ⟨n, f, i, e, hn, hi, q _ rfl⟩) (jd_var 1 rfl k) (od_notInD (by have := hr.un; show A.units + 3 + 65 < cLine; have h2 := hr.un; have h3 : (A.deeper (envOfC "_law_lower_sets" (defScope (topS 101)) s.heap.objs.size fa cdv)).units = A.units + 3 := rfl; omega) (shp_dInts _) (shp_dLL _))).is (by rw [anyD]))
      (fun J' pt o' => ?_) (fun J' pt o' => ?_))
    · have hnot : ¬ lowerL n f i ∈ lsetsTo n f i := by
        have : true = !decide (lowerL n f i ∈ lsetsTo n f i) := pt
        intro h
        rw [decide_eq_true h] at this
        cases this
      refine jss_one (js_appO o' g (rv_var 1 rfl) (by rw [List.length_map]; have := lsetsTo_len n f i; omega) (jd_fn (P := Is (dInts (nats (lowerL n f i)))) k67 hr (jds_is (jd_var 0 rfl kt) (jds_is (jd_var 2 rfl (.int _)) jds_nil)) fun ds R e q => ⟨n, f, i, e, hn, hi, q _ rfl⟩) fun d G2 J2 pd e2 o2 => ?_)
      rw [show d = _ from pd] at o2
      refine ⟨_, G2, rfl, eG.trans e2, eF'.trans e2, ?_⟩
      rw [lsetsTo_succ]
      unfold addNew
      rw [if_neg hnot, List.map_append]
      exact o2
    · have hin : lowerL n f i ∈ lsetsTo n f i := by
        have : false = !decide (lowerL n f i ∈ lsetsTo n f i) := pt
        by_cases h : lowerL n f i ∈ lsetsTo n f i
        · exact h
        · rw [decide_eq_false h] at this
          cases this
      refine jss_nil ⟨_, G', rfl, eG, eF', ?_⟩
      rw [lsetsTo_succ]
      unfold addNew
      rw [if_pos hin]
      exact o'
  · rintro G0 σ' H' eF ⟨lv, G', rfl, eG, eF', o⟩
    rw [rngN_len] at o
    obtain ⟨G2, e2, g2, r2, k2⟩ := o.known
    exact jss_one (js_retD g2 (jd_var 1 rfl k2) fun v d G J r3 ed kd => by subst ed; exact hR v G J (r2.trans r3 g) kd)
theorem ok_spans (F : At K mg "_law_spans_of" (topS 102)) (B : Bl mg) (k67 : Kn P w K mg base "_law_lower" 1 ["_law_table", "_law_element"] (spP S_lower)) (k101 : Kn P w K mg base "_law_lower_sets" 2 ["_law_table"] (spP S_lsets)) :
    Kn P w K mg base "_law_spans_of" 3 ["_law_table"] (spP S_spans) := by
  refine kn102 F (spP_len fun ds R ⟨_, _, e, _⟩ => by rw [e]; rfl) fun fa cdv A outer s H vs Q E hr ⟨Fk, ds, g, kd, n, f, ed, hn, hR⟩ => ?_
  subst ed
  obtain ⟨v, rfl, k1⟩ := dq1 kd
  refine jss_cons (js_setD 1 sc102.nd g (jd_fn (P := Is (dLL (lsetsTo n f n))) k101 hr (jds_is (jd_var 0 rfl k1) jds_nil) fun ds R e q => ⟨n, f, e, hn, q _ rfl⟩) fun vS d G1 J1 r1 g1 ed kS => ?_)
  subst ed
  refine jss_cons (js_newO 2 sc102.nd g r1 fun p o0 hp0 => ?_)
  refine jss_cons (js_for (ji_range B.range (by omega) ((jd_len B.len (jd_var 0 rfl (k1.up r1.fg))).is (d' := .int (n : Int)) (by rw [dTab_len]))) (pg_name (i := 3) sc102.nd rfl (.inr rfl)) o0.gd
    (fun G0 i σ' H' => ∃ o3 o4 o5 o6 o7 G', σ' = [some v, some vS, some (.ref p), o3, o4, o5, o6, o7] ∧ Ex G0 G' ∧ Ex G1 G' ∧ Own W0 Fk H p G' H' ((List.range i).map fun e => dSp (leftOf n f e) ((outOf n f e : Int) - 1))) (fun G0 i σ' H' ⟨_, _, _, _, _, G', _, e, _, o⟩ => e.trans o.gd.fh)
    (fun G J r g' => ⟨none, none, none, none, none, G, rfl, Ex.refl G, r.fg, o0.step g r⟩) ?_ ?_)
  · rintro G0 i x d σ' H' eF hd kx ⟨o3, o4, o5, o6, o7, G', rfl, eG, eF', o⟩
    obtain ⟨hi, rfl⟩ := rngN_of hd
    cases kx
    have kt := (k1.up r1.fg).up eF'
    have kS' := kS.up eF'
    refine jss_cons (js_setD 4 sc102.nd o.gd (jd_fn (P := Is (dInts (nats (lowerL n f i)))) k67 hr (jds_is (jd_var 0 rfl kt) (jds_is (jd_var 3 rfl (.int _)) jds_nil)) fun ds R e q => ⟨n, f, i, e, hn, hi, q _ rfl⟩) fun vO d G2 J2 r2 g2 ed kO => ?_)
    subst ed
    have o2 := o.step g r2
    have kS2 := kS'.up r2.fg
    have hl := lsetsTo_len n f n
    refine jss_cons (js_setD 5 sc102.nd g2 ((jd_len B.len (jd_lcIfM (xs := lsetsTo n f n) (enc := fun l => dInts (nats l)) (i := 6) (fun r => decide (r.length < (lowerL n f i).length) && r.all fun k => decide (k ∈ lowerL n f i)) (fun l => dInts (nats l)) sc102.nd (ji_list (jd_var 1 rfl kS2))
      (blkOk_by (N := N102) (sc := defScope (topS 102)) (by decide +kernel)) (tg_ok sc102.nd rfl (.inl rfl)) (by omega)
      (fun k r G u hk eG2 ku s0 H0 C cl fp => JW.t (jw_andIs ((jt_cp (jd_len B.len (jd_var 6 rfl ku)) (jd_len B.len (jd_var 4 rfl (kO.up eG2))) od_lt).is (by unfold nats; simp only [List.length_map]; rw [decide_eq_decide]; omega)) fun _ => jw_and1 (jt_of ((jd_all (bs := r.map fun k => decide (k ∈ lowerL n f i)) rfl B.all
        ((jd_lcM (xs := r) (enc := fun (k : Nat) => .int (k : Int)) (i := 7) (fun k => .bool (decide (k ∈ lowerL n f i))) sc102.nd (ji_list ((jd_var 6 rfl ku).is (dIntsN r))) (blkOk_by (N := N102) (sc := relS _ (defScope (topS 102))) (by decide +kernel)) (tg_ok sc102.nd rfl (.inl rfl)) (by have := lsets_row hk; omega)
          (fun m k G3 u3 hm e3 ku3 s1 H1 C1 cl1 fp1 => by
            cases ku3
            exact (jd_cp (jd_var 7 rfl (.int _)) (jd_var 4 rfl ((kO.up eG2).up e3)) od_inL).is (by rw [decide_eq_decide.mpr mem_nats]))).is (by rw [List.map_map]; rfl))).is (by rw [List.all_map]; rfl)))))
      (fun k r G u hk _ eG2 ku s0 H0 C cl fp => jd_var 6 rfl ku))).is (d' := .int ((leftOf n f i : Nat) : Int)) (by rw [List.length_map]; rfl)) fun v5 d G3 J3 r3 g3 ed k5 => ?_)
    subst ed
    cases k5
    have o3' := o2.step g r3
    have kS3 := kS2.up r3.fg
    refine jss_one (js_appO (P := Is (dSp (leftOf n f i) ((outOf n f i : Int) - 1))) o3' g (rv_var 2 rfl) (by rw [List.length_map, List.length_range]; omega) (jd_tup (jds_is (jd_var 5 rfl (.int _)) (jds_is (jd_bin ((jd_len B.len (jd_lcIfM (xs := lsetsTo n f n) (enc := fun l => dInts (nats l)) (i := 6) (fun r => !decide (i ∈ r)) (fun l => dInts (nats l)) sc102.nd (ji_list (jd_var 1 rfl kS3))
      (blkOk_by (N := N102) (sc := defScope (topS 102)) (by decide +kernel)) (tg_ok sc102.nd rfl (.inl rfl)) (by omega)
      (fun k r G u hk eG2 ku s0 H0 C cl fp => (jt_cp (jd_var 3 rfl (.int _)) (jd_var 6 rfl ku) od_notInL).is (by rw [decide_eq_decide.mpr mem_nats]))
      (fun k r G u hk _ eG2 ku s0 H0 C cl fp => jd_var 6 rfl ku))).is (d' := .int ((outOf n f i : Nat) : Int)) (by rw [List.length_map]; rfl)) jd_int od_sub) jds_nil)) fun ds e => by subst e; exact ⟨by show 2 ≤ 100000; omega, rfl⟩) fun d G4 J4 pd e4 o4' => ?_)
    rw [show d = _ from pd] at o4'
    refine ⟨_, _, _, _, _, G4, rfl, eG.trans (r2.fg.trans (r3.fg.trans e4)), eF'.trans (r2.fg.trans (r3.fg.trans e4)), ?_⟩
    rw [List.range_succ, List.map_append]
    exact o4'
  · rintro G0 σ' H' eF ⟨o3, o4, o5, o6, o7, G', rfl, eG, eF', o⟩
    rw [rngN_len] at o
    obtain ⟨G2, e2, g2, r2, k2⟩ := o.known
    exact jss_one (js_retD g2 (jd_tupOf B.tuple (jd_var 2 rfl k2)) fun v d G J r3 ed kd => hR v G J (r2.trans r3 g) (ed ▸ kd))
where
  lsets_row {n : Nat} {f : Nat → Nat → Bool} {k : Nat} {r : List Nat} (h : (lsetsTo n f n)[k]? = some r) : r.length ≤ n := by
    have key : ∀ i, ∀ r ∈ lsetsTo n f i, r.length ≤ n := by
      intro i
      induction i with
      | zero => intro r hr; simp [lsetsTo] at hr
      | succ i ih =>
        intro r hr
        rw [lsetsTo_succ] at hr
        unfold addNew at hr
        split at hr
        · exact ih r hr
        · rcases List.mem_append.mp hr with h | h
          · exact ih r h
          · rw [List.mem_singleton] at h
            rw [h]
            unfold lowerL
            have := List.length_filter_le (fun l => f l i) (List.range n)
            rw [List.length_range] at this
            exact this
    exact key n r (List.mem_of_getElem? h)
end
end Dw
/-! A list of new lists, all of one's own. -/
namespace Dw
open PySem PySem.Spec PyProof.Rows L2 -- (Dw)
/-- an expression that makes a new list of these -/
def NewL (X : Cx) (e : Expr) (σ : St) (F : Hp) (xs : List V) : Prop := ∀ H, Ex F H → ∀ Q : VK, (∀ p J, H p = none → Ex H J → J p = some (.lst xs) → Q (.ref p) J) → JE X e σ H Q
structure Tb (W : Wo) (F H : Hp) (a : Addr) (rs : List Addr) (G J : Hp) (row : Nat → List V) : Prop where
  gr : Gr W F H G J
  gd : Good W G J
  a0 : H a = none
  am : ¬ W.m a
  ga : G a = none
  ja : J a = some (.lst (rs.map V.ref))
  nd : rs.Nodup
  na : a ∉ rs
  r0 : ∀ r ∈ rs, H r = none ∧ G r = none ∧ ¬ W.m r
  jr : ∀ (i : Nat) r, rs[i]? = some r → J r = some (.lst (row i))
section
variable {W : Wo} {F H G J G2 J2 : Hp} {a : Addr} {rs : List Addr} {row : Nat → List V}
theorem Tb.step (t : Tb W F H a rs G J row) (g : Good W F H) (r : Gr W G J G2 J2) : Tb W F H a rs G2 J2 row :=
  ⟨t.gr.trans r g, r.good t.gd, t.a0, t.am, by rw [r.new _ _ t.ja]; exact t.ga, r.hj _ _ t.am t.ja, t.nd, t.na, fun x hx => by
    obtain ⟨i, hi⟩ := List.mem_iff_getElem?.mp hx -- (Dw)
    exact ⟨(t.r0 x hx).1, by rw [r.new _ _ (t.jr i x hi)]; exact (t.r0 x hx).2.1, (t.r0 x hx).2.2⟩, fun i x hi => r.hj _ _ (t.r0 x (List.mem_of_getElem? hi)).2.2 (t.jr i x hi)⟩
theorem Tb.set {i : Nat} {r : Addr} {ys : List V} (t : Tb W F H a rs G J row) (hi : rs[i]? = some r) : Tb W F H a rs G (upd J r (.lst ys)) (fun k => if k = i then ys else row k) := by
  have hm := List.mem_of_getElem? hi -- (Dw)
  obtain ⟨h0, h1, h2⟩ := t.r0 r hm
  refine ⟨t.gr.put (t.jr i r hi) h0 h1 h2, t.gd.put (t.jr i r hi) h1 h2, t.a0, t.am, t.ga, ?_, t.nd, t.na, t.r0, fun k x hk => ?_⟩
  · rw [upd_ne (show a ≠ r from fun e => t.na (by rw [e]; exact hm))]; exact t.ja
  · by_cases e : k = i
    · subst e
      rw [hi] at hk
      cases hk
      rw [upd_same, if_pos rfl]
    · have hne : x ≠ r := fun z => by
        subst z
        obtain ⟨l1, e1⟩ := List.getElem?_eq_some_iff.mp hi
        obtain ⟨l2, e2⟩ := List.getElem?_eq_some_iff.mp hk
        exact e ((List.getElem_inj t.nd).mp (e2.trans e1.symm))
      rw [upd_ne hne, if_neg e]
      exact t.jr k x hk
theorem Tb.congr {row' : Nat → List V} (t : Tb W F H a rs G J row) (h : ∀ i, i < rs.length → row i = row' i) : Tb W F H a rs G J row' :=
  ⟨t.gr, t.gd, t.a0, t.am, t.ga, t.ja, t.nd, t.na, t.r0, fun i r hi => by rw [← h i (List.getElem?_eq_some_iff.mp hi).1]; exact t.jr i r hi⟩
/-- all of it becomes known -/
theorem know_rows {ds : List PyData} : ∀ (rs : List Addr) (row : Nat → List V) (G : Hp), Good W G J → Gr W F H G J → rs.Nodup → (∀ r ∈ rs, H r = none ∧ G r = none ∧ ¬ W.m r) → (∀ (i : Nat) r, rs[i]? = some r → J r = some (.lst (row i))) → (∀ i, i < rs.length → ∃ d, ds[i]? = some (.list d) ∧ DqAll G (row i) d) → rs.length = ds.length →
    ∃ G', Ex G G' ∧ Good W G' J ∧ Gr W F H G' J ∧ DqAll G' (rs.map V.ref) ds ∧ ∀ b, b ∉ rs → G' b = G b := by
  intro rs
  induction rs generalizing ds with
  | nil =>
    intro row G g r _ _ _ _ hl
    have : ds = [] := List.length_eq_zero_iff.mp hl.symm
    subst this
    exact ⟨G, Ex.refl G, g, r, .nil, fun _ _ => rfl⟩
  | cons x rs ih =>
    intro row G g r hnd h0 hj hd hl
    cases ds with
    | nil => simp at hl
    | cons d ds =>
      obtain ⟨h1, h2, h3⟩ := h0 x List.mem_cons_self
      have hx := hj 0 x rfl
      obtain ⟨d0, e0, k0⟩ := hd 0 (by simp)
      have e0' : d = .list d0 := by simpa using e0
      rw [List.nodup_cons] at hnd
      have gx := g.keep hx h2 h3
      have rx := r.keep hx h1 h2
      obtain ⟨G', e, g', r', k', hb⟩ := ih (ds := ds) (fun i => row (i + 1)) (upd G x (.lst (row 0))) gx rx hnd.2 (fun y hy => by
        have hne : y ≠ x := fun z => hnd.1 (z ▸ hy)
        obtain ⟨q1, q2, q3⟩ := h0 y (List.mem_cons_of_mem _ hy)
        exact ⟨q1, by rw [upd_ne hne]; exact q2, q3⟩) (fun i y hy => hj (i + 1) y (by simpa using hy)) (fun i hi => by
        obtain ⟨d', e', k'⟩ := hd (i + 1) (by simp; omega)
        exact ⟨d', by simpa using e', k'.up (Ex.new h2)⟩) (by simpa using hl)
      refine ⟨G', (Ex.new h2).trans e, g', r', ?_, fun b hb' => ?_⟩
      · subst e0'
        exact .cons (.lst (e _ _ upd_same) (k0.up ((Ex.new h2).trans e))) k'
      · rw [List.mem_cons, not_or] at hb'
        rw [hb b hb'.2, upd_ne hb'.1]
theorem Tb.known {ds : List PyData} (t : Tb W F H a rs G J row) (hd : ∀ i, i < rs.length → ∃ d, ds[i]? = some (.list d) ∧ DqAll G (row i) d) (hl : rs.length = ds.length) : ∃ G', Ex G G' ∧ Good W G' J ∧ Gr W F H G' J ∧ Dq G' (.ref a) (.list ds) := by
  obtain ⟨G', e, g', r', k', hb⟩ := know_rows rs row G t.gd t.gr t.nd t.r0 t.jr hd hl
  have ha : G' a = none := by rw [hb a t.na]; exact t.ga
  exact ⟨upd G' a (.lst (rs.map V.ref)), e.trans (Ex.new ha), g'.keep t.ja ha t.am, r'.keep t.ja t.a0 ha, .lst upd_same (k'.up (Ex.new ha))⟩
end
section
variable {W : Wo} {X : Cx} {elt iter : Expr} {σ : St} {F H : Hp} {n : Nat} {x y : Str} {i : Nat} {px py pos spos : Pos} {scope : Scope} {D : Ends} {xs : List V}
/-- y = [e for x in range(n)], e a new list each time -/
theorem js_setRows (j : Nat) (gd : Good W F H) (hN : X.N.Nodup) (hJ : JI W X (.Name x px) iter σ F (rngN n)) (ok : BlkOk X.N X.env.scope scope [(x, i)]) (tg : TgOk X scope x i) (hn : n ≤ 100000)
    (hsw : swapsWith (.ListComp elt [⟨.Name x px, iter, [], 0⟩] scope pos) (some (.Name y py)) spos.line X.env = pure true)
    (he : ∀ (k : Nat) G, k < n → Ex F G → InB X scope fun Y => NewL Y elt (σ.set i (some (.int (k : Int)))) G xs)
    (h : ∀ a rs G J, rs.length = n → Tb W F H a rs G J (fun _ => xs) → D.nx (σ.set j (some (.ref a))) J) (hy : X.N[j]? = some y := by rfl) (hyl : X.env.scope.names.lookup y = some .local := by rfl)
    (hc : X.calm = true := by rfl) (hs : ∀ x, foldedSetIterable iter X.env x = pure x := by intro _; rfl) :
    JS X (.Assign [.Name y py] (.ListComp elt [⟨.Name x px, iter, [], 0⟩] scope pos) spos) σ H D := by
  obtain ⟨wi, hi, hJ⟩ := hJ
  refine js_of (ps_setLc (own := [(x, i)]) hc hN hy hyl hsw hi ok (fun s H C cl fp => tg s H C cl fp px) (fun _ _ _ _ _ => pts_nil) peb_self hs) ?_
  refine hJ H gd _ fun It0 G1 H1 r1 wk => fun A hA => ?_
  have g1 := r1.good gd
  have hA0 := r1.fresh hA
  refine ⟨fun k m Hi => m = n - k ∧ k ≤ n ∧ ∃ rs : List Addr, rs.length = k ∧ rs.Nodup ∧ A ∉ rs ∧ Ex H1 Hi ∧ Hi A = some (.lst (rs.map V.ref)) ∧ ∀ r ∈ rs, H1 r = none ∧ Hi r = some (.lst xs), ⟨n, rfl, Nat.zero_le _, [], rfl, .nil, List.not_mem_nil, Ex.new hA, upd_same, fun r hr => by simp at hr⟩, ?_⟩
  rintro k m Hi ⟨rfl, hk, rs, hl, hnd, hnA, eH, hAi, hr⟩
  by_cases hlt : k < n
  · refine .inr ⟨wk.go k Hi (g1.fh.trans eH) (by rw [rngN_len]; exact hlt), fun H' => ∃ rs : List Addr, rs.length = k + 1 ∧ rs.Nodup ∧ A ∉ rs ∧ Ex H1 H' ∧ H' A = some (.lst (rs.map V.ref)) ∧ ∀ r ∈ rs, H1 r = none ∧ H' r = some (.lst xs), fun H' h => ⟨n - (k + 1), by omega, rfl, hlt, h⟩, fun v H' hy => ?_⟩
    obtain ⟨eH', hz⟩ := wk.yld k Hi v H' (g1.fh.trans eH) hy
    subst eH'
    obtain ⟨d, hd, kx⟩ := hz (by rw [rngN_len]; exact hlt)
    obtain ⟨_, rfl⟩ := rngN_of hd
    cases kx
    refine ⟨wipe1, ?_⟩
    show teB X scope elt ((wipe σ [i]).set i (some (V.int (k : Int)))) H' _
    intro s0 H0 C cl fp
    have q := (he k F hlt (Ex.refl F) s0 H0 C cl fp) H' (r1.fg.trans (g1.fh.trans eH))
    rw [← set1 (σ := σ) (i := i) (x := some (V.int (k : Int)))] at q
    refine q _ fun p J hp eJ hpJ => ?_
    refine ⟨rs.map V.ref, eJ _ _ hAi, by rw [List.length_map, hl, sizeLine_eq]; omega, rs ++ [p], by rw [List.length_append, hl]; rfl, ?_, ?_, fun b o hb => ?_, ?_, fun q hq => ?_⟩
    · rw [List.nodup_append]
      refine ⟨hnd, by simp, fun a ha b hb => ?_⟩
      rw [List.mem_singleton] at hb
      subst hb
      exact ne_of_none (hr a ha).2 hp
    · rw [List.mem_append, List.mem_singleton, not_or]
      exact ⟨hnA, ne_of_none hAi hp⟩
    · rw [upd_ne (ne_of_none hb hA)]
      exact eJ _ _ (eH _ _ hb)
    · rw [upd_same, List.map_append]; rfl
    · rw [List.mem_append, List.mem_singleton] at hq
      rcases hq with hq | rfl
      · obtain ⟨q1, q2⟩ := hr q hq
        exact ⟨q1, by rw [upd_ne (show q ≠ A from fun z => hnA (by rw [← z]; exact hq))]; exact eJ _ _ q2⟩
      · exact ⟨eH.no hp, by rw [upd_ne (ne_of_none hAi hp).symm]; exact hpJ⟩
  · have ek : k = n := by omega
    subst ek
    have fr : ∀ b, H1 b = none → H b = none ∧ G1 b = none ∧ ¬ W.m b := fun b hb => ⟨r1.fresh hb, g1.fh.no hb, g1.nom hb⟩
    have gg : Gr W G1 H1 G1 Hi := ⟨Ex.refl _, g1.fh.trans eH, fun b o _ e => eH b o e, W.mono eH g1.ok, fun _ _ _ => rfl⟩
    refine .inl ⟨wk.stop _ Hi (g1.fh.trans eH) (by rw [rngN_len]; exact Nat.le_refl _), h A rs G1 Hi hl ?_⟩
    exact ⟨r1.trans gg gd, gg.good g1, hA0, (fr A hA).2.2, (fr A hA).2.1, hAi, hnd, hnA, fun r hm => fr r (hr r hm).1, fun i r hi => (hr r (List.mem_of_getElem? hi)).2⟩
theorem NewL.nil {p0 : Pos} : NewL X (.List [] p0) σ F [] := fun H e Q q => je_of (pe_lst pa_nil) ⟨Nat.zero_le _, fun l hl => q l _ hl (Ex.new hl) upd_same⟩
/-- [False] * n -/
theorem NewL.rep {v : V} {e1 e2 : Expr} {p0 p1 : Pos} (h1 : ∀ H, RV X e1 σ H v) (h2 : ∀ H, RV X e2 σ H (.int (n : Int))) (hn : n ≤ 100000) (hs : starEach [e1] X.env = (false, eval e1 X.env) :: starEach [] X.env := by rfl) : NewL X (.BinOp (.List [e1] p0) .Mult e2 p1) σ F (List.replicate n v) := fun H e Q q =>
  je_of (pe_op op_rep (pe_lst (pa_cons pe_self pa_nil hs)) pe_self) (h1 H _ ⟨by show 1 ≤ sizeLine; decide, fun l hl => h2 _ _ ⟨l, (n : Int), [v], rfl, rfl, upd_same, by omega, by omega, by show 1 * (n : Int).toNat ≤ sizeLine; rw [sizeLine_eq]; omega, fun p hp => by
    have e2 : (List.replicate (n : Int).toNat [v]).flatten = List.replicate n v := flat_rep1 v n
    rw [e2]
    exact q p _ ((Ex.new hl).no hp) ((Ex.new hl).trans (Ex.new hp)) upd_same⟩⟩)
theorem rv_bl {k : Bool} {j} {p : Pos} : RV X (.Constant (.bool k) j p) σ H (.bl k) := fun Q q => je_of pe_bl q
theorem rt_val {k : Bool} {e : Expr} (h : RV X e σ H (.bl k)) (he : ∀ whole, isTrue e X.env whole = (do let v ← whole; standAt e.pos; holding [v] (truthy v)) := by intro _; rfl) : RT X e σ H k := fun Q q => jb_of (pt_val pe_self he) (h _ ⟨k, rfl, q⟩)
end
end Dw
/-! The law's closed table. -/
namespace Dw
open PySem PySem.Spec PyProof.Rows L2 -- (Dw)
/-- Warshall's table behind k rounds -/
def wsh (ps : List (Nat × Nat)) : Nat → Nat → Nat → Bool
  | 0, i, j => decide ((i, j) ∈ ps)
  | k + 1, i, j => wsh ps k i j || (wsh ps k i k && wsh ps k k j)
theorem wsh_row (ps : List (Nat × Nat)) (k j : Nat) : wsh ps (k + 1) k j = wsh ps k k j := by
  show (wsh ps k k j || (wsh ps k k k && wsh ps k k j)) = wsh ps k k j
  cases wsh ps k k j <;> simp
theorem wsh_col (ps : List (Nat × Nat)) (k i : Nat) : wsh ps (k + 1) i k = wsh ps k i k := by
  show (wsh ps k i k || (wsh ps k i k && wsh ps k k k)) = wsh ps k i k
  cases wsh ps k i k <;> simp
def rowV (n : Nat) (g : Nat → Bool) : List V := (List.range n).map fun j => V.bl (g j)
theorem rowV_len (n : Nat) (g : Nat → Bool) : (rowV n g).length = n := by unfold rowV; rw [List.length_map, List.length_range]
theorem rowV_at {n j : Nat} {g : Nat → Bool} (h : j < n) : (rowV n g)[j]? = some (.bl (g j)) := by
  unfold rowV; rw [List.getElem?_map, List.getElem?_range h]; rfl
theorem rowV_set {n j : Nat} {g : Nat → Bool} {b : Bool} : (rowV n g).set j (.bl b) = rowV n fun k => if k = j then b else g k := by
  apply List.ext_getElem?
  intro k
  by_cases hk : k < n
  · rw [rowV_at hk]
    by_cases e : j = k
    · subst e
      rw [List.getElem?_set_self (by rw [rowV_len]; exact hk), if_pos rfl]
    · rw [List.getElem?_set_ne e, rowV_at hk, if_neg (fun z => e z.symm)]
  · rw [List.getElem?_eq_none (by rw [List.length_set, rowV_len]; omega), List.getElem?_eq_none (by rw [rowV_len]; omega)]
theorem rowV_congr {n : Nat} {g h : Nat → Bool} (e : ∀ j, j < n → g j = h j) : rowV n g = rowV n h := by
  unfold rowV
  exact List.map_congr_left fun j hj => by rw [e j (List.mem_range.mp hj)]
theorem rowV_rep (n : Nat) : List.replicate n (V.bl false) = rowV n fun _ => false := by
  unfold rowV
  rw [List.map_const', List.length_range]
theorem rowV_dq {G : Hp} (n : Nat) (g : Nat → Bool) : DqAll G (rowV n g) (((List.range n).map g).map .bool) := by
  have := DqAll.bools (H := G) ((List.range n).map g)
  rw [List.map_map] at this
  exact this
def S_closed (ds : List PyData) (R : PyData → Prop) : Prop := ∃ (n : Nat) (ps : List (Nat × Nat)), ds = [.int (n : Int), dPN ps] ∧ n ≤ 40 ∧ ps.length ≤ 100000 ∧ (∀ p ∈ ps, p.1 < n ∧ p.2 < n) ∧ R (dTab n (wsh ps n))
theorem ix_nat {n k : Nat} (h : k < n) : ixN n (k : Int) = some k := by
  unfold ixN
  rw [if_pos (by omega), if_pos (by omega)] -- (Dw)
  simp
section
variable {P : Program} {w : World} {K : PySem.W.Frag} {mg : Str → Option Value} {base : Heap} -- (Dw)
theorem ok_closed (F : At K mg "_law_closed" (topS 62)) (B : Bl mg) : Kn P w K mg base "_law_closed" 1 ["_law_size", "_law_pairs_here"] (spP S_closed) := by
  refine kn62 F (spP_len fun ds R ⟨_, _, e, _⟩ => by rw [e]; rfl) fun fa cdv A outer s H vs Q E hr ⟨Fk, ds, g, kd, n, ps, ed, hn, hl, hps, hR⟩ => ?_
  subst ed
  obtain ⟨v, u, rfl, k1, k2⟩ := dq2 kd
  cases k1
  refine jss_cons (js_setRows (i := 3) (n := n) 2 g sc62.nd (ji_range B.range (by omega) (jd_var 0 rfl (.int _))) (blkOk_by (N := N62) (sc := defScope (topS 62)) (by decide +kernel)) (tg_ok sc62.nd rfl (.inl rfl)) (by omega)
    (sw_true rfl rfl rfl (by decide +kernel)) (fun k G hk e s0 H0 C cl fp => NewL.rep (v := .bl false) (fun H => rv_bl) (fun H => rv_var 0 rfl) (by omega)) fun a rs G1 J1 hrs t1 => ?_)
  have t1 := t1.congr (row' := fun _ => rowV n fun _ => false) fun i _ => rowV_rep n
  -- the pairs
  refine jss_cons (js_for (tg := .Tuple _ _ _) (g := gPair K 4 5) (ds := ps.map prN) (ji_list (jd_var 1 rfl (k2.up t1.gr.fg))) (pg_tup rfl (pgs_cons (pg_name (i := 4) sc62.nd rfl (.inl rfl)) (pgs_cons (pg_name (i := 5) sc62.nd rfl (.inl rfl)) pgs_nil))) t1.gd
    (fun G0 i σ' H' => ∃ o3 o4 o5 o6 G', σ' = [some (.int (n : Int)), some u, some (.ref a), o3, o4, o5, o6] ∧ Ex G0 G' ∧ Tb W0 Fk H a rs G' H' (fun k => rowV n fun j => decide ((k, j) ∈ ps.take i))) (fun G0 i σ' H' ⟨_, _, _, _, G', _, e, t⟩ => e.trans t.gd.fh)
    (fun G J r g' => ⟨none, none, none, none, G, rfl, Ex.refl G, (t1.step g r).congr fun i _ => rowV_congr fun j _ => by simp⟩) ?_ ?_)
  · rintro G0 i x d σ' H' eF hd kx ⟨o3, o4, o5, o6, G', rfl, eG, t⟩
    rw [List.getElem?_map] at hd
    obtain ⟨p, hp, rfl⟩ := Option.map_eq_some_iff.mp hd
    obtain ⟨hp1, hp2⟩ := hps p (List.mem_of_getElem? hp)
    refine gPair_run (eG.trans t.gd.fh) kx ?_
    have hr1 : rs[p.1]? = some rs[p.1] := List.getElem?_eq_getElem (by omega)
    have hA : atI (rs.map V.ref) (p.1 : Int) = some (.ref rs[p.1]) := atI_nat (by rw [List.getElem?_map, hr1]; rfl)
    refine jss_one (js_store (l := rs[p.1]) (j := p.2) (rv_bl (k := true) _ ⟨_, (p.2 : Int), rv_ix (rv_var 2 rfl) (rv_var 4 rfl) t.ja hA, rv_var 5 rfl, t.jr p.1 _ hr1, ix_nat (by rw [rowV_len]; exact hp2), ?_⟩))
    refine ⟨o3, _, _, o6, G', rfl, eG, (t.set hr1).congr fun k _ => ?_⟩
    rw [List.take_add_one, hp]
    by_cases hk : k = p.1
    · rw [if_pos hk, rowV_set, hk]
      refine rowV_congr fun j _ => ?_
      by_cases hj : j = p.2
      · rw [if_pos hj, hj]; simp
      · rw [if_neg hj]
        rw [decide_eq_decide, List.mem_append]
        constructor
        · exact .inl
        · rintro (h | h)
          · exact h
          · have h2 : (p.1, j) = p := by simpa using h
            exact absurd (congrArg Prod.snd h2) hj
    · rw [if_neg hk]
      refine rowV_congr fun j _ => ?_
      rw [decide_eq_decide, List.mem_append]
      constructor
      · exact .inl
      · rintro (h | h)
        · exact h
        · have h2 : (k, j) = p := by simpa using h
          exact absurd (congrArg Prod.fst h2) hk
  rintro G0 σ2 H2 eF2 ⟨o3, o4, o5, o6, G2, rfl, eG2, t2⟩
  rw [List.length_map, List.take_length] at t2
  -- through
  refine jss_cons (js_for (ji_range B.range (by omega) (jd_var 0 rfl (.int _))) (pg_name (i := 6) sc62.nd rfl (.inl rfl)) t2.gd
    (fun G0 k σ' H' => ∃ o3 o4 o5 o6 G', σ' = [some (.int (n : Int)), some u, some (.ref a), o3, o4, o5, o6] ∧ Ex G0 G' ∧ Tb W0 Fk H a rs G' H' (fun i => rowV n (wsh ps k i))) (fun G0 i σ' H' ⟨_, _, _, _, G', _, e, t⟩ => e.trans t.gd.fh)
    (fun G J r g' => ⟨o3, o4, o5, o6, G, rfl, Ex.refl G, t2.step g r⟩) ?_ ?_)
  · rintro G0 k x d σ' H' eF hd kx ⟨o3, o4, o5, o6, G', rfl, eG, t⟩
    obtain ⟨hk, rfl⟩ := rngN_of hd
    cases kx
    have hrk : rs[k]? = some rs[k] := List.getElem?_eq_getElem (by omega)
    have hAk : atI (rs.map V.ref) (k : Int) = some (.ref rs[k]) := atI_nat (by rw [List.getElem?_map, hrk]; rfl)
    refine jss_one (js_for (ji_range B.range (by omega) (jd_var 0 rfl (.int _))) (pg_name (i := 4) sc62.nd rfl (.inl rfl)) t.gd
      (fun G0' l σ' H' => ∃ o3 o4 o5 G', σ' = [some (.int (n : Int)), some u, some (.ref a), o3, o4, o5, some (.int (k : Int))] ∧ Ex G0' G' ∧ Ex G0 G' ∧ Tb W0 Fk H a rs G' H' (fun i => rowV n (wsh ps (if i < l then k + 1 else k) i))) (fun G0' i σ' H' ⟨_, _, _, G', _, e, _, t⟩ => e.trans t.gd.fh)
      (fun G J r g' => ⟨o3, o4, o5, G, rfl, Ex.refl G, eG.trans r.fg, (t.step g r).congr fun i _ => by rw [if_neg (Nat.not_lt_zero i)]⟩) ?_ ?_)
    · rintro G0' l x d σ' H' eF' hd kx ⟨o3, o4, o5, G', rfl, eG', eG0, t⟩
      obtain ⟨hl', rfl⟩ := rngN_of hd
      cases kx
      have hrl : rs[l]? = some rs[l] := List.getElem?_eq_getElem (by omega)
      have hAl : atI (rs.map V.ref) (l : Int) = some (.ref rs[l]) := atI_nat (by rw [List.getElem?_map, hrl]; rfl)
      refine jss_one (js_ifR (rt_val (rv_ix (rv_ix (rv_var 2 rfl) (rv_var 4 rfl) t.ja hAl) (rv_var 6 rfl) (t.jr l _ hrl) (atI_nat (rowV_at hk)))) (fun hyes => ?_) (fun hno => jss_nil ?_))
      · rw [if_neg (Nat.lt_irrefl l)] at hyes
        refine jss_one (js_for (ji_range B.range (by omega) (jd_var 0 rfl (.int _))) (pg_name (i := 5) sc62.nd rfl (.inl rfl)) t.gd
          (fun G0'' h σ' H' => ∃ o3 o5 G', σ' = [some (.int (n : Int)), some u, some (.ref a), o3, some (.int (l : Int)), o5, some (.int (k : Int))] ∧ Ex G0'' G' ∧ Ex G0' G' ∧ Ex G0 G' ∧ Tb W0 Fk H a rs G' H' (fun i => rowV n fun j => wsh ps (if i < l then k + 1 else if i = l ∧ j < h then k + 1 else k) i j)) (fun G0'' i σ' H' ⟨_, _, G', _, e, _, _, t⟩ => e.trans t.gd.fh)
          (fun G J r g' => ⟨o3, o5, G, rfl, Ex.refl G, eG'.trans r.fg, eG0.trans r.fg, (t.step g r).congr fun i _ => rowV_congr fun j _ => by rw [if_neg (show ¬ (i = l ∧ j < 0) by omega)]⟩) ?_ ?_)
        · rintro G0'' h x d σ' H' eF'' hd kx ⟨o3, o5, G', rfl, eG'', eG1, eG2', t⟩
          obtain ⟨hh, rfl⟩ := rngN_of hd
          cases kx
          refine jss_one (js_ifR (rt_val (rv_ix (rv_ix (rv_var 2 rfl) (rv_var 6 rfl) t.ja hAk) (rv_var 5 rfl) (t.jr k _ hrk) (atI_nat (rowV_at hh)))) (fun hyes2 => ?_) (fun hno2 => jss_nil ?_))
          · have e2 : wsh ps k k h = true := by
              split at hyes2
              · rw [wsh_row] at hyes2; exact hyes2
              · split at hyes2
                · rw [wsh_row] at hyes2; exact hyes2
                · exact hyes2
            refine jss_one (js_store (l := rs[l]) (j := h) (rv_bl (k := true) _ ⟨_, (h : Int), rv_ix (rv_var 2 rfl) (rv_var 4 rfl) t.ja hAl, rv_var 5 rfl, t.jr l _ hrl, ix_nat (by rw [rowV_len]; exact hh), ?_⟩))
            refine ⟨o3, _, G', rfl, eG'', eG1, eG2', (t.set hrl).congr fun i _ => ?_⟩
            by_cases hi : i = l
            · subst hi
              rw [if_pos rfl, rowV_set]
              refine rowV_congr fun j _ => ?_
              by_cases hj : j = h
              · subst hj
                rw [if_pos rfl, if_neg (Nat.lt_irrefl i), if_pos ⟨rfl, Nat.lt_succ_self j⟩]
                show true = (wsh ps k i j || (wsh ps k i k && wsh ps k k j))
                rw [hyes, e2]; simp
              · rw [if_neg hj, if_neg (Nat.lt_irrefl i), if_neg (Nat.lt_irrefl i)]
                by_cases hjh : j < h
                · rw [if_pos ⟨rfl, hjh⟩, if_pos ⟨rfl, by omega⟩]
                · rw [if_neg (fun z => hjh z.2), if_neg (fun z => hj (by omega))]
            · rw [if_neg hi]
              refine rowV_congr fun j _ => ?_
              rw [if_neg (show ¬ (i = l ∧ j < h) from fun z => hi z.1), if_neg (show ¬ (i = l ∧ j < h + 1) from fun z => hi z.1)]
          · have e2 : wsh ps k k h = false := by
              split at hno2
              · rw [wsh_row] at hno2; exact hno2
              · split at hno2
                · rw [wsh_row] at hno2; exact hno2
                · exact hno2
            refine ⟨o3, _, G', rfl, eG'', eG1, eG2', t.congr fun i _ => rowV_congr fun j _ => ?_⟩
            by_cases hi : i = l
            · subst hi
              rw [if_neg (Nat.lt_irrefl i), if_neg (Nat.lt_irrefl i)]
              by_cases hj : j = h
              · subst hj
                rw [if_neg (fun z => Nat.lt_irrefl _ z.2), if_pos ⟨rfl, Nat.lt_succ_self j⟩]
                show wsh ps k i j = (wsh ps k i j || (wsh ps k i k && wsh ps k k j))
                rw [e2, Bool.and_false, Bool.or_false]
              · by_cases hjh : j < h
                · rw [if_pos ⟨rfl, hjh⟩, if_pos ⟨rfl, by omega⟩]
                · rw [if_neg (fun z => hjh z.2), if_neg (fun z => hj (by omega))]
            · rw [if_neg (show ¬ (i = l ∧ j < h) from fun z => hi z.1), if_neg (show ¬ (i = l ∧ j < h + 1) from fun z => hi z.1)]
        · rintro G0'' σ' H' eF'' ⟨o3, o5, G', rfl, eG'', eG1, eG2', t⟩
          rw [rngN_len] at t
          refine ⟨o3, _, o5, G', rfl, eG1, eG2', t.congr fun i _ => rowV_congr fun j hj => ?_⟩
          by_cases hi : i < l
          · rw [if_pos hi, if_pos (by omega)]
          · rw [if_neg hi]
            by_cases hil : i = l
            · rw [if_pos ⟨hil, hj⟩, if_pos (by omega)]
            · rw [if_neg (fun z => hil z.1), if_neg (by omega)]
      · rw [if_neg (Nat.lt_irrefl l)] at hno
        refine ⟨o3, _, o5, G', rfl, eG', eG0, t.congr fun i _ => ?_⟩
        by_cases hi : i < l
        · rw [if_pos hi, if_pos (by omega)]
        · rw [if_neg hi]
          by_cases hil : i = l
          · subst hil
            rw [if_pos (Nat.lt_succ_self i)]
            refine rowV_congr fun j _ => ?_
            show wsh ps k i j = (wsh ps k i j || (wsh ps k i k && wsh ps k k j))
            rw [hno, Bool.false_and, Bool.or_false]
          · rw [if_neg (by omega)]
    · rintro G0' σ' H' eF' ⟨o3, o4, o5, G', rfl, eG', eG0, t⟩
      rw [rngN_len] at t
      exact ⟨o3, o4, o5, _, G', rfl, eG0, t.congr fun i hi => by rw [if_pos (by omega)]⟩
  · rintro G0 σ' H' eF ⟨o3, o4, o5, o6, G', rfl, eG, t⟩
    rw [rngN_len] at t
    obtain ⟨G3, e3, g3, r3, k3⟩ := t.known (ds := (List.range n).map fun i => dRow n (wsh ps n i)) (fun i hi => ⟨_, dTab_at (by omega), rowV_dq n _⟩) (by rw [dTab_len]; exact hrs)
    exact jss_one (js_retD g3 (jd_var 2 rfl k3) fun v d G J r4 ed kd => by subst ed; exact hR v G J (r3.trans r4 g) kd)
end
end Dw
/-! The stream of draws. -/
namespace Dw
open PySem PySem.Spec PyProof.Rows L2 -- (Dw)
def StrAt (H : Hp) (s : Addr) : Prop := ∃ b c d : Int, H s = some (.lst [.int b, .int c, .int d])
def Ws (s : Addr) : Wo := ⟨fun a => a = s, fun H => StrAt H s, fun {H a} ⟨b, c, d, h⟩ e => ⟨.lst [.int b, .int c, .int d], by rw [show a = s from e]; exact h⟩, fun e ⟨b, c, d, h⟩ => ⟨b, c, d, e _ _ h⟩,
  fun {H p xs ys} n _ ⟨b, c, d, h⟩ => ⟨b, c, d, by rw [upd_ne (show s ≠ p from fun e => n e.symm)]; exact h⟩, fun {H p C dx fs gs} n _ ⟨b, c, d, h⟩ => ⟨b, c, d, by rw [upd_ne (show s ≠ p from fun e => n e.symm)]; exact h⟩⟩
theorem Gr.str {F H : Hp} {s : Addr} {b c d : Int} (g : Good (Ws s) F H) : Gr (Ws s) F H F (upd H s (.lst [.int b, .int c, .int d])) := by
  have hF : F s = none := g.mf s rfl
  exact ⟨Ex.refl F, g.fh.mut hF, fun a o n e => by rw [upd_ne (show a ≠ s from n)]; exact e, ⟨b, c, d, upd_same⟩, fun _ _ _ => rfl⟩
/-- a promise by data, of a def whose first argument is the stream -/
def spS (S : List PyData → (PyData → Prop) → Prop) : Sp := fun vs H Q _ => ∃ s vs' F ds, vs = .ref s :: vs' ∧ Good (Ws s) F H ∧ DqAll F vs' ds ∧ S ds (fun d => ∀ v G J, Gr (Ws s) F H G J → Dq G v d → Q v J)
theorem spS_len {S : List PyData → (PyData → Prop) → Prop} {n : Nat} (h : ∀ ds R, S ds R → ds.length + 1 = n) : ∀ vs H Q E, spS S vs H Q E → vs.length = n := by
  intro vs H Q E ⟨s, vs', F, ds, e, _, k, q⟩
  rw [e, List.length_cons, k.len]; exact h _ _ q
theorem RV.q {X : Cx} {e : Expr} {σ : St} {H : Hp} {v : V} {Q : VK} (h : RV X e σ H v) (q : Q v H) : JE X e σ H Q := h Q q
section
variable {W : Wo} {X : Cx} {a e b : Expr} {es : List Expr} {σ : St} {F H : Hp} {P : PyData → Prop} {pos p : Pos} {n : Str} {j k : Nat} {ps : List Str} {s : Addr}
theorem jd_fnS {S : List PyData → (PyData → Prop) → Prop} {Ps : List PyData → Prop} (sb : Sub (Ws s) W) (kn : Kn X.prog X.w X.K X.mg X.base n j ps (spS S)) (hr : Room k X.A) (h0 : ∀ H, RV X a σ H (.ref s)) (ha : JDs W X es σ F Ps) (hS : ∀ ds R, Ps ds → (∀ d, P d → R d) → S ds R)
    (hj : j ≤ k := by decide) (hg : Gl X n := by rfl) (hdb : (n == ("__debug__" : Str)) = false := by decide)
    (he : starEach (a :: es) X.env = (false, eval a X.env) :: starEach es X.env := by rfl) (hpl : (backTo pos (starEach es X.env)).any (·.1) = false := by rfl) : JD W X (.Call (.Name n p) (a :: es) [] pos) σ F P := fun H g Q q =>
  je_call kn hr (ja_of (pa_cons pe_self pa_self he) (h0 H _ (ha H g _ fun vs ds G J r pd kd => ⟨s, vs, G, ds, rfl, (r.good g).sub sb, kd, hS ds _ pd fun d pd' v G' J' r' kd' => q v d G' J' (r.trans (r'.sub sb (r.good g)) g) pd' kd'⟩))) hj hg hdb he hpl
theorem rv_mul {i j : Int} (ha : RV X a σ H (.int i)) (hb : RV X b σ H (.int j)) (hc : CMul i j) : RV X (.BinOp a .Mult b pos) σ H (.int (i * j)) := rv_op op_mul ha hb fun Q q => ⟨i, j, rfl, rfl, hc, q⟩
theorem rv_mod {i j : Int} (ha : RV X a σ H (.int i)) (hb : RV X b σ H (.int j)) (hc : 0 < j) : RV X (.BinOp a .Mod b pos) σ H (.int (i % j)) := rv_op op_mod ha hb fun Q q => ⟨i, j, rfl, rfl, hc, q⟩
theorem rv_div {i j : Int} (ha : RV X a σ H (.int i)) (hb : RV X b σ H (.int j)) (hc : CDiv i j) : RV X (.BinOp a .FloorDiv b pos) σ H (.int (i / j)) := rv_op op_fdiv ha hb fun Q q => ⟨i, j, rfl, rfl, hc, q⟩
theorem rv_sub {i j : Int} (ha : RV X a σ H (.int i)) (hb : RV X b σ H (.int j)) : RV X (.BinOp a .Sub b pos) σ H (.int (i - j)) := rv_op op_sub ha hb fun Q q => ⟨i, j, rfl, rfl, q⟩
theorem rv_pow {i j : Int} (ha : RV X a σ H (.int i)) (hb : RV X b σ H (.int j)) (hc : CPow i j) : RV X (.BinOp a .Pow b pos) σ H (.int (i ^ j.toNat)) := rv_op op_pow ha hb fun Q q => ⟨i, j, rfl, rfl, hc, q⟩
theorem rv_toInt {i : Int} (hm : X.mg "int" = none) (ha : RV X a σ H (.int i)) (hg : Gl X "int" := by rfl) (hs : starEach [a] X.env = (false, eval a X.env) :: starEach [] X.env := by rfl) (hpl : (backTo pos (starEach [] X.env)).any (·.1) = false := by rfl) : RV X (.Call (.Name "int" p) [a] [] pos) σ H (.int i) := fun Q q =>
  je_of (pe_callTy call_int1 hg hm PyProof.Rows.boot_int (pa_cons pe_self pa_nil hs) (by decide) (by decide) hs hpl) (ha _ (.inl ⟨i, rfl, q⟩))
theorem rt_ge {i j : Int} (ha : RV X a σ H (.int i)) (hb : RV X b σ H (.int j)) : RT X (.Compare a [.GtE] [b] pos) σ H (decide (j ≤ i)) := rt_cmp op_ge ha hb fun Q q => ⟨i, j, rfl, rfl, q⟩
theorem rt_lt {i j : Int} (ha : RV X a σ H (.int i)) (hb : RV X b σ H (.int j)) : RT X (.Compare a [.Lt] [b] pos) σ H (decide (i < j)) := rt_cmp op_lt ha hb fun Q q => ⟨i, j, rfl, rfl, q⟩
theorem js_setR (i : Nat) {x : Str} {px : Pos} {v : V} {D : Ends} (hN : X.N.Nodup) (he : RV X e σ H v) (h : D.nx (σ.set i (some v)) H) (hi : X.N[i]? = some x := by rfl) (hx : Loc X.env.scope x := by first | exact .inl rfl | exact .inr rfl)
    (hs : swapsWith e (some (.Name x px)) pos.line X.env = pure false := by rfl) (hf : X.fn x = true ∨ X.env.scope.names.lookup x = some .local := by first | exact .inl rfl | exact .inr rfl) : JS X (.Assign [.Name x px] e pos) σ H D :=
  js_set i hN (he _ h) hi hx hs hf
end
def S_draw (ds : List PyData) (R : PyData → Prop) : Prop := ∃ n : Nat, ds = [.int (n : Int)] ∧ 0 < n ∧ n ≤ 100000 ∧ ∀ k : Nat, k < n → R (.int (k : Int))
section
variable {P : Program} {w : World} {K : PySem.W.Frag} {mg : Str → Option Value} {base : Heap} -- (Dw)
theorem ok_draw (F : At K mg "_law_draw" (topS 60)) (B : Bl mg) : Kn P w K mg base "_law_draw" 1 ["_law_stream_here", "_law_many"] (spS S_draw) := by
  refine kn60 F (spS_len fun ds R ⟨_, e, _⟩ => by rw [e]; rfl) fun fa cdv A outer s H vs Q E hr ⟨t, vs', Fk, ds, ev, g, kd, n, ed, h0, hn, hR⟩ => ?_
  subst ed ev
  obtain ⟨v, rfl, k1⟩ := dq1 kd
  cases k1
  obtain ⟨b, c, d, ht⟩ := g.ok
  have i0 : atI [V.int b, V.int c, V.int d] 0 = some (.int b) := rfl
  have i1 : atI [V.int b, V.int c, V.int d] 1 = some (.int c) := rfl
  have i2 : atI [V.int b, V.int c, V.int d] 2 = some (.int d) := rfl
  have fin : ∀ (z : Int) (b c d : Int), 0 ≤ z → z < (n : Int) → Q (.int z) (upd H t (.lst [.int b, .int c, .int d])) := fun z b c d z0 zn => by
    have := hR z.toNat (by omega) (.int z) Fk _ (Gr.str (b := b) (c := c) (d := d) g) (by rw [show ((z.toNat : Nat) : Int) = z by omega]; exact .int z)
    exact this
  refine jss_cons (js_ifR (rt_gt (rv_ix (rv_var 0 rfl) rv_int ht i0) rv_int) (fun _ => ?_) (fun _ => jss_nil ?_))
  · refine jss_cons (js_setR 2 sc60.nd (rv_mod (rv_toInt B.int (rv_ix (rv_var 0 rfl) rv_int ht i0)) (rv_var 1 rfl) (by omega)) ?_)
    refine jss_cons (js_store (l := t) (j := 0) (rv_div (rv_ix (rv_var 0 rfl) rv_int ht i0) (rv_var 1 rfl) ⟨by omega, by omega⟩ _ ⟨_, 0, rv_var 0 rfl, rv_int, ht, rfl, ?_⟩))
    exact jss_one (js_ret (RV.q (rv_var 2 rfl) (fin _ _ _ _ (Int.emod_nonneg _ (by omega)) (Int.emod_lt_of_pos _ (by omega)))))
  · refine jss_cons (js_store (l := t) (j := 1) (rv_add (rv_ix (rv_var 0 rfl) rv_int ht i1) rv_int _ ⟨_, 1, rv_var 0 rfl, rv_int, ht, rfl, ?_⟩))
    have ht2 : upd H t (.lst ([V.int b, V.int c, V.int d].set 1 (.int (c + 1)))) t = some (.lst [.int b, .int (c + 1), .int d]) := upd_same
    have j1 : atI [V.int b, V.int (c + 1), V.int d] 1 = some (.int (c + 1)) := rfl
    have j2 : atI [V.int b, V.int (c + 1), V.int d] 2 = some (.int d) := rfl
    have big : ∀ x : Int, 0 ≤ x % 2147483647 ∧ x % 2147483647 < 2147483647 := fun x => ⟨Int.emod_nonneg _ (by decide), Int.emod_lt_of_pos _ (by decide)⟩
    have big2 : ∀ x : Int, 0 ≤ x % 2147483629 ∧ x % 2147483629 < 2147483629 := fun x => ⟨Int.emod_nonneg _ (by decide), Int.emod_lt_of_pos _ (by decide)⟩
    have m64 : (2147483647 : Int) < 2 ^ 64 := by decide
    refine jss_cons (js_setR 3 sc60.nd (rv_mod (rv_toInt B.int (rv_add (rv_mul (rv_ix (rv_var 0 rfl) rv_int ht2 j2) rv_int (.inr ⟨by decide, by decide⟩)) (rv_mul (rv_ix (rv_var 0 rfl) rv_int ht2 j1) rv_int (.inr ⟨by decide, by decide⟩)))) rv_int (by decide)) ?_)
    have q1 := big (d * 48271 + (c + 1) * 69621)
    generalize (d * 48271 + (c + 1) * 69621) % 2147483647 = x1 at q1 ⊢
    refine jss_cons (js_setR 3 sc60.nd (rv_mod (rv_toInt B.int (rv_add (rv_add (rv_mul (rv_var 3 rfl) (rv_var 3 rfl) (.inl ⟨by omega, by omega⟩)) (rv_mul (rv_ix (rv_var 0 rfl) rv_int ht2 j1) rv_int (.inr ⟨by decide, by decide⟩))) (rv_div (rv_var 3 rfl) rv_int ⟨by decide, by decide⟩))) rv_int (by decide)) ?_)
    have q2 := big2 (x1 * x1 + (c + 1) * 40692 + x1 / 1024)
    generalize (x1 * x1 + (c + 1) * 40692 + x1 / 1024) % 2147483629 = x2 at q2 ⊢
    refine jss_cons (js_setR 3 sc60.nd (rv_mod (rv_toInt B.int (rv_add (rv_mul (rv_var 3 rfl) rv_int (.inr ⟨by decide, by decide⟩)) (rv_ix (rv_var 0 rfl) rv_int ht2 j2))) rv_int (by decide)) ?_)
    exact jss_one (js_ret (rv_mod (rv_toInt B.int (rv_div (rv_var 3 rfl) rv_int ⟨by decide, by decide⟩)) (rv_var 1 rfl) (by omega) _ (fin _ _ _ _ (Int.emod_nonneg _ (by omega)) (Int.emod_lt_of_pos _ (by omega)))))
end
end Dw
/-! Own lists made of others; _law_mixed. -/
namespace Dw
open PySem PySem.Spec PyProof.Rows L2 -- (Dw)
theorem Own.ofNew {W : Wo} {F H G J : Hp} {p : Addr} {vs : List V} {ds : List PyData} (g : Good W F H) (r : Gr W F H G J) (h : J p = none) (k : DqAll G vs ds) : Own W F H p G (upd J p (.lst vs)) ds := by
  have h0 := r.fresh h
  have hG := (r.good g).fh.no h
  exact ⟨r.trans (Gr.own (r.good g) h) g, (r.good g).own h, h0, g.nom h0, vs, upd_same, hG, k⟩
section
variable {W : Wo} {X : Cx} {o a e : Expr} {σ : St} {F H G J : Hp} {p : Addr} {ds es : List PyData} {pos apos cpos p1 : Pos} {P : PyData → Prop} {D : Ends} {Q : VK}
/-- x = list(e), one's own -/
theorem js_listO (i : Nat) {x : Str} {px : Pos} (hN : X.N.Nodup) (hm : X.mg "list" = none) (g : Good W F H) (r : Gr W F H G J) (ha : JD W X a σ G (Is (.list ds))) (h : ∀ l G2 J2, Ex G G2 → Own W F H l G2 J2 ds → D.nx (σ.set i (some (.ref l))) J2) (hg : Gl X "list" := by rfl)
    (hs : starEach [a] X.env = (false, eval a X.env) :: starEach [] X.env := by rfl) (hpl : (backTo cpos (starEach [] X.env)).any (·.1) = false := by rfl) (hi : X.N[i]? = some x := by rfl) (hx : Loc X.env.scope x := by first | exact .inl rfl | exact .inr rfl)
    (hsw : swapsWith (.Call (.Name "list" p1) [a] [] cpos) (some (.Name x px)) pos.line X.env = pure false := by rfl) (hf : X.fn x = true ∨ X.env.scope.names.lookup x = some .local := by first | exact .inl rfl | exact .inr rfl) :
    JS X (.Assign [.Name x px] (.Call (.Name "list" p1) [a] [] cpos) pos) σ J D :=
  js_set i hN (je_of (pe_callTy call_list_of hg hm PyProof.Rows.boot_list (pa_cons pe_self pa_nil hs) (by decide) (by decide) hs hpl) (ha.dq (r.good g) fun v d G2 J2 r2 g2 ed kd => by
    subst ed
    cases kd with
    | lst hA hk => exact ⟨_, _, rfl, .inl (SqL.of (g2.fh _ _ hA)), fun l hl => h l G2 _ r2.fg (.ofNew g (r.trans r2 g) hl hk)⟩)) hi hx hsw hf
/-- x = x + e, a new one of one's own -/
theorem js_catO (i : Nat) {x : Str} {px q2 : Pos} (hN : X.N.Nodup) (g : Good W F H) (ow : Own W F H p G J ds) (h0 : RV X a σ J (.ref p)) (he : JD W X e σ G (Is (.list es))) (hl : ds.length + es.length ≤ 100000)
    (h : ∀ l G2 J2, Ex G G2 → Own W F H l G2 J2 (ds ++ es) → D.nx (σ.set i (some (.ref l))) J2) (hi : X.N[i]? = some x := by rfl) (hx : Loc X.env.scope x := by first | exact .inl rfl | exact .inr rfl)
    (hsw : swapsWith (.BinOp a .Add e q2) (some (.Name x px)) pos.line X.env = pure false := by rfl) (hf : X.fn x = true ∨ X.env.scope.names.lookup x = some .local := by first | exact .inl rfl | exact .inr rfl) :
    JS X (.Assign [.Name x px] (.BinOp a .Add e q2) pos) σ J D := by
  obtain ⟨vs, h1, h2, h3⟩ := ow.ex
  refine js_set i hN (je_of (pe_op op_cat pe_self pe_self) (h0 _ (he.dq ow.gd fun v d G2 J2 r2 g2 ed kd => ?_))) hi hx hsw hf
  subst ed
  cases kd with
  | lst hA hk =>
    refine ⟨_, _, _, _, rfl, rfl, r2.hj _ _ ow.nm h1, g2.fh _ _ hA, by rw [h3.len, hk.len]; exact Nat.le_trans hl (by decide), fun l hl => ?_⟩
    exact h l G2 _ r2.fg (.ofNew g (ow.gr.trans r2 g) hl ((h3.up r2.fg).app hk))
/-- o.pop(e) -/
theorem je_popO (ow : Own W F H p G J ds) (ho : RV X o σ J (.ref p)) (hz : ds.length ≤ 100000) (he : ∀ G', Ex G G' → Dq G' (.ref p) (.list ds) → JD W X e σ G' (fun d => ∃ k : Nat, k < ds.length ∧ d = .int (k : Int)))
    (h : ∀ (k : Nat) v d J1 vs, Gr W G J G J1 → J1 p = some (.lst vs) → DqAll G vs ds → vs[k]? = some v → ds[k]? = some d → Q v (upd J1 p (.lst (vs.eraseIdx k))))
    (hbase : attributeBase o "pop" X.env (eval o X.env) = eval o X.env := by rfl)
    (hfew : ((backTo cpos (starEach [e] X.env)).all (fun x => !x.1) && (backToKw cpos (keywordEach [] X.env)).all (fun x => x.1.isSome) -- (Dw)
      && decide (([e] : List Expr).length + ([] : List Keyword).length + (if ([] : List Keyword).isEmpty then 0 else 1) < 30)) = true := by rfl) -- (Dw)
    (hline : (apos.endLine == cpos.line) = true := by rfl) (hs : starEach [e] X.env = (false, eval e X.env) :: starEach [] X.env := by rfl) (hplain : (backTo cpos (starEach [] X.env)).any (·.1) = false := by rfl) : -- (Dw)
    JE X (.Call (.Attribute o "pop" apos) [e] [] cpos) σ J Q := by
  obtain ⟨vs, h1, h2, h3⟩ := ow.ex
  obtain ⟨G', e', g', r', k'⟩ := ow.known
  refine je_of (pe_bm PySem.F.plainAttrs_list PySem.F.slot_list_pop PySem.F.type_list_pop mt_popAt pe_self (pa_cons pe_self pa_nil hs) hbase hfew hline hs hplain) (ho _ ⟨.inl ⟨rfl, vs, SqL.of h1⟩, (he G' e' k').dq g' fun v d G2 J2 r2 g2 pd kd => ?_⟩)
  obtain ⟨k, hk, rfl⟩ := pd
  cases kd
  have rr : Gr W G J G J2 := r2.drop e'
  have hl := h3.len
  have hv : vs[k]? = some vs[k] := List.getElem?_eq_getElem (by omega)
  refine ⟨p, vs, (k : Int), k, vs[k], rfl, rfl, r2.hj _ _ ow.nm h1, by omega, by omega, (ixN_seq (ix_nat (by omega))).1, hv, ?_⟩
  exact h k _ _ J2 vs rr (r2.hj _ _ ow.nm h1) h3 hv (List.getElem?_eq_getElem hk)
end
theorem perm_map_inv {α β : Type} {f : α → β} {ys : List β} {xs : List α} (h : ys.Perm (xs.map f)) : ∃ zs : List α, ys = zs.map f ∧ zs.Perm xs := by
  generalize hz : xs.map f = l at h
  induction h generalizing xs with
  | nil =>
    have : xs = [] := List.map_eq_nil_iff.mp hz
    subst this
    exact ⟨[], rfl, .refl _⟩
  | @cons b l1 l2 p ih =>
    cases xs with
    | nil => simp at hz
    | cons a xs =>
      rw [List.map_cons, List.cons.injEq] at hz
      obtain ⟨zs, e, q⟩ := ih hz.2
      exact ⟨a :: zs, by rw [e, ← hz.1]; rfl, q.cons a⟩
  | @swap a b l =>
    cases xs with
    | nil => simp at hz
    | cons c xs =>
      cases xs with
      | nil => simp at hz
      | cons d xs =>
        rw [List.map_cons, List.map_cons, List.cons.injEq, List.cons.injEq] at hz
        obtain ⟨h1, h2, h3⟩ := hz
        exact ⟨d :: c :: xs, by rw [← h1, ← h2, ← h3]; rfl, List.Perm.swap c d xs⟩
  | trans p q ih1 ih2 =>
    obtain ⟨zs, e, q'⟩ := ih2 hz
    obtain ⟨ws, e', q''⟩ := ih1 e.symm
    exact ⟨ws, e', q''.trans q'⟩
theorem perm_erase {α : Type} {l : List α} {k : Nat} {a : α} (h : l[k]? = some a) : (a :: l.eraseIdx k).Perm l := by
  induction l generalizing k with -- (Dw)
  | nil => simp at h
  | cons b l ih =>
    cases k with
    | zero =>
      obtain rfl : b = a := by simpa using h
      exact .refl _
    | succ k =>
      have h' : l[k]? = some a := by simpa using h
      exact (List.Perm.swap b a _).trans ((ih h').cons b)
def S_mixed (ds : List PyData) (R : PyData → Prop) : Prop := ∃ xs : List PyData, ds = [.list xs] ∧ xs.length ≤ 10000 ∧ ∀ ys : List PyData, ys.Perm xs → R (.list ys)
section
variable {P : Program} {w : World} {K : PySem.W.Frag} {mg : Str → Option Value} {base : Heap} -- (Dw)
abbrev DrawK (P : Program) (w : World) (K : PySem.W.Frag) (mg : Str → Option Value) (base : Heap) : Prop := Kn P w K mg base "_law_draw" 1 ["_law_stream_here", "_law_many"] (spS S_draw)
/-- _law_draw(stream, e) -/
theorem jd_draw {W : Wo} {X : Cx} {e : Expr} {σ : St} {F : Hp} {q1 q2 pos : Pos} {s : Addr} {x : Str} {n k : Nat} (kn : Kn X.prog X.w X.K X.mg X.base "_law_draw" 1 ["_law_stream_here", "_law_many"] (spS S_draw)) (sb : Sub (Ws s) W) (hr : Room k X.A) (h0 : ∀ H, RV X (.Name x q1) σ H (.ref s)) (he : JD W X e σ F (Is (.int (n : Int)))) (hn : 0 < n) (hn2 : n ≤ 100000) (hk : 1 ≤ k := by decide)
    (hg : Gl X "_law_draw" := by rfl) (hs : starEach [e] X.env = (false, eval e X.env) :: starEach [] X.env := by rfl) (hs2 : starEach [.Name x q1, e] X.env = (false, eval (.Name x q1) X.env) :: starEach [e] X.env := by rfl)
    (hpl : (backTo pos (starEach [e] X.env)).any (·.1) = false := by rfl) : JD W X (.Call (.Name "_law_draw" q2) [.Name x q1, e] [] pos) σ F (fun d => ∃ k : Nat, k < n ∧ d = .int (k : Int)) :=
  jd_fnS sb kn hr h0 (jds_is he jds_nil hs) (fun ds R e q => ⟨n, e, hn, hn2, fun k hk => q _ ⟨k, hk, rfl⟩⟩) hk hg (by decide) hs2 hpl
theorem ok_mixed (F : At K mg "_law_mixed" (topS 61)) (B : Bl mg) (k60 : DrawK P w K mg base) : Kn P w K mg base "_law_mixed" 2 ["_law_stream_here", "_law_items"] (spS S_mixed) := by
  refine kn61 F (spS_len fun ds R ⟨_, e, _⟩ => by rw [e]; rfl) fun fa cdv A outer s H vs Q E hr ⟨t, vs', Fk, ds, ev, g, kd, xs, ed, hl, hR⟩ => ?_
  subst ed ev
  obtain ⟨v, rfl, k1⟩ := dq1 kd
  refine jss_cons (js_listO 2 sc61.nd B.list g g.gr (jd_var 1 rfl k1) fun p G1 J1 e1 o1 => ?_)
  refine jss_cons (js_newO 3 sc61.nd g o1.gr fun q o2 hq => ?_)
  have hpq : p ≠ q := by
    obtain ⟨_, h1, _⟩ := o1.ex
    exact ne_of_none h1 hq
  have o1' := o1.other hpq o2
  refine jss_cons (js_for (ji_range B.range (by omega) (jd_len B.len (jd_var 1 rfl (k1.up e1)))) (pg_name (i := 4) sc61.nd rfl (.inl rfl)) o2.gd
    (fun G0 i σ' H' => ∃ lv G' d1 d2, σ' = [some (.ref t), some v, some (.ref p), some (.ref q), lv] ∧ Ex G0 G' ∧ Own (Ws t) Fk H p G' H' d1 ∧ Own (Ws t) Fk H q G' H' d2 ∧ (d2 ++ d1).Perm xs ∧ d2.length = i) (fun G0 i σ' H' ⟨_, G', _, _, _, e, o, _⟩ => e.trans o.gd.fh)
    (fun G J r g' => ⟨none, G, xs, [], rfl, Ex.refl G, o1'.step g r, o2.step g r, .refl _, rfl⟩) ?_ ?_)
  · rintro G0 i x d σ' H' eF hd kx ⟨lv, G', d1, d2, rfl, eG, o1, o2, hp, hi⟩
    obtain ⟨hlt, rfl⟩ := rngN_of hd
    cases kx
    have hlen := hp.length_eq
    rw [List.length_append] at hlen
    obtain ⟨ws, w1, w2, w3⟩ := o2.ex
    refine jss_one (js_expr (je_app (rv_var 3 rfl) w1 (je_popO o1 (rv_var 2 rfl) (by omega) (fun G2 e2 k2 => jd_draw k60 (Sub.refl _) hr (fun H => rv_var 0 rfl) (jd_len B.len (jd_var 2 rfl k2)) (by omega) (by omega)) fun k z dz J1 us r1 h1 hk1 hv hdz => ?_)))
    have o1n := (o1.step g r1).put h1 (hk1.erase k)
    have o2n := (o2.step g r1).other hpq.symm o1n
    refine ⟨ws, by rw [upd_ne hpq.symm]; exact r1.hj _ _ o2.nm w1, by rw [w3.len]; omega, ?_⟩
    have o2m := o2n.put (ys := ws ++ [z]) (es := d2 ++ [dz]) (by rw [upd_ne hpq.symm]; exact r1.hj _ _ o2.nm w1) (w3.app (.one (hk1.at_ hv hdz)))
    refine ⟨_, G', d1.eraseIdx k, d2 ++ [dz], rfl, eG, o1n.other hpq o2m, o2m, ?_, by rw [List.length_append, hi]; rfl⟩
    rw [List.append_assoc]
    exact ((perm_erase hdz).append_left d2).trans hp
  · rintro G0 σ' H' eF ⟨lv, G', d1, d2, rfl, eG, o1, o2, hp, hi⟩
    rw [rngN_len] at hi
    have hlen := hp.length_eq
    rw [List.length_append] at hlen
    have e0 : d1 = [] := List.length_eq_zero_iff.mp (by omega)
    subst e0
    rw [List.append_nil] at hp
    obtain ⟨G2, e2, g2, r2, k2⟩ := o2.known
    exact jss_one (js_retD g2 (jd_var 3 rfl k2) fun v d G J r3 ed kd => hR d2 hp v G J (r2.trans r3 g) (ed ▸ kd))
end
end Dw
/-! The generators of pairs, spans, arcs. -/
namespace Dw
open PySem PySem.Spec PyProof.Rows L2 -- (Dw)
/-- each pair leads forward in the names -/
def PN (nm : List Nat) (ps : List (Nat × Nat)) : Prop := ∀ p ∈ ps, ∃ l h : Nat, l < h ∧ nm[l]? = some p.1 ∧ nm[h]? = some p.2
theorem PN.nil {nm : List Nat} : PN nm [] := fun p h => by simp at h
theorem PN.app {nm : List Nat} {ps qs : List (Nat × Nat)} (h : PN nm ps) (k : PN nm qs) : PN nm (ps ++ qs) := fun p hp => (List.mem_append.mp hp).elim (h p) (k p)
theorem PN.one {nm : List Nat} {p : Nat × Nat} {l h : Nat} (e : l < h) (a : nm[l]? = some p.1) (b : nm[h]? = some p.2) : PN nm [p] := fun q hq => by
  rw [List.mem_singleton] at hq; subst hq; exact ⟨l, h, e, a, b⟩
def S_anypairs (ds : List PyData) (R : PyData → Prop) : Prop := ∃ n : Nat, ds = [.int (n : Int)] ∧ n ≤ 40 ∧ ∀ (nm : List Nat) (ps : List (Nat × Nat)), nm.Perm (List.range n) → PN nm ps → ps.length ≤ 2000 → R (dPN ps)
def S_anyspans (ds : List PyData) (R : PyData → Prop) : Prop := ∃ (n m : Nat) (l : Int), ds = [.int (n : Int), .int (m : Int), .int l] ∧ n ≤ 40 ∧ 0 < m ∧ m ≤ 1000 ∧ l ≤ 1000 ∧ ∀ sp : List (Nat × Nat), sp.length = n → (∀ p ∈ sp, p.1 ≤ p.2) → R (dPN sp)
def S_anyarcs (ds : List PyData) (R : PyData → Prop) : Prop := ∃ (n : Nat), ds = [.int (n : Int)] ∧ n ≤ 40 ∧ ∀ sp : List (Nat × Nat), sp.length = n → (∀ p ∈ sp, p.1 < p.2) → R (dPN sp)
theorem uptoD (n : Nat) : dInts (upto n) = .list ((List.range n).map fun (k : Nat) => .int (k : Int)) := by unfold dInts upto; rw [List.map_map]; rfl
section
variable {P : Program} {w : World} {K : PySem.W.Frag} {mg : Str → Option Value} {base : Heap} -- (Dw)
abbrev MixK (P : Program) (w : World) (K : PySem.W.Frag) (mg : Str → Option Value) (base : Heap) : Prop := Kn P w K mg base "_law_mixed" 2 ["_law_stream_here", "_law_items"] (spS S_mixed)
/-- _law_mixed(stream, list(range(n))) -/
theorem jd_names {W : Wo} {X : Cx} {e : Expr} {σ : St} {F : Hp} {q1 q2 q3 q4 q5 q6 pos : Pos} {s : Addr} {x : Str} {n k : Nat} (kn : Kn X.prog X.w X.K X.mg X.base "_law_mixed" 2 ["_law_stream_here", "_law_items"] (spS S_mixed)) (sb : Sub (Ws s) W) (hr : Room k X.A) (hc : X.calm = true) (hl : X.mg "list" = none) (hrg : X.mg "range" = none)
    (h0 : ∀ H, RV X (.Name x q1) σ H (.ref s)) (he : JD W X e σ F (Is (.int (n : Int)))) (hn : n ≤ 40) (hk : 2 ≤ k := by decide)
    (hg : Gl X "_law_mixed" := by rfl) (hgl : Gl X "list" := by rfl) (hgr : Gl X "range" := by rfl) (hs0 : starEach [e] X.env = (false, eval e X.env) :: starEach [] X.env := by rfl)
    (hs1 : starEach [.Call (.Name "range" q3) [e] [] q4] X.env = (false, eval (.Call (.Name "range" q3) [e] [] q4) X.env) :: starEach [] X.env := by rfl)
    (hs : starEach [.Call (.Name "list" q5) [.Call (.Name "range" q3) [e] [] q4] [] q6] X.env = (false, eval (.Call (.Name "list" q5) [.Call (.Name "range" q3) [e] [] q4] [] q6) X.env) :: starEach [] X.env := by rfl)
    (hs2 : starEach [.Name x q1, .Call (.Name "list" q5) [.Call (.Name "range" q3) [e] [] q4] [] q6] X.env = (false, eval (.Name x q1) X.env) :: starEach [.Call (.Name "list" q5) [.Call (.Name "range" q3) [e] [] q4] [] q6] X.env := by rfl)
    (hpl : (backTo pos (starEach [.Call (.Name "list" q5) [.Call (.Name "range" q3) [e] [] q4] [] q6] X.env)).any (·.1) = false := by rfl) :
    JD W X (.Call (.Name "_law_mixed" q2) [.Name x q1, .Call (.Name "list" q5) [.Call (.Name "range" q3) [e] [] q4] [] q6] [] pos) σ F (fun d => ∃ nm : List Nat, nm.Perm (List.range n) ∧ d = dInts (nats nm)) :=
  jd_fnS sb kn hr h0 (jds_is ((jd_listRange hc hl hrg (by omega) he hgl hgr hs0 hs1).is (uptoD n)) jds_nil hs) (fun ds R e q => ⟨_, e, by rw [List.length_map, List.length_range]; omega, fun ys hy => by
    obtain ⟨nm, rfl, hp⟩ := perm_map_inv hy
    have := q (dInts (nats nm)) ⟨nm, hp, rfl⟩
    rw [dIntsN] at this
    exact this⟩) hk hg (by decide) hs2 hpl
theorem nm_at {nm : List Nat} {n i : Nat} (h : nm.Perm (List.range n)) (hi : i < n) : ∃ x, nm[i]? = some x ∧ x < n ∧ ((nats nm).map PyData.int)[i]? = some (.int (x : Int)) := by
  have hl := h.length_eq
  rw [List.length_range] at hl
  have h1 : nm[i]? = some nm[i] := List.getElem?_eq_getElem (by omega)
  refine ⟨nm[i], h1, List.mem_range.mp (h.mem_iff.mp (List.mem_of_getElem? h1)), ?_⟩
  rw [nats_at (by omega), List.getD_eq_getElem?_getD, h1]
  rfl
theorem ok_anypairs (F : At K mg "_law_any_pairs" (topS 70)) (B : Bl mg) (k60 : DrawK P w K mg base) (k61 : MixK P w K mg base) : Kn P w K mg base "_law_any_pairs" 3 ["_law_stream_here", "_law_size"] (spS S_anypairs) := by
  refine kn70 F (spS_len fun ds R ⟨_, e, _⟩ => by rw [e]; rfl) fun fa cdv A outer s H vs Q E hr ⟨t, vs', Fk, ds, ev, g, kd, n, ed, hn, hR⟩ => ?_
  subst ed ev
  obtain ⟨v, rfl, k1⟩ := dq1 kd
  cases k1
  refine jss_cons (js_setD 2 sc70.nd g (jd_names k61 (Sub.refl _) hr rfl B.list B.range (fun H => rv_var 0 rfl) (jd_var 1 rfl (.int _)) hn) fun vN d G1 J1 r1 g1 pd kN => ?_)
  obtain ⟨nm, hp, rfl⟩ := pd
  refine jss_cons (js_setD 3 sc70.nd g1 (jd_ixP (P := fun d => ∃ m : Nat, 0 < m ∧ m ≤ 100 ∧ d = .int (m : Int)) (jd_list (P := Is (.list [.int 2, .int 3, .int 5, .int 9])) (jds_is jd_int (jds_is jd_int (jds_is jd_int (jds_is jd_int jds_nil)))) fun ds e => by subst e; exact ⟨by show 4 ≤ 100000; omega, rfl⟩)
    (jd_draw (n := 4) k60 (Sub.refl _) hr (fun H => rv_var 0 rfl) jd_int (by decide) (by decide)) fun x y ex ⟨k, hk, ey⟩ => ?_) fun vO d G2 J2 r2 g2 pd kO => ?_)
  · subst ex ey
    match k, hk with
    | 0, _ => exact ⟨_, 0, _, rfl, rfl, rfl, 2, by decide, by decide, rfl⟩
    | 1, _ => exact ⟨_, 1, _, rfl, rfl, rfl, 3, by decide, by decide, rfl⟩
    | 2, _ => exact ⟨_, 2, _, rfl, rfl, rfl, 5, by decide, by decide, rfl⟩
    | 3, _ => exact ⟨_, 3, _, rfl, rfl, rfl, 9, by decide, by decide, rfl⟩
  obtain ⟨m, m0, m1, rfl⟩ := pd
  cases kO
  refine jss_cons (js_newO 4 sc70.nd g (r1.trans r2 g) fun p o0 hp0 => ?_)
  have kN2 := kN.up r2.fg
  refine jss_cons (js_for (ji_range B.range (by omega) (jd_var 1 rfl (.int _))) (pg_name (i := 5) sc70.nd rfl (.inl rfl)) o0.gd
    (fun G0 i σ' H' => ∃ o5 o6 G' ps, σ' = [some (.ref t), some (.int (n : Int)), some vN, some (.int (m : Int)), some (.ref p), o5, o6] ∧ Ex G0 G' ∧ Ex G2 G' ∧ Own (Ws t) Fk H p G' H' (ps.map prN) ∧ PN nm ps ∧ ps.length ≤ i * n) (fun G0 i σ' H' ⟨_, _, G', _, _, e, _, o, _⟩ => e.trans o.gd.fh)
    (fun G J r g' => ⟨none, none, G, [], rfl, Ex.refl G, r.fg, o0.step g r, .nil, Nat.zero_le _⟩) ?_ ?_)
  · rintro G0 l x d σ' H' eF hd kx ⟨o5, o6, G', ps, rfl, eG, eG2, o, pn, hl⟩
    obtain ⟨hl', rfl⟩ := rngN_of hd
    cases kx
    refine jss_one (js_for (ji_range2 (lo := (l : Int) + 1) (hi := (n : Int)) (n := n - (l + 1)) B.range (by omega) (by omega) (jd_bin (jd_var 5 rfl (.int _)) jd_int od_add) (jd_var 1 rfl (.int _))) (pg_name (i := 6) sc70.nd rfl (.inl rfl)) o.gd
      (fun G0' i σ' H' => ∃ o6 G' ps, σ' = [some (.ref t), some (.int (n : Int)), some vN, some (.int (m : Int)), some (.ref p), some (.int (l : Int)), o6] ∧ Ex G0' G' ∧ Ex G0 G' ∧ Ex G2 G' ∧ Own (Ws t) Fk H p G' H' (ps.map prN) ∧ PN nm ps ∧ ps.length ≤ l * n + i) (fun G0' i σ' H' ⟨_, G', _, _, e, _, _, o, _⟩ => e.trans o.gd.fh)
      (fun G J r g' => ⟨o6, G, ps, rfl, Ex.refl G, eG.trans r.fg, eG2.trans r.fg, o.step g r, pn, hl⟩) ?_ ?_)
    · rintro G0' i x d σ' H' eF' hd kx ⟨o6, G', ps, rfl, eG', eG0, eG2', o, pn, hl⟩
      obtain ⟨hi, rfl⟩ := rng_of hd
      cases kx
      obtain ⟨xl, x1, x2, x3⟩ := nm_at hp hl'
      obtain ⟨xh, y1, y2, y3⟩ := nm_at (i := l + 1 + i) hp (by omega)
      have hsz : l * n + i ≤ 40 * 40 + 40 := Nat.add_le_add (Nat.mul_le_mul (by omega) hn) (by omega)
      have kN3 := kN2.up eG2'
      refine jss_one (js_ifO o g (P := fun _ => True) (fun G e k => jt_cmp (jd_draw k60 (Sub.refl _) hr (fun H => rv_var 0 rfl) (jd_var 3 rfl (.int _)) m0 (by omega)) jd_int fun x y ⟨k, _, ex⟩ ey => by
        subst ex ey
        obtain ⟨r, h1, h2⟩ := od_eqI (W := Ws t) (X := (cxOf CX0 P w K mg base N70 "_law_any_pairs" (defScope (topS 70)) fa cdv A outer s H E).nox) (i := (k : Int)) (j := 0)
        exact ⟨r, h1, fun F H g v u Q hv hu w => h2 F H g v u Q hv hu fun z d G J r ed kd => w z d G J r ⟨_, ed, trivial⟩ kd⟩) (fun J' _ o' => ?_) (fun J' _ o' => ?_))
      · refine jss_one (js_appO (P := Is (prN (xl, xh))) o' g (rv_var 4 rfl) (by rw [List.length_map]; omega) (jd_tup (jds_is (jd_ix (jd_var 2 rfl kN3) (jd_var 5 rfl (.int _)) x3) (jds_is (jd_ix (jd_var 2 rfl kN3) ((jd_var 6 rfl (.int _)).is (by rw [show (l : Int) + 1 + (i : Int) = ((l + 1 + i : Nat) : Int) by omega])) y3) jds_nil)) fun ds e => by subst e; exact ⟨by show 2 ≤ 100000; omega, rfl⟩) fun d G3 J3 pd e3 o3 => ?_)
        rw [show d = _ from pd] at o3
        exact ⟨_, G3, ps ++ [(xl, xh)], rfl, eG'.trans e3, eG0.trans e3, eG2'.trans e3, by rw [List.map_append]; exact o3, pn.app (.one (by omega) x1 y1), by rw [List.length_append, List.length_singleton]; omega⟩
      · exact jss_nil ⟨_, G', ps, rfl, eG', eG0, eG2', o', pn, by omega⟩
    · rintro G0' σ' H' eF' ⟨o6, G', ps, rfl, eG', eG0, eG2', o, pn, hl⟩
      rw [rng_len] at hl
      refine ⟨_, o6, G', ps, rfl, eG0, eG2', o, pn, ?_⟩
      rw [Nat.succ_mul]
      omega
  · rintro G0 σ' H' eF ⟨o5, o6, G', ps, rfl, eG, eG2, o, pn, hl⟩
    rw [rngN_len] at hl
    obtain ⟨G3, e3, g3, r3, k3⟩ := o.known
    exact jss_one (js_retD g3 (jd_var 4 rfl k3) fun v d G J r4 ed kd => by subst ed; exact hR nm ps hp pn (by have := Nat.mul_le_mul hn hn; omega) v G J (r3.trans r4 g) kd)
theorem ok_anyspans (F : At K mg "_law_any_spans" (topS 71)) (B : Bl mg) (k60 : DrawK P w K mg base) : Kn P w K mg base "_law_any_spans" 2 ["_law_stream_here", "_law_size", "_law_most", "_law_length"] (spS S_anyspans) := by
  refine kn71 F (spS_len fun ds R ⟨_, _, _, e, _⟩ => by rw [e]; rfl) fun fa cdv A outer s H vs Q E hr ⟨t, vs', Fk, ds, ev, g, kd, n, m, l, ed, hn, m0, m1, hl1, hR⟩ => ?_
  subst ed ev
  obtain ⟨v, v2, v3, rfl, k1, k2, k3⟩ := dq3 kd
  cases k1
  cases k2
  cases k3
  refine jss_cons (js_newO 4 sc71.nd g g.gr fun p o0 hp0 => ?_)
  refine jss_cons (js_for (ji_range B.range (by omega) (jd_var 1 rfl (.int _))) (pg_name (i := 5) sc71.nd rfl (.inl rfl)) o0.gd
    (fun G0 i σ' H' => ∃ o5 o6 o7 G' sp, σ' = [some (.ref t), some (.int (n : Int)), some (.int (m : Int)), some (.int l), some (.ref p), o5, o6, o7] ∧ Ex G0 G' ∧ Own (Ws t) Fk H p G' H' (sp.map prN) ∧ (∀ p ∈ sp, p.1 ≤ p.2) ∧ sp.length = i) (fun G0 i σ' H' ⟨_, _, _, G', _, _, e, o, _⟩ => e.trans o.gd.fh)
    (fun G J r g' => ⟨none, none, none, G, [], rfl, Ex.refl G, o0.step g r, fun p h => by simp at h, rfl⟩) ?_ ?_)
  · rintro G0 i x d σ' H' eF hd kx ⟨o5, o6, o7, G', sp, rfl, eG, o, hsp, hi⟩
    obtain ⟨hlt, rfl⟩ := rngN_of hd
    cases kx
    refine jss_cons (js_setD 6 sc71.nd o.gd (jd_draw k60 (Sub.refl _) hr (fun H => rv_var 0 rfl) (jd_var 2 rfl (.int _)) m0 (by omega)) fun vL d G1 J1 r1 g1 pd kL => ?_)
    obtain ⟨a, ha, rfl⟩ := pd
    cases kL
    have o1 := o.step g r1
    refine jss_cons (js_setR 7 sc71.nd (rv_add (rv_var 6 rfl) (rv_var 3 rfl)) ?_)
    refine jss_cons (js_ifR (rt_lt (rv_var 3 rfl) rv_int) (fun hneg => ?_) (fun hneg => jss_nil ?_))
    · refine jss_one (js_setD 7 sc71.nd g1 (jd_op (P := fun d => ∃ b : Nat, a ≤ b ∧ d = .int (b : Int)) (jd_var 6 rfl (.int _)) (jd_draw k60 (Sub.refl _) hr (fun H => rv_var 0 rfl) (jd_var 2 rfl (.int _)) m0 (by omega)) fun x y ex ⟨c, hc, ey⟩ => ?_) fun vR d G2 J2 r2 g2 pd kR => ?_)
      · subst ex ey
        obtain ⟨r, h1, h2⟩ := od_add (W := Ws t) (X := (cxOf CX0 P w K mg base N71 "_law_any_spans" (defScope (topS 71)) fa cdv A outer s H E).nox) (i := (a : Int)) (j := (c : Int))
        exact ⟨r, h1, fun F H g v u Q hv hu w => h2 F H g v u Q hv hu fun z d G J r ed kd => w z d G J r ⟨a + c, by omega, by rw [show d = _ from ed]; congr 1⟩ kd⟩
      · obtain ⟨b, hb, rfl⟩ := pd
        cases kR
        refine jss_one (js_appO (P := Is (prN (a, b))) (o1.step g r2) g (rv_var 4 rfl) (by rw [List.length_map]; omega) (jd_tup (jds_is (jd_var 6 rfl (.int _)) (jds_is (jd_var 7 rfl (.int _)) jds_nil)) fun ds e => by subst e; exact ⟨by show 2 ≤ 100000; omega, rfl⟩) fun d G3 J3 pd e3 o3 => ?_)
        rw [show d = _ from pd] at o3
        refine ⟨_, _, _, G3, sp ++ [(a, b)], rfl, eG.trans ((r1.fg.trans r2.fg).trans e3), by rw [List.map_append]; exact o3, fun q hq => ?_, by rw [List.length_append, hi]; rfl⟩
        rcases List.mem_append.mp hq with h | h
        · exact hsp q h
        · rw [List.mem_singleton] at h; subst h; exact hb
    · have hl0 : 0 ≤ l := by
        have := of_decide_eq_false hneg
        omega
      rw [show (a : Int) + l = ((a + l.toNat : Nat) : Int) by omega]
      refine jss_one (js_appO (P := Is (prN (a, a + l.toNat))) o1 g (rv_var 4 rfl) (by rw [List.length_map]; omega) (jd_tup (jds_is (jd_var 6 rfl (.int _)) (jds_is (jd_var 7 rfl (.int _)) jds_nil)) fun ds e => by subst e; exact ⟨by show 2 ≤ 100000; omega, rfl⟩) fun d G3 J3 pd e3 o3 => ?_)
      rw [show d = _ from pd] at o3
      refine ⟨_, _, _, G3, sp ++ [(a, a + l.toNat)], rfl, eG.trans (r1.fg.trans e3), by rw [List.map_append]; exact o3, fun q hq => ?_, by rw [List.length_append, hi]; rfl⟩
      rcases List.mem_append.mp hq with h | h
      · exact hsp q h
      · rw [List.mem_singleton] at h; subst h; exact (by omega)
  · rintro G0 σ' H' eF ⟨o5, o6, o7, G', sp, rfl, eG, o, hsp, hi⟩
    rw [rngN_len] at hi
    obtain ⟨G3, e3, g3, r3, k3⟩ := o.known
    exact jss_one (js_retD g3 (jd_var 4 rfl k3) fun v d G J r4 ed kd => by subst ed; exact hR sp hi hsp v G J (r3.trans r4 g) kd)
end
end Dw
/-! The generators of arcs, parents, crowns, rows. -/
namespace Dw
open PySem PySem.Spec PyProof.Rows L2 -- (Dw)
theorem ne_of_lt_idx {x : Nat} : ∀ {l : List Nat} {m : Nat} (h : m < l.length), m < l.idxOf x → l[m] ≠ x
  | [], m, h, _ => by simp at h
  | y :: l, 0, _, hm => by
    intro e
    have e : y = x := e
    subst e
    rw [List.idxOf_cons_self] at hm
    omega
  | y :: l, m + 1, h, hm => by
    by_cases e : y = x
    · subst e
      rw [List.idxOf_cons_self] at hm
      omega
    · have eb : (y == x) = false := by simpa using e
      rw [List.idxOf_cons, eb] at hm
      exact ne_of_lt_idx (l := l) (by simpa using h) (by simpa using hm)
theorem OpD.imp {W : Wo} {X : Cx} {f : Value → Value → Sem Value} {x y : PyData} {P P' : PyData → Prop} (h : OpD W X f x y P) (k : ∀ d, P d → P' d) : OpD W X f x y P' := by
  obtain ⟨r, h1, h2⟩ := h
  exact ⟨r, h1, fun F H g v u Q hv hu w => h2 F H g v u Q hv hu fun z d G J r pd kd => w z d G J r (k d pd) kd⟩
theorem Own.ofNewL {W : Wo} {F H G J J2 : Hp} {p : Addr} {vs : List V} {ds : List PyData} (g : Good W F H) (r : Gr W F H G J) (h : J p = none) (e : Ex J J2) (h2 : J2 p = some (.lst vs)) (k : DqAll G vs ds) : Own W F H p G J2 ds := by
  have h0 := r.fresh h
  have g1 := r.good g
  have hG := g1.fh.no h
  have rr : Gr W G J G J2 := ⟨Ex.refl G, g1.fh.trans e, fun a o _ x => e a o x, W.mono e g1.ok, fun _ _ _ => rfl⟩
  exact ⟨r.trans rr g, rr.good g1, h0, g.nom h0, vs, h2, hG, k⟩
section
variable {W : Wo} {X : Cx} {o a e : Expr} {σ : St} {F H G J : Hp} {p : Addr} {ds : List PyData} {pos apos cpos p0 : Pos} {P : PyData → Prop} {D : Ends}
theorem rv_non {j} : RV X (.Constant .none j pos) σ H .non := fun Q q => je_of pe_non q
/-- x = e, a new list -/
theorem js_setNewL (i : Nat) {x : Str} {px : Pos} {vs : List V} (hN : X.N.Nodup) (g : Good W F H) (r : Gr W F H G J) (he : NewL X e σ G vs) (k : DqAll G vs ds) (h : ∀ l J2, Own W F H l G J2 ds → D.nx (σ.set i (some (.ref l))) J2) (hi : X.N[i]? = some x := by rfl) (hx : Loc X.env.scope x := by first | exact .inl rfl | exact .inr rfl)
    (hs : swapsWith e (some (.Name x px)) pos.line X.env = pure false := by rfl) (hf : X.fn x = true ∨ X.env.scope.names.lookup x = some .local := by first | exact .inl rfl | exact .inr rfl) : JS X (.Assign [.Name x px] e pos) σ J D :=
  js_set i hN (he J (r.good g).fh _ fun p J2 hp eJ hpJ => h p J2 (.ofNewL g r hp eJ hpJ k)) hi hx hs hf
theorem DqAll.put {vs : List V} {j : Nat} {v : V} {d : PyData} (h : DqAll H vs ds) (k : Dq H v d) : DqAll H (vs.set j v) (ds.set j d) := by
  induction vs generalizing ds j with
  | nil => cases h; exact .nil
  | cons w vs ih =>
    cases h with
    | cons a b =>
      cases j with
      | zero => exact .cons k b
      | succ j => exact .cons a (ih b)
/-- o[i] = e, o one's own list -/
theorem js_storeO {op : Pos} {j : Nat} (ow : Own W F H p G J ds) (g : Good W F H) (ho : ∀ J', RV X o σ J' (.ref p)) (he : JD W X e σ G P) (hi : ∀ G' J', Ex G G' → Good W G' J' → RV X a σ J' (.int (j : Int))) (hj : j < ds.length) (h : ∀ d G2 J2, P d → Ex G G2 → Own W F H p G2 J2 (ds.set j d) → D.nx σ J2)
    (ha : ∀ v, assign (.Subscript o a op) X.env v = (do
      let ov ← holding [v] (eval o X.env); let iv ← holding [v, ov] (eval a X.env); standAt op; holding [v, ov, iv] (setItem ov iv v); release [v, ov, iv] []) := by intro _; rfl)
    (hs : swapsWithSole [.Subscript o a op] e pos.line X.env = pure false := by rfl) (hw : swappedStores [.Subscript o a op] e X.env = pure none := by rfl)
    (h1 : (assignEach [.Subscript o a op] X.env).map (·.2) = [assign (.Subscript o a op) X.env] := by rfl) : JS X (.Assign [.Subscript o a op] e pos) σ J D := by
  obtain ⟨vs, q1, q2, q3⟩ := ow.ex
  refine js_store (l := p) (j := j) (he.dq ow.gd fun v d G2 J2 r2 g2 pd kd => ⟨vs, (j : Int), ho J2, hi G2 J2 r2.fg g2, r2.hj _ _ ow.nm q1, ix_nat (by rw [q3.len]; exact hj), ?_⟩) ha hs hw h1
  exact h d G2 _ pd r2.fg ((ow.step g r2).put (r2.hj _ _ ow.nm q1) ((q3.up r2.fg).put kd))
/-- names[i], raw -/
theorem rv_nm {v : V} {nm : List Nat} {b : Expr} {i x : Nat} {W : Wo} {G' J' : Hp} (g : Good W G' J') (kN : Dq G' v (dInts (nats nm))) (ho : RV X o σ J' v) (hb : RV X b σ J' (.int (i : Int))) (hx : ((nats nm).map PyData.int)[i]? = some (.int (x : Int))) (hs : PlainIx b := by exact fun _ _ => rfl) : RV X (.Subscript o b pos) σ J' (.int (x : Int)) := by
  cases kN with
  | lst hA hk =>
    obtain ⟨w, hw, kw⟩ := hk.ex hx
    cases kw
    exact rv_ix ho hb (g.fh _ _ hA) (atI_nat hw) hs
/-- o.index(e), of numbers -/
theorem jd_index {nm : List Nat} {x : Nat} (ho : JD W X o σ F (Is (dInts (nats nm)))) (he : JD W X e σ F (Is (.int (x : Int)))) (hx : x ∈ nm)
    (hbase : attributeBase o "index" X.env (eval o X.env) = eval o X.env := by rfl)
    (hfew : ((backTo cpos (starEach [e] X.env)).all (fun x => !x.1) && (backToKw cpos (keywordEach [] X.env)).all (fun x => x.1.isSome) && decide (([e] : List Expr).length + ([] : List Keyword).length + (if ([] : List Keyword).isEmpty then 0 else 1) < 30)) = true := by rfl)
    (hline : (apos.endLine == cpos.line) = true := by rfl) (hs : starEach [e] X.env = (false, eval e X.env) :: starEach [] X.env := by rfl) (hplain : (backTo cpos (starEach [] X.env)).any (·.1) = false := by rfl) : -- (Dw)
    JD W X (.Call (.Attribute o "index" apos) [e] [] cpos) σ F (Is (.int ((nm.idxOf x : Nat) : Int))) := fun H g Q q =>
  je_of (pe_bm PySem.F.plainAttrs_list PySem.F.slot_list_index PySem.F.type_list_index mt_index pe_self (pa_cons pe_self pa_nil hs) hbase hfew hline hs hplain) (ho.dq g fun v d G J r g' ed kd => by
    subst ed
    cases kd with
    | @lst A xs _ hA hk =>
      have ex := hk.ints_of
      subst ex
      refine ⟨.inl ⟨rfl, _, SqL.of (g'.fh _ _ hA)⟩, (he.up r.fg).dq g' fun u d2 G2 J2 r2 g2 ed2 kd2 => ?_⟩
      subst ed2
      cases kd2
      have hl := List.idxOf_lt_length_iff.mpr hx
      have at_ : ∀ (m : Nat) (h : m < nm.length), ((nats nm).map V.int)[m]? = some (.int ((nm[m] : Nat) : Int)) := fun m h => by
        unfold nats; rw [List.getElem?_map, List.getElem?_map, List.getElem?_eq_getElem h]; rfl
      refine ⟨A, _, .int (x : Int), nm.idxOf x, .int ((nm[nm.idxOf x] : Nat) : Int), rfl, rfl, SqL.of (g2.fh _ _ (r2.fg _ _ hA)), rfl, flat_ints _, at_ _ hl, ?_, fun m z hm hz => ?_, q _ _ G2 J2 (r.trans r2 g) rfl (.int _)⟩
      · rw [List.getElem_idxOf hl]; show ((x : Int) == (x : Int)) = true; simp
      · have hm2 : m < nm.length := by omega
        rw [at_ m hm2] at hz
        cases hz
        show (((nm[m] : Nat) : Int) == (x : Int)) = false
        have := ne_of_lt_idx hm2 hm
        simp only [beq_eq_false_iff_ne]
        intro h
        exact this (by omega))
end
def S_anyparents (ds : List PyData) (R : PyData → Prop) : Prop := ∃ n : Nat, ds = [.int (n : Int)] ∧ 0 < n ∧ n ≤ 40 ∧ ∀ (nm : List Nat) (pa : List (Option Nat)), nm.Perm (List.range n) → pa.length = n → (∀ (k x : Nat), pa[k]? = some (some x) → ∃ l h : Nat, l < h ∧ nm[l]? = some x ∧ nm[h]? = some k) → R (.list (pa.map encO))
def S_crown (ds : List PyData) (R : PyData → Prop) : Prop := ∃ n : Nat, ds = [.int (n : Int)] ∧ 6 ≤ n ∧ n ≤ 40 ∧ ∀ (nm : List Nat) (ps : List (Nat × Nat)), nm.Perm (List.range n) → PN nm ps → ps.length ≤ 2000 → R (dPN ps)
def S_byrows (ds : List PyData) (R : PyData → Prop) : Prop := ∃ (n : Nat) (a b : List Nat), ds = [dInts (nats a), dInts (nats b)] ∧ n ≤ 40 ∧ a.Perm (List.range n) ∧ b.Perm (List.range n) ∧ ∀ ps : List (Nat × Nat), PN a ps → ps.length ≤ 2000 → R (dPN ps)
section
variable {P : Program} {w : World} {K : PySem.W.Frag} {mg : Str → Option Value} {base : Heap} -- (Dw)
theorem ok_anyarcs (F : At K mg "_law_any_arcs" (topS 77)) (B : Bl mg) (k60 : DrawK P w K mg base) : Kn P w K mg base "_law_any_arcs" 2 ["_law_stream_here", "_law_size"] (spS S_anyarcs) := by
  refine kn77 F (spS_len fun ds R ⟨_, e, _⟩ => by rw [e]; rfl) fun fa cdv A outer s H vs Q E hr ⟨t, vs', Fk, ds, ev, g, kd, n, ed, hn, hR⟩ => ?_
  subst ed ev
  obtain ⟨v, rfl, k1⟩ := dq1 kd
  cases k1
  refine jss_cons (js_setD 2 sc77.nd g (jd_op (P := fun d => ∃ m : Nat, 2 ≤ m ∧ m ≤ 100 ∧ d = .int (m : Int)) jd_int (jd_draw (n := n + 2) k60 (Sub.refl _) hr (fun H => rv_var 0 rfl) ((jd_bin (jd_var 1 rfl (.int _)) jd_int od_add).is (by congr 1)) (by omega) (by omega)) fun x y ex ⟨c, hc, ey⟩ => ?_) fun vR d G1 J1 r1 g1 pd kR => ?_)
  · subst ex ey
    exact od_add.imp fun d ed => ⟨2 + c, by omega, by omega, by rw [show d = _ from ed]; congr 1⟩
  obtain ⟨m, m2, m100, rfl⟩ := pd
  cases kR
  refine jss_cons (js_newO 3 sc77.nd g r1 fun p o0 hp0 => ?_)
  refine jss_cons (js_for (ji_range B.range (by omega) (jd_var 1 rfl (.int _))) (pg_name (i := 4) sc77.nd rfl (.inl rfl)) o0.gd
    (fun G0 i σ' H' => ∃ o4 o5 G' sp, σ' = [some (.ref t), some (.int (n : Int)), some (.int (m : Int)), some (.ref p), o4, o5] ∧ Ex G0 G' ∧ Own (Ws t) Fk H p G' H' (sp.map prN) ∧ (∀ p ∈ sp, p.1 < p.2) ∧ sp.length = i) (fun G0 i σ' H' ⟨_, _, G', _, _, e, o, _⟩ => e.trans o.gd.fh)
    (fun G J r g' => ⟨none, none, G, [], rfl, Ex.refl G, o0.step g r, fun p h => by simp at h, rfl⟩) ?_ ?_)
  · rintro G0 i x d σ' H' eF hd kx ⟨o4, o5, G', sp, rfl, eG, o, hsp, hi⟩
    obtain ⟨hlt, rfl⟩ := rngN_of hd
    cases kx
    refine jss_cons (js_setD 5 sc77.nd o.gd (jd_draw (n := m - 1) k60 (Sub.refl _) hr (fun H => rv_var 0 rfl) ((jd_bin (jd_var 2 rfl (.int _)) jd_int od_sub).is (by congr 1; omega)) (by omega) (by omega)) fun vL d G1 J1 r1 g1 pd kL => ?_)
    obtain ⟨a, ha, rfl⟩ := pd
    cases kL
    have o1 := o.step g r1
    refine jss_one (js_appO (P := fun d => ∃ b : Nat, a < b ∧ d = prN (a, b)) o1 g (rv_var 3 rfl) (by rw [List.length_map]; omega) (jd_tup (Ps := fun ds => ∃ b : Nat, a < b ∧ ds = [.int (a : Int), .int (b : Int)]) (jds_cons (jd_var 5 rfl (.int _)) (jds_cons (jd_op (P := fun d => ∃ b : Nat, a < b ∧ d = .int (b : Int)) (jd_bin (jd_var 5 rfl (.int _)) jd_int od_add) (jd_draw (n := m - 1 - a) k60 (Sub.refl _) hr (fun H => rv_var 0 rfl) ((jd_bin (jd_bin (jd_var 2 rfl (.int _)) jd_int od_sub) (jd_var 5 rfl (.int _)) od_sub).is (by congr 1; omega)) (by omega) (by omega)) fun x y ex ⟨c, hc, ey⟩ => ?_) jds_nil (P := fun ds => ∃ b : Nat, a < b ∧ ds = [.int (b : Int)]) fun d ds ⟨b, hb, e1⟩ e2 => ⟨b, hb, by rw [e1, e2]⟩) fun d ds e1 ⟨b, hb, e2⟩ => ⟨b, hb, by rw [e1, e2]⟩) fun ds ⟨b, hb, e⟩ => by subst e; exact ⟨by show 2 ≤ 100000; omega, b, hb, rfl⟩) fun d G3 J3 pd e3 o3 => ?_)
    · subst ex ey
      exact od_add.imp fun d ed => ⟨a + 1 + c, by omega, by rw [show d = _ from ed]; congr 1⟩
    · obtain ⟨b, hb, rfl⟩ := pd
      refine ⟨_, _, G3, sp ++ [(a, b)], rfl, eG.trans (r1.fg.trans e3), by rw [List.map_append]; exact o3, fun q hq => ?_, by rw [List.length_append, hi]; rfl⟩
      rcases List.mem_append.mp hq with h | h
      · exact hsp q h
      · rw [List.mem_singleton] at h; subst h; exact hb
  · rintro G0 σ' H' eF ⟨o4, o5, G', sp, rfl, eG, o, hsp, hi⟩
    rw [rngN_len] at hi
    obtain ⟨G3, e3, g3, r3, k3⟩ := o.known
    exact jss_one (js_retD g3 (jd_var 3 rfl k3) fun v d G J r4 ed kd => by subst ed; exact hR sp hi hsp v G J (r3.trans r4 g) kd)
theorem encO_rep {G : Hp} (n : Nat) : DqAll G (List.replicate n V.non) ((List.replicate n (none : Option Nat)).map encO) := by
  induction n with
  | zero => exact .nil
  | succ n ih => exact .cons .non ih
theorem ok_anyparents (F : At K mg "_law_any_parents" (topS 79)) (B : Bl mg) (k60 : DrawK P w K mg base) (k61 : MixK P w K mg base) : Kn P w K mg base "_law_any_parents" 3 ["_law_stream_here", "_law_size"] (spS S_anyparents) := by
  refine kn79 F (spS_len fun ds R ⟨_, e, _⟩ => by rw [e]; rfl) fun fa cdv A outer s H vs Q E hr ⟨t, vs', Fk, ds, ev, g, kd, n, ed, hn0, hn, hR⟩ => ?_
  subst ed ev
  obtain ⟨v, rfl, k1⟩ := dq1 kd
  cases k1
  refine jss_cons (js_setD 2 sc79.nd g (jd_names k61 (Sub.refl _) hr rfl B.list B.range (fun H => rv_var 0 rfl) (jd_var 1 rfl (.int _)) hn) fun vN d G1 J1 r1 g1 pd kN => ?_)
  obtain ⟨nm, hp, rfl⟩ := pd
  refine jss_cons (js_setNewL 3 sc79.nd g r1 (NewL.rep (v := .non) (n := n) (fun H => rv_non) (fun H => rv_var 1 rfl) (by omega)) (encO_rep n) fun p J2 o0 => ?_)
  refine jss_cons (js_for (ji_range2 (lo := 1) (hi := (n : Int)) (n := n - 1) B.range (by omega) (by omega) jd_int (jd_var 1 rfl (.int _))) (pg_name (i := 4) sc79.nd rfl (.inl rfl)) o0.gd
    (fun G0 i σ' H' => ∃ o4 G' pa, σ' = [some (.ref t), some (.int (n : Int)), some vN, some (.ref p), o4] ∧ Ex G0 G' ∧ Ex G1 G' ∧ Own (Ws t) Fk H p G' H' (pa.map encO) ∧ pa.length = n ∧ ∀ (k x : Nat), pa[k]? = some (some x) → ∃ l h : Nat, l < h ∧ nm[l]? = some x ∧ nm[h]? = some k) (fun G0 i σ' H' ⟨_, G', _, _, e, _, o, _⟩ => e.trans o.gd.fh)
    (fun G J r g' => ⟨none, G, List.replicate n none, rfl, Ex.refl G, r.fg, o0.step g r, List.length_replicate, fun k x h => by
      rw [List.getElem?_replicate] at h
      split at h
      · cases h
      · cases h⟩) ?_ ?_)
  · rintro G0 i x d σ' H' eF hd kx ⟨o4, G', pa, rfl, eG, eG1, o, hl, hpa⟩
    obtain ⟨hlt, rfl⟩ := rng_of hd
    cases kx
    have hsz : 1 + i < n := by omega
    refine jss_one (js_ifO o g (P := fun _ => True) (fun G e k => jt_cmp (jd_draw (n := 5) k60 (Sub.refl _) hr (fun H => rv_var 0 rfl) jd_int (by decide) (by decide)) jd_int fun x y ⟨k, _, ex⟩ ey => by
        subst ex ey
        exact od_gt.imp fun d ed => ⟨_, ed, trivial⟩) (fun J' _ o' => ?_) (fun J' _ o' => ?_))
    · obtain ⟨xh, y1, y2, y3⟩ := nm_at (i := 1 + i) hp hsz
      refine jss_one (js_storeO (P := fun d => ∃ l x : Nat, l < 1 + i ∧ nm[l]? = some x ∧ d = .int (x : Int)) (j := xh) o' g (fun J => rv_var 3 rfl) (jd_ixP (jd_var 2 rfl (kN.up eG1)) (jd_draw (n := 1 + i) k60 (Sub.refl _) hr (fun H => rv_var 0 rfl) ((jd_var 4 rfl (.int _)).is (by congr 1)) (by omega) (by omega)) fun x y ex ⟨l, hl', ey⟩ => ?_) (fun G2 J2 e2 g2 => rv_nm g2 (kN.up (eG1.trans e2)) (rv_var 2 rfl) (rv_var (v := .int ((1 + i : Nat) : Int)) 4 (by congr 1)) y3) (by rw [List.length_map, hl]; exact y2) fun d G2 J2 pd e2 o2 => ?_)
      · subst ex ey
        obtain ⟨xl, x1, x2, x3⟩ := nm_at (i := l) hp (by omega)
        exact ⟨_, l, _, rfl, rfl, x3, l, xl, hl', x1, rfl⟩
      · obtain ⟨l, xl, hl', x1, rfl⟩ := pd
        refine ⟨_, G2, pa.set xh (some xl), rfl, eG.trans e2, eG1.trans e2, by rw [List.map_set]; exact o2, by rw [List.length_set]; exact hl, fun k x h => ?_⟩
        rw [List.getElem?_set] at h
        split at h
        · split at h
          · cases h
            rename_i e _
            exact ⟨l, 1 + i, hl', x1, by rw [y1, e]⟩
          · cases h
        · exact hpa k x h
    · exact jss_nil ⟨_, G', pa, rfl, eG, eG1, o', hl, hpa⟩
  · rintro G0 σ' H' eF ⟨o4, G', pa, rfl, eG, eG1, o, hl, hpa⟩
    obtain ⟨G3, e3, g3, r3, k3⟩ := o.known
    exact jss_one (js_retD g3 (jd_var 3 rfl k3) fun v d G J r4 ed kd => by subst ed; exact hR nm pa hp hl hpa v G J (r3.trans r4 g) kd)
theorem nmD {nm : List Nat} {n i : Nat} (h : nm.Perm (List.range n)) (hi : i < n) : nm[i]? = some (nm.getD i 0) ∧ ((nats nm).map PyData.int)[i]? = some (.int ((nm.getD i 0 : Nat) : Int)) := by
  obtain ⟨x, x1, x2, x3⟩ := nm_at h hi
  have e : nm.getD i 0 = x := by rw [List.getD_eq_getElem?_getD, x1]; rfl
  rw [e]; exact ⟨x1, x3⟩
theorem ok_crown (F : At K mg "_law_crown" (topS 82)) (B : Bl mg) (k60 : DrawK P w K mg base) (k61 : MixK P w K mg base) : Kn P w K mg base "_law_crown" 3 ["_law_stream_here", "_law_size"] (spS S_crown) := by
  refine kn82 F (spS_len fun ds R ⟨_, e, _⟩ => by rw [e]; rfl) fun fa cdv A outer s H vs Q E hr ⟨t, vs', Fk, ds, ev, g, kd, n, ed, hn6, hn, hR⟩ => ?_
  subst ed ev
  obtain ⟨v, rfl, k1⟩ := dq1 kd
  cases k1
  refine jss_cons (js_setD 2 sc82.nd g (jd_names k61 (Sub.refl _) hr rfl B.list B.range (fun H => rv_var 0 rfl) (jd_var 1 rfl (.int _)) hn) fun vN d G1 J1 r1 g1 pd kN => ?_)
  obtain ⟨nm, hp, rfl⟩ := pd
  refine jss_cons (js_newO 3 sc82.nd g r1 fun p o0 hp0 => ?_)
  refine jss_cons (js_for (ji_range (n := 3) B.range (by omega) jd_int) (pg_name (i := 4) sc82.nd rfl (.inr rfl)) o0.gd
    (fun G0 i σ' H' => ∃ p o4 o5 o6 o7 G' ps, σ' = [some (.ref t), some (.int (n : Int)), some vN, some (.ref p), o4, o5, o6, o7] ∧ Ex G0 G' ∧ Ex G1 G' ∧ Own (Ws t) Fk H p G' H' (ps.map prN) ∧ PN nm ps ∧ ps.length ≤ i * 3) (fun G0 i σ' H' ⟨_, _, _, _, _, G', _, _, e, _, o, _⟩ => e.trans o.gd.fh)
    (fun G J r g' => ⟨p, none, none, none, none, G, [], rfl, Ex.refl G, r.fg, o0.step g r, .nil, Nat.zero_le _⟩) ?_ ?_)
  · rintro G0 i x d σ' H' eF hd kx ⟨p, o4, o5, o6, o7, G', ps, rfl, eG, eG1, o, pn, hl⟩
    obtain ⟨hi3, rfl⟩ := rngN_of hd
    cases kx
    have kN' := kN.up eG1
    have hfl := List.length_filter_le (fun j : Nat => !decide ((j : Int) = (i : Int))) (List.range 3)
    rw [List.length_range] at hfl
    refine jss_one (js_catO (es := (((List.range 3).filter fun (j : Nat) => !decide ((j : Int) = (i : Int))).map fun (j : Nat) => (nm.getD i 0, nm.getD (3 + j) 0)).map prN) 3 sc82.nd g o (rv_var 3 rfl) ((jd_lcIfR (i := 5) (n := 3) (fun j => !decide ((j : Int) = (i : Int))) (fun j => prN (nm.getD i 0, nm.getD (3 + j) 0)) sc82.nd (ji_range (n := 3) B.range (by omega) jd_int) (blkOk_by (N := N82) (sc := defScope (topS 82)) (by decide +kernel)) (tg_ok sc82.nd rfl (.inl rfl)) (by omega)
      (fun j G2 hj e2 => fun s0 H0 C cl fp => jt_cp (jd_var 5 rfl (.int _)) (jd_var 4 rfl (.int _)) od_neI)
      (fun j G2 hj _ e2 => fun s0 H0 C cl fp => jd_tup (jds_is (jd_ix (jd_var 2 rfl (kN'.up e2)) (jd_var 4 rfl (.int _)) (nmD hp (by omega)).2) (jds_is (jd_ix (jd_var 2 rfl (kN'.up e2)) ((jd_bin jd_int (jd_var 5 rfl (.int _)) od_add).is (by congr 1)) (nmD (i := 3 + j) hp (by omega)).2) jds_nil)) fun ds e => by subst e; exact ⟨by show 2 ≤ 100000; omega, rfl⟩)).is (by rw [List.map_map]; rfl)) (by rw [List.length_map, List.length_map, List.length_map]; omega) fun l G3 J3 e3 o3 => ?_)
    rw [← List.map_append] at o3
    refine ⟨l, _, o5, o6, o7, G3, _, rfl, eG.trans e3, eG1.trans e3, o3, pn.app fun q hq => ?_, by rw [List.length_append, List.length_map]; omega⟩
    obtain ⟨j, hj, rfl⟩ := List.mem_map.mp hq
    have hj3 := List.mem_range.mp (List.mem_filter.mp hj).1
    exact ⟨i, 3 + j, by omega, (nmD hp (by omega)).1, (nmD hp (by omega)).1⟩
  rintro G0 σ2 H2 eF2 ⟨p, o4, o5, o6, o7, G2, ps, rfl, eG, eG1, o, pn, hl⟩
  rw [rngN_len] at hl
  have kN2 := kN.up eG1
  refine jss_cons (js_for (ji_range (n := 6) B.range (by omega) jd_int) (pg_name (i := 6) sc82.nd rfl (.inl rfl)) o.gd
    (fun G0 i σ' H' => ∃ o4 o5 o6 o7 G' ps, σ' = [some (.ref t), some (.int (n : Int)), some vN, some (.ref p), o4, o5, o6, o7] ∧ Ex G0 G' ∧ Ex G2 G' ∧ Own (Ws t) Fk H p G' H' (ps.map prN) ∧ PN nm ps ∧ ps.length ≤ 9 + i * 40) (fun G0 i σ' H' ⟨_, _, _, _, G', _, _, e, _, o, _⟩ => e.trans o.gd.fh)
    (fun G J r g' => ⟨o4, o5, o6, o7, G, ps, rfl, Ex.refl G, r.fg, o.step g r, pn, by omega⟩) ?_ ?_)
  · rintro G0 l x d σ' H' eF hd kx ⟨o4, o5, o6, o7, G', ps, rfl, eG, eG2, o, pn, hl⟩
    obtain ⟨hl', rfl⟩ := rngN_of hd
    cases kx
    refine jss_one (js_for (ji_range2 (lo := 6) (hi := (n : Int)) (n := n - 6) B.range (by omega) (by omega) jd_int (jd_var 1 rfl (.int _))) (pg_name (i := 7) sc82.nd rfl (.inl rfl)) o.gd
      (fun G0' i σ' H' => ∃ o4 o5 o7 G' ps, σ' = [some (.ref t), some (.int (n : Int)), some vN, some (.ref p), o4, o5, some (.int (l : Int)), o7] ∧ Ex G0' G' ∧ Ex G0 G' ∧ Ex G2 G' ∧ Own (Ws t) Fk H p G' H' (ps.map prN) ∧ PN nm ps ∧ ps.length ≤ 9 + l * 40 + i) (fun G0' i σ' H' ⟨_, _, _, G', _, _, e, _, _, o, _⟩ => e.trans o.gd.fh)
      (fun G J r g' => ⟨o4, o5, o7, G, ps, rfl, Ex.refl G, eG.trans r.fg, eG2.trans r.fg, o.step g r, pn, hl⟩) ?_ ?_)
    · rintro G0' i x d σ' H' eF' hd kx ⟨o4, o5, o7, G', ps, rfl, eG', eG0, eG2', o, pn, hl⟩
      obtain ⟨hi, rfl⟩ := rng_of hd
      cases kx
      refine jss_one (js_ifO o g (P := fun _ => True) (fun G e k => jt_cmp (jd_draw (n := 4) k60 (Sub.refl _) hr (fun H => rv_var 0 rfl) jd_int (by decide) (by decide)) jd_int fun x y ⟨k, _, ex⟩ ey => by
        subst ex ey
        exact od_eqI.imp fun d ed => ⟨_, ed, trivial⟩) (fun J' _ o' => ?_) (fun J' _ o' => ?_))
      · refine jss_one (js_appO (P := Is (prN (nm.getD l 0, nm.getD (6 + i) 0))) o' g (rv_var 3 rfl) (by rw [List.length_map]; omega) (jd_tup (jds_is (jd_ix (jd_var 2 rfl (kN2.up eG2')) (jd_var 6 rfl (.int _)) (nmD hp (by omega)).2) (jds_is (jd_ix (jd_var 2 rfl (kN2.up eG2')) ((jd_var 7 rfl (.int _)).is (by congr 1)) (nmD (i := 6 + i) hp (by omega)).2) jds_nil)) fun ds e => by subst e; exact ⟨by show 2 ≤ 100000; omega, rfl⟩) fun d G3 J3 pd e3 o3 => ?_)
        rw [show d = _ from pd] at o3
        exact ⟨_, _, _, G3, ps ++ [(nm.getD l 0, nm.getD (6 + i) 0)], rfl, eG'.trans e3, eG0.trans e3, eG2'.trans e3, by rw [List.map_append]; exact o3, pn.app (.one (l := l) (h := 6 + i) (by omega) (nmD hp (by omega)).1 (nmD hp (by omega)).1), by rw [List.length_append, List.length_singleton]; omega⟩
      · exact jss_nil ⟨_, _, _, G', ps, rfl, eG', eG0, eG2', o', pn, by omega⟩
    · rintro G0' σ' H' eF' ⟨o4, o5, o7, G', ps, rfl, eG', eG0, eG2', o, pn, hl⟩
      rw [rng_len] at hl
      exact ⟨_, _, _, _, G', ps, rfl, eG0, eG2', o, pn, by omega⟩
  · rintro G0 σ' H' eF ⟨o4, o5, o6, o7, G', ps, rfl, eG, eG2, o, pn, hl⟩
    rw [rngN_len] at hl
    obtain ⟨G3, e3, g3, r3, k3⟩ := o.known
    exact jss_one (js_retD g3 (jd_var 3 rfl k3) fun v d G J r4 ed kd => by subst ed; exact hR nm ps hp pn (by omega) v G J (r3.trans r4 g) kd)
theorem natsMap (a : List Nat) : (nats a).map PyData.int = a.map fun (k : Nat) => .int (k : Int) := by unfold nats; rw [List.map_map]; rfl
theorem ok_byrows (F : At K mg "_law_by_rows" (topS 73)) (B : Bl mg) : Kn P w K mg base "_law_by_rows" 1 ["_law_one", "_law_other"] (spP S_byrows) := by
  refine kn73 F (spP_len fun ds R ⟨_, _, _, e, _⟩ => by rw [e]; rfl) fun fa cdv A outer s H vs Q E hr ⟨Fk, ds, g, kd, n, a, b, ed, hn, ha, hb, hR⟩ => ?_
  subst ed
  obtain ⟨v, u, rfl, k1, k2⟩ := dq2 kd
  have hla := ha.length_eq
  rw [List.length_range] at hla
  refine jss_cons (js_setD 2 sc73.nd g (jd_list (P := Is (dPN [])) jds_nil fun ds e => by subst e; exact ⟨by show 0 ≤ 100000; omega, rfl⟩) fun v0 d G1 J1 r1 g1 pd k0 => ?_)
  subst pd
  refine jss_cons (js_for (ji_range (n := n) B.range (by omega) ((jd_len B.len (jd_var 0 rfl (k1.up r1.fg))).is (by congr 2; rw [List.length_map]; unfold nats; rw [List.length_map, hla]))) (pg_name (i := 3) sc73.nd rfl (.inr rfl)) g1
    (fun G0 i σ' H' => ∃ o3 o4 fv G' ps, σ' = [some v, some u, some fv, o3, o4] ∧ Ex G0 G' ∧ Gr W0 Fk H G' H' ∧ Good W0 G' H' ∧ Dq G' fv (dPN ps) ∧ PN a ps ∧ ps.length ≤ i * n) (fun G0 i σ' H' ⟨_, _, _, G', _, _, e, _, g', _⟩ => e.trans g'.fh)
    (fun G J r g' => ⟨none, none, v0, G, [], rfl, Ex.refl G, r1.trans r g, g', k0.up r.fg, .nil, Nat.zero_le _⟩) ?_ ?_)
  · rintro G0 i x d σ' H' eF hd kx ⟨o3, o4, fv, G', ps, rfl, eG, rr, gg, kf, pn, hl⟩
    obtain ⟨hi, rfl⟩ := rngN_of hd
    cases kx
    obtain ⟨x1, x3⟩ := nmD ha hi
    have ka := k1.up rr.fg
    have kb := k2.up rr.fg
    have hma : ∀ x, x ∈ a → x ∈ b := fun x hx => hb.mem_iff.mpr (ha.mem_iff.mp hx)
    refine jss_one (js_setD 2 sc73.nd gg (jd_bin (jd_var 2 rfl kf) (jd_lcIfM (α := Nat) (xs := a.drop (i + 1)) (enc := fun k => .int (k : Int)) (i := 4) (fun (h : Nat) => decide ((b.idxOf (a.getD i 0) : Int) < (b.idxOf h : Int))) (fun h => prN (a.getD i 0, h)) sc73.nd
      (ji_list ((jd_cutFrom (k := i + 1) (jd_var 0 rfl ka) ((jd_bin (jd_var 3 rfl (.int _)) jd_int od_add).is (by congr 1))).is (by rw [natsMap, List.map_drop]))) (blkOk_by (N := N73) (sc := defScope (topS 73)) (by decide +kernel)) (tg_ok sc73.nd rfl (.inl rfl)) (by rw [List.length_drop]; omega)
      (fun k h G2 w hh e2 kw => fun s0 H0 C cl fp => jt_cp (jd_index (jd_var 1 rfl (kb.up e2)) (jd_ix (jd_var 0 rfl (ka.up e2)) (jd_var 3 rfl (.int _)) x3) (hma _ (List.mem_of_getElem? x1))) (jd_index (jd_var 1 rfl (kb.up e2)) (jd_var 4 rfl kw) (hma _ (List.mem_of_mem_drop (List.mem_of_getElem? hh)))) od_lt)
      (fun k h G2 w hh _ e2 kw => fun s0 H0 C cl fp => jd_tup (jds_is (jd_ix (jd_var 0 rfl (ka.up e2)) (jd_var 3 rfl (.int _)) x3) (jds_is (jd_var 4 rfl kw) jds_nil)) fun ds e => by subst e; exact ⟨by show 2 ≤ 100000; omega, rfl⟩)) (od_cat ?_)) fun v' d G3 J3 r3 g3 ed kd => ?_)
    · rw [List.length_map, List.length_map]
      have h1 := List.length_filter_le (fun (h : Nat) => decide ((b.idxOf (a.getD i 0) : Int) < (b.idxOf h : Int))) (a.drop (i + 1))
      rw [List.length_drop] at h1
      have h2 : i * n ≤ 40 * 40 := Nat.mul_le_mul (by omega) hn
      omega
    · subst ed
      refine ⟨_, o4, v', G3, ps ++ ((a.drop (i + 1)).filter fun (h : Nat) => decide ((b.idxOf (a.getD i 0) : Int) < (b.idxOf h : Int))).map fun h => (a.getD i 0, h), rfl, eG.trans r3.fg, rr.trans r3 g, g3, ?_, pn.app fun q hq => ?_, ?_⟩
      · unfold dPN
        rw [List.map_append, List.map_map]
        exact kd
      · obtain ⟨h, hh, rfl⟩ := List.mem_map.mp hq
        obtain ⟨j, hj⟩ := List.mem_iff_getElem?.mp (List.mem_filter.mp hh).1
        rw [List.getElem?_drop] at hj
        exact ⟨i, i + 1 + j, by omega, x1, hj⟩
      · rw [List.length_append, List.length_map, Nat.succ_mul]
        have h1 := List.length_filter_le (fun (h : Nat) => decide ((b.idxOf (a.getD i 0) : Int) < (b.idxOf h : Int))) (a.drop (i + 1))
        rw [List.length_drop] at h1
        omega
  · rintro G0 σ' H' eF ⟨o3, o4, fv, G', ps, rfl, eG, rr, gg, kf, pn, hl⟩
    rw [rngN_len] at hl
    exact jss_one (js_retD gg (jd_var 2 rfl kf) fun v d G J r4 ed kd => by subst ed; exact hR ps pn (by have := Nat.mul_le_mul hn hn; omega) v G J (rr.trans r4 g) kd)
end
end Dw
/-! Trees. -/
namespace Dw
open PySem PySem.Spec PyProof.Rows L2 -- (Dw)
def TrD : Nat → PyData → List Nat → Prop
  | 0, _, _ => False
  | n + 1, d, l => (∃ x : Nat, d = .tuple [.str "one", .int (x : Int)] ∧ l = [x]) ∨ (∃ (w : Str) (ds : List PyData) (ls : List (List Nat)), (w = "beside" ∨ w = "above") ∧ d = .tuple [.str w, .tuple ds] ∧ All2 (TrD n) ds ls ∧ l = ls.flatten)
theorem All2.flip {α β : Type} {R : α → β → Prop} {as : List α} {bs : List β} (h : All2 R as bs) : All2 (fun b a => R a b) bs as := by
  induction h with
  | nil => exact .nil
  | cons p _ ih => exact .cons p ih
theorem flat_take {α : Type} (ls : List (List α)) (i : Nat) {q : List α} (h : ls[i]? = some q) : (ls.take (i + 1)).flatten = (ls.take i).flatten ++ q := by
  rw [List.take_add_one, h, List.flatten_append]; simp
theorem flat_le {α : Type} : ∀ (ls : List (List α)) (i : Nat), (ls.take i).flatten.length ≤ ls.flatten.length
  | [], i => by simp
  | l :: ls, 0 => by simp
  | l :: ls, i + 1 => by
    have := flat_le ls i
    simp only [List.take_succ_cons, List.flatten_cons, List.length_append]
    omega
theorem flat_one {α : Type} (ls : List (List α)) (i : Nat) {q : List α} (h : ls[i]? = some q) : (ls.take i).flatten.length + q.length ≤ ls.flatten.length := by
  have := flat_le ls (i + 1)
  rw [flat_take ls i h, List.length_append] at this
  exact this
theorem PN.pre {a b : List Nat} {ps : List (Nat × Nat)} (h : PN a ps) : PN (a ++ b) ps := fun p hp => by
  obtain ⟨l, k, h1, h2, h3⟩ := h p hp
  have l1 := (List.getElem?_eq_some_iff.mp h2).1
  have l2 := (List.getElem?_eq_some_iff.mp h3).1
  exact ⟨l, k, h1, by rw [List.getElem?_append_left l1]; exact h2, by rw [List.getElem?_append_left l2]; exact h3⟩
theorem PN.post {a b : List Nat} {ps : List (Nat × Nat)} (h : PN b ps) : PN (a ++ b) ps := fun p hp => by
  obtain ⟨l, k, h1, h2, h3⟩ := h p hp
  exact ⟨a.length + l, a.length + k, by omega, by rw [List.getElem?_append_right (by omega), Nat.add_sub_cancel_left]; exact h2, by rw [List.getElem?_append_right (by omega), Nat.add_sub_cancel_left]; exact h3⟩
section
variable {W : Wo} {X : Cx} {a b e : Expr} {es : List Expr} {σ : St} {F : Hp} {P Pa : PyData → Prop} {pos p : Pos}
theorem jd_tupOfP (hm : X.mg "tuple" = none) (ha : JD W X a σ F Pa) (h : ∀ x, Pa x → ∃ ds : List PyData, x = .list ds ∧ P (.tuple ds)) (hg : Gl X "tuple" := by rfl)
    (hs : starEach [a] X.env = (false, eval a X.env) :: starEach [] X.env := by rfl) (hpl : (backTo pos (starEach [] X.env)).any (·.1) = false := by rfl) : JD W X (.Call (.Name "tuple" p) [a] [] pos) σ F P :=
  jd_callTy call_tuple_of hg hm PyProof.Rows.boot_tuple (jds1 (hs := hs) ha) (fun F H vs ds' Q g ⟨d, ed, pd⟩ kd q => by
    subst ed
    obtain ⟨ds, rfl, pt⟩ := h d pd
    cases kd with
    | cons k1 k2 =>
      cases k2
      cases k1 with
      | lst hA hk => exact ⟨_, _, rfl, .inl ⟨SqL.of (g.fh _ _ hA), fun l hl => q _ _ _ _ (Gr.know g hl) pt (.tup upd_same (hk.up (Gr.know g hl).fg))⟩⟩) (by decide) (by decide) hs hpl
theorem jd_max2 {i j : Int} (hc : X.calm = true) (hm : X.mg "max" = none) (ha : JD W X a σ F (Is (.int i))) (hb : JD W X b σ F (Is (.int j))) (hg : Gl X "max" := by rfl)
    (hs : starEach [a, b] X.env = (false, eval a X.env) :: starEach [b] X.env := by rfl) (hs2 : starEach [b] X.env = (false, eval b X.env) :: starEach [] X.env := by rfl) (hpl : (backTo pos (starEach [b] X.env)).any (·.1) = false := by rfl) : JD W X (.Call (.Name "max" p) [a, b] [] pos) σ F (Is (.int (if j > i then j else i))) :=
  jd_callB (call_max2 hc) hg hm PyProof.Rows.boot_max (jds_is ha (jds_is hb jds_nil hs2) hs) (fun F H vs ds' Q g ed kd q => by
    have ed : ds' = _ := ed
    subst ed
    obtain ⟨v, u, rfl, k1, k2⟩ := dq2 kd
    cases k1
    cases k2
    exact ⟨i, j, rfl, q _ _ F H g.gr rfl (.int _)⟩) (by decide) (by decide) hs hpl
end
def S_tree (m : Nat) (ds : List PyData) (R : PyData → Prop) : Prop := ∃ (nm : List Nat) (w : Str), ds = [dInts (nats nm), .str w] ∧ (w = "beside" ∨ w = "above") ∧ 1 ≤ nm.length ∧ nm.length ≤ m ∧ m ≤ 40 ∧ ∀ d, TrD m d nm → R d
def S_trmem (m : Nat) (ds : List PyData) (R : PyData → Prop) : Prop := ∃ (d : PyData) (l : List Nat), ds = [d] ∧ TrD m d l ∧ l.length ≤ 40 ∧ R (dInts (nats l))
def S_bytree (m : Nat) (ds : List PyData) (R : PyData → Prop) : Prop := ∃ (d : PyData) (l : List Nat), ds = [d] ∧ TrD m d l ∧ m ≤ 40 ∧ l.length ≤ 40 ∧ ∀ ps, PN l ps → ps.length ≤ l.length * l.length → R (dPN ps)
section
variable {P : Program} {w : World} {K : PySem.W.Frag} {mg : Str → Option Value} {base : Heap} -- (Dw)
theorem natsL (a : List Nat) : dInts (nats a) = .list (a.map fun (k : Nat) => .int (k : Int)) := by unfold dInts; rw [natsMap]
theorem ok_trmem (F : At K mg "_law_tree_members" (topS 75)) (B : Bl mg) (m : Nat) : Kn P w K mg base "_law_tree_members" (m + 1) ["_law_tree"] (spP (S_trmem m)) := by
  induction m with
  | zero => exact kn75 F (spP_len fun ds R ⟨_, _, e, _⟩ => by rw [e]; rfl) fun fa cdv A outer s H vs Q E hr ⟨Fk, ds, g, kd, d, l, ed, ht, hl, hR⟩ => ht.elim
  | succ m ih =>
  refine kn75 F (spP_len fun ds R ⟨_, _, e, _⟩ => by rw [e]; rfl) fun fa cdv A outer s H vs Q E hr ⟨Fk, ds, g, kd, d, l, ed, ht, hl, hR⟩ => ?_
  subst ed
  obtain ⟨v, rfl, k1⟩ := dq1 kd
  rcases ht with ⟨x, rfl, rfl⟩ | ⟨wd, ds, ls, hw, rfl, ha, rfl⟩
  · refine jss_cons (js_ifT g ((jt_cp (jd_ixT (k := 0) (jd_var 0 rfl k1) jd_int rfl) jd_str od_eqS).is (d' := true) (by decide +kernel)) (fun G J r g' _ => ?_) (fun G J r g' p => by cases p))
    exact jss_one (js_retD g' (jd_list (P := Is (dInts (nats [x]))) (jds_is (jd_ixT (k := 1) (jd_var 0 rfl (k1.up r.fg)) jd_int rfl) jds_nil) fun ds e => by subst e; exact ⟨by show 1 ≤ 100000; omega, rfl⟩) fun v d G2 J2 r2 ed kd => by subst ed; exact hR v G2 J2 (r.trans r2 g) kd)
  · refine jss_cons (js_ifT g ((jt_cp (jd_ixT (k := 0) (jd_var 0 rfl k1) jd_int rfl) jd_str od_eqS).is (d' := false) (by rcases hw with rfl | rfl <;> decide +kernel)) (fun G J r g' p => by cases p) (fun G0 J0 r0 g0 _ => jss_nil ?_))
    refine jss_cons (js_setD 1 sc75.nd g0 (jd_list (P := Is (dInts (nats []))) jds_nil fun ds e => by subst e; exact ⟨by show 0 ≤ 100000; omega, rfl⟩) fun v0 d G1 J1 r1 g1 pd k0 => ?_)
    subst pd
    have r01 := r0.trans r1 g
    have hla := ha.len
    refine jss_cons (js_for (ds := ds) (ji_tup (jd_ixT (k := 1) (jd_var 0 rfl (k1.up r01.fg)) jd_int rfl)) (pg_name (i := 2) sc75.nd rfl (.inl rfl)) g1
      (fun G0 i σ' H' => ∃ o2 fv G', σ' = [some v, some fv, o2] ∧ Ex G0 G' ∧ Gr W0 Fk H G' H' ∧ Good W0 G' H' ∧ Dq G' fv (dInts (nats (ls.take i).flatten))) (fun G0 i σ' H' ⟨_, _, G', _, e, _, g', _⟩ => e.trans g'.fh)
      (fun G J r g' => ⟨none, v0, G, rfl, Ex.refl G, r01.trans r g, g', by simpa using k0.up r.fg⟩) ?_ ?_)
    · rintro G0 i x d σ' H' eF hd kx ⟨o2, fv, G', rfl, eG, rr, gg, kf⟩
      obtain ⟨q, hq, hT⟩ := ha.at_ hd
      have h1 := flat_one ls i hq
      refine jss_one (js_setD 1 sc75.nd gg (jd_bin (jd_var 1 rfl kf) (jd_fn (P := Is (dInts (nats q))) ih hr (jds_is (jd_var 2 rfl (kx.up eG)) jds_nil) (fun ds R e qq => ⟨d, q, e, hT, by omega, qq _ rfl⟩) (hj := Nat.le_refl _)) (od_cat (by unfold nats; simp only [List.length_map]; omega))) fun v' d' G3 J3 r3 g3 ed kd => ?_)
      subst ed
      refine ⟨_, v', G3, rfl, eG.trans r3.fg, rr.trans r3 g, g3, ?_⟩
      rw [flat_take ls i hq]
      unfold dInts nats
      rw [List.map_append, List.map_append]
      exact kd
    · rintro G0 σ' H' eF ⟨o2, fv, G', rfl, eG, rr, gg, kf⟩
      rw [hla, List.take_length] at kf
      exact jss_one (js_retD gg (jd_var 1 rfl kf) fun v d G J r4 ed kd => by subst ed; exact hR v G J (rr.trans r4 g) kd)
end
end Dw
/-! Trees: made, and read. -/
namespace Dw
open PySem PySem.Spec PyProof.Rows L2 -- (Dw)
section
variable {P : Program} {w : World} {K : PySem.W.Frag} {mg : Str → Option Value} {base : Heap} -- (Dw)
theorem ok_bytree (F : At K mg "_law_by_tree" (topS 76)) (B : Bl mg) (k75 : ∀ m, Kn P w K mg base "_law_tree_members" (m + 1) ["_law_tree"] (spP (S_trmem m))) (m : Nat) : Kn P w K mg base "_law_by_tree" (m + 1) ["_law_tree"] (spP (S_bytree m)) := by
  induction m with
  | zero => exact kn76 F (spP_len fun ds R ⟨_, _, e, _⟩ => by rw [e]; rfl) fun fa cdv A outer s H vs Q E hr ⟨Fk, ds, g, kd, d, l, ed, ht, hl, hR⟩ => ht.elim
  | succ m ih =>
  refine kn76 F (spP_len fun ds R ⟨_, _, e, _⟩ => by rw [e]; rfl) fun fa cdv A outer s H vs Q E hr ⟨Fk, ds, g, kd, d, l, ed, ht, hm, hl, hR⟩ => ?_
  subst ed
  obtain ⟨v, rfl, k1⟩ := dq1 kd
  rcases ht with ⟨x, rfl, rfl⟩ | ⟨wd, ds, ls, hw, rfl, ha, rfl⟩
  · refine jss_cons (js_ifT g ((jt_cp (jd_ixT (k := 0) (jd_var 0 rfl k1) jd_int rfl) jd_str od_eqS).is (d' := true) (by decide +kernel)) (fun G J r g' _ => ?_) (fun G J r g' p => by cases p))
    exact jss_one (js_retD g' (jd_list (P := Is (dPN [])) jds_nil fun ds e => by subst e; exact ⟨by show 0 ≤ 100000; omega, rfl⟩) fun v d G2 J2 r2 ed kd => by subst ed; exact hR [] .nil (Nat.zero_le _) v G2 J2 (r.trans r2 g) kd)
  · refine jss_cons (js_ifT g ((jt_cp (jd_ixT (k := 0) (jd_var 0 rfl k1) jd_int rfl) jd_str od_eqS).is (d' := false) (by rcases hw with rfl | rfl <;> decide +kernel)) (fun G J r g' p => by cases p) (fun G0 J0 r0 g0 _ => jss_nil ?_))
    refine jss_cons (js_setD 1 sc76.nd g0 (jd_list (P := Is (dPN [])) jds_nil fun ds e => by subst e; exact ⟨by show 0 ≤ 100000; omega, rfl⟩) fun v0 d G1 J1 r1 g1 pd k0 => ?_)
    subst pd
    refine jss_cons (js_setD 2 sc76.nd g1 (jd_list (P := Is (dInts (nats []))) jds_nil fun ds e => by subst e; exact ⟨by show 0 ≤ 100000; omega, rfl⟩) fun v2 d G2 J2 r2 g2 pd k2 => ?_)
    subst pd
    have r02 := (r0.trans r1 g).trans r2 g
    have hla := ha.len
    refine jss_cons (js_for (ds := ds) (ji_tup (jd_ixT (k := 1) (jd_var 0 rfl (k1.up r02.fg)) jd_int rfl)) (pg_name (i := 3) sc76.nd rfl (.inl rfl)) g2
      (fun G0 i σ' H' => ∃ o3 o4 o5 o6 fv lv G' ps lw, σ' = [some v, some fv, some lv, o3, o4, o5, o6] ∧ Ex G0 G' ∧ Gr W0 Fk H G' H' ∧ Good W0 G' H' ∧ Dq G' fv (dPN ps) ∧ Dq G' lv (dInts (nats lw)) ∧ PN (ls.take i).flatten ps ∧ lw = (if wd = "above" then (ls.take i).flatten else []) ∧ ps.length ≤ (ls.take i).flatten.length * (ls.take i).flatten.length) (fun G0 i σ' H' ⟨_, _, _, _, _, _, G', _, _, _, e, _, g', _⟩ => e.trans g'.fh)
      (fun G J r g' => ⟨none, none, none, none, v0, v2, G, [], [], rfl, Ex.refl G, r02.trans r g, g', k0.up (r2.fg.trans r.fg), k2.up r.fg, .nil, (by split <;> rfl), Nat.zero_le _⟩) ?_ ?_)
    · rintro G0 i x d σ' H' eF hd kx ⟨o3, o4, o5, o6, fv, lv, G', ps, lw, rfl, eG, rr, gg, kf, kl, pn, hlw, hlen⟩
      obtain ⟨q, hq, hT⟩ := ha.at_ hd
      have h1 := flat_one ls i hq
      have hft := flat_take ls i hq
      have s1 : ps.length ≤ 40 * 40 := Nat.le_trans hlen (Nat.mul_le_mul (by omega) (by omega))
      have kx' := kx.up eG
      refine jss_cons (js_setD 1 sc76.nd gg (jd_op (P := fun d => ∃ qs, PN q qs ∧ qs.length ≤ q.length * q.length ∧ d = dPN (ps ++ qs)) (jd_var 1 rfl kf) (jd_fn (P := fun d => ∃ qs, PN q qs ∧ qs.length ≤ q.length * q.length ∧ d = dPN qs) ih hr (jds_is (jd_var 3 rfl kx') jds_nil) (fun ds R e qq => ⟨d, q, e, hT, by omega, by omega, fun qs h1 h2 => qq _ ⟨qs, h1, h2, rfl⟩⟩) (hj := Nat.le_refl _)) fun x y ex ⟨qs, h1, h2, ey⟩ => ?_) fun v' d' G3 J3 r3 g3 pd kd => ?_)
      · subst ex ey
        have s2 : qs.length ≤ 40 * 40 := Nat.le_trans h2 (Nat.mul_le_mul (by omega) (by omega))
        exact (od_cat (by rw [List.length_map, List.length_map]; omega)).imp fun d ed => ⟨qs, h1, h2, by rw [show d = _ from ed]; unfold dPN; rw [List.map_append]⟩
      obtain ⟨qs, hqs, hql, rfl⟩ := pd
      have s2 : qs.length ≤ 40 * 40 := Nat.le_trans hql (Nat.mul_le_mul (by omega) (by omega))
      refine jss_cons (js_setD 4 sc76.nd g3 (jd_fn (P := Is (dInts (nats q))) (k75 m) hr (jds_is (jd_var 3 rfl (kx'.up r3.fg)) jds_nil) (fun ds R e qq => ⟨d, q, e, hT, by omega, qq _ rfl⟩) (hj := Nat.le_refl _)) fun vm d' G4 J4 r4 g4 pd km => ?_)
      subst pd
      have r34 := rr.trans (r3.trans r4 gg) g
      have pn4 : PN (ls.take (i + 1)).flatten (ps ++ qs) := by rw [hft]; exact pn.pre.app hqs.post
      have len4 : (ps ++ qs).length + (ls.take i).flatten.length * q.length ≤ (ls.take (i + 1)).flatten.length * (ls.take (i + 1)).flatten.length := by
        rw [hft, List.length_append, List.length_append, Nat.mul_add, Nat.add_mul, Nat.add_mul]
        have := Nat.mul_comm q.length (ls.take i).flatten.length
        omega
      refine jss_one (js_ifT g4 (jt_cp (jd_ixT (k := 0) (jd_var 0 rfl (k1.up r34.fg)) jd_int rfl) jd_str od_eqS) (fun G5 J5 r5 g5 hab => ?_) (fun G5 J5 r5 g5 hab => jss_nil ?_))
      · have k15 := k1.up (r34.fg.trans r5.fg)
        have km5 := km.up r5.fg
        have kl5 := kl.up (r3.fg.trans (r4.fg.trans r5.fg))
        have hab : wd = "above" := of_decide_eq_true (Eq.symm hab)
        rw [if_pos hab] at hlw
        have hlwl : lw.length ≤ (ls.take i).flatten.length := by rw [hlw]; exact Nat.le_refl _
        refine jss_cons (js_for (ds := lw.map fun (k : Nat) => .int (k : Int)) (ji_list ((jd_var 2 rfl kl5).is (natsL lw))) (pg_name (i := 5) sc76.nd rfl (.inr rfl)) g5
          (fun G0' j σ' H' => ∃ o5 o6 fv G' qs', σ' = [some v, some fv, some lv, some x, some vm, o5, o6] ∧ Ex G0' G' ∧ Gr W0 G5 J5 G' H' ∧ Good W0 G' H' ∧ Dq G' fv (dPN qs') ∧ PN (ls.take (i + 1)).flatten qs' ∧ qs'.length ≤ (ps ++ qs).length + j * q.length) (fun G0' i σ' H' ⟨_, _, _, G', _, _, e, _, g', _⟩ => e.trans g'.fh)
          (fun G J r g' => ⟨o5, o6, v', G, ps ++ qs, rfl, Ex.refl G, r, g', kd.up (r4.fg.trans (r5.fg.trans r.fg)), pn4, by omega⟩) ?_ ?_)
        · rintro G0' j y d' σ' H' eF' hd' ky ⟨o5, o6, fv', G', qs', rfl, eG', rr', gg', kf', pn', hl'⟩
          rw [List.getElem?_map] at hd'
          obtain ⟨a, hya, ed⟩ := Option.map_eq_some_iff.mp hd'
          subst ed
          cases ky
          have hj := (List.getElem?_eq_some_iff.mp hya).1
          have hjq : j * q.length ≤ 40 * 40 := Nat.mul_le_mul (by omega) (by omega)
          have hpq : (ps ++ qs).length ≤ 3200 := by rw [List.length_append]; omega
          refine jss_one (js_setD 1 sc76.nd gg' (jd_bin (jd_var 1 rfl kf') (jd_lcM (α := Nat) (xs := q) (enc := fun k => .int (k : Int)) (i := 6) (fun h => prN (a, h)) sc76.nd (ji_list ((jd_var 4 rfl (km5.up rr'.fg)).is (natsL q))) (blkOk_by (N := N76) (sc := defScope (topS 76)) (by decide +kernel)) (tg_ok sc76.nd rfl (.inl rfl)) (by omega)
            (fun k h G2 w hh e2 kw => fun s0 H0 C cl fp => jd_tup (jds_is (jd_var 5 rfl (.int _)) (jds_is (jd_var 6 rfl kw) jds_nil)) fun ds e => by subst e; exact ⟨by show 2 ≤ 100000; omega, rfl⟩)) (od_cat (by rw [List.length_map, List.length_map]; omega))) fun v6 d6 G6 J6 r6 g6 ed kd6 => ?_)
          subst ed
          refine ⟨_, o6, v6, G6, qs' ++ q.map fun h => (a, h), rfl, eG'.trans r6.fg, rr'.trans r6 g5, g6, ?_, pn'.app fun z hz => ?_, by rw [List.length_append, List.length_map, Nat.succ_mul]; omega⟩
          · unfold dPN
            rw [List.map_append, List.map_map]
            exact kd6
          · obtain ⟨h, hh, rfl⟩ := List.mem_map.mp hz
            obtain ⟨n2, e2⟩ := List.mem_iff_getElem?.mp hh
            rw [hlw] at hya hj
            refine ⟨j, (ls.take i).flatten.length + n2, by omega, ?_, ?_⟩
            · rw [hft, List.getElem?_append_left hj]; exact hya
            · rw [hft, List.getElem?_append_right (by omega), Nat.add_sub_cancel_left]; exact e2
        · rintro G0' σ' H' eF' ⟨o5, o6, fv', G', qs', rfl, eG', rr', gg', kf', pn', hl'⟩
          rw [List.length_map] at hl'
          have s3 : lw.length * q.length ≤ (ls.take i).flatten.length * q.length := Nat.mul_le_mul_right _ hlwl
          refine jss_one (js_setD 2 sc76.nd gg' (jd_bin (jd_var 2 rfl (kl5.up rr'.fg)) (jd_var 4 rfl (km5.up rr'.fg)) (od_cat (by unfold nats; simp only [List.length_map]; omega))) fun v6 d6 G6 J6 r6 g6 ed kd6 => ?_)
          subst ed
          have eall := (((r3.fg.trans (r4.fg.trans r5.fg)).trans rr'.fg).trans r6.fg)
          exact ⟨_, _, _, _, fv', v6, G6, qs', _, rfl, eG.trans eall, (r34.trans r5 g).trans (rr'.trans r6 g5) g, g6, kf'.up r6.fg, (show Dq G6 v6 (dInts (nats (lw ++ q))) from by unfold dInts nats; rw [List.map_append, List.map_append]; exact kd6), pn', (by rw [if_pos hab, hft, hlw]), by omega⟩
      · exact ⟨_, _, _, _, v', lv, G5, ps ++ qs, lw, rfl, eG.trans (r3.fg.trans (r4.fg.trans r5.fg)), r34.trans r5 g, g5, kd.up (r4.fg.trans r5.fg), kl.up (r3.fg.trans (r4.fg.trans r5.fg)), pn4, (by have hab := of_decide_eq_false (Eq.symm hab); rw [if_neg hab] at hlw ⊢; exact hlw), by omega⟩
    · rintro G0 σ' H' eF ⟨o3, o4, o5, o6, fv, lv, G', ps, lw, rfl, eG, rr, gg, kf, kl, pn, hlw, hlen⟩
      rw [hla, List.take_length] at pn hlen
      exact jss_one (js_retD gg (jd_var 1 rfl kf) fun v d G J r4 ed kd => by subst ed; exact hR ps pn hlen v G J (rr.trans r4 g) kd)
end
end Dw
/-! Trees made. -/
namespace Dw
open PySem PySem.Spec PyProof.Rows L2 -- (Dw)
def dL (q : List Nat) : PyData := dInts (nats q)
theorem flat_snoc {α : Type} (qs : List (List α)) (q : List α) : (qs ++ [q]).flatten = qs.flatten ++ q := by rw [List.flatten_append]; simp
theorem TrD.node {m : Nat} {w : Str} {ds : List PyData} {ls : List (List Nat)} (h : w = "beside" ∨ w = "above") (a : All2 (TrD m) ds ls) : TrD (m + 1) (.tuple [.str w, .tuple ds]) ls.flatten := .inr ⟨w, ds, ls, h, rfl, a, rfl⟩
theorem jss_mid {X : Cx} {st : Stmt} {rest : List Stmt} {σ : St} {H : Hp} {D : Ends} (M : St → Hp → Prop) (h : JS X st σ H { D with nx := M }) (k : ∀ σ' H', M σ' H' → JSs X rest σ' H' D) : JSs X (st :: rest) σ H D :=
  jss_cons fun pins s I => thn (h pins s I) fun f s' hf => by
    cases f with
    | next => obtain ⟨σ', H', I', q⟩ := hf; exact ⟨σ', H', I', k σ' H' q⟩
    | brk => exact hf
    | cont => exact hf
    | ret u => exact hf
section
variable {P : Program} {w : World} {K : PySem.W.Frag} {mg : Str → Option Value} {base : Heap} -- (Dw)
theorem ok_anytree (F : At K mg "_law_any_tree" (topS 74)) (B : Bl mg) (k60 : DrawK P w K mg base) (m : Nat) : Kn P w K mg base "_law_any_tree" (m + 2) ["_law_stream_here", "_law_members_here", "_law_word"] (spS (S_tree m)) := by
  induction m with
  | zero => exact kn74 F (spS_len fun ds R ⟨_, _, e, _⟩ => by rw [e]; rfl) fun fa cdv A outer s H vs Q E hr ⟨t, vs', Fk, ds, ev, g, kd, nm, wd, ed, hw, h1, h2, hm, hR⟩ => by omega
  | succ m ih =>
  refine kn74 F (spS_len fun ds R ⟨_, _, e, _⟩ => by rw [e]; rfl) fun fa cdv A outer s H vs Q E hr ⟨t, vs', Fk, ds, ev, g, kd, nm, wd, ed, hw, h1, h2, hm, hR⟩ => ?_
  subst ed ev
  obtain ⟨v, u, rfl, k1, k2⟩ := dq2 kd
  cases k2
  have hln : ((nats nm).map PyData.int).length = nm.length := by unfold nats; simp only [List.length_map]
  refine jss_cons (js_ifT g (jt_cp ((jd_len B.len (jd_var 1 rfl k1)).is (by rw [hln])) jd_int od_eqI) (fun G J r g' hl1 => ?_) (fun G0 J0 r0 g0 hl1 => jss_nil ?_))
  · have hl1 := of_decide_eq_true (Eq.symm hl1)
    have hlen : nm.length = 1 := by omega
    obtain ⟨x, rfl⟩ := List.length_eq_one_iff.mp hlen
    exact jss_one (js_retD g' (jd_tup (P := Is (.tuple [.str "one", .int (x : Int)])) (jds_is jd_str (jds_is (jd_ix (k := 0) (jd_var 1 rfl (k1.up r.fg)) jd_int rfl) jds_nil)) fun ds e => by subst e; exact ⟨by show 2 ≤ 100000; omega, rfl⟩) fun v d G2 J2 r2 ed kd => hR d (.inl ⟨x, ed, rfl⟩) v G2 J2 (r.trans r2 g) kd)
  have hl2 : 2 ≤ nm.length := by
    have := of_decide_eq_false (Eq.symm hl1)
    omega
  refine jss_cons (js_newO 3 sc74.nd g r0 fun p o0 hp0 => ?_)
  refine jss_cons (js_setD 4 sc74.nd o0.gd (jd_listOf (ds := (nats nm).map .int) B.list ((jd_var 1 rfl (k1.up r0.fg)).imp fun d e => .inl e)) fun vr d G1 J1 r1 g1 pd kr => ?_)
  subst pd
  have o1 := o0.step g r1
  have k1' := k1.up (r0.fg.trans r1.fg)
  refine jss_cons (js_for (ji_range (n := nm.length) B.range (by omega) ((jd_len B.len (jd_var 1 rfl k1')).is (by rw [hln]))) (pg_name (i := 5) sc74.nd rfl (.inl rfl)) g1
    (fun G0 i σ' H' => ∃ o5 o6 vr G' qs rs, σ' = [some (.ref t), some v, some (.str wd), some (.ref p), some vr, o5, o6, none, none] ∧ Ex G0 G' ∧ Ex G1 G' ∧ Own (Ws t) Fk H p G' H' (qs.map dL) ∧ Dq G' vr (dL rs) ∧ qs.flatten ++ rs = nm ∧ (∀ q ∈ qs, 1 ≤ q.length ∧ q.length ≤ m) ∧ (rs = [] ∨ i ≤ qs.flatten.length) ∧ qs.length ≤ i) (fun G0 i σ' H' ⟨_, _, _, G', _, _, _, e, _, o, _⟩ => e.trans o.gd.fh)
    (fun G J r g' => ⟨none, none, vr, G, [], nm, rfl, Ex.refl G, r.fg, o1.step g r, kr.up r.fg, rfl, fun q h => by simp at h, .inr (Nat.zero_le _), Nat.zero_le _⟩) ?_ ?_)
  · rintro G0' i x d σ' H' eF hd kx ⟨o5, o6, vr, G', qs, rs, rfl, eG, eG1, o, kr, hcat, hq, hprog, hqi⟩
    obtain ⟨hi, rfl⟩ := rngN_of hd
    cases kx
    have hlr : ((nats rs).map PyData.int).length = rs.length := by unfold nats; simp only [List.length_map]
    have hsum : qs.flatten.length + rs.length = nm.length := by rw [← hcat, List.length_append]
    refine jss_one (js_ifT o.gd (jt_cp ((jd_len B.len (jd_var 4 rfl kr)).is (by rw [hlr])) jd_int od_gt) (fun G2 J2 r2 g2 hpos => ?_) (fun G2 J2 r2 g2 hpos => jss_nil ?_))
    · have hpos := of_decide_eq_true (Eq.symm hpos)
      have hpos : 0 < rs.length := by omega
      have o2 := o.step g r2
      refine jss_cons (js_setD 6 sc74.nd g2 (jd_op (P := fun d => ∃ c : Nat, 1 ≤ c ∧ c ≤ rs.length ∧ d = .int (c : Int)) jd_int (jd_draw (n := rs.length) k60 (Sub.refl _) hr (fun H => rv_var 0 rfl) ((jd_len B.len (jd_var 4 rfl (kr.up r2.fg))).is (by rw [hlr])) hpos (by omega) (hk := by omega)) fun x y ex ⟨c, hc, ey⟩ => by
        subst ex ey
        exact od_add.imp fun d ed => ⟨1 + c, by omega, by omega, by rw [show d = _ from ed]; congr 1⟩) fun vc d G3 J3 r3 g3 pd kc => ?_)
      obtain ⟨c, hc1, hc2, rfl⟩ := pd
      cases kc
      have o3 := o2.step g r3
      have e03 := r2.fg.trans r3.fg
      -- the cut's size
      have hc : rs.length = nm.length → qs.flatten = [] := fun e => List.length_eq_zero_iff.mp (by omega)
      refine jss_mid (fun σ' H' => ∃ (c : Nat) (G4 : Hp), 1 ≤ c ∧ c ≤ rs.length ∧ c ≤ m ∧ Gr (Ws t) G3 J3 G4 H' ∧ σ' = [some (.ref t), some v, some (.str wd), some (.ref p), some vr, some (.int (i : Int)), some (.int (c : Int)), none, none]) (js_ifT g3 (P := Is (decide ((i : Int) = 0) && decide ((c : Int) = (rs.length : Int)))) (JW.t (jw_andIs (jt_cp (jd_var 5 rfl (.int _)) jd_int od_eqI) (fun _ => jw_and1 (jt_cp (jd_var 6 rfl (.int _)) ((jd_len B.len (jd_var 4 rfl (kr.up e03))).is (by rw [hlr])) od_eqI)))) (fun G4 J4 r4 g4 hb => ?_) (fun G4 J4 r4 g4 hb => jss_nil ?_)) ?_
      · refine jss_one (js_setD 6 sc74.nd g4 ((jd_max2 rfl B.max jd_int (jd_bin (jd_var 6 rfl (.int _)) jd_int od_sub)).is (d' := .int ((max 1 (c - 1) : Nat) : Int)) (by congr 1; split <;> omega)) fun vc d G5 J5 r5 g5 pd kc => ?_)
        subst pd
        cases kc
        exact ⟨max 1 (c - 1), G5, by omega, by omega, by omega, r4.trans r5 g3, rfl⟩
      · have hb : (decide ((i : Int) = 0) && decide ((c : Int) = (rs.length : Int))) = false := Eq.symm hb
        refine ⟨c, G4, hc1, hc2, ?_, r4, rfl⟩
        rw [Bool.and_eq_false_iff] at hb
        rcases hb with hb | hb
        · have := of_decide_eq_false hb
          rcases hprog with h0 | h0
          · rw [h0] at hpos; simp at hpos
          · omega
        · have := of_decide_eq_false hb
          omega
      rintro σ4 J4 ⟨c, G4, hc1, hc2, hcm, r4, rfl⟩
      have o4 := o3.step g r4
      have e04 := e03.trans r4.fg
      refine jss_cons (js_appO (P := Is (dL (rs.take c))) o4 g (rv_var 3 rfl) (by rw [List.length_map]; omega) ((jd_cutTo (k := c) (jd_var 4 rfl (kr.up e04)) (jd_var 6 rfl (.int _))).is (by unfold dL; rw [natsL, natsMap, List.map_take])) fun d G5 J5 pd e5 o5' => ?_)
      rw [show d = _ from pd] at o5'
      refine jss_one (js_setD 4 sc74.nd o5'.gd ((jd_cutFrom (k := c) (jd_var 4 rfl (kr.up (e04.trans e5))) (jd_var 6 rfl (.int _))).is (d' := dL (rs.drop c)) (by unfold dL; rw [natsL, natsMap, List.map_drop])) fun vr6 d6 G6 J6 r6 g6 ed6 kr6 => ?_)
      subst ed6
      have htl : (rs.take c).length = c := by rw [List.length_take]; omega
      refine ⟨_, _, vr6, G6, qs ++ [rs.take c], rs.drop c, rfl, eG.trans (e04.trans (e5.trans r6.fg)), eG1.trans (e04.trans (e5.trans r6.fg)), by rw [List.map_append]; exact o5'.step g r6, kr6, ?_, fun q hq' => ?_, ?_, by rw [List.length_append, List.length_singleton]; omega⟩
      · rw [flat_snoc, List.append_assoc, List.take_append_drop]; exact hcat
      · rcases List.mem_append.mp hq' with h | h
        · exact hq q h
        · rw [List.mem_singleton] at h
          subst h
          rw [htl]
          exact ⟨hc1, hcm⟩
      · rw [flat_snoc, List.length_append, htl]
        rcases hprog with h0 | h0
        · rw [h0] at hpos; simp at hpos
        · right; omega
    · have hpos := of_decide_eq_false (Eq.symm hpos)
      have e0 : rs = [] := List.length_eq_zero_iff.mp (by omega)
      exact ⟨_, _, vr, G2, qs, rs, rfl, eG.trans r2.fg, eG1.trans r2.fg, o.step g r2, kr.up r2.fg, hcat, hq, .inl e0, by omega⟩
  · rintro G0' σ' H' eF ⟨o5, o6, vr, G', qs, rs, rfl, eG, eG1, o, kr, hcat, hq, hprog, hqi⟩
    rw [rngN_len] at hprog hqi
    have hsum : qs.flatten.length + rs.length = nm.length := by rw [← hcat, List.length_append]
    have e0 : rs = [] := by
      rcases hprog with h | h
      · exact h
      · exact List.length_eq_zero_iff.mp (by omega)
    subst e0
    rw [List.append_nil] at hcat
    obtain ⟨G2, e2, g2, r2, kp⟩ := o.known
    refine jss_cons (js_setD 7 sc74.nd g2 (jd_ixP (P := fun d => ∃ w2 : Str, (w2 = "beside" ∨ w2 = "above") ∧ d = .str w2) (jd_list (P := Is (.list [.str "beside", .str "above"])) (jds_is jd_str (jds_is jd_str jds_nil)) fun ds e => by subst e; exact ⟨by show 2 ≤ 100000; omega, rfl⟩) (jd_intB B.int (jd_cp (jd_var 2 rfl (.str _)) jd_str od_eqS)) fun x y ex ey => ?_) fun vw d G3 J3 r3 g3 pd kw => ?_)
    · subst ex ey
      by_cases hb : wd = "beside"
      · exact ⟨_, 1, .str "above", rfl, by rw [if_pos (decide_eq_true hb)]; rfl, rfl, _, .inr rfl, rfl⟩
      · exact ⟨_, 0, .str "beside", rfl, by rw [if_neg (by rw [decide_eq_false hb]; exact Bool.false_ne_true)]; rfl, rfl, _, .inl rfl, rfl⟩
    obtain ⟨w2, hw2, rfl⟩ := pd
    cases kw
    refine jss_one (js_retD g3 (jd_tup (Ps := fun ds => ∃ d, ds = [.str wd, d] ∧ ∃ zs, All2 (fun q d => TrD m d q) qs zs ∧ d = .tuple zs) (P := fun d => TrD (m + 1) d nm) (jds_cons (jd_var 2 rfl (.str _)) (jds_cons (P := fun ds => ∃ d, ds = [d] ∧ ∃ zs, All2 (fun q d => TrD m d q) qs zs ∧ d = .tuple zs) (jd_tupOfP (P := fun d => ∃ zs, All2 (fun q d => TrD m d q) qs zs ∧ d = .tuple zs) B.tuple (jd_lc (i := 8) (enc := dL) (fun q d => TrD m d q) sc74.nd (ji_list (jd_var 3 rfl (kp.up r3.fg))) (blkOk_by (N := N74) (sc := defScope (topS 74)) (by decide +kernel)) (tg_ok sc74.nd rfl (.inl rfl)) (by omega) (fun k q G4 vq hqk e4 kq => fun s0 H0 C cl fp => ?_)) fun x ⟨zs, a, ex⟩ => ⟨zs, ex, zs, a, rfl⟩) jds_nil fun d ds pd e => ⟨d, by rw [e], pd⟩) fun d ds e ⟨d2, e2, p2⟩ => ⟨d2, by rw [e, e2], p2⟩) fun ds ⟨d, e, zs, a, ed⟩ => ?_) fun v d G4 J4 r4 pd kd => hR d pd v G4 J4 (r2.trans (r3.trans r4 g2) g) kd)
    · have hqq := hq q (List.mem_of_getElem? hqk)
      exact jd_fnS (Sub.refl _) ih hr (fun H => rv_var 0 rfl) (jds_is (jd_var 8 rfl kq) (jds_is (jd_var 7 rfl (.str _)) jds_nil)) (fun ds R e qq => ⟨q, w2, e, hw2, hqq.1, hqq.2, by omega, fun d pd => qq d pd⟩) (hj := Nat.le_refl _)
    · subst e ed
      refine ⟨by show 2 ≤ 100000; omega, ?_⟩
      rw [← hcat]
      exact TrD.node hw a.flip
end
end Dw
/-! The families; any order; what is told. -/
namespace Dw
open PySem PySem.Spec PyProof.Rows L2 -- (Dw)
/-- pairs of n elements, without a ring -/
structure Vd (n : Nat) (ps : List (Nat × Nat)) : Prop where
  lt : ∀ p ∈ ps, p.1 < n ∧ p.2 < n
  rk : ∃ rk : Nat → Nat, ∀ p ∈ ps, rk p.1 < rk p.2
theorem Vd.nil {n : Nat} : Vd n [] := ⟨fun p h => by simp at h, fun _ => 0, fun p h => by simp at h⟩
theorem Vd.sub {n : Nat} {ps qs : List (Nat × Nat)} (h : Vd n ps) (k : ∀ p ∈ qs, p ∈ ps) : Vd n qs := ⟨fun p hp => h.lt p (k p hp), let ⟨rk, hr⟩ := h.rk; ⟨rk, fun p hp => hr p (k p hp)⟩⟩
theorem idx_at {nm : List Nat} (hn : nm.Nodup) {l x : Nat} (h : nm[l]? = some x) : nm.idxOf x = l := by
  obtain ⟨h1, h2⟩ := List.getElem?_eq_some_iff.mp h
  have hm : x ∈ nm := List.mem_of_getElem? h
  have h3 := List.idxOf_lt_length_iff.mpr hm
  have h4 : nm[nm.idxOf x] = nm[l] := by rw [List.getElem_idxOf h3, h2]
  exact (List.getElem_inj hn).mp h4
theorem Vd.pn {n : Nat} {nm : List Nat} {ps : List (Nat × Nat)} (hp : nm.Perm (List.range n)) (h : PN nm ps) : Vd n ps := by
  have hnd : nm.Nodup := hp.symm.nodup List.nodup_range
  refine ⟨fun p q => ?_, fun x => nm.idxOf x, fun p q => ?_⟩
  · obtain ⟨l, k, _, h2, h3⟩ := h p q
    exact ⟨List.mem_range.mp (hp.mem_iff.mp (List.mem_of_getElem? h2)), List.mem_range.mp (hp.mem_iff.mp (List.mem_of_getElem? h3))⟩
  · obtain ⟨l, k, h1, h2, h3⟩ := h p q
    show nm.idxOf p.1 < nm.idxOf p.2
    rw [idx_at hnd h2, idx_at hnd h3]
    exact h1
theorem Vd.rank {rk : List Nat} : Vd rk.length (relP rk.length (rkG rk)) := ⟨fun p h => ⟨(relP_mem.mp h).1, (relP_mem.mp h).2.1⟩, fun x => rk.getD x 0, fun p h => of_decide_eq_true (relP_mem.mp h).2.2⟩
theorem sp_get {sp : List (Nat × Nat)} {P : Nat × Nat → Prop} (h : ∀ p ∈ sp, P p) {i : Nat} (hi : i < sp.length) : P (sp.getD i (0, 0)) := by
  rw [List.getD_eq_getElem?_getD, List.getElem?_eq_getElem hi] -- (Dw)
  exact h _ (List.getElem_mem hi)
theorem Vd.spans {sp : List (Nat × Nat)} (hs : ∀ p ∈ sp, p.1 ≤ p.2) : Vd sp.length (relP sp.length (spG sp)) := ⟨fun p h => ⟨(relP_mem.mp h).1, (relP_mem.mp h).2.1⟩, fun x => (sp.getD x (0, 0)).1, fun p h => by
  obtain ⟨h1, h2, h3⟩ := relP_mem.mp h
  have h4 : (sp.getD p.1 (0, 0)).2 < (sp.getD p.2 (0, 0)).1 := of_decide_eq_true h3
  have := sp_get hs h1
  exact Nat.lt_of_le_of_lt this h4⟩
theorem Vd.arcs {sp : List (Nat × Nat)} (hs : ∀ p ∈ sp, p.1 < p.2) : Vd sp.length (relP sp.length (arG sp)) := ⟨fun p h => ⟨(relP_mem.mp h).1, (relP_mem.mp h).2.1⟩, fun x => (sp.getD x (0, 0)).1, fun p h => by
  obtain ⟨h1, h2, h3⟩ := relP_mem.mp h
  have h4 : (sp.getD p.1 (0, 0)).2 = (sp.getD p.2 (0, 0)).1 := of_decide_eq_true h3
  have := sp_get hs h1
  exact Nat.lt_of_lt_of_eq this h4⟩
theorem paP_pn {nm : List Nat} {pa : List (Option Nat)} (h : ∀ (k x : Nat), pa[k]? = some (some x) → ∃ l m : Nat, l < m ∧ nm[l]? = some x ∧ nm[m]? = some k) : PN nm (paP pa) := fun p hp => by
  unfold paP at hp
  obtain ⟨k, hk, e⟩ := List.mem_filterMap.mp hp
  obtain ⟨x, hx, e2⟩ := Option.map_eq_some_iff.mp e
  subst e2
  have hk := List.mem_range.mp hk
  refine h k x ?_
  rw [List.getD_eq_getElem?_getD, List.getElem?_eq_getElem hk] at hx
  rw [List.getElem?_eq_getElem hk]
  exact congrArg some hx
theorem paP_len (pa : List (Option Nat)) : (paP pa).length ≤ pa.length := by
  unfold paP
  have := List.length_filterMap_le (fun k => (pa.getD k none).map fun p => (p, k)) (List.range pa.length)
  rw [List.length_range] at this
  exact this
theorem all2_ints {α : Type} {xs : List α} {zs : List PyData} (h : All2 (fun _ d => ∃ k : Nat, k < 4 ∧ d = .int (k : Int)) xs zs) : ∃ rk : List Nat, zs = rk.map (fun (k : Nat) => .int (k : Int)) ∧ rk.length = xs.length := by
  induction h with
  | nil => exact ⟨[], rfl, rfl⟩
  | cons p _ ih =>
    obtain ⟨k, _, rfl⟩ := p
    obtain ⟨rk, rfl, h2⟩ := ih
    exact ⟨k :: rk, rfl, by simp [h2]⟩
def S_family (ds : List PyData) (R : PyData → Prop) : Prop := ∃ (n k : Nat), ds = [.int (n : Int), .int (k : Int)] ∧ n ≤ 40 ∧ ∀ ps, Vd n ps → ps.length ≤ 2000 → R (dPN ps)
def S_anyorder (ds : List PyData) (R : PyData → Prop) : Prop := ∃ most : Nat, ds = [.int (most : Int)] ∧ most ≤ 39 ∧ ∀ n ps, n ≤ most → Vd n ps → ps.length ≤ 2000 → R (dTab n (wsh ps n))
def S_told (ds : List PyData) (R : PyData → Prop) : Prop := ∃ n f, ds = [dTab n f] ∧ n ≤ 40 ∧ ∀ ps, (∀ p ∈ ps, p ∈ relP n f) → (∀ p ∈ relP n f, cvB n f p.1 p.2 = true → p ∈ ps) → ps.length ≤ 4000 → R (dPN ps)
theorem jd_neg1 {W : Wo} {X : Cx} {σ : St} {F : Hp} {j p1 p2} : JD W X (.UnaryOp .USub (.Constant (.int 1) j p1) p2) σ F (Is (.int (-1))) := fun H g Q q => rv_neg (i := 1) rv_int Q (q _ _ F H g.gr rfl (.int _))
section
variable {P : Program} {w : World} {K : PySem.W.Frag} {mg : Str → Option Value} {base : Heap} -- (Dw)
/-- what the families rest on -/
structure Fams (P : Program) (w : World) (K : PySem.W.Frag) (mg : Str → Option Value) (base : Heap) : Prop where
  k60 : DrawK P w K mg base
  k61 : MixK P w K mg base
  k70 : Kn P w K mg base "_law_any_pairs" 3 ["_law_stream_here", "_law_size"] (spS S_anypairs)
  k71 : Kn P w K mg base "_law_any_spans" 2 ["_law_stream_here", "_law_size", "_law_most", "_law_length"] (spS S_anyspans)
  k72 : Kn P w K mg base "_law_by_spans" 1 ["_law_spans"] (spP S_bysp)
  k73 : Kn P w K mg base "_law_by_rows" 1 ["_law_one", "_law_other"] (spP S_byrows)
  k74 : Kn P w K mg base "_law_any_tree" (40 + 2) ["_law_stream_here", "_law_members_here", "_law_word"] (spS (S_tree 40))
  k76 : Kn P w K mg base "_law_by_tree" (40 + 1) ["_law_tree"] (spP (S_bytree 40))
  k77 : Kn P w K mg base "_law_any_arcs" 2 ["_law_stream_here", "_law_size"] (spS S_anyarcs)
  k78 : Kn P w K mg base "_law_by_arcs" 1 ["_law_arcs"] (spP S_byar)
  k79 : Kn P w K mg base "_law_any_parents" 3 ["_law_stream_here", "_law_size"] (spS S_anyparents)
  k80 : Kn P w K mg base "_law_by_parents" 1 ["_law_parents"] (spP S_bypa)
  k81 : Kn P w K mg base "_law_by_ranks" 1 ["_law_ranks"] (spP S_byrk)
  k82 : Kn P w K mg base "_law_crown" 3 ["_law_stream_here", "_law_size"] (spS S_crown)
theorem eqn {a b : Nat} (h : true = decide ((a : Int) = (b : Int))) : a = b := by have := of_decide_eq_true (Eq.symm h); omega
theorem ok_family (F : At K mg "_law_family" (topS 83)) (B : Bl mg) (S : Fams P w K mg base) : Kn P w K mg base "_law_family" 43 ["_law_stream_here", "_law_size", "_law_family_here"] (spS S_family) := by
  refine kn83 F (spS_len fun ds R ⟨_, _, e, _⟩ => by rw [e]; rfl) fun fa cdv A outer s H vs Q E hr ⟨t, vs', Fk, ds, ev, g0, kd0, n, k, ed, hn, hR⟩ => ?_
  subst ed ev
  obtain ⟨v, u, rfl, k1, k2⟩ := dq2 kd0
  cases k1
  cases k2
  have sq : ∀ {m : Nat}, m ≤ 40 → m * m ≤ 2000 := fun h => by have := Nat.mul_le_mul h h; omega
  -- nothing
  refine jss_cons (js_ifT g0 (jt_cp (jd_var 1 rfl (.int _)) jd_int od_eqI) (fun G J r g _ => ?_) (fun G1 J1 r1 g1 hz => jss_nil ?_))
  · exact jss_one (js_retD g (jd_list (P := Is (dPN [])) jds_nil fun ds e => by subst e; exact ⟨by show 0 ≤ 100000; omega, rfl⟩) fun v d G2 J2 r2 ed kd => by subst ed; exact hR [] .nil (Nat.zero_le _) v G2 J2 (r.trans r2 g0) kd)
  -- ranks
  refine jss_cons (js_ifT g1 (P := fun _ => True) ((jt_cp (jd_var 2 rfl (.int _)) jd_int od_eqI).imp fun _ _ => trivial) (fun G J r g _ => ?_) (fun G2 J2 r2 g2 _ => jss_nil ?_))
  · have r := r1.trans r g0
    refine jss_one (js_retD g (jd_fn (P := fun d => ∃ rk : List Nat, rk.length = n ∧ d = dPN (relP rk.length (rkG rk))) S.k81 hr (jds_cons (P := fun ds => ∃ rk : List Nat, rk.length = n ∧ ds = [.list (rk.map fun (k : Nat) => .int (k : Int))]) (jd_lc (α := Nat) (xs := List.range n) (i := 3) (enc := fun k => .int (k : Int)) (fun _ d => ∃ k : Nat, k < 4 ∧ d = .int (k : Int)) sc83.nd (ji_range B.range (by omega) (jd_var 1 rfl (.int _))) (blkOk_by (N := N83) (sc := defScope (topS 83)) (by decide +kernel)) (tg_ok sc83.nd rfl (.inl rfl)) (by rw [List.length_range]; omega)
      (fun k x G4 vq hqk e4 kq => fun s0 H0 C cl fp => jd_draw (n := 4) S.k60 (Sub.refl _) hr (fun H => rv_var 0 rfl) jd_int (by decide) (by decide))) jds_nil fun d ds ⟨zs, a, ed⟩ e => ?_) (fun ds R ⟨rk, hl, e⟩ qq => ⟨rk, e, by omega, qq _ ⟨rk, hl, rfl⟩⟩)) fun v d G3 J3 r3 ⟨rk, hl, ed⟩ kd => ?_)
    · obtain ⟨rk, e1, e2⟩ := all2_ints a
      rw [List.length_range] at e2
      exact ⟨rk, e2, by rw [ed, e, e1]⟩
    · subst ed hl
      exact hR _ .rank (Nat.le_trans (relP_len _ _) (sq hn)) v G3 J3 (r.trans r3 g0) kd
  have hn0 : 0 < n := by
    have := of_decide_eq_false (Eq.symm hz)
    omega
  -- parents
  have r0 := r1.trans r2 g0
  have g1 := g2
  refine jss_cons (js_ifT g1 (P := fun _ => True) ((jt_cp (jd_var 2 rfl (.int _)) jd_int od_eqI).imp fun _ _ => trivial) (fun G J r g _ => ?_) (fun G2 J2 r2 g2 _ => jss_nil ?_))
  · have r := r0.trans r g0
    refine jss_one (js_retD g (jd_fn (P := fun d => ∃ nm pa, nm.Perm (List.range n) ∧ pa.length = n ∧ PN nm (paP pa) ∧ d = dPN (paP pa)) S.k80 hr (jds_cons (P := fun ds => ∃ nm pa, nm.Perm (List.range n) ∧ pa.length = n ∧ PN nm (paP pa) ∧ ds = [.list (pa.map encO)]) (jd_fnS (P := fun d => ∃ nm pa, nm.Perm (List.range n) ∧ pa.length = n ∧ PN nm (paP pa) ∧ d = .list (pa.map encO)) (Sub.refl _) S.k79 hr (fun H => rv_var 0 rfl) (jds_is (jd_var 1 rfl (.int _)) jds_nil) fun ds R e qq => ⟨n, e, hn0, hn, fun nm pa h1 h2 h3 => qq _ ⟨nm, pa, h1, h2, paP_pn h3, rfl⟩⟩) jds_nil fun d ds ⟨nm, pa, h1, h2, h3, h4⟩ e => ⟨nm, pa, h1, h2, h3, by rw [h4, e]⟩) (fun ds R ⟨nm, pa, h1, h2, h3, e⟩ qq => ⟨pa, e, by omega, qq _ ⟨nm, pa, h1, h2, h3, rfl⟩⟩)) fun v d G3 J3 r3 ⟨nm, pa, h1, h2, h3, ed⟩ kd => ?_)
    subst ed
    exact hR _ (.pn h1 h3) (by have := paP_len pa; omega) v G3 J3 (r.trans r3 g0) kd
  have r0 := r0.trans r2 g0
  have g1 := g2
  -- trees
  refine jss_cons (js_ifT g1 (P := fun _ => True) ((jt_cp (jd_var 2 rfl (.int _)) jd_int od_eqI).imp fun _ _ => trivial) (fun G J r g _ => ?_) (fun G2 J2 r2 g2 _ => jss_nil ?_))
  · have r := r0.trans r g0
    refine jss_one (js_retD g (jd_fn (P := fun d => ∃ nm ps, nm.Perm (List.range n) ∧ PN nm ps ∧ ps.length ≤ nm.length * nm.length ∧ d = dPN ps) S.k76 hr (jds_cons (P := fun ds => ∃ nm d, nm.Perm (List.range n) ∧ TrD 40 d nm ∧ ds = [d]) (jd_fnS (P := fun d => ∃ nm, nm.Perm (List.range n) ∧ TrD 40 d nm) (Sub.refl _) S.k74 hr (fun H => rv_var 0 rfl)
      (jds_cons (P := fun ds => ∃ (nm : List Nat) (w : Str), nm.Perm (List.range n) ∧ (w = "beside" ∨ w = "above") ∧ ds = [dInts (nats nm), .str w]) (jd_names S.k61 (Sub.refl _) hr rfl B.list B.range (fun H => rv_var 0 rfl) (jd_var 1 rfl (.int _)) hn) (jds_cons (P := fun ds => ∃ w : Str, (w = "beside" ∨ w = "above") ∧ ds = [.str w]) (jd_ixP (P := fun d => ∃ w : Str, (w = "beside" ∨ w = "above") ∧ d = .str w) (jd_list (P := Is (.list [.str "beside", .str "above"])) (jds_is jd_str (jds_is jd_str jds_nil)) fun ds e => by subst e; exact ⟨by show 2 ≤ 100000; omega, rfl⟩) (jd_draw (n := 2) S.k60 (Sub.refl _) hr (fun H => rv_var 0 rfl) jd_int (by decide) (by decide)) fun x y ex ⟨c, hc, ey⟩ => ?_) jds_nil fun d ds ⟨w, hw, ed⟩ e => ⟨w, hw, by rw [ed, e]⟩) fun d ds ⟨nm, h1, h2⟩ ⟨w, hw, e⟩ => ⟨nm, w, h1, hw, by rw [h2, e]⟩)
      fun ds R ⟨nm, w, h1, hw, e⟩ qq => ⟨nm, w, e, hw, by have := h1.length_eq; rw [List.length_range] at this; omega, by have := h1.length_eq; rw [List.length_range] at this; omega, by omega, fun d hd => qq _ ⟨nm, h1, hd⟩⟩) jds_nil fun d ds ⟨nm, h1, h2⟩ e => ⟨nm, d, h1, h2, by rw [e]⟩) (fun ds R ⟨nm, d, h1, h2, e⟩ qq => ⟨d, nm, e, h2, by omega, by have := h1.length_eq; rw [List.length_range] at this; omega, fun ps h3 h4 => qq _ ⟨nm, ps, h1, h3, h4, rfl⟩⟩)) fun v d G3 J3 r3 ⟨nm, ps, h1, h3, h4, ed⟩ kd => ?_)
    · subst ex ey
      match c, hc with
      | 0, _ => exact ⟨_, 0, _, rfl, rfl, rfl, _, .inl rfl, rfl⟩
      | 1, _ => exact ⟨_, 1, _, rfl, rfl, rfl, _, .inr rfl, rfl⟩
    · subst ed
      exact hR _ (.pn h1 h3) (Nat.le_trans h4 (sq (by have := h1.length_eq; rw [List.length_range] at this; omega))) v G3 J3 (r.trans r3 g0) kd
  have r0 := r0.trans r2 g0
  have g1 := g2
  -- arcs
  refine jss_cons (js_ifT g1 (P := fun _ => True) ((jt_cp (jd_var 2 rfl (.int _)) jd_int od_eqI).imp fun _ _ => trivial) (fun G J r g _ => ?_) (fun G2 J2 r2 g2 _ => jss_nil ?_))
  · have r := r0.trans r g0
    refine jss_one (js_retD g (jd_fn (P := fun d => ∃ sp : List (Nat × Nat), sp.length = n ∧ (∀ p ∈ sp, p.1 < p.2) ∧ d = dPN (relP sp.length (arG sp))) S.k78 hr (jds_cons (P := fun ds => ∃ sp : List (Nat × Nat), sp.length = n ∧ (∀ p ∈ sp, p.1 < p.2) ∧ ds = [dPN sp]) (jd_fnS (P := fun d => ∃ sp : List (Nat × Nat), sp.length = n ∧ (∀ p ∈ sp, p.1 < p.2) ∧ d = dPN sp) (Sub.refl _) S.k77 hr (fun H => rv_var 0 rfl) (jds_is (jd_var 1 rfl (.int _)) jds_nil) fun ds R e qq => ⟨n, e, hn, fun sp h1 h2 => qq _ ⟨sp, h1, h2, rfl⟩⟩) jds_nil fun d ds ⟨sp, h1, h2, h4⟩ e => ⟨sp, h1, h2, by rw [h4, e]⟩) (fun ds R ⟨sp, h1, h2, e⟩ qq => ⟨sp, e, by omega, qq _ ⟨sp, h1, h2, rfl⟩⟩)) fun v d G3 J3 r3 ⟨sp, h1, h2, ed⟩ kd => ?_)
    subst ed h1
    exact hR _ (.arcs h2) (Nat.le_trans (relP_len _ _) (sq hn)) v G3 J3 (r.trans r3 g0) kd
  have r0 := r0.trans r2 g0
  have g1 := g2
  -- spans
  refine jss_cons (js_ifT g1 (P := fun _ => True) ((jt_cp (jd_var 2 rfl (.int _)) jd_int od_eqI).imp fun _ _ => trivial) (fun G J r g _ => ?_) (fun G2 J2 r2 g2 _ => jss_nil ?_))
  · have r := r0.trans r g0
    refine jss_one (js_retD g (jd_fn (P := fun d => ∃ sp : List (Nat × Nat), sp.length = n ∧ (∀ p ∈ sp, p.1 ≤ p.2) ∧ d = dPN (relP sp.length (spG sp))) S.k72 hr (jds_cons (P := fun ds => ∃ sp : List (Nat × Nat), sp.length = n ∧ (∀ p ∈ sp, p.1 ≤ p.2) ∧ ds = [dPN sp]) (jd_fnS (P := fun d => ∃ sp : List (Nat × Nat), sp.length = n ∧ (∀ p ∈ sp, p.1 ≤ p.2) ∧ d = dPN sp) (Sub.refl _) S.k71 hr (fun H => rv_var 0 rfl) (jds_cons (P := fun ds => ∃ m : Nat, 0 < m ∧ m ≤ 1000 ∧ ds = [.int (n : Int), .int (m : Int), .int (-1)]) (jd_var 1 rfl (.int _)) (jds_cons (P := fun ds => ∃ m : Nat, 0 < m ∧ m ≤ 1000 ∧ ds = [.int (m : Int), .int (-1)]) (jd_op (P := fun d => ∃ m : Nat, 0 < m ∧ m ≤ 1000 ∧ d = .int (m : Int)) jd_int (jd_draw (n := 8) S.k60 (Sub.refl _) hr (fun H => rv_var 0 rfl) jd_int (by decide) (by decide)) fun x y ex ⟨c, hc, ey⟩ => ?_) (jds_is jd_neg1 jds_nil) fun d ds ⟨m, h1, h2, h3⟩ e => ⟨m, h1, h2, by rw [h3, e]⟩) fun d ds e ⟨m, h1, h2, h3⟩ => ⟨m, h1, h2, by rw [h3, e]⟩) fun ds R ⟨m, h1, h2, e⟩ qq => ⟨n, m, -1, e, hn, h1, h2, by omega, fun sp h1 h2 => qq _ ⟨sp, h1, h2, rfl⟩⟩) jds_nil fun d ds ⟨sp, h1, h2, h4⟩ e => ⟨sp, h1, h2, by rw [h4, e]⟩) (fun ds R ⟨sp, h1, h2, e⟩ qq => ⟨sp, e, by omega, qq _ ⟨sp, h1, h2, rfl⟩⟩)) fun v d G3 J3 r3 ⟨sp, h1, h2, ed⟩ kd => ?_)
    · subst ex ey
      exact od_add.imp fun d ed => ⟨2 + c, by omega, by omega, by rw [show d = _ from ed]; congr 1⟩
    subst ed h1
    exact hR _ (.spans h2) (Nat.le_trans (relP_len _ _) (sq hn)) v G3 J3 (r.trans r3 g0) kd
  have r0 := r0.trans r2 g0
  have g1 := g2
  -- spans of one length
  refine jss_cons (js_ifT g1 (P := fun _ => True) ((jt_cp (jd_var 2 rfl (.int _)) jd_int od_eqI).imp fun _ _ => trivial) (fun G J r g _ => ?_) (fun G2 J2 r2 g2 _ => jss_nil ?_))
  · have r := r0.trans r g0
    refine jss_one (js_retD g (jd_fn (P := fun d => ∃ sp : List (Nat × Nat), sp.length = n ∧ (∀ p ∈ sp, p.1 ≤ p.2) ∧ d = dPN (relP sp.length (spG sp))) S.k72 hr (jds_cons (P := fun ds => ∃ sp : List (Nat × Nat), sp.length = n ∧ (∀ p ∈ sp, p.1 ≤ p.2) ∧ ds = [dPN sp]) (jd_fnS (P := fun d => ∃ sp : List (Nat × Nat), sp.length = n ∧ (∀ p ∈ sp, p.1 ≤ p.2) ∧ d = dPN sp) (Sub.refl _) S.k71 hr (fun H => rv_var 0 rfl) (jds_cons (P := fun ds => ∃ m l : Nat, 0 < m ∧ m ≤ 1000 ∧ l ≤ 1000 ∧ ds = [.int (n : Int), .int (m : Int), .int (l : Int)]) (jd_var 1 rfl (.int _)) (jds_cons (P := fun ds => ∃ m l : Nat, 0 < m ∧ m ≤ 1000 ∧ l ≤ 1000 ∧ ds = [.int (m : Int), .int (l : Int)]) (jd_op (P := fun d => ∃ m : Nat, 0 < m ∧ m ≤ 1000 ∧ d = .int (m : Int)) jd_int (jd_draw (n := 12) S.k60 (Sub.refl _) hr (fun H => rv_var 0 rfl) jd_int (by decide) (by decide)) fun x y ex ⟨c, hc, ey⟩ => ?_) (jds_cons (P := fun ds => ∃ l : Nat, l ≤ 1000 ∧ ds = [.int (l : Int)]) (jd_draw (n := 5) S.k60 (Sub.refl _) hr (fun H => rv_var 0 rfl) jd_int (by decide) (by decide)) jds_nil fun d ds ⟨l, h1, h2⟩ e => ⟨l, by omega, by rw [h2, e]⟩) fun d ds ⟨m, h1, h2, h3⟩ ⟨l, h4, e⟩ => ⟨m, l, h1, h2, h4, by rw [h3, e]⟩) fun d ds e ⟨m, l, h1, h2, h4, h3⟩ => ⟨m, l, h1, h2, h4, by rw [h3, e]⟩) fun ds R ⟨m, l, h1, h2, h4, e⟩ qq => ⟨n, m, (l : Int), e, hn, h1, h2, by omega, fun sp h1 h2 => qq _ ⟨sp, h1, h2, rfl⟩⟩) jds_nil fun d ds ⟨sp, h1, h2, h4⟩ e => ⟨sp, h1, h2, by rw [h4, e]⟩) (fun ds R ⟨sp, h1, h2, e⟩ qq => ⟨sp, e, by omega, qq _ ⟨sp, h1, h2, rfl⟩⟩)) fun v d G3 J3 r3 ⟨sp, h1, h2, ed⟩ kd => ?_)
    · subst ex ey
      exact od_add.imp fun d ed => ⟨2 + c, by omega, by omega, by rw [show d = _ from ed]; congr 1⟩
    subst ed h1
    exact hR _ (.spans h2) (Nat.le_trans (relP_len _ _) (sq hn)) v G3 J3 (r.trans r3 g0) kd
  have r0 := r0.trans r2 g0
  have g1 := g2
  -- rows
  refine jss_cons (js_ifT g1 (P := fun _ => True) ((jt_cp (jd_var 2 rfl (.int _)) jd_int od_eqI).imp fun _ _ => trivial) (fun G J r g _ => ?_) (fun G2 J2 r2 g2 _ => jss_nil ?_))
  · have r := r0.trans r g0
    refine jss_one (js_retD g (jd_fn (P := fun d => ∃ nm ps, nm.Perm (List.range n) ∧ PN nm ps ∧ ps.length ≤ 2000 ∧ d = dPN ps) S.k73 hr (jds_cons (P := fun ds => ∃ a b, a.Perm (List.range n) ∧ b.Perm (List.range n) ∧ ds = [dInts (nats a), dInts (nats b)]) (jd_names S.k61 (Sub.refl _) hr rfl B.list B.range (fun H => rv_var 0 rfl) (jd_var 1 rfl (.int _)) hn) (jds_cons (P := fun ds => ∃ b, b.Perm (List.range n) ∧ ds = [dInts (nats b)]) (jd_names S.k61 (Sub.refl _) hr rfl B.list B.range (fun H => rv_var 0 rfl) (jd_var 1 rfl (.int _)) hn) jds_nil fun d ds ⟨b, h1, h2⟩ e => ⟨b, h1, by rw [h2, e]⟩) fun d ds ⟨a, h1, h2⟩ ⟨b, h3, e⟩ => ⟨a, b, h1, h3, by rw [h2, e]⟩) (fun ds R ⟨a, b, h1, h2, e⟩ qq => ⟨n, a, b, e, hn, h1, h2, fun ps h3 h4 => qq _ ⟨a, ps, h1, h3, h4, rfl⟩⟩)) fun v d G3 J3 r3 ⟨nm, ps, h1, h3, h4, ed⟩ kd => ?_)
    subst ed
    exact hR _ (.pn h1 h3) h4 v G3 J3 (r.trans r3 g0) kd
  have r0 := r0.trans r2 g0
  have g1 := g2
  -- crowns
  refine jss_cons (js_ifT g1 (P := Is (decide ((k : Int) = 8) && decide ((5 : Int) < (n : Int)))) (JW.t (jw_andIs (jt_cp (jd_var 2 rfl (.int _)) jd_int od_eqI) (fun _ => jw_and1 (jt_cp (jd_var 1 rfl (.int _)) jd_int od_gt)))) (fun G J r g hb => ?_) (fun G2 J2 r2 g2 _ => jss_nil ?_))
  · have r := r0.trans r g0
    have hb : (decide ((k : Int) = 8) && decide ((5 : Int) < (n : Int))) = true := Eq.symm hb
    rw [Bool.and_eq_true] at hb
    have h6 := of_decide_eq_true hb.2
    refine jss_one (js_retD g (jd_fnS (P := fun d => ∃ nm ps, nm.Perm (List.range n) ∧ PN nm ps ∧ ps.length ≤ 2000 ∧ d = dPN ps) (Sub.refl _) S.k82 hr (fun H => rv_var 0 rfl) (jds_is (jd_var 1 rfl (.int _)) jds_nil) fun ds R e qq => ⟨n, e, by omega, hn, fun nm ps h1 h3 h4 => qq _ ⟨nm, ps, h1, h3, h4, rfl⟩⟩) fun v d G3 J3 r3 ⟨nm, ps, h1, h3, h4, ed⟩ kd => ?_)
    subst ed
    exact hR _ (.pn h1 h3) h4 v G3 J3 (r.trans r3 g0) kd
  have r1 := r0.trans r2 g0
  refine jss_one (js_retD g2 (jd_fnS (P := fun d => ∃ nm ps, nm.Perm (List.range n) ∧ PN nm ps ∧ ps.length ≤ 2000 ∧ d = dPN ps) (Sub.refl _) S.k70 hr (fun H => rv_var 0 rfl) (jds_is (jd_var 1 rfl (.int _)) jds_nil) fun ds R e qq => ⟨n, e, hn, fun nm ps h1 h3 h4 => qq _ ⟨nm, ps, h1, h3, h4, rfl⟩⟩) fun v d G3 J3 r3 ⟨nm, ps, h1, h3, h4, ed⟩ kd => ?_)
  subst ed
  exact hR _ (.pn h1 h3) h4 v G3 J3 (r1.trans r3 g0) kd
end
end Dw
/-! Any order; what is told; the script's cell, the stream; by_spans as one's own. -/
namespace Dw
open PySem PySem.Spec PyProof.Rows L2 -- (Dw)
def spCell (K : PySem.W.Frag) : Sp := fun vs H Q _ => ∃ (a : Addr) (ns : List Int), vs = [.ref a, .int 0] ∧ SqL K H a (ns.map V.int) ∧ ∀ i : Int, Q (.int i) H
def spStream : Sp := fun vs H Q _ => ∃ i : Int, vs = [.int i] ∧ ∀ p (b c d : Int) J, H p = none → Ex H J → J p = some (.lst [.int b, .int c, .int d]) → Q (.ref p) J
def spBySp : Sp := fun vs H Q _ => ∃ (F : Hp) (sp : List (Nat × Nat)) (v : V), vs = [v] ∧ Good W0 F H ∧ Dq F v (dPN sp) ∧ sp.length ≤ 40 ∧ ∀ p G J, Own W0 F H p G J ((relP sp.length (spG sp)).map prN) → Q (.ref p) J
section
variable {W : Wo} {X : Cx} {a b e : Expr} {es : List Expr} {σ : St} {F H J : Hp} {pos p p1 : Pos}
theorem rv_lenS {l : Addr} {xs : List V} (hm : X.mg "len" = none) (ha : RV X a σ H (.ref l)) (hl : SqL X.K H l xs) (hg : Gl X "len" := by rfl) (hs : starEach [a] X.env = (false, eval a X.env) :: starEach [] X.env := by rfl)
    (hpl : (backTo pos (starEach [] X.env)).any (·.1) = false := by rfl) : RV X (.Call (.Name "len" p1) [a] [] pos) σ H (.int (xs.length : Int)) := fun Q q =>
  je_of (pe_callB call_len_seq hg hm PySem.boot_len (pa_cons pe_self pa_nil hs) (by decide) (by decide) hs hpl) (ha _ ⟨l, xs, rfl, .inl hl, q⟩)
theorem rv_ixS {l : Addr} {xs : List V} {i : Int} {v : V} (ha : RV X a σ H (.ref l)) (hb : RV X b σ H (.int i)) (hl : SqL X.K H l xs) (hv : atI xs i = some v) (hs : PlainIx b := by exact fun _ _ => rfl) : RV X (.Subscript a b pos) σ H v := fun Q q =>
  je_of (pe_ix ix_list pe_self pe_self hs) (ha _ (hb _ ⟨l, xs, i, v, rfl, rfl, hl, hv, q⟩))
theorem NewL.q {vs : List V} {Q : VK} (h : NewL X e σ H vs) (q : ∀ p J, H p = none → Ex H J → J p = some (.lst vs) → Q (.ref p) J) : JE X e σ H Q := h H (Ex.refl H) Q q
theorem NewL.three {e1 e2 e3 : Expr} {v1 v2 v3 : V} {p0 : Pos} (h1 : ∀ H, RV X e1 σ H v1) (h2 : ∀ H, RV X e2 σ H v2) (h3 : ∀ H, RV X e3 σ H v3)
    (hs1 : starEach [e1, e2, e3] X.env = (false, eval e1 X.env) :: starEach [e2, e3] X.env := by rfl) (hs2 : starEach [e2, e3] X.env = (false, eval e2 X.env) :: starEach [e3] X.env := by rfl) (hs3 : starEach [e3] X.env = (false, eval e3 X.env) :: starEach [] X.env := by rfl) : NewL X (.List [e1, e2, e3] p0) σ F [v1, v2, v3] := fun H e Q q =>
  je_of (pe_lst (pa_cons pe_self (pa_cons pe_self (pa_cons pe_self pa_nil hs3) hs2) hs1)) (h1 H _ (h2 H _ (h3 H _ ⟨by show 3 ≤ sizeLine; decide, fun l hl => q l _ hl (Ex.new hl) upd_same⟩)))
end
section
variable {P : Program} {w : World} {K : PySem.W.Frag} {mg : Str → Option Value} {base : Heap} -- (Dw)
theorem ok_cell (F : At K mg "_law_cell" (topS 58)) (B : Bl mg) : Kn P w K mg base "_law_cell" 1 ["_law_script", "_law_k"] (spCell K) := by
  refine kn58 F (fun vs H Q E ⟨_, _, e, _⟩ => by rw [e]; rfl) fun fa cdv A outer s H vs Q E hr ⟨a, ns, ev, hs, hR⟩ => ?_
  subst ev
  refine jss_cons (js_ifR (rt_lt (rv_var 1 rfl) (rv_lenS B.len (rv_var 0 rfl) hs)) (fun hlt => ?_) (fun _ => jss_nil ?_))
  · have hlt := of_decide_eq_true hlt
    cases ns with
    | nil => simp at hlt
    | cons i ns => exact jss_one (js_ret (RV.q (rv_ixS (rv_var 0 rfl) (rv_var 1 rfl) hs (show atI ((i :: ns).map V.int) ((0 : Nat) : Int) = some (V.int i) from atI_nat rfl)) (hR i)))
  · exact jss_one (js_ret (RV.q rv_int (hR 0)))
theorem ok_stream (F : At K mg "_law_stream" (topS 59)) (B : Bl mg) : Kn P w K mg base "_law_stream" 1 ["_law_cell_here"] spStream := by
  refine kn59 F (fun vs H Q E ⟨_, e, _⟩ => by rw [e]; rfl) fun fa cdv A outer s H vs Q E hr ⟨i, ev, hR⟩ => ?_
  subst ev
  refine jss_cons (js_ifR (rt_ge (rv_var 0 rfl) (rv_pow rv_int rv_int ⟨by decide, by decide, by decide⟩)) (fun _ => ?_) (fun _ => jss_nil ?_))
  · exact jss_one (js_ret ((NewL.three (F := H) (fun H => rv_var 0 rfl) (fun H => rv_int) (fun H => rv_mod (rv_toInt B.int (rv_var 0 rfl)) rv_int (by decide))).q fun p J hp eJ hJ => hR p _ _ _ J hp eJ hJ))
  · exact jss_one (js_ret ((NewL.three (F := H) (fun H => rv_int) (fun H => rv_int) (fun H => rv_mod (rv_toInt B.int (rv_var 0 rfl)) rv_int (by decide))).q fun p J hp eJ hJ => hR p _ _ _ J hp eJ hJ))
theorem ok_byspO (F : At K mg "_law_by_spans" (topS 72)) (B : Bl mg) : Kn P w K mg base "_law_by_spans" 1 ["_law_spans"] spBySp := by
  refine kn72 F (fun vs H Q E ⟨_, _, _, e, _⟩ => by rw [e]; rfl) fun fa cdv A outer s H vs Q E hr ⟨Fk, sp, v, ev, g, k1, hn, hR⟩ => ?_
  subst ev
  refine jss_cons (js_setD 1 sc72.nd g ((jd_len B.len (jd_var 0 rfl k1)).is (by rw [List.length_map])) fun v1 d G1 J1 r1 g1 ed kn => ?_)
  subst ed
  cases kn
  refine jss_cons (js_newO 2 sc72.nd g r1 fun p o0 hp0 => ?_)
  have k1' := k1.up r1.fg
  refine jss_cons (js_for (ji_range B.range (by omega) (jd_var 1 rfl (.int _))) (pg_name (i := 3) sc72.nd rfl (.inr rfl)) o0.gd
    (fun G0 i σ' H' => ∃ p o3 o4 G', σ' = [some v, some (.int (sp.length : Int)), some (.ref p), o3, o4] ∧ Ex G0 G' ∧ Ex G1 G' ∧ Own W0 Fk H p G' H' ((relTo sp.length i (spG sp)).map prN)) (fun G0 i σ' H' ⟨_, _, _, G', _, e, _, o⟩ => e.trans o.gd.fh)
    (fun G J r g' => ⟨p, none, none, G, rfl, Ex.refl G, r.fg, o0.step g r⟩) ?_ ?_)
  · rintro G0 i x d σ' H' eF hd kx ⟨p, o3, o4, G', rfl, eG, eG1, o⟩
    obtain ⟨hi, rfl⟩ := rngN_of hd
    cases kx
    have k1' := k1'.up eG1
    have hl2 := List.length_filter_le (spG sp i) (List.range sp.length)
    rw [List.length_range] at hl2
    refine jss_one (js_catO (es := (((List.range sp.length).filter (spG sp i)).map fun h => (i, h)).map prN) 2 sc72.nd g o (rv_var 2 rfl) ((jd_lcIfR (i := 4) (n := sp.length) (spG sp i) (fun h => prN (i, h)) sc72.nd (ji_range B.range (by omega) (jd_var 1 rfl (.int _))) (blkOk_by (N := N72) (sc := defScope (topS 72)) (by decide +kernel)) (tg_ok sc72.nd rfl (.inl rfl)) (by omega)
      (fun h G2 hh e s0 H0 C cl fp => (jt_cp (jd_ixT (k := 1) (jd_ix (jd_var 0 rfl (k1'.up e)) (jd_var 3 rfl (.int _)) (pr_at hi)) jd_int rfl) (jd_ixT (k := 0) (jd_ix (jd_var 0 rfl (k1'.up e)) (jd_var 4 rfl (.int _)) (pr_at hh)) jd_int rfl) od_lt).is (by unfold spG; rw [decide_eq_decide]; omega))
      (fun h G2 hh _ e2 s0 H0 C cl fp => jd_tup (jds_is (jd_var 3 rfl (.int _)) (jds_is (jd_var 4 rfl (.int _)) jds_nil)) fun ds e => by subst e; exact ⟨by show 2 ≤ 100000; omega, rfl⟩)).is (by rw [List.map_map]; rfl)) (by
        rw [List.length_map, List.length_map, List.length_map]
        have h1 := relTo_len sp.length i (spG sp)
        have h2 : i * sp.length ≤ 40 * 40 := Nat.mul_le_mul (by omega) hn
        omega) fun l G3 J3 e3 o3' => ?_)
    rw [← List.map_append, ← relTo_succ] at o3'
    exact ⟨l, _, o4, G3, rfl, eG.trans e3, eG1.trans e3, o3'⟩
  · rintro G0 σ' H' eF ⟨p, o3, o4, G', rfl, eG, eG1, o⟩
    rw [rngN_len] at o
    exact jss_one (js_ret (RV.q (rv_var 2 rfl) (hR p G' H' o)))
theorem ok_anyorder (F : At K mg "_law_any_order" (topS 84)) (B : Bl mg) (k60 : DrawK P w K mg base) (k83 : Kn P w K mg base "_law_family" 43 ["_law_stream_here", "_law_size", "_law_family_here"] (spS S_family)) (k62 : Kn P w K mg base "_law_closed" 1 ["_law_size", "_law_pairs_here"] (spP S_closed)) :
    Kn P w K mg base "_law_any_order" 44 ["_law_stream_here", "_law_most"] (spS S_anyorder) := by
  refine kn84 F (spS_len fun ds R ⟨_, e, _⟩ => by rw [e]; rfl) fun fa cdv A outer s H vs Q E hr ⟨t, vs', Fk, ds, ev, g, kd, most, ed, hm, hR⟩ => ?_
  subst ed ev
  obtain ⟨v, rfl, k1⟩ := dq1 kd
  cases k1
  refine jss_cons (js_setD 2 sc84.nd g (jd_draw (n := most + 1) k60 (Sub.refl _) hr (fun H => rv_var 0 rfl) ((jd_bin (jd_var 1 rfl (.int _)) jd_int od_add).is (by congr 1)) (by omega) (by omega)) fun vn d G1 J1 r1 g1 pd kn => ?_)
  obtain ⟨n0, hn0, rfl⟩ := pd
  cases kn
  refine jss_mid (fun σ' H' => ∃ (n : Nat) (G2 : Hp), n ≤ most ∧ Gr (Ws t) Fk H G2 H' ∧ Good (Ws t) G2 H' ∧ σ' = [some (.ref t), some (.int (most : Int)), some (.int (n : Int)), none, none, none, none, none]) (js_ifT g1 (P := fun _ => True) (jt_cmp (jd_draw (n := 3) k60 (Sub.refl _) hr (fun H => rv_var 0 rfl) jd_int (by decide) (by decide)) jd_int fun x y ⟨k, _, ex⟩ ey => by
        subst ex ey
        exact od_eqI.imp fun d ed => ⟨_, ed, trivial⟩) (fun G2 J2 r2 g2 _ => ?_) (fun G2 J2 r2 g2 _ => jss_nil ⟨n0, G2, by omega, r1.trans r2 g, g2, rfl⟩)) ?_
  · exact jss_one (js_setR 2 sc84.nd (rv_var 1 rfl) ⟨most, G2, Nat.le_refl _, r1.trans r2 g, g2, rfl⟩)
  rintro σ2 J2 ⟨n, G2, hn, r2, g2, rfl⟩
  refine jss_cons (js_setD 3 sc84.nd g2 (jd_fnS (P := fun d => ∃ ps, Vd n ps ∧ ps.length ≤ 2000 ∧ d = dPN ps) (Sub.refl _) k83 hr (fun H => rv_var 0 rfl) (jds_cons (P := fun ds => ∃ k : Nat, ds = [.int (n : Int), .int (k : Int)]) (jd_var 2 rfl (.int _)) (jds_cons (P := fun ds => ∃ k : Nat, ds = [.int (k : Int)]) (jd_draw (n := 11) k60 (Sub.refl _) hr (fun H => rv_var 0 rfl) jd_int (by decide) (by decide)) jds_nil fun d ds ⟨k, _, e1⟩ e => ⟨k, by rw [e1, e]⟩) fun d ds e1 ⟨k, e⟩ => ⟨k, by rw [e1, e]⟩) fun ds R ⟨k, e⟩ q => ⟨n, k, e, by omega, fun ps h1 h2 => q _ ⟨ps, h1, h2, rfl⟩⟩) fun vp d G3 J3 r3 g3 pd kp => ?_)
  obtain ⟨ps, hv, hl, rfl⟩ := pd
  have r3 := r2.trans r3 g
  refine jss_cons (js_setD 4 sc84.nd g3 (jd_fn (P := Is (dTab n (wsh ps n))) k62 hr (jds_is (jd_var 2 rfl (.int _)) (jds_is (jd_var 3 rfl kp) jds_nil)) fun ds R e q => ⟨n, ps, e, by omega, by omega, hv.lt, q _ rfl⟩) fun vt d G4 J4 r4 g4 pd kt => ?_)
  subst pd
  have r4' := r3.trans r4 g
  refine jss_mid (fun σ' H' => ∃ (ps : List (Nat × Nat)) (G5 : Hp) (v : V) (o5 o6 o7 : Option V), Vd n ps ∧ ps.length ≤ 2000 ∧ Gr (Ws t) Fk H G5 H' ∧ Good (Ws t) G5 H' ∧ Dq G5 v (dTab n (wsh ps n)) ∧ σ' = [some (.ref t), some (.int (most : Int)), some (.int (n : Int)), some vp, some v, o5, o6, o7]) (js_ifT g4 (P := fun _ => True) (jt_cmp (jd_draw (n := 4) k60 (Sub.refl _) hr (fun H => rv_var 0 rfl) jd_int (by decide) (by decide)) jd_int fun x y ⟨k, _, ex⟩ ey => by
        subst ex ey
        exact od_eqI.imp fun d ed => ⟨_, ed, trivial⟩) (fun G5 J5 r5 g5 _ => ?_) (fun G5 J5 r5 g5 _ => jss_nil ⟨ps, G5, vt, _, _, _, hv, hl, r4'.trans r5 g, g5, kt.up r5.fg, rfl⟩)) ?_
  · have r5' := r4'.trans r5 g
    refine jss_cons (js_newO 5 sc84.nd g r5' fun p o0 hp0 => ?_)
    refine jss_cons (js_for (tg := .Tuple _ _ _) (g := gPair K 6 7) (ds := ps.map prN) (ji_list (jd_var 3 rfl (kp.up (r4.fg.trans r5.fg)))) (pg_tup rfl (pgs_cons (pg_name (i := 6) sc84.nd rfl (.inl rfl)) (pgs_cons (pg_name (i := 7) sc84.nd rfl (.inl rfl)) pgs_nil))) o0.gd
      (fun G0 i σ' H' => ∃ o6 o7 G' qs, σ' = [some (.ref t), some (.int (most : Int)), some (.int (n : Int)), some vp, some vt, some (.ref p), o6, o7] ∧ Ex G0 G' ∧ Own (Ws t) Fk H p G' H' (qs.map prN) ∧ (∀ q ∈ qs, q ∈ ps) ∧ qs.length ≤ i) (fun G0 i σ' H' ⟨_, _, G', _, _, e, o, _⟩ => e.trans o.gd.fh)
      (fun G J r g' => ⟨none, none, G, [], rfl, Ex.refl G, o0.step g r, fun q h => by simp at h, Nat.zero_le _⟩) ?_ ?_)
    · rintro G0 i x d σ' H' eF hd kx ⟨o6, o7, G', qs, rfl, eG, o, hq, hi⟩
      rw [List.getElem?_map] at hd
      obtain ⟨q, hqi, rfl⟩ := Option.map_eq_some_iff.mp hd
      have hil := (List.getElem?_eq_some_iff.mp hqi).1
      refine gPair_run (eG.trans o.gd.fh) kx ?_
      refine jss_one (js_ifO o g (P := fun _ => True) (fun G e k => jt_cmp (jd_draw (n := 6) k60 (Sub.refl _) hr (fun H => rv_var 0 rfl) jd_int (by decide) (by decide)) jd_int fun x y ⟨k, _, ex⟩ ey => by
        subst ex ey
        exact od_gt.imp fun d ed => ⟨_, ed, trivial⟩) (fun J' _ o' => ?_) (fun J' _ o' => ?_))
      · refine jss_one (js_appO (P := Is (prN q)) o' g (rv_var 5 rfl) (by rw [List.length_map]; omega) (jd_tup (jds_is (jd_var 6 rfl (.int _)) (jds_is (jd_var 7 rfl (.int _)) jds_nil)) fun ds e => by subst e; exact ⟨by show 2 ≤ 100000; omega, rfl⟩) fun d G3 J3 pd e3 o3 => ?_)
        rw [show d = _ from pd] at o3
        refine ⟨_, _, G3, qs ++ [q], rfl, eG.trans e3, by rw [List.map_append]; exact o3, fun z hz => ?_, by rw [List.length_append, List.length_singleton]; omega⟩
        rcases List.mem_append.mp hz with h | h
        · exact hq z h
        · rw [List.mem_singleton] at h; subst h; exact List.mem_of_getElem? hqi
      · exact jss_nil ⟨_, _, G', qs, rfl, eG, o', hq, by omega⟩
    · rintro G0 σ' H' eF ⟨o6, o7, G', qs, rfl, eG, o, hq, hi⟩
      rw [List.length_map] at hi
      obtain ⟨G6, e6, g6, r6, k6⟩ := o.known
      have hvq := hv.sub hq
      refine jss_one (js_setD 4 sc84.nd g6 (jd_fn (P := Is (dTab n (wsh qs n))) k62 hr (jds_is (jd_var 2 rfl (.int _)) (jds_is (jd_var 5 rfl k6) jds_nil)) fun ds R e q => ⟨n, qs, e, by omega, by omega, hvq.lt, q _ rfl⟩) fun vt d G7 J7 r7 g7 pd kt => ?_)
      subst pd
      exact ⟨qs, G7, vt, _, _, _, hvq, by omega, r6.trans r7 g, g7, kt, rfl⟩
  rintro σ5 J5 ⟨ps5, G5, v5, o5, o6, o7, hv5, hl5, r5, g5, k5, rfl⟩
  exact jss_one (js_retD g5 (jd_var 4 rfl k5) fun v d G J r6 ed kd => by subst ed; exact hR n ps5 hn hv5 hl5 v G J (r5.trans r6 g) kd)
theorem ok_told (F : At K mg "_law_told" (topS 85)) (B : Bl mg) (k60 : DrawK P w K mg base) (k61 : MixK P w K mg base) (k63 : Kn P w K mg base "_law_pairs" 1 ["_law_table"] (spP S_pairs)) (k66 : Kn P w K mg base "_law_covers" 1 ["_law_table", "_law_low", "_law_high"] (spP S_covers)) :
    Kn P w K mg base "_law_told" 3 ["_law_stream_here", "_law_table"] (spS S_told) := by
  refine kn85 F (spS_len fun ds R ⟨_, _, e, _⟩ => by rw [e]; rfl) fun fa cdv A outer s H vs Q E hr ⟨t, vs', Fk, ds, ev, g, kd, n, f, ed, hn, hR⟩ => ?_
  subst ed ev
  obtain ⟨v, rfl, k1⟩ := dq1 kd
  have hrl : (relP n f).length ≤ 1600 := Nat.le_trans (relP_len n f) (Nat.mul_le_mul hn hn)
  refine jss_cons (js_newO 2 sc85.nd g g.gr fun p o0 hp0 => ?_)
  refine jss_cons (js_for (tg := .Tuple _ _ _) (g := gPair K 3 4) (ds := (relP n f).map prN) (ji_list (jd_fn (P := Is (dPN (relP n f))) k63 hr (jds_is (jd_var 1 rfl k1) jds_nil) fun ds R e q => ⟨n, f, e, hn, q _ rfl⟩)) (pg_tup rfl (pgs_cons (pg_name (i := 3) sc85.nd rfl (.inl rfl)) (pgs_cons (pg_name (i := 4) sc85.nd rfl (.inl rfl)) pgs_nil))) o0.gd
    (fun G0 i σ' H' => ∃ o3 o4 G' qs, σ' = [some (.ref t), some v, some (.ref p), o3, o4] ∧ Ex G0 G' ∧ Ex Fk G' ∧ Own (Ws t) Fk H p G' H' (qs.map prN) ∧ (∀ q ∈ qs, q ∈ relP n f) ∧ (∀ q ∈ (relP n f).take i, cvB n f q.1 q.2 = true → q ∈ qs) ∧ qs.length ≤ 2 * i) (fun G0 i σ' H' ⟨_, _, G', _, _, e, _, o, _⟩ => e.trans o.gd.fh)
    (fun G J r g' => ⟨none, none, G, [], rfl, Ex.refl G, r.fg, o0.step g r, fun q h => by simp at h, fun q h => by simp at h, Nat.zero_le _⟩) ?_ ?_)
  · rintro G0 i x d σ' H' eF hd kx ⟨o3, o4, G', qs, rfl, eG, eF', o, hq, hcv, hi⟩
    rw [List.getElem?_map] at hd
    obtain ⟨q, hqi, rfl⟩ := Option.map_eq_some_iff.mp hd
    have hil := (List.getElem?_eq_some_iff.mp hqi).1
    have hqm := List.mem_of_getElem? hqi
    obtain ⟨hq1, hq2, _⟩ := relP_mem.mp hqm
    refine gPair_run (eG.trans o.gd.fh) kx ?_
    refine jss_mid (fun σ' H' => ∃ (G2 : Hp) (qs2 : List (Nat × Nat)), σ' = [some (.ref t), some v, some (.ref p), some (.int (q.1 : Int)), some (.int (q.2 : Int))] ∧ Ex G' G2 ∧ Own (Ws t) Fk H p G2 H' (qs2.map prN) ∧ (∀ z ∈ qs2, z ∈ relP n f) ∧ (∀ z ∈ (relP n f).take (i + 1), cvB n f z.1 z.2 = true → z ∈ qs2) ∧ qs2.length ≤ 2 * i + 1) (js_ifO o g (P := fun b => b = false → cvB n f q.1 q.2 = false) (fun G2 e k => JW.t (jw_or (P1 := Is (cvB n f q.1 q.2)) (jt_of (jd_fn (P := Is (.bool (cvB n f q.1 q.2))) k66 hr (jds_is (jd_var 1 rfl (k1.up (eF'.trans e))) (jds_is (jd_var 3 rfl (.int _)) (jds_is (jd_var 4 rfl (.int _)) jds_nil))) fun ds R e qq => ⟨n, f, q.1, q.2, e, hn, hq1, hq2, qq _ rfl⟩)) (fun _ z => by cases z) fun hf => jw_or1 (jt_cmp (jd_draw (n := 3) k60 (Sub.refl _) hr (fun H => rv_var 0 rfl) jd_int (by decide) (by decide)) jd_int fun x y ⟨k, _, ex⟩ ey => by
        subst ex ey
        exact od_eqI.imp fun d ed => ⟨_, ed, fun _ => Eq.symm hf⟩))) (fun J' _ o' => ?_) (fun J' hb o' => ?_)) ?_
    · refine jss_one (js_appO (P := Is (prN q)) o' g (rv_var 2 rfl) (by rw [List.length_map]; omega) (jd_tup (jds_is (jd_var 3 rfl (.int _)) (jds_is (jd_var 4 rfl (.int _)) jds_nil)) fun ds e => by subst e; exact ⟨by show 2 ≤ 100000; omega, rfl⟩) fun d G3 J3 pd e3 o3 => ?_)
      rw [show d = _ from pd] at o3
      refine ⟨G3, qs ++ [q], rfl, e3, by rw [List.map_append]; exact o3, fun z hz => ?_, fun z hz hc => ?_, by rw [List.length_append, List.length_singleton]; omega⟩
      · rcases List.mem_append.mp hz with h | h
        · exact hq z h
        · rw [List.mem_singleton] at h; subst h; exact hqm
      · rw [List.take_add_one, hqi] at hz
        rcases List.mem_append.mp hz with h | h
        · exact List.mem_append.mpr (.inl (hcv z h hc))
        · exact List.mem_append.mpr (.inr (by simpa using h))
    · refine jss_nil ⟨G', qs, rfl, Ex.refl G', o', hq, fun z hz hc => ?_, by omega⟩
      rw [List.take_add_one, hqi] at hz
      rcases List.mem_append.mp hz with h | h
      · exact hcv z h hc
      · have e : z = q := by simpa using h
        subst e
        rw [hb rfl] at hc
        cases hc
    rintro σ2 H2 ⟨G2, qs2, rfl, e2, o2, hq, hcv, hi⟩
    refine jss_one (js_ifO o2 g (P := fun _ => True) (fun G e k => jt_cmp (jd_draw (n := 8) k60 (Sub.refl _) hr (fun H => rv_var 0 rfl) jd_int (by decide) (by decide)) jd_int fun x y ⟨k, _, ex⟩ ey => by
        subst ex ey
        exact od_eqI.imp fun d ed => ⟨_, ed, trivial⟩) (fun J' _ o' => ?_) (fun J' hb o' => ?_))
    · refine jss_one (js_appO (P := Is (prN q)) o' g (rv_var 2 rfl) (by rw [List.length_map]; omega) (jd_tup (jds_is (jd_var 3 rfl (.int _)) (jds_is (jd_var 4 rfl (.int _)) jds_nil)) fun ds e => by subst e; exact ⟨by show 2 ≤ 100000; omega, rfl⟩) fun d G3 J3 pd e3 o3 => ?_)
      rw [show d = _ from pd] at o3
      refine ⟨_, _, G3, qs2 ++ [q], rfl, eG.trans (e2.trans e3), eF'.trans (e2.trans e3), by rw [List.map_append]; exact o3, fun z hz => ?_, fun z hz hc => List.mem_append.mpr (.inl (hcv z hz hc)), by rw [List.length_append, List.length_singleton]; omega⟩
      rcases List.mem_append.mp hz with h | h
      · exact hq z h
      · rw [List.mem_singleton] at h; subst h; exact hqm
    · exact jss_nil ⟨_, _, G2, qs2, rfl, eG.trans e2, eF'.trans e2, o', hq, hcv, by omega⟩
  · rintro G0 σ' H' eF ⟨o3, o4, G', qs, rfl, eG, eF', o, hq, hcv, hi⟩
    rw [List.length_map] at hi hcv
    rw [List.take_length] at hcv
    obtain ⟨G3, e3, g3, r3, k3⟩ := o.known
    refine jss_one (js_retD g3 (jd_fnS (P := fun d => ∃ ps : List (Nat × Nat), ps.Perm qs ∧ d = dPN ps) (Sub.refl _) k61 hr (fun H => rv_var 0 rfl) (jds_is (jd_var 2 rfl k3) jds_nil) fun ds R e qq => ⟨_, e, by rw [List.length_map]; omega, fun ys hy => ?_⟩) fun v d G J r4 ⟨ps, hp, ed⟩ kd => ?_)
    · obtain ⟨ps, rfl, hp⟩ := perm_map_inv hy
      exact qq _ ⟨ps, hp, rfl⟩
    · subst ed
      exact hR ps (fun z hz => hq z (hp.mem_iff.mp hz)) (fun z hz hc => hp.mem_iff.mpr (hcv z hz hc)) (by have := hp.length_eq; omega) v G J (r3.trans r4 g) kd
end
end Dw
/-! Plain: closures. -/
namespace Dw
section
variable {ps : List (Nat × Nat)}
theorem wsh_s (k i j : Nat) : wsh ps (k + 1) i j = true ↔ wsh ps k i j = true ∨ (wsh ps k i k = true ∧ wsh ps k k j = true) := by
  show (wsh ps k i j || (wsh ps k i k && wsh ps k k j)) = true ↔ _
  rw [Bool.or_eq_true, Bool.and_eq_true]
theorem wsh_rk {rk : Nat → Nat} (h : ∀ p ∈ ps, rk p.1 < rk p.2) : ∀ (k i j : Nat), wsh ps k i j = true → rk i < rk j
  | 0, i, j, e => h (i, j) (of_decide_eq_true e)
  | k + 1, i, j, e => by
    rcases (wsh_s k i j).mp e with e | ⟨e1, e2⟩
    · exact wsh_rk h k i j e
    · exact Nat.lt_trans (wsh_rk h k i k e1) (wsh_rk h k k j e2)
theorem wsh_tr : ∀ (k i m j : Nat), m < k → wsh ps k i m = true → wsh ps k m j = true → wsh ps k i j = true
  | 0, i, m, j, h, _, _ => absurd h (Nat.not_lt_zero m)
  | k + 1, i, m, j, h, h1, h2 => by
    by_cases e : m = k
    · subst e
      rw [wsh_col] at h1
      rw [wsh_row] at h2
      exact (wsh_s m i j).mpr (.inr ⟨h1, h2⟩)
    · have hm : m < k := by omega
      rcases (wsh_s k i m).mp h1 with a | ⟨a1, a2⟩
      · rcases (wsh_s k m j).mp h2 with b | ⟨b1, b2⟩
        · exact (wsh_s k i j).mpr (.inl (wsh_tr k i m j hm a b))
        · exact (wsh_s k i j).mpr (.inr ⟨wsh_tr k i m k hm a b1, b2⟩)
      · rcases (wsh_s k m j).mp h2 with b | ⟨b1, b2⟩
        · exact (wsh_s k i j).mpr (.inr ⟨a1, wsh_tr k k m j hm a2 b⟩)
        · exact (wsh_s k i j).mpr (.inr ⟨a1, b2⟩)
theorem wsh_mem {i j : Nat} (h : (i, j) ∈ ps) : ∀ k, wsh ps k i j = true
  | 0 => decide_eq_true h
  | k + 1 => (wsh_s k i j).mpr (.inl (wsh_mem h k))
theorem wsh_min {g : Nat → Nat → Prop} {n : Nat} (h : ∀ p ∈ ps, g p.1 p.2) (t : ∀ i m j, m < n → g i m → g m j → g i j) : ∀ (k i j : Nat), k ≤ n → wsh ps k i j = true → g i j
  | 0, i, j, _, e => h (i, j) (of_decide_eq_true e)
  | k + 1, i, j, hk, e => by
    rcases (wsh_s k i j).mp e with e | ⟨e1, e2⟩
    · exact wsh_min h t k i j (by omega) e
    · exact t i k j (by omega) (wsh_min h t k i k (by omega) e1) (wsh_min h t k k j (by omega) e2)
theorem wsh_lt {n : Nat} (h : ∀ p ∈ ps, p.1 < n ∧ p.2 < n) (k i j : Nat) (e : wsh ps k i j = true) : i < n ∧ j < n :=
  wsh_min (g := fun i j => i < n ∧ j < n) (n := k) h (fun i m j _ a b => ⟨a.1, b.2⟩) k i j (Nat.le_refl k) e
end
/-- a strict order on the numbers below n -/
structure Ord (n : Nat) (f : Nat → Nat → Bool) : Prop where
  irr : ∀ i, i < n → f i i = false
  tr : ∀ i m j, i < n → m < n → j < n → f i m = true → f m j = true → f i j = true
theorem Ord.wsh {n : Nat} {ps : List (Nat × Nat)} (h : Vd n ps) : Ord n (wsh ps n) := by
  obtain ⟨rk, hr⟩ := h.rk
  refine ⟨fun i hi => ?_, fun i m j hi hm hj => wsh_tr n i m j hm⟩
  cases e : Dw.wsh ps n i i with
  | false => rfl
  | true => exact absurd (wsh_rk hr n i i e) (Nat.lt_irrefl _)
theorem spG_tr {sp : List (Nat × Nat)} (hs : ∀ p ∈ sp, p.1 ≤ p.2) {i m j : Nat} (hm : m < sp.length) (h1 : spG sp i m = true) (h2 : spG sp m j = true) : spG sp i j = true := by
  have a : (sp.getD i (0, 0)).2 < (sp.getD m (0, 0)).1 := of_decide_eq_true h1
  have b : (sp.getD m (0, 0)).2 < (sp.getD j (0, 0)).1 := of_decide_eq_true h2
  have c : (sp.getD m (0, 0)).1 ≤ (sp.getD m (0, 0)).2 := sp_get hs hm
  exact decide_eq_true (by show (sp.getD i (0, 0)).2 < (sp.getD j (0, 0)).1; omega)
theorem wsh_rel {n : Nat} {g : Nat → Nat → Bool} (t : ∀ i m j, i < n → m < n → j < n → g i m = true → g m j = true → g i j = true) {i j : Nat} (hi : i < n) (hj : j < n) : wsh (relP n g) n i j = g i j := by
  rw [Bool.eq_iff_iff]
  constructor
  · intro e
    exact (wsh_min (ps := relP n g) (g := fun i j => i < n ∧ j < n ∧ g i j = true) (n := n) (fun p hp => relP_mem.mp hp) (fun i m j hm a b => ⟨a.1, b.2.1, t i m j a.1 hm b.2.1 a.2.2 b.2.2⟩) n i j (Nat.le_refl n) e).2.2
  · intro e
    exact wsh_mem (relP_mem.mpr ⟨hi, hj, e⟩) n
/-- the numbers between -/
def btw (n : Nat) (f : Nat → Nat → Bool) (i j : Nat) : List Nat := (List.range n).filter fun k => f i k && f k j
theorem mem_btw {n : Nat} {f : Nat → Nat → Bool} {i j k : Nat} : k ∈ btw n f i j ↔ k < n ∧ f i k = true ∧ f k j = true := by
  unfold btw
  rw [List.mem_filter, List.mem_range, Bool.and_eq_true]
theorem filter_lt {α : Type} {p q : α → Bool} : ∀ {l : List α}, (∀ x ∈ l, p x = true → q x = true) → (∃ x ∈ l, q x = true ∧ p x = false) → (l.filter p).length < (l.filter q).length
  | [], _, ⟨x, hx, _⟩ => absurd hx List.not_mem_nil
  | a :: l, h, ⟨x, hx, h1, h2⟩ => by
    have hle : (l.filter p).length ≤ (l.filter q).length := by
      clear hx
      have h' : ∀ x ∈ l, p x = true → q x = true := fun x hx => h x (List.mem_cons_of_mem _ hx)
      clear h
      induction l with
      | nil => simp
      | cons b l ih =>
        have ih := ih fun x hx => h' x (List.mem_cons_of_mem _ hx)
        have hb := h' b List.mem_cons_self
        rw [List.filter_cons, List.filter_cons] -- (Dw)
        cases pb : p b with
        | true => rw [hb pb]; simp; exact ih
        | false => cases q b <;> simp <;> omega
    rw [List.filter_cons, List.filter_cons] -- (Dw)
    rcases List.mem_cons.mp hx with rfl | hx -- (Dw)
    · rw [h1, h2]; simp; omega
    · have ih := filter_lt (fun x hx => h x (List.mem_cons_of_mem _ hx)) ⟨x, hx, h1, h2⟩
      have ha := h a List.mem_cons_self
      cases pa : p a with
      | true => rw [ha pa]; simp; exact ih
      | false => cases q a <;> simp <;> omega
theorem btw_lt {n : Nat} {f : Nat → Nat → Bool} (O : Ord n f) {i j k : Nat} (hi : i < n) (hj : j < n) (hk : k < n) (h1 : f i k = true) (h2 : f k j = true) : (btw n f i k).length < (btw n f i j).length ∧ (btw n f k j).length < (btw n f i j).length := by
  constructor
  · refine filter_lt (fun x hx h => ?_) ⟨k, List.mem_range.mpr hk, by rw [h1, h2]; rfl, by rw [O.irr k hk, Bool.and_false]⟩
    rw [Bool.and_eq_true] at h ⊢
    exact ⟨h.1, O.tr x k j (List.mem_range.mp hx) hk hj h.2 h2⟩
  · refine filter_lt (fun x hx h => ?_) ⟨k, List.mem_range.mpr hk, by rw [h1, h2]; rfl, by rw [O.irr k hk, Bool.false_and]⟩
    rw [Bool.and_eq_true] at h ⊢
    exact ⟨O.tr i k x hi hk (List.mem_range.mp hx) h1 h.1, h.2⟩
/-- what is told has the same closure -/
theorem told_cl {n : Nat} {f : Nat → Nat → Bool} (O : Ord n f) {ps : List (Nat × Nat)} (h1 : ∀ p ∈ ps, p ∈ relP n f) (h2 : ∀ p ∈ relP n f, cvB n f p.1 p.2 = true → p ∈ ps) {i j : Nat} (hi : i < n) (hj : j < n) : wsh ps n i j = f i j := by
  rw [Bool.eq_iff_iff]
  constructor
  · intro e
    exact (wsh_min (ps := ps) (g := fun i j => i < n ∧ j < n ∧ f i j = true) (n := n) (fun p hp => relP_mem.mp (h1 p hp)) (fun i m j hm a b => ⟨a.1, b.2.1, O.tr i m j a.1 hm b.2.1 a.2.2 b.2.2⟩) n i j (Nat.le_refl n) e).2.2
  · have key : ∀ (m i j : Nat), (btw n f i j).length ≤ m → i < n → j < n → f i j = true → wsh ps n i j = true := by
      intro m
      induction m with
      | zero =>
        intro i j hm hi hj e
        have h0 : btw n f i j = [] := List.length_eq_zero_iff.mp (by omega)
        refine wsh_mem (h2 (i, j) (relP_mem.mpr ⟨hi, hj, e⟩) ?_) n
        unfold cvB
        rw [e, Bool.true_and, Bool.not_eq_true', List.any_eq_false]
        intro k hk hc
        rw [Bool.and_eq_true] at hc
        have : k ∈ btw n f i j := mem_btw.mpr ⟨List.mem_range.mp hk, hc.1, hc.2⟩
        rw [h0] at this
        simp at this
      | succ m ih =>
        intro i j hm hi hj e
        by_cases h0 : btw n f i j = []
        · exact ih i j (by rw [h0]; simp) hi hj e
        · obtain ⟨k, hk⟩ := List.exists_mem_of_ne_nil _ h0
          obtain ⟨hkn, a, b⟩ := mem_btw.mp hk
          obtain ⟨l1, l2⟩ := btw_lt O hi hj hkn a b
          exact wsh_tr n i k j hkn (ih i k (by omega) hi hkn a) (ih k j (by omega) hkn hj b)
    exact key _ i j (Nat.le_refl _) hi hj
theorem told_vd {n : Nat} {f : Nat → Nat → Bool} (O : Ord n f) {ps : List (Nat × Nat)} (h1 : ∀ p ∈ ps, p ∈ relP n f) : Vd n ps := by
  refine ⟨fun p hp => ⟨(relP_mem.mp (h1 p hp)).1, (relP_mem.mp (h1 p hp)).2.1⟩, fun x => ((List.range n).filter fun k => f k x).length, fun p hp => ?_⟩
  obtain ⟨a, b, c⟩ := relP_mem.mp (h1 p hp)
  refine filter_lt (fun x hx h => O.tr x p.1 p.2 (List.mem_range.mp hx) a b h c) ⟨p.1, List.mem_range.mpr a, c, O.irr _ a⟩
theorem dTab_congr {n : Nat} {f g : Nat → Nat → Bool} (h : ∀ i j, i < n → j < n → f i j = g i j) : dTab n f = dTab n g := by
  unfold dTab dRow
  congr 1
  refine List.map_congr_left fun i hi => ?_
  congr 2
  exact List.map_congr_left fun j hj => h i j (List.mem_range.mp hi) (List.mem_range.mp hj)
end Dw
/-! What is right. -/
namespace Dw
open PySem PySem.Spec PyProof.Rows L2 -- (Dw)
def dSpT (sp : List (Nat × Nat)) : PyData := .tuple (sp.map prN)
def S_tableof (ds : List PyData) (R : PyData → Prop) : Prop := ∃ sp, ds = [.str "spans", dSpT sp] ∧ sp.length ≤ 40 ∧ (∀ p ∈ sp, p.1 ≤ p.2) ∧ R (dTab sp.length (spG sp))
def S_right (ds : List PyData) (R : PyData → Prop) : Prop := ∃ (n : Nat) (f : Nat → Nat → Bool), n ≤ 40 ∧ ((∃ sp, ds = [dTab n f, .str "spans", .tuple [.bool true, dSpT sp]] ∧ sp.length = n ∧ (∀ p ∈ sp, p.1 ≤ p.2) ∧ (∀ i j, i < n → j < n → spG sp i j = f i j) ∧ R (.bool true)) ∨
  (∃ a b c d, ds = [dTab n f, .str "spans", .tuple [.bool false, dTupN [a, b, c, d]]] ∧ a < n ∧ b < n ∧ c < n ∧ d < n ∧ R (.bool (barB f a b c d))))
section
variable {W : Wo} {X : Cx} {a b c : Expr} {rest : List Expr} {σ : St} {F G H J : Hp} {pos : Pos}
theorem jw_andF (ha : JT W X a σ F (Is false)) : JW W X (.BoolOp .And (a :: b :: rest) pos) σ F (Is false) := jw_and ha (fun _ => rfl) (fun z => by cases z)
end
section
variable {P : Program} {w : World} {K : PySem.W.Frag} {mg : Str → Option Value} {base : Heap} -- (Dw)
theorem ok_tableof (F : At K mg "_law_table_of" (topS 94)) (B : Bl mg) (k87 : Kn P w K mg base "_law_are_pairs" 3 ["_law_actual"] (spP S_arepr)) (k72 : Kn P w K mg base "_law_by_spans" 1 ["_law_spans"] (spP S_bysp)) (k62 : Kn P w K mg base "_law_closed" 1 ["_law_size", "_law_pairs_here"] (spP S_closed)) :
    Kn P w K mg base "_law_table_of" 4 ["_law_kind", "_law_actual"] (spP S_tableof) := by
  refine kn94 F (spP_len fun ds R ⟨_, e, _⟩ => by rw [e]; rfl) fun fa cdv A outer s H vs Q E hr ⟨Fk, ds, g, kd, sp, ed, hl, hs, hR⟩ => ?_
  subst ed
  obtain ⟨v, u, rfl, k1, k2⟩ := dq2 kd
  cases k1
  have hnm : (relP sp.length (spG sp)).length ≤ 100000 := Nat.le_trans (relP_len _ _) (by have := Nat.mul_le_mul hl hl; omega)
  refine jss_cons (js_setD 2 sc94.nd g (P := Is .none) jd_none fun v2 d G0 J0 r0 g0 pd k2n => ?_)
  refine jss_cons (js_ifT g0 ((jt_cp (jd_var 0 rfl (.str _)) jd_str od_eqS).is (d' := false) (by decide +kernel)) (fun G J r g p => by cases p) (fun G1 J1 r1 g1 _ => jss_nil ?_))
  have r1 := r0.trans r1 g
  refine jss_cons (js_ifT g1 ((jt_cp (jd_var 0 rfl (.str _)) jd_str od_eqS).is (d' := false) (by decide +kernel)) (fun G J r g p => by cases p) (fun G2 J2 r2 g2 _ => jss_nil ?_))
  have r2 := r1.trans r2 g
  refine jss_cons (js_ifT g2 ((jt_cp (jd_var 0 rfl (.str _)) jd_str od_eqS).is (d' := false) (by decide +kernel)) (fun G J r g p => by cases p) (fun G3 J3 r3 g3 _ => jss_nil ?_))
  have r3 := r2.trans r3 g
  refine jss_cons (js_ifT g3 ((jt_cp (jd_var 0 rfl (.str _)) jd_str od_eqS).is (d' := false) (by decide +kernel)) (fun G J r g p => by cases p) (fun G4 J4 r4 g4 _ => jss_nil ?_))
  have r4 := r3.trans r4 g
  refine jss_cons (js_ifT g4 (JW.t (jw_andF ((jt_cp (jd_var 0 rfl (.str _)) jd_str od_eqS).is (d' := false) (by decide +kernel)))) (fun G J r g p => by cases p) (fun G5 J5 r5 g5 _ => jss_nil ?_))
  have r5 := r4.trans r5 g
  have k5 := k2.up r5.fg
  -- spans
  refine jss_cons (js_ifT g5 (P := Is true) (JW.t (jw_and (P1 := Is true) ((jt_cp (jd_var 0 rfl (.str _)) jd_str od_eqS).is (d' := true) (by decide +kernel)) (fun z => by cases z) fun _ => jw_and (P1 := Is true) (jt_of (jd_fn (P := Is (.bool true)) k87 hr (jds_is (jd_var 1 rfl k5) jds_nil) fun ds R e q => ⟨sp, e, hl, q _ rfl⟩)) (fun z => by cases z) fun _ => jw_and1 (jt_of ((jd_all (bs := sp.map fun _ => true) rfl B.all ((jd_lcM (xs := sp) (enc := prN) (i := 3) (fun _ => .bool true) sc94.nd (ji_tup (jd_var 1 rfl k5))
    (blkOk_by (N := N94) (sc := defScope (topS 94)) (by decide +kernel)) (tg_ok sc94.nd rfl (.inl rfl)) (by omega) (fun m p G u hp eG kp s0 H0 C cl fp => ?_)).is (by rw [List.map_map]; rfl))).is (d' := .bool true) (by simp))))) (fun G6 J6 r6 g6 _ => ?_) (fun G J r g p => by cases p))
  · exact (jd_cp (jd_ixT (k := 0) (jd_var 3 rfl kp) jd_int rfl) (jd_ixT (k := 1) (jd_var 3 rfl kp) jd_int rfl) od_le).is (by rw [decide_eq_true (show (p.1 : Int) ≤ (p.2 : Int) by have := hs p (List.mem_of_getElem? hp); omega)])
  have r6 := r5.trans r6 g
  have k6 := k2.up r6.fg
  refine jss_one (js_setD 2 sc94.nd g6 (jd_fn (P := Is (dTab sp.length (spG sp))) k62 hr (jds_is ((jd_lenT B.len (jd_var 1 rfl k6)).is (d' := .int (sp.length : Int)) (by rw [List.length_map])) (jds_is (jd_fn (P := Is (dPN (relP sp.length (spG sp)))) k72 hr (jds_is (jd_listOf (ds := sp.map prN) B.list ((jd_var 1 rfl k6).imp fun d e => .inr e)) jds_nil) fun ds R e q => ⟨sp, e, hl, q _ rfl⟩) jds_nil)) fun ds R e q => ⟨sp.length, relP sp.length (spG sp), e, hl, hnm, fun p hp => ⟨(relP_mem.mp hp).1, (relP_mem.mp hp).2.1⟩, q _ ?_⟩) fun vt d G7 J7 r7 g7 pd kt => ?_)
  · exact dTab_congr fun i j hi hj => wsh_rel (g := spG sp) (fun i m j _ hm _ => spG_tr hs hm) hi hj
  subst pd
  have r7 := r6.trans r7 g
  -- arcs
  refine jss_cons (js_ifT g7 (JW.t (jw_andF ((jt_cp (jd_var 0 rfl (.str _)) jd_str od_eqS).is (d' := false) (by decide +kernel)))) (fun G J r g p => by cases p) (fun G8 J8 r8 g8 _ => jss_nil ?_))
  have kt8 := kt.up r8.fg
  have r8 := r7.trans r8 g
  have O : Ord sp.length (wsh (relP sp.length (spG sp)) sp.length) := .wsh (.spans hs)
  have irr : ∀ k, k < sp.length → spG sp k k = false := fun k hk => by rw [← wsh_rel (g := spG sp) (fun i m j _ hm _ => spG_tr hs hm) hk hk]; exact O.irr k hk
  refine jss_cons (js_ifT g8 (P := Is false) (JW.t (jw_and (P1 := Is true) ((jt_cp (jd_var 2 rfl kt8) jd_none od_notN).is rfl) (fun z => by cases z) fun _ => jw_and1 (jt_of ((jd_any (bs := (List.range sp.length).map fun k => spG sp k k) rfl B.any ((jd_lcR (n := sp.length) (i := 4) (fun k => .bool (spG sp k k)) sc94.nd (ji_range B.range (by omega) ((jd_len B.len (jd_var 2 rfl kt8)).is (by rw [dTab_len]))) (blkOk_by (N := N94) (sc := defScope (topS 94)) (by decide +kernel)) (tg_ok sc94.nd rfl (.inl rfl)) (by omega) (fun k G hk eG s0 H0 C cl fp => jd_tab (jd_var 2 rfl (kt8.up eG)) (jd_var 4 rfl (.int _)) (jd_var 4 rfl (.int _)) hk hk)).is (by rw [List.map_map]; rfl))).is (d' := .bool false) (by
    congr 1
    rw [List.any_map, List.any_eq_false]
    intro k hk
    show ¬ (spG sp k k = true)
    rw [irr k (List.mem_range.mp hk)]
    exact Bool.false_ne_true))))) (fun G J r g p => by cases p) (fun G9 J9 r9 g9 _ => jss_nil ?_))
  exact jss_one (js_retD g9 (jd_var 2 rfl (kt8.up r9.fg)) fun v d G J r ed kd => by subst ed; exact hR v G J ((r8.trans r9 g).trans r g) kd)
theorem ok_right (F : At K mg "_law_right" (topS 100)) (B : Bl mg) (k94 : Kn P w K mg base "_law_table_of" 4 ["_law_kind", "_law_actual"] (spP S_tableof)) (k98 : Kn P w K mg base "_law_bars" 4 ["_law_table", "_law_kind", "_law_actual"] (spP S_bars)) :
    Kn P w K mg base "_law_right" 5 ["_law_table", "_law_kind", "_law_told_here"] (spP S_right) := by
  refine kn100 F (spP_len fun ds R ⟨_, _, _, h⟩ => by rcases h with ⟨_, e, _⟩ | ⟨_, _, _, _, e, _⟩ <;> rw [e] <;> rfl) fun fa cdv A outer s H vs Q E hr ⟨Fk, ds, g, kd, n, f, hn, hh⟩ => ?_
  rcases hh with ⟨sp, ed, hl, hs, hf, hR⟩ | ⟨a, b, c, d, ed, ha, hb, hc, hd, hR⟩
  · subst ed
    obtain ⟨v, u, z, rfl, k1, k2, k3⟩ := dq3 kd
    cases k2
    refine jss_cons (js_ifT g (P := Is false) (JW.t (jw_orF (jt_notIs (jt_of (jd_isi (T := "tuple") B.isinstance B.tuple PyProof.Rows.boot_tuple (jd_var 2 rfl k3) (r := true) (show kitB "tuple" "tuple" = some true by decide +kernel))))
      (jw_orF ((jt_cp (jd_lenT B.len (jd_var 2 rfl k3)) jd_int od_neI).is (show (!decide (((2 : Nat) : Int) = 2)) = false by decide)) (jw_or1 (jt_notIs (jt_of (jd_isi (T := "bool") B.isinstance B.bool boot_bool (jd_ixT (k := 0) (jd_var 2 rfl k3) jd_int rfl) (r := true) (show kitB "bool" "bool" = some true by decide +kernel)))))))) (fun G J r g p => by cases p) (fun G1 J1 r1 g1 _ => jss_nil ?_))
    have k31 := k3.up r1.fg
    refine jss_cons (js_ifT g1 (P := Is true) (jt_of (jd_ixT (k := 0) (jd_var 2 rfl k31) jd_int rfl)) (fun G2 J2 r2 g2 _ => ?_) (fun G J r g p => by cases p))
    have r2' := r1.trans r2 g
    refine jss_one (js_retD g2 (jd_cp (jd_fn (P := Is (dTab sp.length (spG sp))) k94 hr (jds_is (jd_var 1 rfl (.str _)) (jds_is (jd_ixT (k := 1) (jd_var 2 rfl (k31.up r2.fg)) jd_int rfl) jds_nil)) fun ds R e q => ⟨sp, e, by omega, hs, q _ rfl⟩) (jd_var 0 rfl (k1.up r2'.fg)) (od_eqD (by have := hr.un; show (A.deeper _).units + 64 < cLine; omega) (shp_dTab _ _) (shp_dTab _ _))) fun v d G J r ed kd => ?_)
    subst ed
    have e1 : dTab sp.length (spG sp) = dTab n f := by subst hl; exact dTab_congr hf
    have e2 : PyData.eqv (dTab sp.length (spG sp)) (dTab n f) = true := by rw [e1]; exact SeqAt.eqv_refl _ (by have := shp_dTab n f; unfold SeqAt.shaped at this; rw [Bool.and_eq_true] at this; exact this.1)
    rw [e2] at kd
    exact hR v G J (r2'.trans r g) kd
  · subst ed
    obtain ⟨v, u, z, rfl, k1, k2, k3⟩ := dq3 kd
    cases k2
    refine jss_cons (js_ifT g (P := Is false) (JW.t (jw_orF (jt_notIs (jt_of (jd_isi (T := "tuple") B.isinstance B.tuple PyProof.Rows.boot_tuple (jd_var 2 rfl k3) (r := true) (show kitB "tuple" "tuple" = some true by decide +kernel))))
      (jw_orF ((jt_cp (jd_lenT B.len (jd_var 2 rfl k3)) jd_int od_neI).is (show (!decide (((2 : Nat) : Int) = 2)) = false by decide)) (jw_or1 (jt_notIs (jt_of (jd_isi (T := "bool") B.isinstance B.bool boot_bool (jd_ixT (k := 0) (jd_var 2 rfl k3) jd_int rfl) (r := true) (show kitB "bool" "bool" = some true by decide +kernel)))))))) (fun G J r g p => by cases p) (fun G1 J1 r1 g1 _ => jss_nil ?_))
    have k31 := k3.up r1.fg
    refine jss_cons (js_ifT g1 (P := Is false) (jt_of (jd_ixT (k := 0) (jd_var 2 rfl k31) jd_int rfl)) (fun G J r g p => by cases p) (fun G2 J2 r2 g2 _ => jss_nil ?_))
    have r2' := r1.trans r2 g
    refine jss_one (js_retD g2 (jd_fn (P := Is (.bool (barB f a b c d))) k98 hr (jds_is (jd_var 0 rfl (k1.up r2'.fg)) (jds_is (jd_var 1 rfl (.str _)) (jds_is (jd_ixT (k := 1) (jd_var 2 rfl (k31.up r2.fg)) jd_int rfl) jds_nil))) fun ds R e q => ⟨n, f, a, b, c, d, e, hn, ha, hb, hc, hd, q _ rfl⟩) fun v d G J r ed kd => ?_)
    subst ed
    exact hR v G J (r2'.trans r g) kd
end
end Dw
/-! Masks; elements_of, mask_of. -/
namespace Dw
open PySem PySem.Spec PyProof.Rows L2 -- (Dw)
theorem bAnd (a b : Nat) : Builtin.bitAnd (a : Int) (b : Int) = ((a &&& b : Nat) : Int) := by
  rw [bitAnd_pp (by omega) (by omega)]; simp
theorem bOr (a b : Nat) : Builtin.bitOr (a : Int) (b : Int) = ((a ||| b : Nat) : Int) := by
  show Builtin.bitNot (Builtin.bitAnd (Builtin.bitNot (a : Int)) (Builtin.bitNot (b : Int))) = _
  have nn : ∀ x : Nat, ¬ 0 ≤ Builtin.bitNot (x : Int) := fun x => by show ¬ 0 ≤ -(x : Int) - 1; omega
  have nt : ∀ x : Int, Builtin.bitNot (Builtin.bitNot x) = x := fun x => by show -(-x - 1) - 1 = x; omega
  rw [bitAnd_nn (nn a) (nn b), nt, nt, nt]; simp
theorem tb_add : ∀ (i a b : Nat), (∀ i, (a.testBit i && b.testBit i) = false) → (a + b).testBit i = (a.testBit i || b.testBit i)
  | 0, a, b, h => by
    have h0 := h 0
    rw [Nat.testBit_zero, Nat.testBit_zero] at h0
    rw [Nat.testBit_zero, Nat.testBit_zero, Nat.testBit_zero, Bool.eq_iff_iff, Bool.or_eq_true, decide_eq_true_eq, decide_eq_true_eq, decide_eq_true_eq]
    rw [Bool.and_eq_false_iff, decide_eq_false_iff_not, decide_eq_false_iff_not] at h0
    omega
  | i + 1, a, b, h => by
    have h0 := h 0
    rw [Nat.testBit_zero, Nat.testBit_zero, Bool.and_eq_false_iff, decide_eq_false_iff_not, decide_eq_false_iff_not] at h0
    rw [Nat.testBit_succ, Nat.testBit_succ, Nat.testBit_succ, ← tb_add i (a / 2) (b / 2) fun j => by rw [← Nat.testBit_succ, ← Nat.testBit_succ]; exact h (j + 1)]
    congr 1
    omega
theorem tb_andNot (a b i : Nat) : (a - (a &&& b)).testBit i = (a.testBit i && !b.testBit i) := by
  have hle : a &&& b ≤ a := Nat.and_le_left
  have e : a = (a ^^^ (a &&& b)) + (a &&& b) := by
    refine Nat.eq_of_testBit_eq fun i => ?_
    rw [tb_add]
    · rw [Nat.testBit_xor, Nat.testBit_and]
      cases a.testBit i <;> cases b.testBit i <;> rfl
    · intro i
      rw [Nat.testBit_xor, Nat.testBit_and]
      cases a.testBit i <;> cases b.testBit i <;> rfl
  have e2 : a - (a &&& b) = a ^^^ (a &&& b) := by omega
  rw [e2, Nat.testBit_xor, Nat.testBit_and]
  cases a.testBit i <;> cases b.testBit i <;> rfl
theorem bAndNot (a b : Nat) : Builtin.bitAnd (a : Int) (Builtin.bitNot (b : Int)) = ((a - (a &&& b) : Nat) : Int) := by
  rw [bitAnd_not, bAnd]
  have hle : a &&& b ≤ a := Nat.and_le_left
  omega
/-- the mask of the numbers below n with p -/
def mk (p : Nat → Bool) : Nat → Nat
  | 0 => 0
  | n + 1 => if p n then mk p n ||| 2 ^ n else mk p n
theorem tb_mk (p : Nat → Bool) : ∀ (n i : Nat), (mk p n).testBit i = (decide (i < n) && p i)
  | 0, i => by show (0 : Nat).testBit i = _; rw [Nat.zero_testBit]; simp
  | n + 1, i => by
    have ih := tb_mk p n i
    show (if p n then mk p n ||| 2 ^ n else mk p n).testBit i = _
    split
    · rename_i h
      rw [Nat.testBit_or, ih, Nat.testBit_two_pow]
      by_cases e : n = i
      · subst e; rw [h]; simp
      · rw [decide_eq_false e, Bool.or_false]
        congr 1
        rw [decide_eq_decide]
        omega
    · rename_i h
      rw [ih]
      by_cases e : n = i
      · subst e
        rw [show p n = false by simpa using h, Bool.and_false, Bool.and_false]
      · congr 1
        rw [decide_eq_decide]
        omega
theorem mk_lt (p : Nat → Bool) : ∀ n, mk p n < 2 ^ n
  | 0 => by show 0 < 2 ^ 0; decide
  | n + 1 => by
    have ih := mk_lt p n
    have h2 : 2 ^ (n + 1) = 2 ^ n * 2 := Nat.pow_succ 2 n
    show (if p n then mk p n ||| 2 ^ n else mk p n) < 2 ^ (n + 1)
    split
    · exact Nat.or_lt_two_pow (by omega) (by omega)
    · omega
theorem mk_congr {p q : Nat → Bool} {n : Nat} (h : ∀ i, i < n → p i = q i) : mk p n = mk q n := Nat.eq_of_testBit_eq fun i => by
  rw [tb_mk, tb_mk]
  by_cases e : i < n
  · rw [h i e]
  · rw [decide_eq_false e]; rfl
theorem mk_eq {p : Nat → Bool} {n m : Nat} (hm : ∀ i, m.testBit i = (decide (i < n) && p i)) : m = mk p n := Nat.eq_of_testBit_eq fun i => by rw [tb_mk, hm]
theorem mk_inj {p q : Nat → Bool} {n : Nat} (h : mk p n = mk q n) {i : Nat} (hi : i < n) : p i = q i := by
  have e := congrArg (fun m => m.testBit i) h
  simp only [tb_mk, decide_eq_true hi, Bool.true_and] at e
  exact e
theorem mk_or (p q : Nat → Bool) (n : Nat) : mk p n ||| mk q n = mk (fun i => p i || q i) n := mk_eq fun i => by
  rw [Nat.testBit_or, tb_mk, tb_mk]
  cases decide (i < n) <;> rfl
theorem mk_and (p q : Nat → Bool) (n : Nat) : mk p n &&& mk q n = mk (fun i => p i && q i) n := mk_eq fun i => by
  rw [Nat.testBit_and, tb_mk, tb_mk]
  cases decide (i < n) <;> cases p i <;> rfl
theorem mk_andNot (p q : Nat → Bool) (n : Nat) : mk p n - (mk p n &&& mk q n) = mk (fun i => p i && !q i) n := mk_eq fun i => by
  rw [tb_andNot, tb_mk, tb_mk]
  cases decide (i < n) <;> cases p i <;> rfl
theorem mk_bit (p : Nat → Bool) {n k : Nat} (h : k < n) : mk p n ||| 2 ^ k = mk (fun i => decide (i = k) || p i) n := mk_eq fun i => by
  rw [Nat.testBit_or, tb_mk, Nat.testBit_two_pow]
  by_cases e : k = i
  · subst e; simp [h]
  · have e2 : ¬ i = k := fun z => e z.symm
    rw [decide_eq_false e, decide_eq_false e2, Bool.or_false, Bool.false_or]
theorem mk_zero (n : Nat) : mk (fun _ => false) n = 0 := (mk_eq fun i => by rw [Nat.zero_testBit, Bool.and_false]).symm
theorem mk_bits (p : Nat → Bool) (n : Nat) : (List.range n).filter (mk p n).testBit = (List.range n).filter p := List.filter_congr fun i hi => by
  rw [tb_mk, decide_eq_true (List.mem_range.mp hi), Bool.true_and]
/-- masks >> k & 1 -/
theorem shr_and (m k : Nat) : Builtin.bitAnd ((m : Int) / 2 ^ k) 1 = (if m.testBit k then 1 else 0 : Int) := by
  have e : (m : Int) / 2 ^ k = ((m / 2 ^ k : Nat) : Int) := by simp
  have e1 : (1 : Int) = ((1 : Nat) : Int) := rfl
  rw [e, e1, bAnd, Nat.and_one_is_mod, Nat.testBit_eq_decide_div_mod_eq]
  have := Nat.mod_two_eq_zero_or_one (m / 2 ^ k)
  rcases this with h | h <;> rw [h] <;> rfl
section
variable {W : Wo} {X : Cx} {e a b c : Expr} {σ : St} {F H : Hp} {pos : Pos}
/-- a number as a test -/
theorem rt_int {i : Int} (h : RV X e σ H (.int i)) (he : ∀ whole, isTrue e X.env whole = (do let v ← whole; standAt e.pos; holding [v] (truthy v)) := by intro _; rfl) : RT X e σ H (i != 0) := fun Q q => jb_of (pt_truth pe_self he) (h _ ⟨_, rfl, q⟩)
theorem rv_and {i j : Int} (ha : RV X a σ H (.int i)) (hb : RV X b σ H (.int j)) : RV X (.BinOp a .BitAnd b pos) σ H (.int (Builtin.bitAnd i j)) := rv_op op_and ha hb fun Q q => ⟨i, j, rfl, rfl, q⟩
theorem rv_or {i j : Int} (ha : RV X a σ H (.int i)) (hb : RV X b σ H (.int j)) : RV X (.BinOp a .BitOr b pos) σ H (.int (Builtin.bitOr i j)) := rv_op op_or ha hb fun Q q => ⟨i, j, rfl, rfl, q⟩
theorem rv_shr {i j : Int} (ha : RV X a σ H (.int i)) (hb : RV X b σ H (.int j)) (hc : 0 ≤ j) : RV X (.BinOp a .RShift b pos) σ H (.int (i / 2 ^ j.toNat)) := rv_op op_shr ha hb fun Q q => ⟨i, j, rfl, rfl, hc, q⟩
theorem rv_shl {i j : Int} (ha : RV X a σ H (.int i)) (hb : RV X b σ H (.int j)) (hc : CPow i j) : RV X (.BinOp a .LShift b pos) σ H (.int (i * 2 ^ j.toNat)) := rv_op op_shl ha hb fun Q q => ⟨i, j, rfl, rfl, hc, q⟩
theorem RV.is {v v' : V} (h : RV X e σ H v) (k : v = v') : RV X e σ H v' := k ▸ h
/-- x += 1, raw -/
theorem js_augR (i : Nat) {x : Str} {px : Pos} {m n : Int} {D : Ends} (hN : X.N.Nodup) (hx0 : σ[i]? = some (some (.int m))) (he : RV X e σ H (.int n)) (h : D.nx (σ.set i (some (.int (m + n)))) H) (hi : X.N[i]? = some x := by rfl) (hx : Loc X.env.scope x := by first | exact .inl rfl | exact .inr rfl)
    (hf : X.fn x = true ∨ X.env.scope.names.lookup x = some .local := by first | exact .inl rfl | exact .inr rfl) : JS X (.AugAssign (.Name x px) .Add e pos) σ H D :=
  js_of (ps_aug hN hi hx pe_self ip_add hf) ⟨_, hx0, he _ ⟨m, n, rfl, rfl, h⟩⟩
end
def S_elem (ds : List PyData) (R : PyData → Prop) : Prop := ∃ n m : Nat, ds = [.int (m : Int)] ∧ n ≤ 40 ∧ m < 2 ^ n ∧ R (dInts (nats ((List.range n).filter m.testBit)))
def S_maskof (ds : List PyData) (R : PyData → Prop) : Prop := ∃ (n : Nat) (l : List Nat), ds = [dInts (nats l)] ∧ n ≤ 40 ∧ (∀ e ∈ l, e < n) ∧ R (.int ((mk (fun i => decide (i ∈ l)) n : Nat) : Int))
section
variable {P : Program} {w : World} {K : PySem.W.Frag} {mg : Str → Option Value} {base : Heap} -- (Dw)
theorem ok_maskof (F : At K mg "mask_of" (topS 8)) (B : Bl mg) : Kn P w K mg base "mask_of" 1 ["members"] (spP S_maskof) := by
  refine kn8 F (spP_len fun ds R ⟨_, _, e, _⟩ => by rw [e]; rfl) fun fa cdv A outer s H vs Q E hr ⟨Fk, ds, g, kd, n, l, ed, hn, hl, hR⟩ => ?_
  subst ed
  obtain ⟨v, rfl, k1⟩ := dq1 kd
  refine jss_cons (js_setR 1 sc8.nd rv_int ?_)
  refine jss_cons (js_for (ds := l.map fun (k : Nat) => .int (k : Int)) (ji_list ((jd_var 0 rfl k1).is (natsL l))) (pg_name (i := 2) sc8.nd rfl (.inl rfl)) g
    (fun G0 i σ' H' => ∃ o2 G', σ' = [some v, some (.int ((mk (fun x => decide (x ∈ l.take i)) n : Nat) : Int)), o2] ∧ Ex G0 G' ∧ Gr W0 Fk H G' H' ∧ Good W0 G' H') (fun G0 i σ' H' ⟨_, G', _, e, _, g'⟩ => e.trans g'.fh)
    (fun G J r g' => ⟨none, G, by rw [List.take_zero]; simp only [List.not_mem_nil, decide_false, mk_zero]; rfl, Ex.refl G, r, g'⟩) ?_ ?_)
  · rintro G0 i x d σ' H' eF hd kx ⟨o2, G', rfl, eG, r, g'⟩
    rw [List.getElem?_map] at hd
    obtain ⟨e, he, rfl⟩ := Option.map_eq_some_iff.mp hd
    cases kx
    have hen := hl e (List.mem_of_getElem? he)
    refine jss_one (js_setD 1 sc8.nd g' (jd_bin (jd_var 1 rfl (.int _)) ((jd_bin jd_int (jd_var 2 rfl (.int _)) (od_shl ⟨by omega, by omega, by decide⟩)).is (d' := .int ((2 ^ e : Nat) : Int)) (by congr 1; simp)) (od_or.imp fun d ed => (show d = .int ((mk (fun x => decide (x ∈ l.take (i + 1))) n : Nat) : Int) from by
      rw [show d = _ from ed, bOr, mk_bit _ hen]
      congr 2
      refine mk_congr fun x _ => ?_
      rw [List.take_add_one, he, Bool.eq_iff_iff]
      simp [or_comm]))) fun v' d G3 J3 r3 g3 pd kd => ?_)
    subst pd
    cases kd
    exact ⟨_, G3, rfl, eG.trans r3.fg, r.trans r3 g, g3⟩
  · rintro G0 σ' H' eF ⟨o2, G', rfl, eG, r, g'⟩
    rw [List.length_map, List.take_length] -- (Dw)
    exact jss_one (js_retD g' (jd_var 1 rfl (.int _)) fun v d G J r4 ed kd => by subst ed; exact hR v G J (r.trans r4 g) kd)
theorem ok_elem (F : At K mg "elements_of" (topS 7)) (B : Bl mg) : Kn P w K mg base "elements_of" 1 ["mask"] (spP S_elem) := by
  refine kn7 F (spP_len fun ds R ⟨_, _, e, _⟩ => by rw [e]; rfl) fun fa cdv A outer s H vs Q E hr ⟨Fk, ds, g, kd, n, m, ed, hn, hm, hR⟩ => ?_
  subst ed
  obtain ⟨v, rfl, k1⟩ := dq1 kd
  cases k1
  refine jss_cons (js_newO 1 sc7.nd g g.gr fun p o0 hp0 => ?_)
  refine jss_cons (js_setR 2 sc7.nd rv_int ?_)
  refine jss_cons (js_while (fun j σ' H' => ∃ (i : Nat) (G' : Hp), j = m / 2 ^ i ∧ σ' = [some (.int ((m / 2 ^ i : Nat) : Int)), some (.ref p), some (.int (i : Int))] ∧ i ≤ n ∧ Own W0 Fk H p G' H' (((List.range i).filter m.testBit).map fun (k : Nat) => .int (k : Int))) m ⟨0, Fk, by simp, (show _ = [some (V.int ((m / 1 : Nat) : Int)), some (V.ref p), some (V.int 0)] from by rw [Nat.div_one]; rfl), Nat.zero_le _, o0⟩ ?_)
  · rintro j σ' H' ⟨i, G', rfl, rfl, hi, o⟩
    refine (rt_gt (rv_var 0 rfl) rv_int) _ ?_
    by_cases h0 : (0 : Int) < ((m / 2 ^ i : Nat) : Int)
    · rw [if_pos (decide_eq_true h0)]
      have hin : i < n := by
        rcases Nat.lt_or_ge i n with h | h
        · exact h
        · have : m / 2 ^ i = 0 := Nat.div_eq_of_lt (Nat.lt_of_lt_of_le hm (Nat.pow_le_pow_right (by omega) h))
          omega
      refine ⟨fun σ2 H2 => ∃ (G' : Hp), σ2 = [some (.int ((m / 2 ^ (i + 1) : Nat) : Int)), some (.ref p), some (.int ((i + 1 : Nat) : Int))] ∧ Own W0 Fk H p G' H2 (((List.range (i + 1)).filter m.testBit).map fun (k : Nat) => .int (k : Int)), fun σ2 H2 ⟨G2, e, o2⟩ => ⟨_, ?_, i + 1, G2, rfl, e, hin, o2⟩, ?_⟩
      · rw [Nat.pow_succ, ← Nat.div_div_eq_div_mul]
        exact Nat.div_lt_self (by omega) (by omega)
      have hlen : (((List.range i).filter m.testBit).map fun (k : Nat) => PyData.int (k : Int)).length < 100000 := by
        rw [List.length_map]
        have := List.length_filter_le m.testBit (List.range i)
        rw [List.length_range] at this
        omega
      have hstep : (List.range (i + 1)).filter m.testBit = (List.range i).filter m.testBit ++ (if m.testBit i then [i] else []) := by
        rw [List.range_succ, List.filter_append, List.filter_cons]
        split <;> simp
      have hbit : Builtin.bitAnd ((m / 2 ^ i : Nat) : Int) 1 = (if m.testBit i then 1 else 0 : Int) := by rw [← shr_and]; simp
      refine jss_mid (fun σ2 H2 => ∃ G2, σ2 = [some (.int ((m / 2 ^ i : Nat) : Int)), some (.ref p), some (.int (i : Int))] ∧ Own W0 Fk H p G2 H2 (((List.range (i + 1)).filter m.testBit).map fun (k : Nat) => .int (k : Int))) (js_ifR (rt_int (rv_and (rv_var 0 rfl) rv_int)) (fun hy => ?_) (fun hno => jss_nil ?_)) ?_
      · rw [hbit] at hy
        have ht : m.testBit i = true := by
          cases e : m.testBit i with
          | true => rfl
          | false => rw [e] at hy; simp at hy
        refine jss_one (js_appO (P := Is (.int (i : Int))) o g (rv_var 1 rfl) hlen (jd_var 2 rfl (.int _)) fun d G3 J3 pd e3 o3 => ?_)
        rw [show d = _ from pd] at o3
        exact ⟨G3, rfl, by rw [hstep, ht, if_pos rfl, List.map_append]; exact o3⟩
      · rw [hbit] at hno
        have ht : m.testBit i = false := by
          cases e : m.testBit i with
          | false => rfl
          | true => rw [e] at hno; simp at hno
        exact ⟨G', rfl, by rw [hstep, ht, if_neg Bool.false_ne_true, List.append_nil]; exact o⟩
      rintro σ2 H2 ⟨G2, rfl, o2⟩
      refine jss_cons (js_setR 0 sc7.nd ((rv_shr (rv_var 0 rfl) rv_int (by decide)).is (v' := .int ((m / 2 ^ (i + 1) : Nat) : Int)) (by
        rw [Nat.pow_succ, ← Nat.div_div_eq_div_mul]; simp)) ?_)
      exact jss_one (js_augR 2 sc7.nd rfl rv_int ⟨G2, rfl, o2⟩)
    · rw [if_neg (by rw [decide_eq_false h0]; exact Bool.false_ne_true)]
      obtain ⟨G3, e3, g3, r3, k3⟩ := o.known
      have hz : m / 2 ^ i = 0 := by
        generalize m / 2 ^ i = z at h0
        omega
      have e : (List.range n).filter m.testBit = (List.range i).filter m.testBit := by
        have hsplit : List.range n = List.range i ++ (List.range (n - i)).map (i + ·) := by rw [← List.range_add]; congr 1; omega
        rw [hsplit, List.filter_append]
        have : (List.map (i + ·) (List.range (n - i))).filter m.testBit = [] := by
          rw [List.filter_eq_nil_iff]
          intro x hx
          obtain ⟨y, _, rfl⟩ := List.mem_map.mp hx
          have : m < 2 ^ (i + y) := by
            have h1 : m < 2 ^ i := by
              rcases Nat.lt_or_ge m (2 ^ i) with h | h
              · exact h
              · have := Nat.div_pos h (Nat.two_pow_pos i)
                omega
            exact Nat.lt_of_lt_of_le h1 (Nat.pow_le_pow_right (by omega) (by omega))
          rw [Nat.testBit_lt_two_pow this]
          exact Bool.false_ne_true
        rw [this, List.append_nil]
      refine jss_one (js_retD g3 (jd_var 1 rfl k3) fun v d G J r4 ed kd => ?_)
      subst ed
      refine hR v G J (r3.trans r4 g) ?_
      rw [e, natsL]
      exact kd
end
end Dw
/-! A comprehension's list as one's own; closed_masks. -/
namespace Dw
open PySem PySem.Spec PyProof.Rows L2 -- (Dw)
section
variable {W : Wo} {X : Cx} {e a b tg iter elt : Expr} {es : List Expr} {σ : St} {F H : Hp} {pos p : Pos} {ds : List PyData}
theorem lc_runO {α : Type} {xs : List α} {enc : α → PyData} {wi : TI} {g : TG} {tt : TT} {te : TE} {vs : List Nat} {Q : VK} {Sg : Hp → V → PyData → St → Prop} (hJ : ∀ H, Good W F H → ∀ R : It → Hp → Prop, (∀ J G H', Gr W F H G H' → Walks J G (xs.map enc) → R J H') → wi σ H R) (gd : Good W F H)
    (hlen : xs.length ≤ 100000) (t : α → Bool) (R : α → PyData → Prop) (hg : Tgt (wipe σ vs) g Sg)
    (hsg : ∀ (k : Nat) d G x, xs[k]? = some d → Ex F G → Dq G x (enc d) → ∃ σ2, Sg G x (enc d) σ2)
    (hw : ∀ (k : Nat) d G x σ2, xs[k]? = some d → Sg G x (enc d) σ2 → wipe σ2 vs = wipe σ vs)
    (ht : ∀ (k : Nat) d G x σ2, xs[k]? = some d → Ex F G → Dq G x (enc d) → Sg G x (enc d) σ2 → ∀ H, Good W G H → ∀ Q, (∀ G' J', Gr W G H G' J' → Q (t d) J') → tt σ2 H Q)
    (he : ∀ (k : Nat) d G x σ2, xs[k]? = some d → t d = true → Ex F G → Dq G x (enc d) → Sg G x (enc d) σ2 → ∀ G', Ex G G' → ∀ H, Good W G' H → ∀ Q, (∀ v e G'' J', Gr W G' H G'' J' → R d e → Dq G'' v e → Q v J') → te σ2 H Q)
    (hq : ∀ D zs G J, Own W F H D G J zs → All2 R (xs.filter t) zs → Q (.ref D) J) : tLc wi g tt te vs σ H Q := by
  refine hJ H gd _ fun J G1 H1 r1 wk => fun D hD => ?_
  have hD0 : H D = none := by
    cases q : H D with
    | none => rfl
    | some o =>
      by_cases hm : W.m D
      · obtain ⟨o', e'⟩ := W.there r1.ok hm
        rw [hD] at e'; cases e'
      · rw [r1.hj D o hm q] at hD; cases hD
  have hmD : ¬ W.m D := gd.nom hD0
  have g1 := r1.good gd
  refine ⟨fun i m Hi => m = xs.length - i ∧ i ≤ xs.length ∧ ∃ G vs' zs, Gr W F H G Hi ∧ Ex G1 G ∧ Hi D = some (.lst vs') ∧ G D = none ∧ DqAll G vs' zs ∧ All2 R ((xs.take i).filter t) zs, ⟨xs.length, rfl, Nat.zero_le _, G1, [], [], r1.trans (Gr.own g1 hD) gd, Ex.refl _, upd_same, g1.fh.no hD, .nil, .nil⟩, ?_⟩
  rintro i m Hi ⟨rfl, hi, G, vs', zs, r, e1, hL, hG, kA, a2⟩
  have gG := r.good gd
  by_cases hlt : i < xs.length
  · refine .inr ⟨wk.go i Hi (e1.trans gG.fh) (by rw [List.length_map]; exact hlt), fun H' => ∃ G vs' zs, Gr W F H G H' ∧ Ex G1 G ∧ H' D = some (.lst vs') ∧ G D = none ∧ DqAll G vs' zs ∧ All2 R ((xs.take (i + 1)).filter t) zs, fun H' h => ⟨xs.length - (i + 1), by omega, rfl, hlt, h⟩, fun x H' hy => ?_⟩
    obtain ⟨eH, hz⟩ := wk.yld i Hi x H' (e1.trans gG.fh) hy
    subst eH
    obtain ⟨d0, hd0, kx⟩ := hz (by rw [List.length_map]; exact hlt)
    rw [List.getElem?_map] at hd0
    obtain ⟨d, hd, ed0⟩ := Option.map_eq_some_iff.mp hd0
    subst ed0
    have kx' := kx.up e1
    have etake : (xs.take (i + 1)).filter t = (xs.take i).filter t ++ (if t d = true then [d] else []) := by
      rw [List.take_add_one, hd, List.filter_append]
      show _ ++ [d].filter t = _
      rw [List.filter_cons]
      split <;> rfl
    refine hg G H' x (enc d) _ gG.fh kx' (hsg i d G x hd r.fg kx') fun σ2 s2 => ⟨hw i d G x σ2 hd s2, ?_⟩
    refine ht i d G x σ2 hd r.fg kx' s2 H' gG _ fun G' J' r' => ?_
    have hD' : J' D = some (.lst vs') := r'.hj D _ hmD hL
    have hG' : G' D = none := by rw [r'.new D _ hL]; exact hG
    cases htd : t d with
    | true =>
      rw [if_pos rfl]
      refine he i d G x σ2 hd htd r.fg kx' s2 G' r'.fg J' (r'.good gG) _ fun v z G'' J'' r'' hR kv => ?_
      have hD'' : J'' D = some (.lst vs') := r''.hj D _ hmD hD'
      have hG'' : G'' D = none := by rw [r''.new D _ hD']; exact hG'
      refine ⟨vs', hD'', ?_, G'', vs' ++ [v], zs ++ [z], (((r.trans r' gd).trans r'' gd)).put hD'' hD0 hG'' hmD, e1.trans (r'.fg.trans r''.fg), upd_same, hG'', ((kA.up (r'.fg.trans r''.fg)).app (.one kv)), ?_⟩
      · have z1 := kA.len
        have z2 := a2.len
        have z3 := List.length_filter_le t (xs.take i)
        rw [List.length_take] at z3
        rw [sizeLine_eq]
        omega
      · rw [etake, htd, if_pos rfl]
        exact a2.snoc hR
    | false =>
      rw [if_neg Bool.false_ne_true] -- (Dw)
      refine ⟨G', vs', zs, r.trans r' gd, e1.trans r'.fg, hD', hG', kA.up r'.fg, ?_⟩
      rw [etake, htd, if_neg Bool.false_ne_true, List.append_nil]
      exact a2
  · have ei : i = xs.length := by omega
    subst ei
    refine .inl ⟨wk.stop _ Hi (e1.trans gG.fh) (by rw [List.length_map]; exact Nat.le_refl _), hq D zs G Hi ⟨r, gG, hD0, hmD, vs', hL, hG, kA⟩ ?_⟩
    rw [List.take_length] at a2
    exact a2

theorem lc_nameO {α : Type} {xs : List α} {enc : α → PyData} {i : Nat} {scope : Scope} {Q : VK} {wi : TI} (hJ : ∀ H, Good W F H → ∀ R : It → Hp → Prop, (∀ J G H', Gr W F H G H' → Walks J G (xs.map enc) → R J H') → wi σ H R) (gd : Good W F H) (hlen : xs.length ≤ 100000) (f : α → PyData)
    (he : ∀ (k : Nat) d G v, xs[k]? = some d → Ex F G → Dq G v (enc d) → InB X scope fun Y => JD W Y elt (σ.set i (some v)) G (Is (f d)))
    (hq : ∀ D G J, Own W F H D G J (xs.map f) → Q (.ref D) J) : tLc wi (gName i) tYes (teB X scope elt) [i] σ H Q :=
  lc_runO hJ gd hlen (fun _ => true) (fun d e => e = f d) Sg1.tgt (fun k d G x _ _ _ => ⟨_, rfl⟩) (fun k d G x σ2 _ e => by rw [e]; exact wipe1)
    (fun k d G x σ2 _ _ _ _ H g Q q => q G H g.gr)
    (fun k d G x σ2 hd _ eF kx e G' eG H g Q q => fun s0 H0 C cl fp => by
      rw [e, set1]
      exact (((he k d G x hd eF kx) s0 H0 C cl fp).up eG) H g Q q)
    (fun D zs G J o a => hq D G J (by
      rw [show xs.filter (fun _ => true) = xs from List.filter_eq_self.mpr fun _ _ => rfl] at a
      rw [a.map_eq] at o
      exact o))
/-- y = [e for x in ..], one's own -/
theorem js_setLcO {α : Type} {xs : List α} {enc : α → PyData} {x y : Str} {i : Nat} (j : Nat) {px py spos : Pos} {scope : Scope} {D : Ends} (f : α → PyData) (gd : Good W F H) (hN : X.N.Nodup) (hJ : JI W X (.Name x px) iter σ F (xs.map enc)) (ok : BlkOk X.N X.env.scope scope [(x, i)]) (tg : TgOk X scope x i) (hlen : xs.length ≤ 100000)
    (hsw : swapsWith (.ListComp elt [⟨.Name x px, iter, [], 0⟩] scope pos) (some (.Name y py)) spos.line X.env = pure true)
    (he : ∀ (k : Nat) d G v, xs[k]? = some d → Ex F G → Dq G v (enc d) → InB X scope fun Y => JD W Y elt (σ.set i (some v)) G (Is (f d)))
    (h : ∀ D' G J, Own W F H D' G J (xs.map f) → D.nx (σ.set j (some (.ref D'))) J) (hy : X.N[j]? = some y := by rfl) (hyl : X.env.scope.names.lookup y = some .local := by rfl)
    (hc : X.calm = true := by rfl) (hs : ∀ x, foldedSetIterable iter X.env x = pure x := by intro _; rfl) :
    JS X (.Assign [.Name y py] (.ListComp elt [⟨.Name x px, iter, [], 0⟩] scope pos) spos) σ H D := by
  obtain ⟨wi, hi, hJ⟩ := hJ
  exact js_of (ps_setLc (own := [(x, i)]) hc hN hy hyl hsw hi ok (fun s H C cl fp => tg s H C cl fp px) (fun _ _ _ _ _ => pts_nil) peb_self hs) (lc_nameO hJ gd hlen f he h)
/-- for .. in range(a), a told raw -/
theorem js_forR {n : Nat} {g : TG} {body : List Stmt} {D : Ends} (hm : X.mg "range" = none) (hn : n ≤ 100000) (ha : RV X a σ H (.int (n : Int))) (hg : PG X tg g) (Pv : Nat → St → Hp → Prop) (h0 : Pv 0 σ H)
    (hs : ∀ (i : Nat) σ' H', i < n → Pv i σ' H' → g (.int (i : Int)) σ' H' fun σ2 H2 => JSs X body σ2 H2 { D with nx := Pv (i + 1), ct := Pv (i + 1), bk := D.nx })
    (hd : ∀ σ' H', Pv n σ' H' → D.nx σ' H') (hgl : Gl X "range" := by rfl) (hst : starEach [a] X.env = [(false, eval a X.env)] := by rfl) (hc : X.calm = true := by rfl) (hp : PassesOwn (model X.prog X.w) X.A X.env X.xe := by exact PassesOwn.never)
    (hf : ∀ x, foldedSetIterable (.Call (.Name "range" p) [a] [] pos) X.env x = pure x := by intro _; rfl) {spos : Pos} :
    JS X (.For tg (.Call (.Name "range" p) [a] [] pos) body [] spos) σ H D := by
  refine js_of (ps_for hp hc (pi_range1 hgl hm (pa_cons pe_self pa_nil hst) hst) hg pss_self hf) (ha _ ⟨(n : Int), rfl, by omega, by omega, ?_⟩)
  refine ⟨fun i m σ' H' => m = n - i ∧ i ≤ n ∧ Pv i σ' H', ⟨n, rfl, Nat.zero_le _, h0⟩, ?_⟩
  rintro i m σ' H' ⟨rfl, hi, pv⟩
  by_cases hlt : i < n
  · refine .inr ⟨hlt, Pv (i + 1), fun σ2 H2 q => ⟨n - (i + 1), by omega, rfl, hlt, q⟩, fun x H2 hy => ?_⟩
    obtain ⟨rfl, rfl⟩ := hy
    have := hs i σ' H2 hlt pv
    rw [← Int.zero_add (i : Int)] at this
    exact this
  · have ei : i = n := by omega
    subst ei
    exact .inl ⟨Nat.le_refl _, hd σ' H' pv⟩
end
section
variable {W : Wo} {F H G J : Hp} {p : Addr} {ns ms : List Int}
theorem Own.ints (o : Own W F H p G J (ns.map .int)) : J p = some (.lst (ns.map V.int)) := by
  obtain ⟨vs, h1, h2, h3⟩ := o.ex
  rw [h3.ints_of] at h1
  exact h1
theorem Own.putI (o : Own W F H p G J (ns.map .int)) : Own W F H p G (upd J p (.lst (ms.map V.int))) (ms.map .int) := o.put o.ints (DqAll.ints ms)
end
theorem Own.cast {W : Wo} {F H G J : Hp} {p : Addr} {ns ms : List Int} (o : Own W F H p G J (ns.map .int)) (e : ns = ms) : Own W F H p G J (ms.map .int) := e ▸ o
/-- the rows as masks -/
def msk (n : Nat) (f : Nat → Nat → Bool) : List Int := (List.range n).map fun i => ((mk (f i) n : Nat) : Int)
theorem msk_len (n : Nat) (f : Nat → Nat → Bool) : (msk n f).length = n := by unfold msk; rw [List.length_map, List.length_range]
theorem msk_at {n i : Nat} {f : Nat → Nat → Bool} (h : i < n) : (msk n f)[i]? = some ((mk (f i) n : Nat) : Int) := by
  unfold msk; rw [List.getElem?_map, List.getElem?_range h]; rfl
theorem mskV_at {n i : Nat} {f : Nat → Nat → Bool} (h : i < n) : ((msk n f).map V.int)[i]? = some (.int ((mk (f i) n : Nat) : Int)) := by
  rw [List.getElem?_map, msk_at h]; rfl
theorem mskD_at {n i : Nat} {f : Nat → Nat → Bool} (h : i < n) : ((msk n f).map PyData.int)[i]? = some (.int ((mk (f i) n : Nat) : Int)) := by
  rw [List.getElem?_map, msk_at h]; rfl
theorem msk_congr {n : Nat} {f g : Nat → Nat → Bool} (h : ∀ i j, i < n → j < n → f i j = g i j) : msk n f = msk n g := by
  unfold msk
  exact List.map_congr_left fun i hi => by rw [mk_congr fun j hj => h i j (List.mem_range.mp hi) hj]
theorem msk_set {n k : Nat} {f : Nat → Nat → Bool} {q : Nat → Bool} : (msk n f).set k ((mk q n : Nat) : Int) = msk n fun i j => if i = k then q j else f i j := by
  apply List.ext_getElem?
  intro i
  by_cases hi : i < n
  · rw [msk_at hi]
    by_cases e : k = i
    · subst e
      rw [List.getElem?_set_self (by rw [msk_len]; exact hi)]
      refine congrArg (fun (m : Nat) => some (m : Int)) (mk_congr fun j _ => ?_)
      rw [if_pos rfl]
    · rw [List.getElem?_set_ne e, msk_at hi]
      refine congrArg (fun (m : Nat) => some (m : Int)) (mk_congr fun j _ => ?_)
      rw [if_neg fun z => e z.symm]
  · rw [List.getElem?_eq_none (by rw [List.length_set, msk_len]; omega), List.getElem?_eq_none (by rw [msk_len]; omega)]
/-- the rows tell the pairs -/
def Adj (n : Nat) (ps : List (Nat × Nat)) (rows : List (List Nat)) : Prop := rows.length = n ∧ (∀ p ∈ ps, p.1 < n ∧ p.2 < n) ∧ ∀ (i : Nat) row, rows[i]? = some row → ∀ h, h ∈ row ↔ (i, h) ∈ ps
def S_cmasks (ds : List PyData) (R : PyData → Prop) : Prop := ∃ (n : Nat) (ps : List (Nat × Nat)) (rows : List (List Nat)), ds = [dLL rows] ∧ n ≤ 40 ∧ Adj n ps rows ∧ R (dInts (msk n (wsh ps n)))
section
variable {P : Program} {w : World} {K : PySem.W.Frag} {mg : Str → Option Value} {base : Heap} -- (Dw)
theorem ok_cmasks (F : At K mg "closed_masks" (topS 10)) (B : Bl mg) (k8 : Kn P w K mg base "mask_of" 1 ["members"] (spP S_maskof)) : Kn P w K mg base "closed_masks" 2 ["direct"] (spP S_cmasks) := by
  refine kn10 F (spP_len fun ds R ⟨_, _, _, e, _⟩ => by rw [e]; rfl) fun fa cdv A outer s H vs Q E hr ⟨Fk, ds, g, kd, n, ps, rows, ed, hn, hA, hR⟩ => ?_
  subst ed
  obtain ⟨v, rfl, k1⟩ := dq1 kd
  obtain ⟨hl, hps, hrows⟩ := hA
  refine jss_cons (js_setLcO (i := 2) (xs := rows) (enc := fun l => dInts (nats l)) 1 (fun row => .int ((mk (fun i => decide (i ∈ row)) n : Nat) : Int)) g sc10.nd (ji_list (jd_var 0 rfl k1)) (blkOk_by (N := N10) (sc := defScope (topS 10)) (by decide +kernel)) (tg_ok sc10.nd rfl (.inl rfl)) (by omega)
    (sw_true rfl rfl rfl (by decide +kernel)) (fun k row G u hk e ku s0 H0 C cl fp => jd_fn (P := Is (.int ((mk (fun i => decide (i ∈ row)) n : Nat) : Int))) k8 hr (jds_is (jd_var 2 rfl ku) jds_nil) fun ds R e q => ⟨n, row, e, hn, fun h hh => (hps _ ((hrows k row hk h).mp hh)).2, q _ rfl⟩) fun p G1 J1 o1 => ?_)
  have e0 : (rows.map fun row => PyData.int ((mk (fun i => decide (i ∈ row)) n : Nat) : Int)) = (msk n (wsh ps 0)).map .int := by
    apply List.ext_getElem?
    intro i
    by_cases hi : i < n
    · rw [List.getElem?_map, List.getElem?_eq_getElem (by omega), mskD_at hi]
      refine congrArg (fun (m : Nat) => some (PyData.int (m : Int))) (mk_congr fun j hj => ?_)
      show decide _ = decide _
      rw [decide_eq_decide]
      exact hrows i _ (List.getElem?_eq_getElem (by omega)) j
    · rw [List.getElem?_eq_none (by rw [List.length_map]; omega), List.getElem?_eq_none (by rw [List.length_map, msk_len]; omega)]
  rw [e0] at o1
  have rl : ∀ (f : Nat → Nat → Bool), ((msk n f).map V.int).length = n := fun f => by rw [List.length_map, msk_len]
  refine jss_cons (js_forR (n := n) B.range (by omega) ((rv_len B.len (rv_var 1 rfl) o1.ints).is (by rw [rl])) (pg_name (i := 3) sc10.nd rfl (.inl rfl))
    (fun k σ' H' => ∃ o2 o3 o4 G', σ' = [some v, some (.ref p), o2, o3, o4] ∧ Own W0 Fk H p G' H' ((msk n (wsh ps k)).map .int))
    ⟨none, none, none, G1, rfl, o1⟩ ?_ ?_)
  · rintro k σ' H' hk ⟨o2, o3, o4, G', rfl, o⟩
    refine jss_one (js_forR (n := n) B.range (by omega) ((rv_len B.len (rv_var 1 rfl) o.ints).is (by rw [rl])) (pg_name (i := 4) sc10.nd rfl (.inl rfl))
      (fun l σ' H' => ∃ o2 o4 G', σ' = [some v, some (.ref p), o2, some (.int (k : Int)), o4] ∧ Own W0 Fk H p G' H' ((msk n fun i => wsh ps (if i < l then k + 1 else k) i).map .int))
      ⟨o2, o4, G', rfl, by
        rw [msk_congr (g := wsh ps k) fun i j _ _ => by rw [if_neg (Nat.not_lt_zero i)]]
        exact o⟩ ?_ ?_)
    · rintro l σ' H' hl' ⟨o2, o4, G', rfl, o⟩
      have hb : Builtin.bitAnd (((mk (wsh ps (if l < l then k + 1 else k) l) n : Nat) : Int) / 2 ^ k) 1 = (if wsh ps k l k then 1 else 0 : Int) := by
        rw [shr_and, tb_mk, decide_eq_true hk, Bool.true_and, if_neg (Nat.lt_irrefl l)]
      refine jss_one (js_ifR (rt_int (rv_and (rv_shr (rv_ix (rv_var 1 rfl) (rv_var 4 rfl) o.ints (atI_nat (mskV_at hl'))) (rv_var 3 rfl) (by omega)) rv_int)) (fun hy => ?_) (fun hno => jss_nil ?_))
      · have hy : (Builtin.bitAnd (((mk (wsh ps (if l < l then k + 1 else k) l) n : Nat) : Int) / 2 ^ k) 1 != 0) = true := hy
        rw [hb] at hy
        have ht : wsh ps k l k = true := by
          cases e : wsh ps k l k with
          | true => rfl
          | false => rw [e] at hy; simp at hy
        refine jss_one (js_store (l := p) (j := l) (RV.q (rv_or (rv_ix (rv_var 1 rfl) (rv_var 4 rfl) o.ints (atI_nat (mskV_at hl'))) (rv_ix (rv_var 1 rfl) (rv_var 3 rfl) o.ints (atI_nat (mskV_at hk)))) ⟨_, (l : Int), rv_var 1 rfl, rv_var 4 rfl, o.ints, ix_nat (by rw [rl]; exact hl'), ?_⟩))
        refine ⟨o2, _, G', rfl, ?_⟩
        rw [bOr, mk_or, ← List.map_set, msk_set]
        refine o.putI.cast (msk_congr fun i j hi hj => ?_)
        by_cases e : i = l
        · subst e
          rw [if_pos rfl, if_neg (Nat.lt_irrefl i), if_pos (Nat.lt_succ_self i)]
          show (wsh ps k i j || _) = (wsh ps k i j || (wsh ps k i k && wsh ps k k j))
          rw [ht, Bool.true_and]
          split
          · rw [wsh_row]
          · rfl
        · rw [if_neg e]
          by_cases h : i < l
          · rw [if_pos h, if_pos (by omega)] -- (Dw)
          · rw [if_neg h, if_neg (by omega)] -- (Dw)
      · have hno : (Builtin.bitAnd (((mk (wsh ps (if l < l then k + 1 else k) l) n : Nat) : Int) / 2 ^ k) 1 != 0) = false := hno
        rw [hb] at hno
        have ht : wsh ps k l k = false := by
          cases e : wsh ps k l k with
          | false => rfl
          | true => rw [e] at hno; simp at hno
        refine ⟨o2, _, G', rfl, o.cast (msk_congr fun i j hi hj => ?_)⟩
        by_cases e : i = l
        · subst e
          rw [if_neg (Nat.lt_irrefl i), if_pos (Nat.lt_succ_self i)]
          show wsh ps k i j = (wsh ps k i j || (wsh ps k i k && wsh ps k k j))
          rw [ht, Bool.false_and, Bool.or_false]
        · by_cases h : i < l
          · rw [if_pos h, if_pos (by omega)] -- (Dw)
          · rw [if_neg h, if_neg (by omega)] -- (Dw)
    · rintro σ' H' ⟨o2, o4, G', rfl, o⟩
      exact ⟨o2, _, o4, G', rfl, o.cast (msk_congr fun i j hi hj => by rw [if_pos hi])⟩
  · rintro σ' H' ⟨o2, o3, o4, G', rfl, o⟩
    obtain ⟨G3, e3, g3, r3, k3⟩ := o.known
    exact jss_one (js_retD g3 (jd_var 1 rfl k3) fun v d G J r4 ed kd => by subst ed; exact hR v G J (r3.trans r4 g) kd)
end
end Dw
/-! found_ring: where there is none. -/
namespace Dw
open PySem PySem.Spec PyProof.Rows L2 -- (Dw)
section
variable {W : Wo} {X : Cx} {o a b e : Expr} {σ : St} {F H : Hp} {pos apos cpos p1 : Pos} {Q : VK}
theorem je_pop {l : Addr} {xs : List V} {y : V} (ho : RV X o σ H (.ref l)) (hl : H l = some (.lst (xs ++ [y]))) (h : Q y (upd H l (.lst xs))) (hbase : attributeBase o "pop" X.env (eval o X.env) = eval o X.env := by rfl) (hline : (apos.endLine == cpos.line) = true := by rfl) :
    JE X (.Call (.Attribute o "pop" apos) [] [] cpos) σ H Q :=
  je_of (pe_bm0 PySem.F.plainAttrs_list PySem.F.slot_list_pop PySem.F.type_list_pop mt_pop pe_self hbase hline) (ho _ ⟨.inl ⟨rfl, _, SqL.of hl⟩, l, _, y, rfl, rfl, hl, by simp, by simpa using h⟩)
theorem je_listR {A : Addr} {xs : List V} (hm : X.mg "list" = none) (ha : RV X a σ H (.ref A)) (hA : H A = some (.lst xs)) (h : ∀ l, H l = none → Q (.ref l) (upd H l (.lst xs))) (hg : Gl X "list" := by rfl)
    (hs : starEach [a] X.env = (false, eval a X.env) :: starEach [] X.env := by rfl) (hpl : (backTo cpos (starEach [] X.env)).any (·.1) = false := by rfl) : JE X (.Call (.Name "list" p1) [a] [] cpos) σ H Q :=
  je_of (pe_callTy call_list_of hg hm PyProof.Rows.boot_list (pa_cons pe_self pa_nil hs) (by decide) (by decide) hs hpl) (ha _ ⟨A, xs, rfl, .inl (SqL.of hA), fun l hl => h l hl⟩)
end
/-! ### sums over the numbers below n -/
def sumN (f : Nat → Nat) : Nat → Nat
  | 0 => 0
  | n + 1 => sumN f n + f n
theorem sumN_eq {f g : Nat → Nat} : ∀ n, (∀ i, i < n → f i = g i) → sumN f n = sumN g n
  | 0, _ => rfl
  | n + 1, h => by
    show sumN f n + f n = sumN g n + g n
    rw [sumN_eq n fun i hi => h i (by omega), h n (by omega)]
theorem sumN_at {f g : Nat → Nat} {k : Nat} (hg : ∀ i, i ≠ k → f i = g i) : ∀ n, k < n → sumN f n + g k = sumN g n + f k
  | 0, h => by omega
  | n + 1, h => by
    show sumN f n + f n + g k = sumN g n + g n + f k
    by_cases e : k = n
    · subst e
      rw [sumN_eq k fun i hi => hg i (by omega)]
      omega
    · have ih := sumN_at hg n (by omega)
      have := hg n (fun z => e z.symm)
      omega
/-! ### the states -/
def strV (n : Nat) (st : Nat → Str) : List V := (List.range n).map fun i => V.str (st i)
theorem strV_len (n : Nat) (st : Nat → Str) : (strV n st).length = n := by unfold strV; rw [List.length_map, List.length_range]
theorem strV_at {n i : Nat} {st : Nat → Str} (h : i < n) : (strV n st)[i]? = some (.str (st i)) := by unfold strV; rw [List.getElem?_map, List.getElem?_range h]; rfl
def sets (st : Nat → Str) (k : Nat) (x : Str) : Nat → Str := fun i => if i = k then x else st i
theorem strV_set {n k : Nat} {st : Nat → Str} {x : Str} : (strV n st).set k (.str x) = strV n (sets st k x) := by
  apply List.ext_getElem?
  intro i
  by_cases hi : i < n
  · rw [strV_at hi]
    by_cases e : k = i
    · subst e
      rw [List.getElem?_set_self (by rw [strV_len]; exact hi)]
      show _ = some (V.str (if k = k then x else st k))
      rw [if_pos rfl]
    · rw [List.getElem?_set_ne e, strV_at hi]
      show _ = some (V.str (if i = k then x else st i))
      rw [if_neg fun z => e z.symm]
  · rw [List.getElem?_eq_none (by rw [List.length_set, strV_len]; omega), List.getElem?_eq_none (by rw [strV_len]; omega)]
/-! ### the search's heap: the states, the way, what is left -/
abbrev Tk := Nat × Addr × List Nat
abbrev wayV (tk : List Tk) : List V := tk.reverse.map fun t => V.int ((t.1 : Nat) : Int)
abbrev lefV (tk : List Tk) : List V := tk.reverse.map fun t => V.ref t.2.1
abbrev rowI (l : List Nat) : List V := l.map fun (k : Nat) => V.int (k : Int)
structure RH (F H J : Hp) (n : Nat) (s p q : Addr) (st : Nat → Str) (tk : List Tk) : Prop where
  gr : Gr W0 F H F J
  s0 : H s = none
  p0 : H p = none
  q0 : H q = none
  sp : s ≠ p
  sq : s ≠ q
  pq : p ≠ q
  js : J s = some (.lst (strV n st))
  jp : J p = some (.lst (wayV tk))
  jq : J q = some (.lst (lefV tk))
  jr : ∀ t ∈ tk, J t.2.1 = some (.lst (rowI t.2.2)) ∧ H t.2.1 = none ∧ t.2.1 ≠ s ∧ t.2.1 ≠ p ∧ t.2.1 ≠ q
  nd : (tk.map fun t => t.2.1).Nodup
section
variable {F H J : Hp} {n : Nat} {s p q : Addr} {st : Nat → Str} {tk : List Tk}
theorem noW {a : Addr} : ¬ W0.m a := fun h => h
theorem RH.setS (r : RH F H J n s p q st tk) (g : Good W0 F H) (st' : Nat → Str) : RH F H (upd J s (.lst (strV n st'))) n s p q st' tk := by
  have fs : F s = none := g.fh.no r.s0
  exact ⟨r.gr.put r.js r.s0 fs noW, r.s0, r.p0, r.q0, r.sp, r.sq, r.pq, upd_same, by rw [upd_ne r.sp.symm]; exact r.jp, by rw [upd_ne r.sq.symm]; exact r.jq, fun t ht => by
    obtain ⟨a, b, c, d⟩ := r.jr t ht
    exact ⟨by rw [upd_ne c]; exact a, b, c, d⟩, r.nd⟩
/-- one more on the way, its row a new list -/
theorem RH.push (r : RH F H J n s p q st tk) (g : Good W0 F H) {w : Nat} {a : Addr} {l : List Nat} (ha : J a = none) :
    RH F H (upd (upd (upd J p (.lst (wayV tk ++ [.int ((w : Nat) : Int)]))) a (.lst (rowI l))) q (.lst (lefV tk ++ [.ref a]))) n s p q st ((w, a, l) :: tk) := by
  have fp : F p = none := g.fh.no r.p0
  have fq : F q = none := g.fh.no r.q0
  have as : a ≠ s := fun e => by rw [e, r.js] at ha; cases ha
  have ap : a ≠ p := fun e => by rw [e, r.jp] at ha; cases ha
  have aq : a ≠ q := fun e => by rw [e, r.jq] at ha; cases ha
  have r1 := r.gr.put (ys := wayV tk ++ [.int ((w : Nat) : Int)]) r.jp r.p0 fp noW
  have ha1 : upd J p (HO.lst (wayV tk ++ [.int ((w : Nat) : Int)])) a = none := by rw [upd_ne ap]; exact ha
  have r2 := r1.trans (Gr.own (o := .lst (rowI l)) (r1.good g) ha1) g
  have r3 := r2.put (p := q) (xs := lefV tk) (ys := lefV tk ++ [.ref a]) (by rw [upd_ne aq.symm, upd_ne r.pq.symm]; exact r.jq) r.q0 fq noW
  refine ⟨r3, r.s0, r.p0, r.q0, r.sp, r.sq, r.pq, ?_, ?_, ?_, fun t ht => ?_, ?_⟩
  · rw [upd_ne r.sq, upd_ne as.symm, upd_ne r.sp]; exact r.js
  · rw [upd_ne r.pq, upd_ne ap.symm, upd_same]; simp [wayV]
  · rw [upd_same]; simp [lefV]
  · rcases List.mem_cons.mp ht with rfl | ht
    · refine ⟨?_, r1.fresh ha1, as, ap, aq⟩
      rw [upd_ne aq, upd_same]
    · obtain ⟨x, b, c, d, e⟩ := r.jr t ht
      have ta : t.2.1 ≠ a := fun z => by rw [z, ha] at x; cases x
      exact ⟨by rw [upd_ne e, upd_ne ta, upd_ne d]; exact x, b, c, d, e⟩
  · rw [List.map_cons, List.nodup_cons]
    refine ⟨fun hm => ?_, r.nd⟩
    obtain ⟨t, ht, e⟩ := List.mem_map.mp hm
    have x := (r.jr t ht).1
    rw [e, ha] at x
    cases x
theorem RH.pop {t : Tk} (r : RH F H J n s p q st (t :: tk)) (g : Good W0 F H) : RH F H (upd (upd J p (.lst (wayV tk))) q (.lst (lefV tk))) n s p q st tk := by
  have fp : F p = none := g.fh.no r.p0
  have fq : F q = none := g.fh.no r.q0
  have r1 := r.gr.put (ys := wayV tk) r.jp r.p0 fp noW
  have r3 := r1.put (p := q) (xs := lefV (t :: tk)) (ys := lefV tk) (by rw [upd_ne r.pq.symm]; exact r.jq) r.q0 fq noW
  refine ⟨r3, r.s0, r.p0, r.q0, r.sp, r.sq, r.pq, ?_, ?_, upd_same, fun u hu => ?_, (List.nodup_cons.mp r.nd).2⟩
  · rw [upd_ne r.sq, upd_ne r.sp]; exact r.js
  · rw [upd_ne r.pq, upd_same]
  · obtain ⟨x, b, c, d, e⟩ := r.jr u (List.mem_cons_of_mem _ hu)
    exact ⟨by rw [upd_ne e, upd_ne d]; exact x, b, c, d, e⟩
/-- the last of the top's row is taken -/
theorem RH.take {w : Nat} {a : Addr} {l : List Nat} {k : Nat} (r : RH F H J n s p q st ((w, a, l ++ [k]) :: tk)) (g : Good W0 F H) : RH F H (upd J a (.lst (rowI l))) n s p q st ((w, a, l) :: tk) := by
  obtain ⟨x, b, c, d, e⟩ := r.jr _ List.mem_cons_self
  have fa : F a = none := g.fh.no b
  have hn := List.nodup_cons.mp r.nd
  refine ⟨r.gr.put x b fa noW, r.s0, r.p0, r.q0, r.sp, r.sq, r.pq, ?_, ?_, ?_, fun u hu => ?_, r.nd⟩
  · rw [upd_ne (Ne.symm c)]; exact r.js
  · rw [upd_ne (Ne.symm d)]; rw [r.jp]; simp [wayV]
  · rw [upd_ne (Ne.symm e)]; rw [r.jq]; simp [lefV]
  · rcases List.mem_cons.mp hu with rfl | hu -- (Dw)
    · exact ⟨upd_same, b, c, d, e⟩
    · obtain ⟨x', b', c', d', e'⟩ := r.jr u (List.mem_cons_of_mem _ hu)
      have ua : u.2.1 ≠ a := fun z => hn.1 (by
        show a ∈ _
        rw [← z]; exact List.mem_map.mpr ⟨u, hu, rfl⟩)
      exact ⟨by rw [upd_ne ua]; exact x', b', c', d', e'⟩
end
/-! ### what it holds to -/
structure RP (n : Nat) (rk : Nat → Nat) (st : Nat → Str) (tk : List Tk) : Prop where
  op : ∀ i, i < n → st i = "open" → ∃ t ∈ tk, t.1 = i
  inc : tk.Pairwise fun a b => rk b.1 < rk a.1
  lt : ∀ t ∈ tk, t.1 < n
  nx : ∀ t ∈ tk, ∀ h ∈ t.2.2, h < n ∧ rk t.1 < rk h
def wgt (f : Nat → Nat) (n : Nat) (st : Nat → Str) : Nat := sumN (fun i => if st i = "new" then f i else 0) n
def lefN (tk : List Tk) : Nat := (tk.map fun t => t.2.2.length + 1).foldr (· + ·) 0
def S_ring (ds : List PyData) (R : PyData → Prop) : Prop := ∃ (n : Nat) (ps : List (Nat × Nat)) (rows : List (List Nat)), ds = [dLL rows] ∧ n ≤ 40 ∧ Adj n ps rows ∧ Vd n ps ∧ R .none
theorem noO : (Str.ofString "new") ≠ "open" := by decide +kernel
theorem doO : (Str.ofString "done") ≠ "open" := by decide +kernel
theorem doN : (Str.ofString "done") ≠ "new" := by decide +kernel
theorem opN : (Str.ofString "open") ≠ "new" := by decide +kernel
theorem RP.top {n : Nat} {rk : Nat → Nat} {st : Nat → Str} {t : Tk} {tk : List Tk} (r : RP n rk st (t :: tk)) {h : Nat} (hh : h ∈ t.2.2) : st h ≠ "open" := fun e => by
  obtain ⟨hn, hr⟩ := r.nx t List.mem_cons_self h hh
  obtain ⟨u, hu, e2⟩ := r.op h hn e
  rcases List.mem_cons.mp hu with rfl | hu -- (Dw)
  · rw [e2] at hr; omega
  · have := (List.pairwise_cons.mp r.inc).1 u hu
    rw [e2] at this
    omega
theorem RP.pop {n : Nat} {rk : Nat → Nat} {st : Nat → Str} {t : Tk} {tk : List Tk} (r : RP n rk st (t :: tk)) : RP n rk (sets st t.1 "done") tk := by
  refine ⟨fun i hi e => ?_, (List.pairwise_cons.mp r.inc).2, fun u hu => r.lt u (List.mem_cons_of_mem _ hu), fun u hu => r.nx u (List.mem_cons_of_mem _ hu)⟩
  have e : (if i = t.1 then Str.ofString "done" else st i) = "open" := e
  split at e
  · exact absurd e doO
  · rename_i hne
    obtain ⟨u, hu, e2⟩ := r.op i hi e
    rcases List.mem_cons.mp hu with rfl | hu -- (Dw)
    · exact absurd e2.symm hne
    · exact ⟨u, hu, e2⟩
theorem RP.push {n : Nat} {rk : Nat → Nat} {st : Nat → Str} {tk : List Tk} (r : RP n rk st tk) {w : Nat} {a : Addr} {l : List Nat} (hw : w < n) (hl : ∀ h ∈ l, h < n ∧ rk w < rk h) (hr : ∀ t ∈ tk, rk t.1 < rk w) : RP n rk (sets st w "open") ((w, a, l) :: tk) := by
  refine ⟨fun i hi e => ?_, List.pairwise_cons.mpr ⟨hr, r.inc⟩, fun u hu => ?_, fun u hu => ?_⟩
  · by_cases hiw : i = w
    · exact ⟨_, List.mem_cons_self, hiw.symm⟩
    · have e : (if i = w then Str.ofString "open" else st i) = "open" := e
      rw [if_neg hiw] at e
      obtain ⟨u, hu, e2⟩ := r.op i hi e
      exact ⟨u, List.mem_cons_of_mem _ hu, e2⟩
  · rcases List.mem_cons.mp hu with rfl | hu -- (Dw)
    · exact hw
    · exact r.lt u hu
  · rcases List.mem_cons.mp hu with rfl | hu -- (Dw)
    · exact hl
    · exact r.nx u hu
theorem RP.take {n : Nat} {rk : Nat → Nat} {st : Nat → Str} {tk : List Tk} {w : Nat} {a : Addr} {l : List Nat} {k : Nat} (r : RP n rk st ((w, a, l ++ [k]) :: tk)) : RP n rk st ((w, a, l) :: tk) := by
  refine ⟨fun i hi e => ?_, ?_, fun u hu => ?_, fun u hu => ?_⟩
  · obtain ⟨u, hu, e2⟩ := r.op i hi e
    rcases List.mem_cons.mp hu with rfl | hu -- (Dw)
    · exact ⟨_, List.mem_cons_self, e2⟩
    · exact ⟨u, List.mem_cons_of_mem _ hu, e2⟩
  · exact List.pairwise_cons.mpr (List.pairwise_cons.mp r.inc)
  · rcases List.mem_cons.mp hu with rfl | hu -- (Dw)
    · exact r.lt (w, a, l ++ [k]) List.mem_cons_self
    · exact r.lt u (List.mem_cons_of_mem _ hu)
  · rcases List.mem_cons.mp hu with rfl | hu -- (Dw)
    · exact fun h hh => r.nx (w, a, l ++ [k]) List.mem_cons_self h (List.mem_append.mpr (.inl hh))
    · exact r.nx u (List.mem_cons_of_mem _ hu)
theorem wgt_set {f : Nat → Nat} {n : Nat} {st : Nat → Str} {k : Nat} {x : Str} (hk : k < n) (hx : x ≠ "new") : wgt f n (sets st k x) + (if st k = "new" then f k else 0) = wgt f n st := by
  have h := sumN_at (f := fun i => if sets st k x i = "new" then f i else 0) (g := fun i => if st i = "new" then f i else 0) (k := k) (fun i hi => by
    show (if (if i = k then x else st i) = "new" then _ else _) = _
    rw [if_neg hi]) n hk
  have e : (if sets st k x k = "new" then f k else 0) = 0 := by
    show (if (if k = k then x else st k) = "new" then _ else _) = _
    rw [if_pos rfl, if_neg hx]
  simp only [e] at h
  unfold wgt
  omega
theorem wgt_le (n : Nat) (st : Nat → Str) : wgt (fun _ => 1) n st ≤ n := by
  unfold wgt
  induction n with
  | zero => exact Nat.le_refl _
  | succ n ih =>
    show sumN _ n + (if st n = "new" then 1 else 0) ≤ n + 1
    have : (if st n = "new" then 1 else 0) ≤ 1 := by split <;> omega
    omega
end Dw
/-! found_ring, walked. -/
namespace Dw
open PySem PySem.Spec PyProof.Rows L2 -- (Dw)
theorem NewL.repF {X : Cx} {σ : St} {F : Hp} {n : Nat} {v : V} {e1 e2 : Expr} {p0 p1 : Pos} (h1 : ∀ H, RV X e1 σ H v) (h2 : ∀ H, Ex F H → RV X e2 σ H (.int (n : Int))) (hn : n ≤ 100000) (hs : starEach [e1] X.env = (false, eval e1 X.env) :: starEach [] X.env := by rfl) : NewL X (.BinOp (.List [e1] p0) .Mult e2 p1) σ F (List.replicate n v) := fun H e Q q =>
  je_of (pe_op op_rep (pe_lst (pa_cons pe_self pa_nil hs)) pe_self) (h1 H _ ⟨by show 1 ≤ sizeLine; decide, fun l hl => h2 _ (e.trans (Ex.new hl)) _ ⟨l, (n : Int), [v], rfl, rfl, upd_same, by omega, by omega, by show 1 * (n : Int).toNat ≤ sizeLine; rw [sizeLine_eq]; omega, fun p hp => by
    have e2 : (List.replicate (n : Int).toNat [v]).flatten = List.replicate n v := flat_rep1 v n
    rw [e2]
    exact q p _ ((Ex.new hl).no hp) ((Ex.new hl).trans (Ex.new hp)) upd_same⟩⟩)
theorem NewL.qF {X : Cx} {e : Expr} {σ : St} {F H : Hp} {vs : List V} {Q : VK} (h : NewL X e σ F vs) (x : Ex F H) (q : ∀ p J, H p = none → Ex H J → J p = some (.lst vs) → Q (.ref p) J) : JE X e σ H Q := h H x Q q
theorem strV_rep (n : Nat) (x : Str) : List.replicate n (V.str x) = strV n fun _ => x := by
  unfold strV
  rw [List.map_const', List.length_range]
theorem wayV_cons (t : Tk) (tk : List Tk) : wayV (t :: tk) = wayV tk ++ [.int ((t.1 : Nat) : Int)] := by simp [wayV]
theorem lefV_cons (t : Tk) (tk : List Tk) : lefV (t :: tk) = lefV tk ++ [.ref t.2.1] := by simp [lefV]
theorem rowI_snoc (l : List Nat) (k : Nat) : rowI (l ++ [k]) = rowI l ++ [.int (k : Int)] := by simp [rowI]
theorem vstr_ne {a b : Str} (h : a ≠ b) : decide (V.str a = V.str b) = false := decide_eq_false fun e => h (by injection e)
theorem vstr_of {a b : Str} (h : decide (V.str a = V.str b) = true) : a = b := by have := of_decide_eq_true h; injection this
theorem vstr_no {a b : Str} (h : decide (V.str a = V.str b) = false) : a ≠ b := fun e => of_decide_eq_false h (by rw [e])
/-- the rows of the table of lists, as they stand -/
theorem dLL_row {F : Hp} {v : V} {rows : List (List Nat)} (k : Dq F v (dLL rows)) : ∃ A vs, v = .ref A ∧ F A = some (.lst vs) ∧ vs.length = rows.length ∧ ∀ (i : Nat) row, rows[i]? = some row → ∃ r, vs[i]? = some (.ref r) ∧ F r = some (.lst (rowI row)) := by
  cases k with
  | @lst A vs _ hA hk =>
    refine ⟨A, vs, rfl, hA, by have := hk.len; rw [List.length_map] at this; exact this, fun i row hi => ?_⟩
    obtain ⟨u, hu, ku⟩ := hk.ex (i := i) (d := dInts (nats row)) (by rw [List.getElem?_map, hi]; rfl)
    cases ku with
    | @lst r xs _ hr hx =>
      refine ⟨r, hu, ?_⟩
      rw [hr, hx.ints_of]
      unfold nats rowI
      rw [List.map_map]; rfl
structure RC (n : Nat) (rk : Nat → Nat) (st : Nat → Str) (tk : List Tk) : Prop where
  rp : RP n rk st tk
  cnt : tk.length + wgt (fun _ => 1) n st ≤ n
section
variable {P : Program} {w : World} {K : PySem.W.Frag} {mg : Str → Option Value} {base : Heap} -- (Dw)
theorem ok_ring (F : At K mg "found_ring" (topS 9)) (B : Bl mg) : Kn P w K mg base "found_ring" 1 ["direct"] (spP S_ring) := by
  refine kn9 F (spP_len fun ds R ⟨_, _, _, e, _⟩ => by rw [e]; rfl) fun fa cdv A outer s0 H vs Q E hr ⟨Fk, ds, g, kd, n, ps, rows, ed, hn, hA, hV, hR⟩ => ?_
  subst ed
  obtain ⟨v, rfl, k1⟩ := dq1 kd
  obtain ⟨hl, hps, hrows⟩ := hA
  obtain ⟨rk, hrk⟩ := hV.rk
  obtain ⟨A0, dv, rfl, hA0, hdl, hrow⟩ := dLL_row k1
  let wf : Nat → Nat := fun i => (rows.getD i []).length + 1
  have nxt : ∀ (i : Nat) row, rows[i]? = some row → ∀ h ∈ row, h < n ∧ rk i < rk h := fun i row hi h hh => by
    have := (hrows i row hi h).mp hh
    exact ⟨(hps _ this).2, hrk _ this⟩
  refine jss_cons (js_set 1 sc9.nd ((NewL.repF (F := Fk) (v := .str "new") (n := n) (fun H => rv_str) (fun J e => (rv_len B.len (rv_var 0 rfl) (e _ _ hA0)).is (by rw [hdl, hl])) (by omega)).qF g.fh fun s J0 hs e0 hs0 => ?_))
  rw [strV_rep] at hs0
  have gr0 : Gr W0 Fk H Fk J0 := ⟨Ex.refl _, g.fh.trans e0, fun a o _ e => e0 a o e, trivial, fun _ _ _ => rfl⟩
  refine jss_cons (js_forR (n := n) B.range (by omega) ((rv_len B.len (rv_var 0 rfl) (gr0.gj _ _ hA0)).is (by rw [hdl, hl])) (pg_name (i := 2) sc9.nd rfl (.inl rfl))
    (fun k σ' H' => ∃ o2 o3 o4 o5 st, σ' = [some (.ref A0), some (.ref s), o2, o3, o4, o5] ∧ Gr W0 Fk H Fk H' ∧ H' s = some (.lst (strV n st)) ∧ ∀ i, i < n → st i ≠ "open")
    ⟨none, none, none, none, fun _ => "new", rfl, gr0, hs0, fun i _ => noO⟩ ?_ ?_)
  · rintro first σ' H' hfi ⟨o2, o3, o4, o5, st, rfl, gr1, hst, hop⟩
    have g1 := gr1.good g
    refine jss_cons (js_new 3 sc9.nd fun p hp => ?_)
    have gr2 := gr1.trans (Gr.own (o := .lst []) g1 hp) g
    refine jss_cons (js_new 4 sc9.nd fun q hq => ?_)
    have gr3 := gr2.trans (Gr.own (o := .lst []) (gr2.good g) hq) g
    have sp : s ≠ p := ne_of_none hst hp
    have pq : p ≠ q := ne_of_none upd_same hq
    have sq : s ≠ q := fun e => by rw [← e, upd_ne sp, hst] at hq; cases hq
    have r3 : RH Fk H (upd (upd H' p (.lst [])) q (.lst [])) n s p q st [] := ⟨gr3, hs, gr1.fresh hp, gr2.fresh hq, sp, sq, pq, by rw [upd_ne sq, upd_ne sp]; exact hst, by rw [upd_ne pq]; exact upd_same, upd_same, fun t ht => by simp at ht, by simp⟩
    have c3 : RC n rk st [] := ⟨⟨fun i hi e => absurd e (hop i hi), .nil, fun t ht => by simp at ht, fun t ht => by simp at ht⟩, by simpa using wgt_le n st⟩
    have hfr : rows[first]? = some (rows.getD first []) := by rw [List.getD_eq_getElem?_getD, List.getElem?_eq_getElem (by omega)]; rfl
    refine jss_mid (fun σ' H' => ∃ st tk, σ' = [some (.ref A0), some (.ref s), some (.int (first : Int)), some (.ref p), some (.ref q), o5] ∧ RH Fk H H' n s p q st tk ∧ RC n rk st tk) (js_ifR (rt_eq (rv_ix (rv_var 1 rfl) (rv_var 2 rfl) r3.js (atI_nat (strV_at hfi))) rv_str) (fun hy => ?_) (fun _ => jss_nil ⟨st, [], rfl, r3, c3⟩)) ?_
    · have hnew := vstr_of hy
      refine jss_cons (js_store (l := s) (j := first) (RV.q (rv_str (i := "open")) ⟨_, (first : Int), rv_var 1 rfl, rv_var 2 rfl, r3.js, ix_nat (by rw [strV_len]; exact hfi), ?_⟩))
      rw [strV_set]
      have r4 := r3.setS g (sets st first "open")
      refine jss_cons (js_expr (je_app (rv_var 3 rfl) r4.jp (RV.q (rv_var 2 rfl) ⟨_, r4.jp, by simp, ?_⟩)))
      obtain ⟨ra, hra, hra2⟩ := hrow first _ hfr
      have r5 := r4.gr.put (ys := wayV [] ++ [.int ((first : Nat) : Int)]) r4.jp r4.p0 (g.fh.no r4.p0) noW
      refine jss_one (js_expr (je_app (rv_var 4 rfl) (by rw [upd_ne r4.pq.symm]; exact r4.jq) (je_listR B.list (rv_ix (rv_var 0 rfl) (rv_var 2 rfl) (r5.gj _ _ hA0) (atI_nat hra)) (r5.gj _ _ hra2) fun a ha => ⟨_, by
        rw [upd_ne (show q ≠ a from fun e => by rw [← e, upd_ne r4.pq.symm, r4.jq] at ha; cases ha), upd_ne r4.pq.symm]; exact r4.jq, by simp, ?_⟩)))
      have ha' : upd (upd (upd H' p (.lst [])) q (.lst [])) s (HO.lst (strV n (sets st first "open"))) a = none := by
        rw [upd_ne (show a ≠ p from fun e => by rw [e, upd_same] at ha; cases ha)] at ha
        exact ha
      refine ⟨_, _, rfl, r4.push g ha', ⟨(RP.push c3.rp (a := a) hfi (nxt first _ hfr) fun t ht => by simp at ht), ?_⟩⟩
      have := wgt_set (f := fun _ => 1) (x := "open") (st := st) hfi opN
      rw [if_pos hnew] at this
      have h2 := c3.cnt
      simp only [List.length_cons, List.length_nil] at h2 ⊢
      omega
    rintro σ4 H4 ⟨st4, tk4, rfl, r4, c4⟩
    refine jss_one (js_while (fun m σ' H' => ∃ st tk o5, σ' = [some (.ref A0), some (.ref s), some (.int (first : Int)), some (.ref p), some (.ref q), o5] ∧ RH Fk H H' n s p q st tk ∧ RC n rk st tk ∧ m = wgt wf n st + lefN tk) _ ⟨st4, tk4, o5, rfl, r4, c4, rfl⟩ ?_)
    rintro m σ' H' ⟨st, tk, o5, rfl, r, c, rfl⟩
    refine (rt_gt (rv_len B.len (rv_var 3 rfl) r.jp) rv_int) _ ?_
    cases tk with
    | nil =>
      rw [if_neg (by simp)]
      exact ⟨_, _, _, _, st, rfl, r.gr, r.js, fun i hi e => by
        obtain ⟨t, ht, _⟩ := c.rp.op i hi e
        simp at ht⟩
    | cons t tk =>
      rw [if_pos (by simp [wayV])]
      refine ⟨fun σ2 H2 => ∃ m', m' < wgt wf n st + lefN (t :: tk) ∧ ∃ st tk o5, σ2 = [some (.ref A0), some (.ref s), some (.int (first : Int)), some (.ref p), some (.ref q), o5] ∧ RH Fk H H2 n s p q st tk ∧ RC n rk st tk ∧ m' = wgt wf n st + lefN tk, fun σ2 H2 h => h, ?_⟩
      obtain ⟨w1, a, l⟩ := t
      have hw1 := c.rp.lt _ List.mem_cons_self
      have hrow1 := (r.jr _ List.mem_cons_self).1
      have ixq : atI (lefV ((w1, a, l) :: tk)) (-1) = some (.ref a) := by rw [lefV_cons]; exact atI_last _ _
      have ixp : atI (wayV ((w1, a, l) :: tk)) (-1) = some (.int ((w1 : Nat) : Int)) := by rw [wayV_cons]; exact atI_last _ _
      refine jss_cons (js_ifR (rt_eq (rv_len B.len (rv_ix (rv_var 4 rfl) (rv_neg rv_int) r.jq ixq) hrow1) rv_int) (fun hy => ?_) (fun hno => jss_nil ?_))
      · have hy := of_decide_eq_true hy
        have hl0 : l = [] := by
          have h1 : ((rowI l).length : Int) = 0 := by injection hy
          have h2 : (rowI l).length = l.length := by simp [rowI]
          exact List.length_eq_zero_iff.mp (by omega) -- (Dw)
        subst hl0
        refine jss_cons (js_store (l := s) (j := w1) (RV.q (rv_str (i := "done")) ⟨_, (w1 : Int), rv_var 1 rfl, rv_ix (rv_var 3 rfl) (rv_neg rv_int) r.jp ixp, r.js, ix_nat (by rw [strV_len]; exact hw1), ?_⟩))
        rw [strV_set]
        have r5 := r.setS g (sets st w1 "done")
        refine jss_cons (js_expr (je_pop (rv_var 3 rfl) (by rw [r5.jp, wayV_cons]) ?_))
        refine jss_cons (js_expr (je_pop (rv_var 4 rfl) (by rw [upd_ne r5.pq.symm, r5.jq, lefV_cons]) ?_))
        refine jss_one (js_cont ⟨_, ?_, sets st w1 "done", tk, o5, rfl, r5.pop g, ⟨c.rp.pop, ?_⟩, rfl⟩)
        · have := wgt_set (f := wf) (st := st) (k := w1) hw1 doN
          have e : lefN ((w1, a, []) :: tk) = 1 + lefN tk := by simp [lefN]
          omega
        · have := wgt_set (f := fun _ => 1) (st := st) (k := w1) hw1 doN
          have h2 := c.cnt
          rw [List.length_cons] at h2
          omega
      · have hno := of_decide_eq_false hno
        have hl0 : l ≠ [] := fun e => hno (by rw [e]; rfl)
        obtain ⟨l', k, rfl⟩ : ∃ l' k, l = l' ++ [k] := ⟨l.dropLast, l.getLast hl0, (List.dropLast_concat_getLast hl0).symm⟩
        refine jss_cons (js_set 5 sc9.nd (je_pop (rv_ix (rv_var 4 rfl) (rv_neg rv_int) r.jq ixq) (by rw [hrow1]; exact congrArg (fun x => some (HO.lst x)) (rowI_snoc l' k)) ?_))
        have r5 := r.take g
        have ht := c.rp.top (h := k) (by simp)
        have hkn := (c.rp.nx _ List.mem_cons_self k (by simp))
        refine jss_cons (js_ifR (rt_eq (rv_ix (rv_var 1 rfl) (rv_var 5 rfl) r5.js (atI_nat (strV_at hkn.1))) rv_str) (fun hy => absurd (vstr_of hy) ht) (fun _ => jss_nil ?_))
        have e1 : lefN ((w1, a, l' ++ [k]) :: tk) = lefN ((w1, a, l') :: tk) + 1 := by simp [lefN]; omega
        refine jss_one (js_ifR (rt_eq (rv_ix (rv_var 1 rfl) (rv_var 5 rfl) r5.js (atI_nat (strV_at hkn.1))) rv_str) (fun hy => ?_) (fun _ => jss_nil ⟨_, ?_, st, (w1, a, l') :: tk, _, rfl, r5, ⟨c.rp.take, c.cnt⟩, rfl⟩))
        · have hnew := vstr_of hy
          have hfr : rows[k]? = some (rows.getD k []) := by rw [List.getD_eq_getElem?_getD, List.getElem?_eq_getElem (by omega)]; rfl
          have hcl : tk.length + 1 ≤ n := by
            have h2 := c.cnt
            rw [List.length_cons] at h2
            omega
          refine jss_cons (js_store (l := s) (j := k) (RV.q (rv_str (i := "open")) ⟨_, (k : Int), rv_var 1 rfl, rv_var 5 rfl, r5.js, ix_nat (by rw [strV_len]; exact hkn.1), ?_⟩))
          rw [strV_set]
          have r6 := r5.setS g (sets st k "open")
          refine jss_cons (js_expr (je_app (rv_var 3 rfl) r6.jp (RV.q (rv_var 5 rfl) ⟨_, r6.jp, by simp [wayV]; omega, ?_⟩)))
          obtain ⟨ra, hra, hra2⟩ := hrow k _ hfr
          have r7 := r6.gr.put (ys := wayV ((w1, a, l') :: tk) ++ [.int ((k : Nat) : Int)]) r6.jp r6.p0 (g.fh.no r6.p0) noW
          refine jss_one (js_expr (je_app (rv_var 4 rfl) (by rw [upd_ne r6.pq.symm]; exact r6.jq) (je_listR B.list (rv_ix (rv_var 0 rfl) (rv_var 5 rfl) (r7.gj _ _ hA0) (atI_nat hra)) (r7.gj _ _ hra2) fun b hb => ⟨_, by
            rw [upd_ne (show q ≠ b from fun e => by rw [← e, upd_ne r6.pq.symm, r6.jq] at hb; cases hb), upd_ne r6.pq.symm]; exact r6.jq, by simp [lefV]; omega, ?_⟩)))
          have hb' : upd (upd H' a (.lst (rowI l'))) s (HO.lst (strV n (sets st k "open"))) b = none := by
            rw [upd_ne (show b ≠ p from fun e => by rw [e, upd_same] at hb; cases hb)] at hb
            exact hb
          have w1' := wgt_set (f := wf) (x := "open") (st := st) hkn.1 opN
          rw [if_pos hnew] at w1'
          have w2' := wgt_set (f := fun _ => 1) (x := "open") (st := st) hkn.1 opN
          rw [if_pos hnew] at w2'
          refine ⟨_, ?_, sets st k "open", _, _, rfl, r6.push g hb', ⟨RP.push c.rp.take hkn.1 (nxt k _ hfr) fun t ht => ?_, ?_⟩, rfl⟩
          · have e2 : lefN ((k, b, rows.getD k []) :: (w1, a, l') :: tk) = (rows.getD k []).length + 1 + lefN ((w1, a, l') :: tk) := by simp [lefN]
            have e3 : wf k = (rows.getD k []).length + 1 := rfl
            omega
          · rcases List.mem_cons.mp ht with rfl | ht
            · exact hkn.2
            · exact Nat.lt_trans ((List.pairwise_cons.mp c.rp.inc).1 t ht) hkn.2
          · have h2 := c.cnt
            simp only [List.length_cons] at h2 ⊢
            omega
        · omega
  · rintro σ' H' ⟨o2, o3, o4, o5, st, rfl, gr1, hst, hop⟩
    exact jss_one (js_retD (gr1.good g) jd_none fun v d G J r4 ed kd => by subst ed; exact hR v G J (gr1.trans r4 g) kd)
end
end Dw
/-! The class Order: fields, methods, the property; enumerate. -/
namespace Dw
open PySem PySem.Spec PyProof.Rows L2 -- (Dw)
/-- what the top leaves of the class -/
structure OrdF (K : PySem.W.Frag) (mg : Str → Option Value) (C : Addr) : Prop where
  nm : mg "Order" = some (.ref C)
  most : ∃ t, mg "MOST" = some (.int 40 t)
  cls : Cls K C
  nSize : NoAttr K C "_size"
  nUp : NoAttr K C "_up"
  nDown : NoAttr K C "_down"
  nPairs : NoAttr K C "_pairs"
  ini : ∃ f fd, Mk K C f ∧ FunD K "__init__" "Order.__init__" (defArgs (meS 0)) (defBody (meS 0)) (defScope (meS 0)) [] [] f fd
  dm : ∃ f fd, Meth K C "down_mask" f ∧ FunD K "down_mask" "Order.down_mask" (defArgs (meS 7)) (defBody (meS 7)) (defScope (meS 7)) [] [] f fd
  sz : ∃ p f fd, PropOf K C "size" p f ∧ FunD K "size" "Order.size" (defArgs (meS 1)) (defBody (meS 1)) (defScope (meS 1)) [] [] f fd
section
variable {W : Wo} {X : Cx} {o a e : Expr} {σ : St} {F H : Hp} {pos apos p : Pos} {C x dx : Addr} {fs : List (Str × V)} {f : Str} {v : V} {D : Ends}
theorem rv_fld (ho : RV X o σ H (.ref x)) (hx : H x = some (.ins C dx fs)) (c : Cls X.K C) (n : NoAttr X.K C f) (hf : fs.lookup f = some v) (hb : attributeBase o f X.env (eval o X.env) = eval o X.env := by rfl) : RV X (.Attribute o f pos) σ H v := fun Q q =>
  je_of (pe_fld pe_self hb) (ho _ ⟨x, C, dx, fs, v, rfl, hx, c, n, hf, q⟩)
/-- o.f = e -/
theorem js_fld {value : Expr} {pos' : Pos} (c : Cls X.K C) (n : NoAttr X.K C f) (hv : JE X value σ H fun y J => ∃ dx fs, RV X o σ J (.ref x) ∧ J x = some (.ins C dx fs) ∧ fs.length < 1000 ∧ D.nx σ (upd J x (.ins C dx (putF f y fs))))
    (hs : swapsWith value (some (.Attribute o f pos')) pos.line X.env = pure false := by rfl) : JS X (.Assign [.Attribute o f pos'] value pos) σ H D :=
  js_of (ps_fld pe_self pe_self hs) (hv.imp fun y J ⟨dx, fs, ho, hx, hl, q⟩ => ho _ ⟨x, C, dx, fs, rfl, hx, c, n, hl, q⟩)
/-- a value of known data, told raw -/
theorem jd_rv {d : PyData} (h : ∀ H, Good W F H → RV X e σ H v) (k : Dq F v d) : JD W X e σ F (Is d) := fun H g Q q => h H g Q (q v d F H g.gr rfl k)
/-- a global that holds a value -/
theorem rv_glob {n : Str} {u : Value} (hm : X.mg n = some u) (r : RelV v u) (hg : Gl X n := by rfl) (hd : (n == ("__debug__" : Str)) = false := by decide) : RV X (.Name n pos) σ H v := fun Q q => je_of (C8.pe_gc hg ⟨u, hm, r⟩ hd) q
/-- a <= b < c of numbers -/
theorem rt_chain {op op' : CmpOp} {g g' : Int → Int → Bool} {b c : Expr} {i j k : Int} (ho : OpR X (compareOp op) (rI0 fun i j => .bl (g i j))) (ho' : OpR X (compareOp op') (rI0 fun i j => .bl (g' i j))) (ha : RV X a σ H (.int i)) (hb : RV X b σ H (.int j)) (hc : RV X c σ H (.int k))
    (hm : lastMarks [op, op'] [b, c] = false := by with_unfolding_all rfl) : RT X (.Compare a [op, op'] [b, c] pos) σ H (g i j && g' j k) := fun Q q =>
  jb_of (pt_chain ho ho' pe_self pe_self pe_self hm) (ha _ (hb _ ⟨i, j, rfl, rfl, g i j, rfl, by
    cases hgi : g i j with
    | true =>
      rw [if_pos rfl]
      rw [hgi, Bool.true_and] at q
      exact hc _ ⟨j, k, rfl, rfl, g' j k, rfl, q⟩
    | false =>
      rw [if_neg Bool.false_ne_true] -- (Dw)
      rw [hgi, Bool.false_and] at q
      exact ⟨false, rfl, q⟩⟩))
theorem rt_not {k : Bool} (h : RT X a σ H k) : RT X (.UnaryOp .Not a pos) σ H (!k) := fun Q q => jb_of (pt_not pt_self) (h _ q)
/-- for .. in enumerate(e) over a list that stays -/
theorem js_forEnum {A : Addr} {xs : List V} {elts : List Expr} {kk : Nat} {tpos spos p1 : Pos} {g : TG} {body : List Stmt} (hm : X.mg "enumerate" = none) (he : RV X e σ H (.ref A)) (hA : H A = some (.lst xs)) (hg : PG X (.Tuple elts kk tpos) g) (Pv : Nat → St → Hp → Prop) (hk : ∀ i σ' H', Pv i σ' H' → H' A = some (.lst xs)) (h0 : Pv 0 σ H)
    (hs : ∀ (i : Nat) x T σ' H', xs[i]? = some x → Pv i σ' H' → H' T = none → g (.ref T) σ' (upd H' T (.tup [.int (i : Int), x])) fun σ2 H2 => JSs X body σ2 H2 { D with nx := Pv (i + 1), ct := Pv (i + 1), bk := D.nx })
    (hd : ∀ σ' H', Pv xs.length σ' H' → D.nx σ' H') (hgl : Gl X "enumerate" := by rfl) (hst : starEach [e] X.env = [(false, eval e X.env)] := by rfl) (hc : X.calm = true := by rfl) (hp : PassesOwn (model X.prog X.w) X.A X.env X.xe := by exact PassesOwn.never)
    (hf : ∀ x, foldedSetIterable (.Call (.Name "enumerate" p1) [e] [] pos) X.env x = pure x := by intro _; rfl) :
    JS X (.For (.Tuple elts kk tpos) (.Call (.Name "enumerate" p1) [e] [] pos) body [] spos) σ H D := by
  refine js_of (ps_for hp hc (pi_enum hgl hm (pa_cons pe_self pa_nil hst) hst) hg pss_self hf) (he _ ⟨A, xs, rfl, SqL.of hA, ?_⟩)
  refine ⟨fun i m σ' H' => m = xs.length - i ∧ i ≤ xs.length ∧ Pv i σ' H', ⟨xs.length, rfl, Nat.zero_le _, h0⟩, ?_⟩
  rintro i m σ' H' ⟨rfl, hi, pv⟩
  have hA' := hk i σ' H' pv
  by_cases hlt : i < xs.length
  · refine .inr ⟨⟨xs, xs[i], SqL.of hA', List.getElem?_eq_getElem hlt⟩, Pv (i + 1), fun σ2 H2 q => ⟨xs.length - (i + 1), by omega, rfl, hlt, q⟩, fun v H2 hy => ?_⟩
    obtain ⟨T, x, rfl, hT, rfl, hx⟩ := hy
    exact hs i x T σ' H' (hx xs (SqL.of hA')) pv hT
  · have ei : i = xs.length := by omega
    subst ei
    exact .inl ⟨⟨xs, SqL.of hA', Nat.le_refl _⟩, hd σ' H' pv⟩
end
/-- an Order of the relation f below n -/
def OrdAt (C : Addr) (F : Hp) (a : Addr) (n : Nat) (f : Nat → Nat → Bool) : Prop := ∃ dx v1 v2 v3, F a = some (.ins C dx [("_size", .int (n : Int)), ("_up", v1), ("_down", v2), ("_pairs", v3)]) ∧ Dq F v1 (dInts (msk n f)) ∧ Dq F v2 (dInts (msk n fun i j => f j i))
theorem OrdAt.up {C : Addr} {F G : Hp} {a : Addr} {n : Nat} {f : Nat → Nat → Bool} (o : OrdAt C F a n f) (e : Ex F G) : OrdAt C G a n f := by
  obtain ⟨dx, v1, v2, v3, h, k1, k2⟩ := o
  exact ⟨dx, v1, v2, v3, e _ _ h, k1.up e, k2.up e⟩
def spDm (C : Addr) : Sp := fun vs H Q _ => ∃ F a n f e, vs = [.ref a, .int ((e : Nat) : Int)] ∧ Good W0 F H ∧ OrdAt C F a n f ∧ e < n ∧ Q (.int ((mk (fun j => f j e) n : Nat) : Int)) H
abbrev NDm : List Str := ["self", "element"]
section
variable {P : Program} {w : World} {K : PySem.W.Frag} {mg : Str → Option Value} {base : Heap} {C : Addr}
theorem scDm : FnScope NDm ["self", "element"] (defScope (meS 7)) := ⟨rfl, rfl, rfl, by decide +kernel, rfl, by decide +kernel, by decide +kernel⟩
/-- the list of a field, at a place -/
theorem rv_ixM {X : Cx} {o b : Expr} {σ : St} {H : Hp} {pos : Pos} {v : V} {n e : Nat} {g : Nat → Nat → Bool} (ho : RV X o σ H v) (hb : RV X b σ H (.int (e : Int))) (k : Dq H v (dInts (msk n g))) (he : e < n) (hs : PlainIx b := by exact fun _ _ => rfl) : RV X (.Subscript o b pos) σ H (.int ((mk (g e) n : Nat) : Int)) := by
  cases k with
  | lst hA hk =>
    obtain ⟨w, hw, kw⟩ := hk.ex (mskD_at he)
    cases kw
    exact rv_ix ho hb hA (atI_nat hw) hs
theorem met_dm (O : OrdF K mg C) : C8.Met P w K mg base 1 C "down_mask" (spDm C) [] := by
  obtain ⟨f, fd, me, F⟩ := O.dm
  refine ⟨f, fd, ["self", "element"], [], O.cls, me, F.ok scDm (fun vs H Q E ⟨_, _, _, _, _, e, _⟩ => by rw [e]; rfl) (fun cdv A outer s H vs Q E hr h => ⟨_, (pss_self).nox, ?_⟩), F.bindsN fun _ _ _ _ _ _ us hl => match us, hl with | [_, _], _ => rfl, .nil⟩
  obtain ⟨Fk, a, n, f, e, ev, g, ⟨dx, v1, v2, v3, ha, k1, k2⟩, he, hQ⟩ := h
  subst ev
  exact jss_one (js_ret (RV.q (rv_ixM (rv_fld (rv_var 0 rfl) (g.fh _ _ ha) O.cls O.nDown rfl) (rv_var 1 rfl) (k2.up g.fh) he) hQ))
abbrev NSz : List Str := ["self"]
theorem scSz : FnScope NSz ["self"] (defScope (meS 1)) := ⟨rfl, rfl, rfl, by decide +kernel, rfl, by decide +kernel, by decide +kernel⟩
end
section
variable {W : Wo} {X : Cx} {o a e : Expr} {σ : St} {F H : Hp} {pos apos : Pos} {C x : Addr} {k n : Nat} {f : Nat → Nat → Bool}
/-- order.size -/
theorem jd_size (O : OrdF X.K X.mg C) (hr : Room k X.A) (ho : ∀ H, RV X o σ H (.ref x)) (h : OrdAt C F x n f) (hk : 2 ≤ k := by decide) (hb : attributeBase o "size" X.env (eval o X.env) = eval o X.env := by rfl) : JD W X (.Attribute o "size" pos) σ F (Is (.int (n : Int))) := by
  obtain ⟨p, g, fd, hp, Fd⟩ := O.sz
  have hbi : Binds X.K fd ["self"] [] := Fd.bindsN fun _ _ _ _ _ _ us hl => match us, hl with | [_], _ => rfl
  have FF : FnOk X.prog X.w X.K X.mg X.base CX0 1 g fd ["self"] (getSp C "_size") := Fd.ok scSz (fun vs H Q E ⟨_, _, _, _, e, _⟩ => by rw [e]; rfl) (fun cdv A outer s H vs Q E hr h => ⟨_, (pss_self).nox, by
    obtain ⟨a, dx, fs, v, e, ea, l, q⟩ := h
    subst e
    exact jss_one (js_ret (RV.q (rv_fld (rv_var 0 rfl) ea O.cls O.nSize l) q))⟩)
  obtain ⟨dx, v1, v2, v3, ha, k1, k2⟩ := h
  exact fun H gd Q q => je_of (pe_prop pe_self O.cls hp FF (hr.mono hk) hbi .nil pass0 hb) (ho H _ ⟨x, dx, _, rfl, gd.fh _ _ ha, x, dx, _, _, rfl, gd.fh _ _ ha, rfl, q _ _ F H gd.gr rfl (.int _)⟩)
/-- order.down_mask(e) -/
theorem jd_dm {i : Nat} (O : OrdF X.K X.mg C) (hr : Room k X.A) (ho : ∀ H, RV X o σ H (.ref x)) (h : OrdAt C F x n f) (he : JD W X e σ F (Is (.int (i : Int)))) (hi : i < n) (hk : 1 ≤ k := by decide)
    (hst : starEach [e] X.env = (false, eval e X.env) :: starEach [] X.env := by rfl) (hpl : (backTo pos (starEach [] X.env)).any (·.1) = false := by rfl) {pl : Sem Bool}
    (ht : eval (.Call (.Attribute o "down_mask" apos) [e] [] pos) X.env = (do
      let ov ← eval o X.env; standAt apos.atName; let (f, first) ← holding [ov] (getMethod ov "down_mask" pl); callWith pos f first (backTo pos (starEach [e] X.env)) (backToKw pos (keywordEach [] X.env))) := by rfl) :
    JD W X (.Call (.Attribute o "down_mask" apos) [e] [] pos) σ F (Is (.int ((mk (fun j => f j i) n : Nat) : Int))) := fun H gd Q q =>
  je_of (C8.pe_mt (pl := pl) (met_dm O) hr hk pe_self (pa_cons pe_self pa_nil hst) hst hpl ht) (ho H _ (by
    obtain ⟨dx, v1, v2, v3, ha, k1, k2⟩ := id h
    refine ⟨x, dx, _, rfl, gd.fh _ _ ha, rfl, he.dq gd fun v d G J r g' ed kd => ?_⟩
    subst ed
    cases kd
    exact ⟨G, x, n, f, i, rfl, g'.sub (sub0 W), h.up r.fg, hi, q _ _ G J r rfl (.int _)⟩))
end
end Dw
/-! Order.__init__. -/
namespace Dw
open PySem PySem.Spec PyProof.Rows L2 -- (Dw)
theorem Gr.putI {W : Wo} {F H G J : Hp} {p C dx : Addr} {fs gs : List (Str × V)} (r : Gr W F H G J) (hp : J p = some (.ins C dx fs)) (h0 : H p = none) (hG : G p = none) (hm : ¬ W.m p) : Gr W F H G (upd J p (.ins C dx gs)) :=
  ⟨r.fg, r.gj.mut hG, fun a o n e => by rw [upd_ne (ne_of_none e h0)]; exact r.hj a o n e, W.ins hm hp r.ok, r.new⟩
structure OwnX (F H : Hp) (x : Addr) (G J : Hp) (C dx : Addr) (fs : List (Str × V)) : Prop where
  gr : Gr W0 F H G J
  gd : Good W0 G J
  h0 : H x = none
  gx : G x = none
  jx : J x = some (.ins C dx fs)
section
variable {F H G J G2 J2 : Hp} {x C dx : Addr} {fs gs : List (Str × V)}
theorem OwnX.step (o : OwnX F H x G J C dx fs) (g : Good W0 F H) (r : Gr W0 G J G2 J2) : OwnX F H x G2 J2 C dx fs :=
  ⟨o.gr.trans r g, r.good o.gd, o.h0, by rw [r.new _ _ o.jx]; exact o.gx, r.hj _ _ noW o.jx⟩
theorem OwnX.set (o : OwnX F H x G J C dx fs) : OwnX F H x G (upd J x (.ins C dx gs)) C dx gs :=
  ⟨o.gr.putI o.jx o.h0 o.gx noW, o.gd.putI o.jx o.gx noW, o.h0, o.gx, upd_same⟩
end
theorem jt_rt {W : Wo} {X : Cx} {e : Expr} {σ : St} {F : Hp} {k : Bool} (h : ∀ H, Good W F H → RT X e σ H k) : JT W X e σ F (Is k) := fun H g Q q => h H g Q (q k F H g.gr rfl)
section
variable {W : Wo} {F H G J : Hp} {p x C dx : Addr} {fs gs : List (Str × V)} {ds : List PyData}
theorem Own.insX (o : Own W F H p G J ds) (hx : J x = some (.ins C dx fs)) (h0 : H x = none) (hG : G x = none) (hm : ¬ W.m x) (hp : p ≠ x) : Own W F H p G (upd J x (.ins C dx gs)) ds := by
  obtain ⟨vs, h1, h2, h3⟩ := o.ex
  exact ⟨o.gr.putI hx h0 hG hm, o.gd.putI hx hG hm, o.h0, o.nm, vs, by rw [upd_ne hp]; exact h1, h2, h3⟩
theorem Own.know {ob : HO} (o : Own W F H p G J ds) (hx : J x = some ob) (h0 : H x = none) (hG : G x = none) (hm : ¬ W.m x) (hp : p ≠ x) : Own W F H p (upd G x ob) J ds := by
  obtain ⟨vs, h1, h2, h3⟩ := o.ex
  exact ⟨o.gr.keep hx h0 hG, o.gd.keep hx hG hm, o.h0, o.nm, vs, h1, by rw [upd_ne hp]; exact h2, h3.up (Ex.new hG)⟩
end
theorem msk_zero (n : Nat) : List.replicate n (V.int 0) = (msk n fun _ _ => false).map V.int := by
  unfold msk
  simp only [mk_zero]
  rw [List.map_map]
  show _ = List.map (fun _ => V.int 0) (List.range n)
  rw [List.map_const', List.length_range]
def adj (ps : List (Nat × Nat)) (k : Nat) : List Nat := (ps.filter fun p => decide (p.1 = k)).map (·.2)
theorem mem_adj {ps : List (Nat × Nat)} {k h : Nat} : h ∈ adj ps k ↔ (k, h) ∈ ps := by
  unfold adj
  rw [List.mem_map]
  constructor
  · rintro ⟨p, hp, rfl⟩
    obtain ⟨h1, h2⟩ := List.mem_filter.mp hp
    have := of_decide_eq_true h2
    rw [← this]; exact h1
  · intro hp
    exact ⟨(k, h), List.mem_filter.mpr ⟨hp, decide_eq_true rfl⟩, rfl⟩
theorem adj_snoc (ps : List (Nat × Nat)) (p : Nat × Nat) (k : Nat) : adj (ps ++ [p]) k = if k = p.1 then adj ps k ++ [p.2] else adj ps k := by
  unfold adj
  rw [List.filter_append, List.map_append, List.filter_cons]
  by_cases e : k = p.1
  · rw [if_pos e, if_pos (decide_eq_true e.symm)]; rfl
  · rw [if_neg e, if_neg (by rw [decide_eq_false fun z => e z.symm]; exact Bool.false_ne_true)]; simp
theorem adj_len (ps : List (Nat × Nat)) (k : Nat) : (adj ps k).length ≤ ps.length := by unfold adj; rw [List.length_map]; exact List.length_filter_le _ _
def adjs (n : Nat) (ps : List (Nat × Nat)) : List (List Nat) := (List.range n).map (adj ps)
theorem adjs_adj {n : Nat} {ps : List (Nat × Nat)} (h : ∀ p ∈ ps, p.1 < n ∧ p.2 < n) : Adj n ps (adjs n ps) := by
  refine ⟨by unfold adjs; rw [List.length_map, List.length_range], h, fun i row hi k => ?_⟩
  unfold adjs at hi
  rw [List.getElem?_map] at hi
  obtain ⟨j, hj, rfl⟩ := Option.map_eq_some_iff.mp hi
  obtain ⟨h1, h2⟩ := List.getElem?_eq_some_iff.mp hj
  rw [List.getElem_range] at h2
  subst h2
  exact mem_adj
def spIni (C : Addr) : Sp := fun vs H Q _ => ∃ (F H1 : Hp) (x dx : Addr) (n : Nat) (ps : List (Nat × Nat)) (vp : V), vs = [.ref x, .int (n : Int), vp] ∧ H1 x = none ∧ H1 dx = none ∧ dx ≠ x ∧ H = upd (upd H1 dx (.own x)) x (.ins C dx []) ∧ Good W0 F H1 ∧ Dq F vp (dPN ps) ∧ n ≤ 40 ∧ Vd n ps ∧ ps.length ≤ 4000 ∧
  ∀ G J, Gr W0 F H1 G J → OrdAt C G x n (wsh ps n) → Q .non J
abbrev NIn : List Str := ["self", "size", "pairs", "direct", "element", "index", "low", "high", "ring"]
theorem rowI_nats (l : List Nat) : rowI l = (nats l).map V.int := by unfold rowI nats; rw [List.map_map]; rfl
section
variable {P : Program} {w : World} {K : PySem.W.Frag} {mg : Str → Option Value} {base : Heap} {C : Addr}
theorem scIn : FnScope NIn ["self", "size", "pairs"] (defScope (meS 0)) := ⟨rfl, rfl, rfl, by decide +kernel, rfl, by decide +kernel, by decide +kernel⟩
theorem mak_order (O : OrdF K mg C) (B : Bl mg) (k7 : Kn P w K mg base "elements_of" 1 ["mask"] (spP S_elem)) (k9 : Kn P w K mg base "found_ring" 1 ["direct"] (spP S_ring)) (k10 : Kn P w K mg base "closed_masks" 2 ["direct"] (spP S_cmasks)) : C8.Mak P w K mg base 3 "Order" C (spIni C) [] := by
  obtain ⟨f, fd, M, F⟩ := O.ini
  obtain ⟨tm, hmost⟩ := O.most
  refine ⟨f, fd, ["self", "size", "pairs"], [], M, F.ok scIn (fun vs H Q E ⟨_, _, _, _, _, _, _, e, _⟩ => by rw [e]; rfl) (fun cdv A outer s H vs Q E hr h => ⟨_, (pss_self).nox, ?_⟩), O.nm, F.bindsN fun _ _ _ _ _ _ us hl => match us, hl with | [_, _, _], _ => rfl, .nil⟩
  obtain ⟨Fk, H1, x, dx, n, ps, vp, ev, hx0, hd0, hdx, rfl, g, kp, hn, hV, hl, hQ⟩ := h
  subst ev
  have hx1 : upd H1 dx (HO.own x) x = none := by rw [upd_ne hdx.symm]; exact hx0
  have r0 : Gr W0 Fk H1 Fk (upd (upd H1 dx (.own x)) x (.ins C dx [])) := (Gr.own g hd0).trans (Gr.own (g.own hd0) hx1) g
  have o0 : OwnX Fk H1 x Fk (upd (upd H1 dx (.own x)) x (.ins C dx [])) C dx [] := ⟨r0, r0.good g, hx0, g.fh.no hx0, upd_same⟩
  generalize upd (upd H1 dx (HO.own x)) x (HO.ins C dx []) = H0 at r0 o0 ⊢
  -- the size
  refine jss_cons (js_ifR (rt_not (rt_chain op_le op_le rv_int (rv_var 1 rfl) (rv_glob (v := .int 40) hmost ⟨tm, rfl⟩))) (fun hb => ?_) (fun _ => jss_nil ?_))
  · rw [decide_eq_true (show (0 : Int) ≤ (n : Int) by omega), decide_eq_true (show (n : Int) ≤ 40 by omega)] at hb
    simp at hb
  -- the rows
  refine jss_cons (js_setRows (i := 4) (n := n) 3 o0.gd scIn.nd (ji_range B.range (by omega) (jd_var 1 rfl (.int _))) (blkOk_by (N := NIn) (sc := defScope (meS 0)) (by decide +kernel)) (tg_ok scIn.nd rfl (.inl rfl)) (by omega)
    (sw_true rfl rfl rfl (by decide +kernel)) (fun k G hk e s0 H0 C cl fp => NewL.nil) fun a rs G1 J1 hrs t1 => ?_)
  cases kp with
  | @lst A xs _ hA hk =>
  have hxs : ∀ (i : Nat) (q : Nat × Nat), ps[i]? = some q → ∃ t, xs[i]? = some (.ref t) ∧ Fk t = some (.tup [.int (q.1 : Int), .int (q.2 : Int)]) := fun i q hq => by
    obtain ⟨u, hu, ku⟩ := hk.ex (i := i) (d := prN q) (by rw [List.getElem?_map, hq]; rfl)
    obtain ⟨t, rfl, ht⟩ := ku.pr
    exact ⟨t, hu, ht⟩
  have hxl : xs.length = ps.length := by have := hk.len; rw [List.length_map] at this; exact this
  refine jss_cons (js_forEnum (g := gTup K 2 (gCons (gName 5) (gCons (gPair K 6 7) gNil))) (A := A) (xs := xs) B.enumerate (rv_var 2 rfl) (t1.gr.gj _ _ (t1.gr.fg _ _ hA)) (pg_tup rfl (pgs_cons (pg_name (i := 5) scIn.nd rfl (.inl rfl)) (pgs_cons (pg_tup rfl (pgs_cons (pg_name (i := 6) scIn.nd rfl (.inl rfl)) (pgs_cons (pg_name (i := 7) scIn.nd rfl (.inl rfl)) pgs_nil))) pgs_nil)))
    (fun i σ' H' => ∃ o4 o5 o6 o7 o8 G', σ' = [some (.ref x), some (.int (n : Int)), some (.ref A), some (.ref a), o4, o5, o6, o7, o8] ∧ Tb W0 Fk H0 a rs G' H' (fun k => rowI (adj (ps.take i) k)))
    (fun i σ' H' ⟨_, _, _, _, _, G', _, t⟩ => t.gr.gj _ _ (t.gr.fg _ _ hA))
    ⟨none, none, none, none, none, G1, rfl, t1.congr fun i _ => by simp [adj]⟩ ?_ ?_)
  · rintro i u T σ' H' hu ⟨o4, o5, o6, o7, o8, G', rfl, t⟩ hT
    have hil : i < ps.length := by rw [← hxl]; exact (List.getElem?_eq_some_iff.mp hu).1
    have hq : ps[i]? = some ps[i] := List.getElem?_eq_getElem hil
    generalize ps[i] = q at hq
    obtain ⟨tp, htp, htF⟩ := hxs i q hq
    rw [hu] at htp
    cases htp
    obtain ⟨hq1, hq2⟩ := hV.lt q (List.mem_of_getElem? hq)
    have t := t.step o0.gd (Gr.own (o := .tup [.int (i : Int), .ref tp]) t.gd hT)
    have k1 : Dq G' (.ref tp) (prN q) := (Dq.mkPr htF).up t.gr.fg
    refine ⟨T, _, rfl, SqT.of upd_same, rfl, _, _, rfl, _, _, rfl, gPair_run t.gd.fh k1 ⟨rfl, ?_⟩⟩
    generalize upd H' T (HO.tup [V.int (i : Int), V.ref tp]) = H2 at t ⊢
    refine jss_cons (js_ifT t.gd (P := Is false) (JW.t (jw_orF ((jt_rt fun H g => rt_not (rt_chain op_le op_lt rv_int (rv_var 6 rfl) (rv_var 1 rfl))).is (by
        rw [decide_eq_true (show (0 : Int) ≤ (q.1 : Int) by omega), decide_eq_true (show (q.1 : Int) < (n : Int) by omega)]; rfl)) (jw_or1 ((jt_rt fun H g => rt_not (rt_chain op_le op_lt rv_int (rv_var 7 rfl) (rv_var 1 rfl))).is (by
        rw [decide_eq_true (show (0 : Int) ≤ (q.2 : Int) by omega), decide_eq_true (show (q.2 : Int) < (n : Int) by omega)]; rfl))))) (fun G J r g p => by cases p) (fun G3 J3 r3 g3 _ => jss_nil ?_))
    have t := t.step o0.gd r3
    have hr1 : rs[q.1]? = some rs[q.1] := List.getElem?_eq_getElem (by omega)
    have hA1 : atI (rs.map V.ref) (q.1 : Int) = some (.ref rs[q.1]) := atI_nat (by rw [List.getElem?_map, hr1]; rfl)
    refine jss_one (js_expr (je_app (rv_ix (rv_var 3 rfl) (rv_var 6 rfl) t.ja hA1) (t.jr _ _ hr1) (RV.q (rv_var 7 rfl) ⟨_, t.jr _ _ hr1, ?_, ?_⟩)))
    · have h1 := adj_len (ps.take i) q.1
      rw [List.length_take] at h1
      unfold rowI
      rw [List.length_map]
      omega
    · refine ⟨o4, _, _, _, o8, G3, rfl, (t.set hr1).congr fun k _ => ?_⟩
      rw [List.take_add_one, hq]
      show _ = rowI (adj (ps.take i ++ [q]) k)
      rw [adj_snoc]
      by_cases e : k = q.1
      · rw [if_pos e, if_pos e, rowI_snoc, e]
      · rw [if_neg e, if_neg e]
  rintro σ2 H2 ⟨o4, o5, o6, o7, o8, G2, rfl, t2⟩
  rw [hxl, List.take_length] at t2
  obtain ⟨G3, e3, g3, r3, kd⟩ := t2.known (ds := (adjs n ps).map fun l => dInts (nats l)) (fun i hi => ⟨(nats (adj ps i)).map .int, by
    unfold adjs
    rw [List.map_map, List.getElem?_map, List.getElem?_range (by omega)]; rfl, by rw [rowI_nats]; exact DqAll.ints _⟩) (by unfold adjs; rw [List.length_map, List.length_map, List.length_range]; exact hrs)
  have kd : Dq G3 (.ref a) (dLL (adjs n ps)) := kd
  have o3 := o0.step g r3
  have hAdj := adjs_adj hV.lt
  refine jss_cons (js_setD 8 scIn.nd o3.gd (jd_fn (P := Is .none) k9 hr (jds_is (jd_var 3 rfl kd) jds_nil) fun ds R e q => ⟨n, ps, adjs n ps, e, hn, hAdj, hV, q _ rfl⟩) fun vr d G4 J4 r4 g4 pd kr => ?_)
  subst pd
  have o4' := o3.step g r4
  refine jss_cons (js_ifT o4'.gd ((jt_cp (jd_var 8 rfl kr) jd_none od_notN).is (d' := false) rfl) (fun G J r g p => by cases p) (fun G5 J5 r5 g5 _ => jss_nil ?_))
  have o5' := o4'.step g r5
  have kd5 := kd.up (r4.fg.trans r5.fg)
  refine jss_cons (js_fld (x := x) O.cls O.nSize (RV.q (rv_var 1 rfl) ⟨dx, [], rv_var 0 rfl, o5'.jx, by simp, ?_⟩))
  have o6 := o5'.set (gs := [("_size", .int (n : Int))])
  show JSs _ _ _ (upd J5 x (HO.ins C dx [("_size", .int (n : Int))])) _
  generalize upd J5 x (HO.ins C dx [("_size", V.int (n : Int))]) = J6 at o6 ⊢
  -- _up
  refine jss_cons (js_fld (x := x) O.cls O.nUp ((jd_fn (P := Is (dInts (msk n (wsh ps n)))) k10 hr (jds_is (jd_var 3 rfl kd5) jds_nil) fun ds R e q => ⟨n, ps, adjs n ps, e, hn, hAdj, q _ rfl⟩).dq o6.gd fun v1 d G7 J7 r7 g7 pd k1 => ⟨dx, _, rv_var 0 rfl, (o6.step g r7).jx, by simp, ?_⟩))
  subst pd
  have o7 := (o6.step g r7).set (gs := [("_size", .int (n : Int)), ("_up", v1)])
  show JSs _ _ _ (upd J7 x (HO.ins C dx [("_size", .int (n : Int)), ("_up", v1)])) _
  generalize upd J7 x (HO.ins C dx [("_size", V.int (n : Int)), ("_up", v1)]) = J8 at o7 ⊢
  -- _down
  refine jss_cons (js_fld (x := x) O.cls O.nDown ((NewL.rep (F := G7) (v := .int 0) (n := n) (fun H => rv_int) (fun H => rv_var 1 rfl) (by omega)).qF o7.gd.fh fun q J9 hq e9 hq9 => ⟨dx, _, rv_var 0 rfl, e9 _ _ o7.jx, by simp, ?_⟩))
  rw [msk_zero] at hq9
  have hqx : q ≠ x := fun e => by rw [e, o7.jx] at hq; cases hq
  have w9 : Own W0 Fk H1 q G7 J9 ((msk n fun _ _ => false).map .int) := .ofNewL g o7.gr hq e9 hq9 (DqAll.ints _)
  have w9 := w9.insX (gs := [("_size", .int (n : Int)), ("_up", v1), ("_down", .ref q)]) (e9 _ _ o7.jx) o7.h0 o7.gx noW hqx
  show JSs _ _ _ (upd J9 x (HO.ins C dx [("_size", .int (n : Int)), ("_up", v1), ("_down", .ref q)])) _
  have x9 : upd J9 x (HO.ins C dx [("_size", .int (n : Int)), ("_up", v1), ("_down", .ref q)]) x = some _ := upd_same
  generalize upd J9 x (HO.ins C dx [("_size", V.int (n : Int)), ("_up", v1), ("_down", .ref q)]) = J10 at w9 x9 ⊢
  -- _pairs
  refine jss_cons (js_fld (x := x) O.cls O.nPairs (je_of (pe_lst pa_nil) ⟨Nat.zero_le _, fun l hl => ⟨dx, _, rv_var 0 rfl, Ex.new hl _ _ x9, by simp, ?_⟩⟩))
  have hlx : l ≠ x := fun e => by rw [e, x9] at hl; cases hl
  have hlq : l ≠ q := fun e => by
    obtain ⟨vs, h1, _⟩ := w9.ex
    rw [e, h1] at hl; cases hl
  have u10 : Own W0 Fk H1 l G7 (upd J10 l (.lst [])) [] := .new g w9.gr hl
  have w10 := w9.other hlq.symm u10
  have x10 : upd J10 l (HO.lst []) x = some _ := Ex.new hl _ _ x9
  have w11 := w10.insX (gs := [("_size", .int (n : Int)), ("_up", v1), ("_down", .ref q), ("_pairs", .ref l)]) x10 o7.h0 o7.gx noW hqx
  have u11 := u10.insX (gs := [("_size", .int (n : Int)), ("_up", v1), ("_down", .ref q), ("_pairs", .ref l)]) x10 o7.h0 o7.gx noW hlx
  show JSs _ _ _ (upd (upd J10 l (.lst [])) x (HO.ins C dx [("_size", .int (n : Int)), ("_up", v1), ("_down", .ref q), ("_pairs", .ref l)])) _
  have x11 : upd (upd J10 l (.lst [])) x (HO.ins C dx [("_size", .int (n : Int)), ("_up", v1), ("_down", .ref q), ("_pairs", .ref l)]) x = some _ := upd_same
  generalize upd (upd J10 l (.lst [])) x (HO.ins C dx [("_size", V.int (n : Int)), ("_up", v1), ("_down", .ref q), ("_pairs", .ref l)]) = J11 at w11 u11 x11 ⊢
  have w12 := w11.know x11 o7.h0 o7.gx noW hqx
  have u12 := u11.know x11 o7.h0 o7.gx noW hlx
  have hG : upd G7 x (HO.ins C dx [("_size", .int (n : Int)), ("_up", v1), ("_down", .ref q), ("_pairs", .ref l)]) x = some _ := upd_same
  have k12 := k1.up (Ex.new (o := HO.ins C dx [("_size", .int (n : Int)), ("_up", v1), ("_down", .ref q), ("_pairs", .ref l)]) o7.gx)
  generalize upd G7 x (HO.ins C dx [("_size", V.int (n : Int)), ("_up", v1), ("_down", .ref q), ("_pairs", .ref l)]) = G12 at w12 u12 hG k12 ⊢
  -- what is above, what is below
  refine jss_one (js_forR (n := n) B.range (by omega) (rv_var 1 rfl) (pg_name (i := 6) scIn.nd rfl (.inl rfl))
    (fun k σ' H' => ∃ o4 o5 o6 o7 o8 G' qs, σ' = [some (.ref x), some (.int (n : Int)), some (.ref A), some (.ref a), o4, o5, o6, o7, o8] ∧ Ex G12 G' ∧ Own W0 Fk H1 q G' H' ((msk n fun h m => decide (m < k) && wsh ps n m h).map .int) ∧ Own W0 Fk H1 l G' H' (qs.map prN) ∧ qs.length ≤ k * n)
    ⟨_, _, _, _, _, G12, [], rfl, Ex.refl _, w12.cast (msk_congr fun i j _ _ => by rw [decide_eq_false (Nat.not_lt_zero j), Bool.false_and]), u12, Nat.zero_le _⟩ ?_ ?_)
  · rintro k σ' H' hkn ⟨o4, o5, o6, o7, o8, G', qs, rfl, eG, w, u, hql⟩
    have upAt : ∀ H, Good W0 G' H → H x = some _ := fun H g => g.fh _ _ (eG _ _ hG)
    have hsz : k * n ≤ 40 * 40 := Nat.mul_le_mul (by omega) hn
    refine jss_one (js_for (ds := ((List.range n).filter (wsh ps n k)).map fun (h : Nat) => .int (h : Int)) (ji_list ((jd_fn (P := Is (dInts (nats ((List.range n).filter (wsh ps n k))))) k7 hr (jds_is (jd_rv (v := .int _) (fun H g => rv_ixM (rv_fld (rv_var 0 rfl) (upAt H g) O.cls O.nUp rfl) (rv_var 6 rfl) (k12.up (eG.trans g.fh)) hkn) (.int _)) jds_nil) fun ds R e qq => ⟨n, mk (wsh ps n k) n, e, hn, mk_lt _ _, qq _ (by rw [mk_bits])⟩).is (natsL _))) (pg_name (i := 7) scIn.nd rfl (.inl rfl)) w.gd
      (fun G0 j σ' H' => ∃ o4 o5 o7 o8 G' qs, σ' = [some (.ref x), some (.int (n : Int)), some (.ref A), some (.ref a), o4, o5, some (.int (k : Int)), o7, o8] ∧ Ex G0 G' ∧ Ex G12 G' ∧ Own W0 Fk H1 q G' H' ((msk n fun h m => (decide (m = k) && decide (h ∈ ((List.range n).filter (wsh ps n k)).take j)) || (decide (m < k) && wsh ps n m h)).map .int) ∧ Own W0 Fk H1 l G' H' (qs.map prN) ∧ qs.length ≤ k * n + j) (fun G0 i σ' H' ⟨_, _, _, _, G', _, _, e, _, w, _⟩ => e.trans w.gd.fh)
      (fun G J r g' => ⟨_, _, _, _, G, qs, rfl, Ex.refl _, eG.trans r.fg, (w.step g r).cast (msk_congr fun i j _ _ => by simp), u.step g r, by omega⟩) ?_ ?_)
    · rintro G0 j y d σ' H' eF hdj ky ⟨o4, o5, o7, o8, G', qs, rfl, eG', eG12, w, u, hql⟩
      rw [List.getElem?_map] at hdj
      obtain ⟨h, hhj, rfl⟩ := Option.map_eq_some_iff.mp hdj
      cases ky
      have hmem := List.mem_filter.mp (List.mem_of_getElem? hhj)
      have hhn := List.mem_range.mp hmem.1
      have hjl : j < n := by
        have h1 := (List.getElem?_eq_some_iff.mp hhj).1
        have h2 := List.length_filter_le (wsh ps n k) (List.range n)
        rw [List.length_range] at h2
        omega
      have xAt : H' x = some _ := w.gd.fh _ _ (eG12 _ _ hG)
      refine jss_cons (js_store (l := q) (j := h) (RV.q ((rv_or (rv_ix (rv_fld (rv_var 0 rfl) xAt O.cls O.nDown rfl) (rv_var 7 rfl) w.ints (atI_nat (mskV_at hhn))) ((rv_shl rv_int (rv_var 6 rfl) ⟨by omega, by omega, by decide⟩).is (v' := .int ((2 ^ k : Nat) : Int)) (by simp))).is (by rw [bOr, mk_bit _ hkn])) ⟨_, (h : Int), rv_fld (rv_var 0 rfl) xAt O.cls O.nDown rfl, rv_var 7 rfl, w.ints, ix_nat (by rw [List.length_map, msk_len]; exact hhn), ?_⟩))
      rw [← List.map_set, msk_set]
      have w2 := w.putI (ms := msk n fun i m => if i = h then (decide (m = k) || ((decide (m = k) && decide (h ∈ ((List.range n).filter (wsh ps n k)).take j)) || (decide (m < k) && wsh ps n m h))) else ((decide (m = k) && decide (i ∈ ((List.range n).filter (wsh ps n k)).take j)) || (decide (m < k) && wsh ps n m i)))
      have u2 := u.other hlq w2
      have xAt2 : upd H' q (HO.lst ((msk n fun i m => if i = h then (decide (m = k) || ((decide (m = k) && decide (h ∈ ((List.range n).filter (wsh ps n k)).take j)) || (decide (m < k) && wsh ps n m h))) else ((decide (m = k) && decide (i ∈ ((List.range n).filter (wsh ps n k)).take j)) || (decide (m < k) && wsh ps n m i))).map V.int)) x = some (HO.ins C dx [("_size", .int (n : Int)), ("_up", v1), ("_down", .ref q), ("_pairs", .ref l)]) := by rw [upd_ne (Ne.symm hqx)]; exact xAt
      generalize upd H' q (HO.lst ((msk n fun i m => if i = h then (decide (m = k) || ((decide (m = k) && decide (h ∈ ((List.range n).filter (wsh ps n k)).take j)) || (decide (m < k) && wsh ps n m h))) else ((decide (m = k) && decide (i ∈ ((List.range n).filter (wsh ps n k)).take j)) || (decide (m < k) && wsh ps n m i))).map V.int)) = H2 at w2 u2 xAt2 ⊢
      obtain ⟨vs, z1, z2, z3⟩ := u2.ex
      refine jss_one (js_expr (je_app (rv_fld (rv_var 0 rfl) xAt2 O.cls O.nPairs rfl) z1 ((jd_tup (P := Is (prN (k, h))) (jds_is (jd_var 6 rfl (.int _)) (jds_is (jd_var 7 rfl (.int _)) jds_nil)) fun ds e => by subst e; exact ⟨by show 2 ≤ 100000; omega, rfl⟩).dq u2.gd fun v d G3 J3 r3 g3 pd kd => ⟨vs, r3.hj _ _ noW z1, by rw [z3.len, List.length_map]; omega, ?_⟩)))
      have u3 := (u2.step g r3).put (r3.hj _ _ noW z1) ((z3.up r3.fg).app (.one kd))
      have w3 := (w2.step g r3).other hlq.symm u3
      rw [show d = _ from pd] at u3
      refine ⟨_, _, _, _, G3, qs ++ [(k, h)], rfl, eG'.trans r3.fg, eG12.trans r3.fg, w3.cast (msk_congr fun i m hi hm => ?_), by rw [List.map_append]; exact u3, by rw [List.length_append, List.length_singleton]; omega⟩
      rw [List.take_add_one, hhj]
      by_cases e : i = h
      · subst e
        rw [if_pos rfl]
        simp
        by_cases em : m = k <;> simp [em]
      · rw [if_neg e]
        simp [e]
    · rintro G0 σ' H' eF ⟨o4, o5, o7, o8, G', qs, rfl, eG', eG12, w, u, hql⟩
      rw [List.length_map] at hql w
      rw [List.take_length] at w
      refine ⟨_, _, _, _, _, G', qs, rfl, eG12, w.cast (msk_congr fun i m hi hm => ?_), u, ?_⟩
      · by_cases e : m = k
        · subst e
          simp [hi]
        · have : decide (m < k + 1) = decide (m < k) := by rw [decide_eq_decide]; omega
          rw [this, decide_eq_false e, Bool.false_and, Bool.false_or]
      · have h2 := List.length_filter_le (wsh ps n k) (List.range n)
        rw [List.length_range] at h2
        rw [Nat.succ_mul]
        omega
  · rintro σ' H' ⟨o4, o5, o6, o7, o8, G', qs, rfl, eG, w, u, hql⟩
    obtain ⟨G3, e3, g3, r3, k3⟩ := w.known
    have e := eG.trans e3
    refine hQ G3 H' r3 ⟨dx, v1, .ref q, .ref l, e _ _ hG, k12.up e, ?_⟩
    have em : (msk n fun i j => wsh ps n j i) = msk n fun h m => decide (m < n) && wsh ps n m h := msk_congr fun i j hi hj => by rw [decide_eq_true hj, Bool.true_and]
    rw [em]
    exact k3
end
end Dw
/-! A lambda of one parameter, made and called; sorted by it. -/
namespace Dw
open PySem PySem.Spec PyProof.Rows L2 -- (Dw)
/-! ### the lambda called -/
theorem run_lam {P : Program} {w : World} {K : PySem.W.Frag} {mg : Str → Option Value} {base : Heap} {k : Nat} {f c' : Addr} {q : Str} {params : Arguments} {body : Expr} {scope : Scope} {pm ctv : Value} {N ps : List Str} {A : Around} {outer : List Env} {s : Shared} {H : Hp} {us : List Value} {vs : List V} {Q : VK} {E : XK}
    (hf : s.heap.get? f = some (PySem.W.kla_obj "<lambda>" q params body scope [] pm c' ctv)) (hcode : s.heap.CodeRec (.ref c') q) (S : FnScope N ps scope) (hr : Room (k + 1) A) (e0 : Env0 P w K mg base A outer s H)
    (hb : bindArgs (PySem.W.kla_fn "<lambda>" q params body scope [] pm (.ref c') ctv) ⟨us, []⟩ = pure (ps.zip us)) (r : Vals vs us) (hl : vs.length = ps.length)
    (hbody : Room k (A.deeper (envOfC q scope s.heap.objs.size f (.ref c'))) → JE (cxOf CX0 P w K mg base N q scope f (.ref c') A outer s H E).nox body (L2.start N vs) H Q) : codeAny (model P w) A (.call (.ref f) ⟨us, []⟩) (CR CX0 outer P w H s Q E) s := by
  have lim : s.heap.NoLimit := e0.mod.nolimit.keeps fun b o e => (e0.bs b o e).1 -- (Dw)
  refine PySem.W.kla_callFunE hr.depth hf rfl S.co S.gen rfl hcode ?_
  rw [hb]
  refine wpAny_pure (wpAny_newFunctionEnv_cells S.kind (fun ⟨n, v⟩ hy => (S.par n (List.of_mem_zip hy).1).elim .inl fun z => .inr ⟨z, PySem.W.cellsFrom_some _ _ _ (.inl z)⟩) fun env he s1 x => ?_)
  subst he
  refine ⟨lim.keeps x.toInCall.keep, PySem.W.kla_codeExpr ?_⟩
  have I : Inv (cxOf CX0 P w K mg base N q scope f (.ref c') A outer s H E) [] (L2.start N vs) H s1 := inv_start S hr.hd e0 hl r x
  refine wpAny_mono (hbody (hr.deeper _) [] s1 (I.wish _)) (fun u s' hs => ?_) fun e s' hs => hs.elim
  obtain ⟨v, H', J, rv, z⟩ := hs
  have J := J.unwish
  exact ⟨v, H', J.os, J.bare, J.base, J.hok, rv, z⟩
/-! ### the lambda made, one table -/
theorem lam_mk1 {X : Cx} {pins : List (Addr × Obj)} {σ : St} {H : Hp} {s : Shared} {c P : Addr} {params : Arguments} {body : Expr} {scope : Scope} {pos : Pos} {E : Value → Shared → Prop} {Q : Value → Shared → Prop} (I : Inv X pins σ H s) (TB : LamX.TabB X.base X.mg c P) (hcode : X.env.code = .ref c)
    (hT : LamX.TabS H P (X.env.qual ++ "<lambda>")) (hdef : defaultsOf params X.env = ([], [])) (hfree : ∀ y ∈ scope.names, y.2 ≠ .free) (hcl : cloFrom X.env.cells scope.names [] = [])
    (h : ∀ (f c' : Addr) (pm ctv : Value) (H1 : Hp) (s' : Shared), Inv X pins σ H1 s' → (∀ b o, b ≠ P → H b = some o → H1 b = some o) → LamX.TabS H1 P (X.env.qual ++ "<lambda>") →
      s'.heap.get? f = some (PySem.W.kla_obj "<lambda>" (X.env.qual ++ "<lambda>") params body scope [] pm c' ctv) → H1 f = none → f ≠ X.env.locals → f ∉ X.fs → H1 c' = some (LamX.CodeO c' (X.env.qual ++ "<lambda>")) → Q (.ref f) s') : wpAny (model X.prog X.w) X.A (eval (.Lambda params body scope pos) X.env) Q E s := by
  obtain ⟨ps, hP, ht, ha⟩ := id hT
  refine PySem.W.kla_eval hdef ?_ -- (Dw)
  have bP := TB.bm.keeps I.bk
  have hP' : s.heap.get? P = some { cls := .none, data := .fields ps } := I.hok P _ hP -- (Dw)
  have nofr : ∀ f, s.heap.objs.size ≤ f → f ≠ X.env.locals := fun f hf => Nat.ne_of_gt (Nat.lt_of_lt_of_le I.lt hf)
  have hclo := closure_ok (env := X.env) (scope := scope) fun y hy e => absurd e (hfree y hy)
  rw [hcl] at hclo
  cases hc : codeAmong pos ps.toList with -- (Dw)
  | none =>
    refine PySem.W.kla_makeFunction (mg := X.mg) (c := c) (P := P) (ps := ps) hclo I.ok.glob (I.mod.glob.keeps I.bk) hcode (TB.code.keeps I.bk) hP' ht hc TB.gP bP fun c' ctv h' tk hx hge hlt hrec htb => ?_
    obtain ⟨_, oc, vs, t, e2, hoc, hd, hv⟩ := hrec
    cases e2
    have nC : H c' = none := I.hok.fresh hge -- (Dw)
    have nPc : P ≠ c' := ne_of_none hP nC
    have I1 := LamX.inv_table (t' := tk) (q := X.env.qual ++ "<lambda>") (more := #[rawInt pos.line, rawInt pos.col, .ref c']) (h' := h'.push (PySem.W.kla_obj "<lambda>" (X.env.qual ++ "<lambda>") params body scope [] ((X.mg "__name__").getD .none) c' ctv)) I hP (fun b o hb e => Heap.get?_push_of_some _ (hx b o hb e)) (Heap.get?_push_of_some _ htb) hge ⟨oc, vs, t, Heap.get?_push_of_some _ hoc, hd, hv⟩
    have hE : ∀ b o, b ≠ P → H b = some o → upd (upd H P (.tbl (ps ++ #[rawInt pos.line, rawInt pos.col, .ref c']))) c' (LamX.CodeO c' (X.env.qual ++ "<lambda>")) b = some o := fun b o hb e => by rw [upd_ne (ne_of_none e nC), upd_ne hb]; exact e
    have eL : (ps ++ #[rawInt pos.line, rawInt pos.col, .ref c']).toList = ps.toList ++ [rawInt pos.line, rawInt pos.col, .ref c'] := by simp -- (Dw)
    refine h h'.objs.size c' ((X.mg "__name__").getD .none) ctv _ _ I1 hE ⟨_, by rw [upd_ne nPc, upd_same], by rw [eL]; exact PySem.TriplesOk_snoc _ _ _ _ ht, fun p' cv hcv => ?_⟩ (Heap.get?_push_size _ rfl) ?_ (nofr _ (Nat.le_trans hge (Nat.le_of_lt hlt))) (I.nofs (Nat.le_trans hge (Nat.le_of_lt hlt))) upd_same
    · rw [eL] at hcv
      rcases LamX.among_app _ ht hcv with z | z
      · obtain ⟨c0, e1, e2⟩ := ha p' cv z -- (Dw)
        exact ⟨c0, e1, hE _ _ (fun e => by rw [e, hP] at e2; exact LamX.codeO_ne _ (Option.some.inj e2).symm) e2⟩
      · exact ⟨c', z, upd_same⟩
    · rw [upd_ne (Nat.ne_of_gt hlt), upd_ne (Nat.ne_of_gt (Nat.lt_of_lt_of_le (Heap.lt_size hP') (Nat.le_trans hge (Nat.le_of_lt hlt))))]
      exact I.hok.fresh (Nat.le_trans hge (Nat.le_of_lt hlt))
  | some cv =>
    obtain ⟨c', e, hco⟩ := ha pos cv hc -- (Dw)
    subst e
    refine PySem.W.kla_makeFunctionHit (mg := X.mg) (c := c) (P := P) (ps := ps) hclo I.ok.glob (I.mod.glob.keeps I.bk) hcode (TB.code.keeps I.bk) hP' ht hc bP fun ctv h' tk hx hsz => ?_
    have I1 : Inv X pins σ H { s with heap := h'.push (PySem.W.kla_obj "<lambda>" (X.env.qual ++ "<lambda>") params body scope [] ((X.mg "__name__").getD .none) c' ctv), toks := tk } := I.kept fun b o e => Heap.get?_push_of_some _ (hx b o e)
    exact h h'.objs.size c' ((X.mg "__name__").getD .none) ctv H _ I1 (fun b o _ e => e) hT (Heap.get?_push_size _ rfl) (I.hok.fresh hsz) (nofr _ hsz) (I.nofs hsz) hco
end Dw
/-! list.sort by a key def, told by what stays of the heap. -/
namespace Dw
open PySem PySem.Spec PyProof.Rows L2 -- (Dw)
section
variable {prog : Program} {w : World} {A : Around} {E : Value → Shared → Prop} {s : Shared} {a kS : Addr} {vs : List Value} {kz : List Int} {keys : Array Value} {e e1 : Nat} {P : PySem.Fin → Shared → Prop}
/-- all but these two stay -/
def But2 (kS a : Addr) (h h' : Heap) : Prop := ∀ b o, b ≠ kS → b ≠ a → h.get? b = some o → h'.get? b = some o
theorem srt_tail {st : SortSt} (hk0 : s.heap.get? kS = some (seqObj "list" keys e)) (ha0 : s.heap.get? a = some (seqObj "list" #[] e1)) (hka : kS ≠ a) (hk : IntsAre keys.toList kz) (hlen : kz.length = vs.length) (h64 : vs.length < 64)
    (hp : (arrOf st).Perm (keys.zip vs.toArray)) (hs : SortedTo (arrOf st) (arrOf st).size) (hfl : failedOf st = none)
    (h : ∀ h' tk out c, But2 kS a s.heap h' → h'.get? a = some (seqObj "list" out c) → KskOut false kz vs out.toList → P (.done (.ret .none)) { s with heap := h', toks := tk }) : wpAny (model prog w) A (ksk_tail a false e1 (.ref kS) st) P E s := by
  have hsz : keys.size = vs.length := by have := hk.length; rw [Array.length_toList] at this; omega
  have hsz2 : (arrOf st).size = vs.length := by rw [hp.size_eq, Array.size_zip, hsz, List.size_toArray, Nat.min_self] -- (Dw)
  have hout : ((arrOf st).map (·.2)).size = vs.length := by rw [Array.size_map]; exact hsz2
  have s1 := Heap.SameBut.update s.heap kS (Obj.mapSeq fun _ => (#[] : Array Value)) -- (Dw)
  have na1 : (s.heap.update kS (Obj.mapSeq fun _ => (#[] : Array Value))).get? a = some (seqObj "list" #[] e1) := (s1.2 a hka.symm).trans ha0
  have s2 := Heap.SameBut.update (s.heap.update kS (Obj.mapSeq fun _ => (#[] : Array Value))) a (Obj.mapSeq fun _ => (arrOf st).map (·.2))
  unfold ksk_tail
  try dsimp only
  refine wpAny_bind (listUpdate_at hk0 rfl ?_ (by rw [hsz, sizeLine_eq]; omega) (Nat.zero_le _))
  refine wpAny_bind (wpAny_letGo (wpAny_bind (seqEpoch_at na1 rfl ?_)))
  refine wpAny_bind (listUpdate_at na1 rfl ?_ (Nat.zero_le _) (Nat.le_trans (Nat.le_of_eq hout) (by rw [sizeLine_eq]; omega))) -- (Dw)
  rw [hfl]
  simp only [bne_self_eq_false, Bool.false_eq_true, if_false] -- (Dw)
  exact wpAny_pure (h _ _ _ _ (fun b o h1 h2 q => (s2.2 b h2).trans ((s1.2 b h1).trans q)) (get?_update_seq na1 fun _ => (arrOf st).map (·.2)) (ksk_out (b := false) hk hp hs))
theorem srt_end (hk0 : s.heap.get? kS = some (seqObj "list" keys e)) (ha0 : s.heap.get? a = some (seqObj "list" #[] e1)) (hka : kS ≠ a) (hk : IntsAre keys.toList kz) (hlen : kz.length = vs.length) (h64 : vs.length < 64)
    (h : ∀ h' tk out c, But2 kS a s.heap h' → h'.get? a = some (seqObj "list" out c) → KskOut false kz vs out.toList → P (.done (.ret .none)) { s with heap := h', toks := tk }) : wpAny (model prog w) A (ksk_end a false vs.toArray e1 (.ref kS) keys) P E s := by
  have hsz : keys.size = vs.length := by have := hk.length; rw [Array.length_toList] at this; omega
  have hzs : (keys.zip vs.toArray).size = vs.length := by rw [Array.size_zip, hsz, List.size_toArray, Nat.min_self] -- (Dw)
  unfold ksk_end
  simp only [Bool.false_eq_true, if_false] -- (Dw)
  by_cases h2 : vs.toArray.size < 2 -- (Dw)
  · rw [if_pos h2, if_pos h2]
    refine wpAny_bind (wpAny_pure ?_) -- (Dw)
    rw [StateT.run_pure]
    refine wpAny_bind (wpAny_pure (srt_tail (st := SortSt.mk' general' (keys.zip vs.toArray) #[] 7 none) hk0 ha0 hka hk hlen h64 (Array.Perm.refl _) (fun i j hij hj => ?_) rfl h))
    have hj2 : j < (keys.zip vs.toArray).size := hj
    rw [hzs] at hj2
    rw [List.size_toArray] at h2
    obtain rfl : i = j := by omega
    exact Int.le_refl _
  · rw [if_neg h2, if_neg h2]
    rw [List.size_toArray] at h2
    rw [ksk_kind hk (by rw [hsz]; omega)] -- (Dw)
    refine wpAny_bind (wpAny_pure (wpAny_bind (wpAny_mono (wpS_sortRuns (a₀ := keys.zip vs.toArray) (st := SortSt.mk' oneType' (keys.zip vs.toArray) #[] 7 none) (Q := fun _ st' => (arrOf st').Perm (keys.zip vs.toArray) ∧ failedOf st' = none ∧ SortedTo (arrOf st') (keys.zip vs.toArray).size)
      (ksk_intKeys hk) ⟨Array.Perm.refl _, rfl, rfl, rfl⟩ (by rw [hzs]; omega) (by rw [hzs]; exact h64) fun st' a1 a2 a3 => ⟨a1, a2, a3⟩) ?_ fun _ _ e => e)))
    rintro ⟨⟨⟩, st'⟩ s' ⟨rfl, hp, hf, hs⟩ -- (Dw)
    exact srt_tail hk0 ha0 hka hk hlen h64 hp (by rw [hp.size_eq]; exact hs) hf h
/-- the keys one after another: Iv holds of the state behind i of them, whatever else the calls do but to the two lists -/
theorem srt_rest {f : Value} (Iv : Nat → Shared → Prop) (ha0 : s.heap.get? a = some (seqObj "list" #[] e1)) (hk0 : s.heap.get? kS = some (seqObj "list" #[] 0)) (hka : kS ≠ a) (hlen : kz.length = vs.length) (h64 : vs.length < 64) (i0 : Iv 0 s)
    (turn : ∀ (i : Nat) (v : Value) (k : Int) (s' : Shared) (kA : Array Value) (e : Nat), vs[i]? = some v → kz[i]? = some k → Iv i s' → s'.heap.get? kS = some (seqObj "list" kA e) → s'.heap.get? a = some (seqObj "list" #[] e1) →
      wpAny (model prog w) A (call f [v]) (fun u s'' => (∃ t, u = .int k t) ∧ s''.heap.get? kS = some (seqObj "list" kA e) ∧ s''.heap.get? a = some (seqObj "list" #[] e1) ∧ ∀ h' tk, (∀ b o, b ≠ kS → s''.heap.get? b = some o → h'.get? b = some o) → (∃ o, h'.get? kS = some o) → Iv (i + 1) { s'' with heap := h', toks := tk }) (fun _ _ => False) s')
    (h : ∀ s1 h' tk out c, Iv vs.length s1 → But2 kS a s1.heap h' → h'.get? a = some (seqObj "list" out c) → KskOut false kz vs out.toList → P (.done (.ret .none)) { s1 with heap := h', toks := tk }) :
    wpAny (model prog w) A (ksk_rest a f false vs.toArray e1 (.ref kS)) P E s := by
  unfold ksk_rest
  refine wpAny_bind (wpAny_rule ?_) -- (Dw)
  rw [← Array.forIn_toList]
  simp only [List.toList_toArray]
  refine wpAny_bind (ksk_fold (fun i s' => ∃ kA e, Iv i s' ∧ s'.heap.get? kS = some (seqObj "list" kA e) ∧ s'.heap.get? a = some (seqObj "list" #[] e1) ∧ IntsAre kA.toList (kz.take i)) vs 0 s ⟨#[], 0, i0, hk0, ha0, by simpa using IntsAre.nil⟩ (fun j x s' hx ⟨kA, e, iv, q1, q2, hk⟩ => ?_) (fun s' ⟨kA, e, iv, q1, q2, hk⟩ => ?_))
  · simp only [Nat.zero_add] at iv hk ⊢
    have hj : j < vs.length := (List.getElem?_eq_some_iff.mp hx).1 -- (Dw)
    obtain ⟨k, hkj⟩ : ∃ k, kz[j]? = some k := ⟨_, List.getElem?_eq_getElem (by omega)⟩ -- (Dw)
    have hz : kA.size ≤ vs.length := by -- (Dw)
      have h1 := hk.length
      rw [Array.length_toList, List.length_take] at h1 -- (Dw)
      omega
    refine wpAny_bind (wpAny_attempt (wpAny_mono (turn j x k s' kA e hx hkj iv q1 q2) (fun v s'' ⟨⟨t2, ev⟩, r1, r2, r3⟩ => ?_) fun _ _ hF => hF.elim))
    subst ev
    try dsimp only
    have s1 := Heap.SameBut.update s''.heap kS (Obj.mapSeq (·.push (.int k t2)))
    have hc2 := get?_update_seq r1 (·.push (.int k t2))
    refine wpAny_bind (listUpdate_at r1 rfl ?_ (by rw [sizeLine_eq]; omega) (Nat.le_trans (Nat.le_of_eq (Array.size_push ..)) (by rw [sizeLine_eq]; omega)))
    refine wpAny_pure ⟨rfl, _, _, r3 _ _ (fun b o hb q => (s1.2 b hb).trans q) ⟨_, hc2⟩, hc2, (s1.2 a hka.symm).trans r2, ?_⟩
    rw [Array.toList_push, List.take_add_one, hkj]
    exact ksk_snoc hk
  · simp only [Nat.zero_add] at iv hk
    rw [List.take_of_length_le (Nat.le_of_eq hlen)] at hk
    try dsimp only
    exact wpAny_bind (listItems_at q1 rfl (srt_end q1 q2 hka hk hlen h64 fun h' tk out c b2 ho ko => h s' h' tk out c iv b2 ho ko))
end
end Dw
/-! sorted(xs, key=lambda ..), xs of numbers. -/
namespace Dw
open PySem PySem.Spec PyProof.Rows L2 -- (Dw)
/-- the world of one table of code objects -/
def Wt (P : Addr) (q : Str) : Wo := ⟨fun a => a = P, fun H => LamX.TabS H P q, fun {H a} ⟨ps, h, _⟩ e => ⟨.tbl ps, by rw [show a = P from e]; exact h⟩, fun e t => t.ext e,
  fun {H p xs ys} n hp ⟨ps, h, t, c⟩ => ⟨ps, by rw [upd_ne (show P ≠ p from fun e => n e.symm)]; exact h, t, fun pos cv hc => by
    obtain ⟨c0, e1, e2⟩ := c pos cv hc
    exact ⟨c0, e1, by rw [upd_ne (fun e => by rw [e, hp] at e2; unfold LamX.CodeO at e2; cases e2)]; exact e2⟩⟩,
  fun {H p C dx fs gs} n hp ⟨ps, h, t, c⟩ => ⟨ps, by rw [upd_ne (show P ≠ p from fun e => n e.symm)]; exact h, t, fun pos cv hc => by
    obtain ⟨c0, e1, e2⟩ := c pos cv hc
    exact ⟨c0, e1, by rw [upd_ne (fun e => by rw [e, hp] at e2; unfold LamX.CodeO at e2; cases e2)]; exact e2⟩⟩⟩
theorem ko_ints {ns : List Int} {vs out : List Value} {g : Int → Int} (hi : IntsAre vs ns) (ko : KskOut false (ns.map g) vs out) : ∃ ms : List Int, IntsAre out ms ∧ ms.Perm ns ∧ ms.Pairwise fun x y => g x ≤ g y := by
  obtain ⟨ps, hp, rfl, hs⟩ := ko
  have hz : ∀ p ∈ ps, p.1 = g (numOf p.2) ∧ p.2 ∈ vs := fun p hm => by
    have hm := hp.mem_iff.mp hm
    rw [← hi.nums, List.map_map, List.zip_map_left] at hm
    obtain ⟨⟨u, v⟩, hq, rfl⟩ := List.mem_map.mp hm
    obtain ⟨e, m⟩ := mem_zip_self hq
    have e : u = v := e
    subst e
    exact ⟨rfl, m⟩
  refine ⟨(ps.map Prod.snd).map numOf, intsAre_map _ fun v hv => ?_, ?_, ?_⟩
  · obtain ⟨p, hm, rfl⟩ := List.mem_map.mp hv
    exact hi.all _ (hz p hm).2
  · have h1 := (hp.map Prod.snd).map numOf
    rw [List.map_snd_zip (by have := hi.length; rw [List.length_map]; omega), hi.nums] at h1
    exact h1
  · rw [List.pairwise_map, List.pairwise_map]
    refine hs.imp_of_mem fun {a b} ha hb hab => ?_
    have hab : a.1 ≤ b.1 := hab
    rw [(hz a ha).1, (hz b hb).1] at hab
    exact hab
/-- two hidden objects have turned, the second is a list that is tracked from now on -/
theorem inv_take2 {X : Cx} {pins : List (Addr × Obj)} {σ : St} {H : Hp} {s : Shared} {h' : Heap} {t' : Nat} {kS D : Addr} {o : HO} (I : Inv X pins σ H s) (b2 : But2 kS D s.heap h') (fk : FpOk X pins H kS) (fd : FpOk X pins H D) (new : ObjOk X.prog X.w (upd H D o) h' D o) : Inv X pins σ (upd H D o) { s with heap := h', toks := t' } := by
  have nK : ∀ b u, H b = some u → b ≠ kS := fun b u e z => by rw [z, fk.1] at e; cases e
  have nD : ∀ b u, H b = some u → b ≠ D := fun b u e z => by rw [z, fd.1] at e; cases e
  have up : ∀ b u, H b = some u → upd H D o b = some u := fun b u e => by rw [upd_ne (nD b u e)]; exact e
  have kp : ∀ b ob, b ∉ [kS, D] → s.heap.get? b = some ob → h'.get? b = some ob := fun b ob hb q => b2 b ob (fun z => hb (by simp [z])) (fun z => hb (by simp [z])) q
  refine I.call (g' := s.gens) (d' := s.drawn) (ch := [kS, D]) ⟨fun b ob q _ _ hc => kp b ob hc q, fun b ob q _ _ hc => ⟨ob.slots, kp b ob hc q⟩, fun b ob _ n hc => by rw [upd_ne (fun z => hc (by simp [z]))]; exact n, fun b ob q hc => ⟨ob, kp b ob hc q⟩, fun b xs q => up b _ q, fun b ob u q => up b _ q, fun b ps q => ⟨#[], by rw [up b _ q]; simp⟩⟩ (fun b u q => ?_) I.bare (fun b hb => ?_)
  · by_cases hb : b = D
    · subst hb
      rw [upd_same] at q
      cases q
      exact new
    · rw [upd_ne hb] at q
      refine (I.hok b u q).stay (fun c v hc r => b2 c v ?_ ?_ r) (fun c r => up c _ r) fun c _ r => up c _ r
      · rcases hc with z | z
        · rw [z]; exact nK b u q
        · exact nK c _ z
      · rcases hc with z | z
        · rw [z]; exact hb
        · exact nD c _ z
  · have hb : b = kS ∨ b = D := by simpa using hb
    rcases hb with rfl | rfl
    · exact ⟨fk.2.2.2.1, fk.2.1, fk.2.2.2.2.1, fk.2.2.2.2.2⟩
    · exact ⟨fd.2.2.2.1, fd.2.1, fd.2.2.2.2.1, fd.2.2.2.2.2⟩
section
variable {X : Cx} {pins : List (Addr × Obj)} {σ : St} {F H H1 : Hp} {s : Shared} {P c' f l : Addr} {q : Str} {k : Nat} {ns : List Int} {g : Int → Int} {Q : VK} {N : List Str} {params : Arguments} {body : Expr} {scope : Scope} {pm ctv : Value}
theorem call_sortLam (I : Inv X ((f, PySem.W.kla_obj "<lambda>" q params body scope [] pm c' ctv) :: pins) σ H1 s) (g0 : Good (Wt P q) F H) (g1 : Gr (Wt P q) F H F H1) (hco : H1 c' = some (LamX.CodeO c' q)) (hcP : c' ≠ P) (hl : H1 l = some (.lst (ns.map V.int))) (h64 : ns.length < 64) (hr : Room (k + 3) X.A) (S : FnScope N ["mask"] scope)
    (hN : ∀ i : Int, L2.start N [V.int i] = [some (V.int i)])
    (hb : ∀ u : Value, bindArgs (PySem.W.kla_fn "<lambda>" q params body scope [] pm (.ref c') ctv) ⟨[u], []⟩ = pure [(Str.ofString "mask", u)])
    (hk : ∀ (A : Around) (outer : List Env) (s : Shared) (H : Hp) (E : XK), Room k (A.deeper (envOfC q scope s.heap.objs.size f (.ref c'))) → ∀ n ∈ ns, JD (Wt P q) (cxOf CX0 X.prog X.w X.K X.mg X.base N q scope f (.ref c') A outer s H E).nox body [some (.int n)] F (Is (.int (g n))))
    (hq : ∀ p G J (ms : List Int), Own (Wt P q) F H p G J (ms.map .int) → ms.Perm ns → ms.Pairwise (fun x y => g x ≤ g y) → Q (.ref p) J) :
    wpAny (model X.prog X.w) X.A (call (.builtin "sorted") [.ref l] [(Str.ofString "key", .ref f)]) (EP X pins σ Q) X.xe s := by
  obtain ⟨its, rv, pl, hz⟩ := I.list (SqL.of hl)
  have hi := rv.ints
  have hil := hi.length
  have g1' := g1.good g0
  refine call_function_entry_kw kind_sorted plain_sorted entry_sorted (ksk_s1 _ _) ?_
  unfold Builtin.«sorted»
  refine wpAny_bind (m := checkCount "sorted" 1 1 _) (wpAny_pure (wpAny_bind (collect_list pl.isList ?_ (by rw [sizeLine_eq]; omega))))
  refine wpAny_bind (wpAny_newList ?_ (by rw [sizeLine_eq]; omega)) -- (Dw)
  have sz : s.heap.objs.size = s.heap.objs.size := rfl
  obtain ⟨hB, eB⟩ : ∃ hB, hB = (s.heap.push (seqObj "list" #[] 0)).update s.heap.objs.size (Obj.mapSeq (· ++ its.toArray)) := ⟨_, rfl⟩
  have sB : hB.objs.size = s.heap.objs.size + 1 := by rw [eB, Heap.size_update, size_push']
  have kB : ∀ b o, s.heap.get? b = some o → hB.get? b = some o := fun b o z => by
    have lt : b < s.heap.objs.size := Heap.lt_size z
    rw [eB, Heap.get?_update_ne _ _ _ _ (Nat.ne_of_lt lt), Heap.get?_push_ne _ _ _ (Nat.ne_of_lt lt)]
    exact z
  show wpAny _ _ _ _ _ { s with heap := ((s.heap.push (seqObj "list" #[] 0)).update s.heap.objs.size (Obj.mapSeq (· ++ its.toArray))).push (seqObj "list" its.toArray 0) }
  rw [← eB]
  have oD : (hB.push (seqObj "list" its.toArray 0)).get? hB.objs.size = some (seqObj "list" its.toArray 0) := Heap.get?_push_size _ rfl
  obtain ⟨D, eD⟩ : ∃ D, D = hB.objs.size := ⟨_, rfl⟩
  rw [← eD] at oD ⊢
  obtain ⟨hC, eC⟩ : ∃ hC, hC = hB.push (seqObj "list" its.toArray 0) := ⟨_, rfl⟩
  rw [← eC] at oD ⊢
  have kC : ∀ b o, s.heap.get? b = some o → hC.get? b = some o := fun b o z => by rw [eC]; exact Heap.get?_push_of_some _ (kB b o z)
  have nD : ∀ b o, s.heap.get? b = some o → b ≠ D := fun b o z => Nat.ne_of_lt (by rw [eD, sB]; exact Nat.lt_succ_of_lt (Heap.lt_size z))
  refine wpAny_bind (wpAny_holding (wpAny_call_entry_kw slot_list_sort ⟨_, oD, rfl⟩ entry_list_sort ?_ (ksk_l1 _ _)))
  show wpAny (model X.prog X.w) X.A.in1.in1 (Builtin.«list.sort» ⟨[.ref D], [(Str.ofString "key", .ref f)]⟩) _ _ _
  rw [ksk_t1]
  unfold ksk_tree
  have s1 := Heap.SameBut.update hC D (Obj.mapSeq fun _ => (#[] : Array Value))
  have o1 := get?_update_seq oD fun _ => #[]
  refine wpAny_bind (listItems_at oD rfl (wpAny_bind (listUpdate_at oD rfl ?_ (by rw [List.size_toArray, sizeLine_eq]; omega) (Nat.zero_le _))))
  obtain ⟨e1, o1⟩ : ∃ e1, (hC.update D (Obj.mapSeq fun _ => (#[] : Array Value))).get? D = some (seqObj "list" #[] e1) := ⟨_, o1⟩
  obtain ⟨h2, e2⟩ : ∃ h2, h2 = hC.update D (Obj.mapSeq fun _ => (#[] : Array Value)) := ⟨_, rfl⟩
  rw [← e2] at o1 ⊢
  refine wpAny_bind (seqEpoch_at o1 rfl (wpAny_bind (wpAny_newTuple ?_ (by show its.length ≤ _; rw [sizeLine_eq]; omega))))
  refine wpAny_bind (wpAny_newList (wpAny_holding ?_) (Nat.zero_le _))
  obtain ⟨h3, e3⟩ : ∃ h3, h3 = h2.push (seqObj "tuple" its.toArray 0) := ⟨_, rfl⟩
  show wpAny _ _ (ksk_rest D (.ref f) false its.toArray e1 (.ref (h2.push (seqObj "tuple" its.toArray 0)).objs.size)) _ _ { s with heap := (h2.push (seqObj "tuple" its.toArray 0)).push (seqObj "list" #[] 0) }
  rw [← e3]
  obtain ⟨kS, eK⟩ : ∃ kS, kS = h3.objs.size := ⟨_, rfl⟩
  have k2 : ∀ b o, s.heap.get? b = some o → h2.get? b = some o := fun b o z => by rw [e2]; exact (s1.2 b (nD b o z)).trans (kC b o z)
  have k4 : ∀ b o, s.heap.get? b = some o → (h3.push (seqObj "list" #[] 0)).get? b = some o := fun b o z => Heap.get?_push_of_some _ (by rw [e3]; exact Heap.get?_push_of_some _ (k2 b o z))
  have sC : h2.objs.size = s.heap.objs.size + 2 := by rw [e2, Heap.size_update, eC, size_push', sB]
  have sK : kS = s.heap.objs.size + 3 := by rw [eK, e3, size_push', sC]
  have o4 : (h3.push (seqObj "list" #[] 0)).get? kS = some (seqObj "list" #[] 0) := by rw [eK]; exact Heap.get?_push_size _ rfl
  have o5 : (h3.push (seqObj "list" #[] 0)).get? D = some (seqObj "list" #[] e1) := Heap.get?_push_of_some _ (by rw [e3]; exact Heap.get?_push_of_some _ o1)
  rw [← eK]
  have nKD : kS ≠ D := Nat.ne_of_gt (by rw [sK, eD, sB]; exact Nat.lt_succ_of_lt (Nat.lt_succ_self _))
  have I4 := I.kept (t' := s.toks) k4
  have fD : FpOk X ((f, PySem.W.kla_obj "<lambda>" q params body scope [] pm c' ctv) :: pins) H1 D := I.fpOk (by rw [eD, sB]; exact Nat.le_succ _) (I.hok.fresh (by rw [eD, sB]; exact Nat.le_succ _))
  have fK : FpOk X ((f, PySem.W.kla_obj "<lambda>" q params body scope [] pm c' ctv) :: pins) H1 kS := I.fpOk (by rw [sK]; exact Nat.le_add_right _ _) (I.hok.fresh (by rw [sK]; exact Nat.le_add_right _ _))
  have nfr : ∀ {H : Hp} {b : Addr}, FpOk X ((f, PySem.W.kla_obj "<lambda>" q params body scope [] pm c' ctv) :: pins) H b → b ∉ frs X.stack := fun h z => (List.mem_cons.mp (I.stkSub _ z)).elim h.2.1 h.2.2.1
  refine srt_rest (kz := ns.map g) (fun i s' => ∃ G' H', Inv X ((f, PySem.W.kla_obj "<lambda>" q params body scope [] pm c' ctv) :: pins) σ H' s' ∧ Gr (Wt P q) F H G' H' ∧ H' c' = some (LamX.CodeO c' q) ∧ FpOk X ((f, PySem.W.kla_obj "<lambda>" q params body scope [] pm c' ctv) :: pins) H' D ∧ FpOk X ((f, PySem.W.kla_obj "<lambda>" q params body scope [] pm c' ctv) :: pins) H' kS) o5 o4 nKD (by rw [List.length_map, hil]) (by omega) ⟨F, H1, I4, g1, hco, fD, fK⟩ ?_ ?_
  · rintro i v kk s' kA e hv hkk ⟨G', H', I', r', hc, fd, fk⟩ qk qd
    rw [List.getElem?_map] at hkk
    obtain ⟨n, hn, rfl⟩ := Option.map_eq_some_iff.mp hkk
    obtain ⟨t, ht⟩ := hi.get i n hn -- (Dw)
    rw [ht] at hv
    cases hv
    obtain ⟨⟨oc, us, tq, c1, c2, c3⟩, _, _⟩ := I'.hok c' _ hc
    have hg' := r'.good g0
    refine wpAny_call (codeAny_mono (run_lam (E := fun _ _ _ => False) (I'.pin _ (List.mem_append_right _ List.mem_cons_self)).1 ⟨c', oc, us, tq, rfl, c1, c2, c3⟩ S (hr.mono (show k + 3 ≤ k + 3 from Nat.le_refl _)).in1.in1 I'.env0.in1.in1 (us := [.int n t]) (vs := [.int n]) (hb _) (.cons ⟨t, rfl⟩ .nil) rfl (fun hr' => by
      rw [hN]
      exact ((hk _ _ _ _ _ hr' n (List.mem_of_getElem? hn)).up r'.fg) H' hg' (fun v J => v = .int (g n) ∧ ∃ G'', Gr (Wt P q) G' H' G'' J) fun v d G'' J r2 ed kd => by
        subst ed
        cases kd
        exact ⟨rfl, G'', r2⟩)) fun r s'' hq' => ?_)
    cases r with
    | error er => exact (show False from hq').elim
    | ok fl =>
      cases fl with
      | next => exact False.elim hq' -- (Dw)
      | brk => exact False.elim hq'
      | cont => exact False.elim hq' -- (Dw)
      | ret u =>
        obtain ⟨v, H'', os, bare, un, hok, rvu, ev, G'', r2⟩ := hq'
        subst ev
        obtain ⟨v2, H3, I3, _, ea, eb⟩ := I'.after (Q := fun v' H3 => v' = V.int (g n) ∧ H3 = H'') ⟨.int (g n), H'', os, bare, un, hok, rvu, rfl, rfl⟩
        subst ea eb
        have fd2 : FpOk X ((f, PySem.W.kla_obj "<lambda>" q params body scope [] pm c' ctv) :: pins) H3 D := ⟨un.free D _ qd fd.1 (by simp), fd.2⟩
        have fk2 : FpOk X ((f, PySem.W.kla_obj "<lambda>" q params body scope [] pm c' ctv) :: pins) H3 kS := ⟨un.free kS _ qk fk.1 (by simp), fk.2⟩
        refine ⟨rvu, un.keep kS _ qk fk.1 (nfr fk) (by simp), un.keep D _ qd fd.1 (nfr fd) (by simp), fun h' tk kp _ => ⟨G'', H3, I3.turned kp fk2.1 fk2.2.1 fk2.2.2.2.1 fk2.2.2.2.2.1 fk2.2.2.2.2.2, r'.trans r2 g0, r2.hj _ _ hcP hc, fd2, fk2⟩⟩
  · rintro s1' h' tk out c0 ⟨G', H', I', r', hc, fd, fk⟩ b2 ho ko
    obtain ⟨ms, m1, m2, m3⟩ := ko_ints hi ko
    refine ⟨_, rfl, wpAny_pure ⟨_, rfl, ?_⟩⟩
    have eo : out = out.toList.toArray := by rw [Array.toArray_toList]
    have I5 := (inv_take2 (t' := tk) (o := .lst (ms.map V.int)) I' b2 fk fd ⟨by rw [List.length_map, m2.length_eq, sizeLine_eq]; omega, out.toList, c0, vals_of_ints m1, by rw [← eo]; exact ho⟩)
    exact ⟨.ref D, _, I5.pins_of fun p hp => I5.pin p (List.mem_append_right _ (List.mem_cons_of_mem _ hp)), rfl, hq D G' _ ms (Own.ofNew g0 r' fd.1 (DqAll.ints ms)) m2 m3⟩
end
end Dw
/-! lower_sets. -/
namespace Dw
open PySem PySem.Spec PyProof.Rows L2 -- (Dw)
theorem bt_sorted : bootBuiltins "sorted" = some (.builtin "sorted") := by decide +kernel
section
variable {X : Cx} {σ : St} {F H : Hp} {P c l : Addr} {k : Nat} {ns : List Int} {g : Int → Int} {Q : VK} {N : List Str} {params : Arguments} {body : Expr} {scope : Scope} {e : Expr} {p lpos kpos pos : Pos}
/-- sorted(e, key=lambda mask: body) -/
theorem je_sortLam (hm : X.mg "sorted" = none) (TB : LamX.TabB X.base X.mg c P) (hcode : X.env.code = .ref c) (g0 : Good (Wt P (X.env.qual ++ "<lambda>")) F H) (he : RV X e σ H (.ref l)) (hl : H l = some (.lst (ns.map V.int))) (h64 : ns.length < 64) (hr : Room (k + 3) X.A) (S : FnScope N ["mask"] scope)
    (hfree : ∀ y ∈ scope.names, y.2 ≠ .free) (hcl : cloFrom X.env.cells scope.names [] = [])
    (hb : ∀ (q : Str) (pm cv ctv u : Value), bindArgs (PySem.W.kla_fn "<lambda>" q params body scope [] pm cv ctv) ⟨[u], []⟩ = pure [(Str.ofString "mask", u)])
    (hk : ∀ (f c' : Addr) (A : Around) (outer : List Env) (s : Shared) (H : Hp) (E : XK), Room k (A.deeper (envOfC (X.env.qual ++ "<lambda>") scope s.heap.objs.size f (.ref c'))) → ∀ n ∈ ns, JD (Wt P (X.env.qual ++ "<lambda>")) (cxOf CX0 X.prog X.w X.K X.mg X.base N (X.env.qual ++ "<lambda>") scope f (.ref c') A outer s H E).nox body [some (.int n)] F (Is (.int (g n))))
    (hq : ∀ p G J (ms : List Int), Own (Wt P (X.env.qual ++ "<lambda>")) F H p G J (ms.map .int) → ms.Perm ns → ms.Pairwise (fun x y => g x ≤ g y) → Q (.ref p) J)
    (hN : ∀ i : Int, L2.start N [V.int i] = [some (V.int i)] := by intro _; rfl) (hg : Gl X "sorted" := by rfl) (hdef : defaultsOf params X.env = ([], []) := by rfl)
    (hs : starEach [e] X.env = (false, eval e X.env) :: starEach [] X.env := by rfl) (hst : backTo pos (starEach [e] X.env) = (false, eval e X.env) :: backTo pos (starEach [] X.env) := by rfl) (hpl : (backTo pos (starEach [e] X.env)).any (·.1) = false := by rfl) :
    JE X (.Call (.Name "sorted" p) [e] [⟨some "key", .Lambda params body scope lpos, kpos⟩] pos) σ H Q := fun pins s I => by
  refine wpAny_Call_Name_kw (ld_blt I hg hm bt_sorted ?_ (by decide) (by decide))
  refine PyProof.Rows.callWith_kw (thn ((pa_cons pe_self pa_nil hs).run pos pins s σ H (fun vs H1 => vs = [.ref l] ∧ H1 = H) I (he _ ⟨rfl, rfl⟩)) fun us s1 ⟨vs, H1, I1, r1, e1, e2⟩ => ?_) hst hpl rfl rfl
  subst e1 e2
  cases r1 with
  | cons ra rb =>
    cases rb
    cases ra
    show wpAny _ _ (evalAll ((do let v ← eval (.Lambda params body scope lpos) X.env; standAt pos; pure v) :: [])) _ _ s1
    refine wpAny_evalAll_cons (wpAny_bind (lam_mk1 I1 TB hcode g0.ok hdef hfree hcl fun f c' pm ctv H2 s2 I2 kp T2 hf hfn hfL hfF hco => wpAny_bind (wpAny_standAt (wpAny_pure (wpAny_evalAll_nil ?_)))))
    obtain ⟨ps, hP, _⟩ := g0.ok
    have hmP : ∀ b o, H1 b = some o → b ≠ P → H2 b = some o := fun b o z n => kp b o n z
    have lP : l ≠ P := fun z => by rw [z, hP] at hl; cases hl
    have hcP : c' ≠ P := fun z => by
      obtain ⟨ps2, hP2, _⟩ := T2
      rw [z, hP2] at hco
      exact LamX.codeO_ne _ (Option.some.inj hco).symm
    have g1 : Gr (Wt P (X.env.qual ++ "<lambda>")) F H1 F H2 := ⟨Ex.refl F, fun a o z => kp a o (fun y => by rw [y, g0.mf P rfl] at z; cases z) (g0.fh a o z), fun a o n z => kp a o n z, T2, fun _ _ _ => rfl⟩
    have Ip := I2.pins_of (pins' := (f, PySem.W.kla_obj "<lambda>" (X.env.qual ++ "<lambda>") params body scope [] pm c' ctv) :: pins) fun p hp => by
      rcases List.mem_cons.mp hp with rfl | hp -- (Dw)
      · exact ⟨hf, hfn, hfL, hfF, fun v z => by cases z⟩
      · exact I2.pin p (List.mem_append_right _ hp)
    exact call_sortLam Ip g0 g1 hco hcP (hmP _ _ hl lP) h64 hr S hN (fun u => hb _ _ _ _ u) (fun A outer s H E hr n hn => hk f c' A outer s H E hr n hn) hq
end
end Dw
/-! The defs that take an Order: lower_sets, end_count. -/
namespace Dw
open PySem PySem.Spec PyProof.Rows L2 -- (Dw)
abbrev qLam : Str := (Str.ofString "lower_sets" ++ ".<locals>.") ++ "<lambda>"
/-- the def of the top whose code object is known -/
structure AtC (K : PySem.W.Frag) (mg : Str → Option Value) (x : Str) (st : Stmt) (c : Addr) : Prop where
  ex : ∃ f fd, FnP K x st f fd ∧ mg x = some (.ref f) ∧ fd.code = .ref c
/-- a promise of a def whose first argument is an Order -/
def spOrd (P C : Addr) (S : Nat → (Nat → Nat → Bool) → List PyData → (PyData → Prop) → Prop) : Sp := fun vs H Q _ => ∃ F a n f vs' ds, vs = .ref a :: vs' ∧ Good (Wt P qLam) F H ∧ OrdAt C F a n f ∧ n ≤ 40 ∧ DqAll F vs' ds ∧ S n f ds (fun d => ∀ v G J, Gr (Wt P qLam) F H G J → Dq G v d → Q v J)
theorem spOrd_len {P C : Addr} {S : Nat → (Nat → Nat → Bool) → List PyData → (PyData → Prop) → Prop} {m : Nat} (h : ∀ n f ds R, S n f ds R → ds.length + 1 = m) : ∀ vs H Q E, spOrd P C S vs H Q E → vs.length = m := by
  intro vs H Q E ⟨F, a, n, f, vs', ds, e, _, _, _, k, q⟩
  rw [e, List.length_cons, k.len]; exact h _ _ _ _ q
section
variable {W : Wo} {X : Cx} {a e b : Expr} {es : List Expr} {σ : St} {F H : Hp} {Pd : PyData → Prop} {pos p : Pos} {x : Str} {j k m : Nat} {ps : List Str} {P C s : Addr} {f : Nat → Nat → Bool}
theorem jd_fnO {S : Nat → (Nat → Nat → Bool) → List PyData → (PyData → Prop) → Prop} {Ps : List PyData → Prop} (sb : Sub (Wt P qLam) W) (kn : Kn X.prog X.w X.K X.mg X.base x j ps (spOrd P C S)) (hr : Room k X.A) (h0 : ∀ H, RV X a σ H (.ref s)) (o : OrdAt C F s m f) (hm : m ≤ 40) (ha : JDs W X es σ F Ps) (hS : ∀ ds R, Ps ds → (∀ d, Pd d → R d) → S m f ds R)
    (hj : j ≤ k := by decide) (hg : Gl X x := by rfl) (hdb : (x == ("__debug__" : Str)) = false := by decide)
    (he : starEach (a :: es) X.env = (false, eval a X.env) :: starEach es X.env := by rfl) (hpl : (backTo pos (starEach es X.env)).any (·.1) = false := by rfl) : JD W X (.Call (.Name x p) (a :: es) [] pos) σ F Pd := fun H g Q q =>
  je_call kn hr (ja_of (pa_cons pe_self pa_self he) (h0 H _ (ha H g _ fun vs ds G J r pd kd => ⟨G, s, m, f, vs, ds, rfl, (r.good g).sub sb, o.up r.fg, hm, kd, hS ds _ pd fun d pd' v G' J' r' kd' => q v d G' J' (r.trans (r'.sub sb (r.good g)) g) pd' kd'⟩))) hj hg hdb he hpl
/-- ~ e -/
theorem jd_inv {i : Int} (ha : JD W X a σ F (Is (.int i))) : JD W X (.UnaryOp .Invert a pos) σ F (Is (.int (Builtin.bitNot i))) := fun H g Q q =>
  je_of (pe_un un_inv pe_self) (ha.dq g fun v d G J r g' ed kd => by
    subst ed
    cases kd
    exact ⟨i, rfl, q _ _ G J r rfl (.int _)⟩)
end
/-- the masks below, each once, in the order of the text -/
def dnM (n : Nat) (f : Nat → Nat → Bool) (e : Nat) : Nat := mk (fun j => f j e) n
def lmT (n : Nat) (f : Nat → Nat → Bool) : Nat → List Nat
  | 0 => []
  | k + 1 => if dnM n f k ∈ lmT n f k then lmT n f k else lmT n f k ++ [dnM n f k]
theorem lmT_lt (n : Nat) (f : Nat → Nat → Bool) : ∀ k, ∀ m ∈ lmT n f k, m < 2 ^ n
  | 0, m, h => by simp [lmT] at h
  | k + 1, m, h => by
    unfold lmT at h
    split at h
    · exact lmT_lt n f k m h
    · rcases List.mem_append.mp h with h | h -- (Dw)
      · exact lmT_lt n f k m h
      · rw [List.mem_singleton] at h; subst h; exact mk_lt _ _
theorem lmT_len (n : Nat) (f : Nat → Nat → Bool) : ∀ k, (lmT n f k).length ≤ k
  | 0 => Nat.le_refl _
  | k + 1 => by
    have := lmT_len n f k
    unfold lmT
    split
    · omega
    · rw [List.length_append, List.length_singleton]; omega -- (Dw)
def bitsN (n m : Nat) : Nat := ((List.range n).filter m.testBit).length
def S_lmasks (n : Nat) (f : Nat → Nat → Bool) (ds : List PyData) (R : PyData → Prop) : Prop := ds = [] ∧ ∀ ms : List Nat, ms.Perm (lmT n f n) → ms.Pairwise (fun x y => bitsN n x ≤ bitsN n y) → R (dInts (nats ms))
def S_endcount (n : Nat) (f : Nat → Nat → Bool) (ds : List PyData) (R : PyData → Prop) : Prop := ds = [] ∧ R (.int (((lmT n f n).length : Nat) : Int))
theorem nats_inv {ms : List Int} {l : List Nat} (h : ms.Perm (nats l)) : ∃ l', ms = nats l' ∧ l'.Perm l := perm_map_inv h
section
variable {P : Program} {w : World} {K : PySem.W.Frag} {mg : Str → Option Value} {base : Heap} {C c T : Addr}
theorem ok_lmasks (F : AtC K mg "lower_sets" (topS 13) c) (O : OrdF K mg C) (B : Bl mg) (TB : LamX.TabB base mg c T) (k7 : Kn P w K mg base "elements_of" 1 ["mask"] (spP S_elem)) : Kn P w K mg base "lower_sets" 5 ["order"] (spOrd T C S_lmasks) := by
  obtain ⟨fx, fdx, Fd, hmx, hcx⟩ := F.ex
  have len : ∀ vs H Q E, spOrd T C S_lmasks vs H Q E → vs.length = 1 := spOrd_len fun n f ds R ⟨e, _⟩ => by rw [e]; rfl
  refine ⟨fx, fdx, ?_, hmx, Fd.kp, Fd.bindsN fun _ _ _ _ _ _ us hl => match us, hl with | [_], _ => rfl⟩
  obtain ⟨oc, od, dV, kV, doc, pm, an, cdv, ct, osl, rfl, lk, hcd, _, _⟩ := Fd.ex
  have hcdv : cdv = .ref c := hcx
  subst hcdv
  refine fn_of lk hcd sc13 len fun A outer s H vs Q E hr ⟨Fk, a, n, f, vs', ds, ev, g, o, hn, kd, ed, hR⟩ => ⟨_, (pss_self).nox, ?_⟩
  subst ed ev
  cases kd
  refine jss_cons (js_newO 1 sc13.nd g g.gr fun p o0 hp0 => ?_)
  refine jss_cons (js_for (ji_range (n := n) B.range (by omega) (jd_size O hr (fun H => rv_var 0 rfl) o)) (pg_name (i := 2) sc13.nd rfl (.inl rfl)) o0.gd
    (fun G0 i σ' H' => ∃ o2 G', σ' = [some (.ref a), some (.ref p), o2] ∧ Ex G0 G' ∧ Own (Wt T qLam) Fk H p G' H' ((nats (lmT n f i)).map .int)) (fun G0 i σ' H' ⟨_, G', _, e, o⟩ => e.trans o.gd.fh)
    (fun G J r g' => ⟨none, G, rfl, Ex.refl G, o0.step g r⟩) ?_ ?_)
  · rintro G0 i x d σ' H' eF hd kx ⟨o2, G', rfl, eG, w⟩
    obtain ⟨hi, rfl⟩ := rngN_of hd
    cases kx
    have oo := o.up w.gr.fg
    have hll := lmT_len n f i
    refine jss_one (js_ifO w g (P := Is (!decide (((dnM n f i : Nat) : Int) ∈ nats (lmT n f i)))) (fun G e k => jt_cp (jd_dm O hr (fun H => rv_var 0 rfl) (oo.up e) (jd_var 2 rfl (.int _)) hi) (jd_var 1 rfl k) od_notInL) (fun J' hb w' => ?_) (fun J' hb w' => jss_nil ?_))
    · have hb := (Bool.not_eq_true' _).mp (Eq.symm hb)
      have hnm : dnM n f i ∉ lmT n f i := fun h => of_decide_eq_false hb (by unfold nats; exact List.mem_map.mpr ⟨_, h, rfl⟩)
      refine jss_one (js_appO (P := Is (.int ((dnM n f i : Nat) : Int))) w' g (rv_var 1 rfl) (by unfold nats; simp only [List.length_map]; omega) (jd_dm O hr (fun H => rv_var 0 rfl) oo (jd_var 2 rfl (.int _)) hi) fun d G3 J3 pd e3 o3 => ?_)
      rw [show d = _ from pd] at o3
      refine ⟨_, G3, rfl, eG.trans e3, ?_⟩
      show Own _ _ _ _ _ _ ((nats (if dnM n f i ∈ lmT n f i then lmT n f i else lmT n f i ++ [dnM n f i])).map .int)
      rw [if_neg hnm]
      unfold nats at o3 ⊢
      rw [List.map_append, List.map_append]
      exact o3
    · have hb : decide (((dnM n f i : Nat) : Int) ∈ nats (lmT n f i)) = true := by
        have := Eq.symm hb
        rw [Bool.not_eq_false'] at this
        exact this
      have hm := of_decide_eq_true hb
      unfold nats at hm
      obtain ⟨m, hm, e⟩ := List.mem_map.mp hm
      have e : m = dnM n f i := by omega
      subst e
      refine ⟨_, G', rfl, eG, ?_⟩
      show Own _ _ _ _ _ _ ((nats (if dnM n f i ∈ lmT n f i then lmT n f i else lmT n f i ++ [dnM n f i])).map .int)
      rw [if_pos hm]
      exact w'
  · rintro G0 σ' H' eF ⟨o2, G', rfl, eG, w⟩
    rw [rngN_len] at w
    have hll := lmT_len n f n
    have w0 := w.ints
    refine jss_one (js_ret (je_sortLam (N := ["mask"]) (k := 1) (F := G') (g := fun x => ((bitsN n x.toNat : Nat) : Int)) (ns := nats (lmT n f n)) (c := c) (P := T) B.sorted TB rfl w.gd (rv_var 1 rfl) w0 (by unfold nats; rw [List.length_map]; omega) hr ⟨rfl, rfl, rfl, by decide +kernel, rfl, by decide +kernel, by decide +kernel⟩ (by decide +kernel) rfl (fun q pm cv ctv u => rfl)
      (fun f' c' A outer s H E hr' x hx => ?_) (fun p' G3 J3 ms o3 hp hs => ?_)))
    · unfold nats at hx
      obtain ⟨m, hm, rfl⟩ := List.mem_map.mp hx
      have hlt := lmT_lt n f n m hm
      exact (jd_len B.len ((jd_fn (P := Is (dInts (nats ((List.range n).filter m.testBit)))) k7 hr' (jds_is (jd_var 0 rfl (.int _)) jds_nil) fun ds R e q => ⟨n, m, e, hn, hlt, q _ rfl⟩).is (natsL _))).is (by rw [List.length_map]; rfl)
    · obtain ⟨l', rfl, hp'⟩ := nats_inv hp
      obtain ⟨G4, e4, g4, r4, k4⟩ := o3.known
      have rr := w.gr.trans r4 g
      refine hR l' hp' ?_ _ G4 _ rr k4
      unfold nats at hs
      rw [List.pairwise_map] at hs
      refine hs.imp fun {x y} h => ?_
      have h : ((bitsN n ((x : Int)).toNat : Nat) : Int) ≤ ((bitsN n ((y : Int)).toNat : Nat) : Int) := h
      rw [Int.toNat_natCast, Int.toNat_natCast] at h
      omega
theorem ok_endcount (F : At K mg "end_count" (topS 17)) (B : Bl mg) (k13 : Kn P w K mg base "lower_sets" 5 ["order"] (spOrd T C S_lmasks)) : Kn P w K mg base "end_count" 6 ["order"] (spOrd T C S_endcount) := by
  refine kn17 F (spOrd_len fun n f ds R ⟨e, _⟩ => by rw [e]; rfl) fun fa cdv A outer s H vs Q E hr ⟨Fk, a, n, f, vs', ds, ev, g, o, hn, kd, ed, hR⟩ => ?_
  subst ed ev
  cases kd
  exact jss_one (js_retD g (jd_lenP (Pa := fun d => ∃ ms : List Nat, ms.length = (lmT n f n).length ∧ d = dInts (nats ms)) (P := Is (.int (((lmT n f n).length : Nat) : Int))) B.len (jd_fnO (Sub.refl _) k13 hr (fun H => rv_var 0 rfl) o hn jds_nil fun ds R e q => ⟨e, fun ms h1 h2 => q _ ⟨ms, h1.length_eq, rfl⟩⟩) fun x ⟨ms, h1, h2⟩ => .inl ⟨_, h2, by
    show PyData.int _ = _
    unfold nats
    rw [List.length_map, List.length_map, h1]⟩) fun v d G J r ed kd => by subst ed; exact hR v G J r kd)
end
end Dw
/-! crossed, span_fault, draw_spans. -/
namespace Dw
open PySem PySem.Spec PyProof.Rows L2 -- (Dw)
def subL (n : Nat) (f : Nat → Nat → Bool) (x y : Nat) : Prop := ∀ k, k < n → f k x = true → f k y = true
def Chn (n : Nat) (f : Nat → Nat → Bool) : Prop := ∀ b d, b < n → d < b → subL n f b d ∨ subL n f d b
structure Crs (n : Nat) (f : Nat → Nat → Bool) (a b c d : Nat) : Prop where
  la : a < n
  lb : b < n
  lc : c < n
  ld : d < n
  ab : f a b = true
  ad : f a d = false
  cd : f c d = true
  cb : f c b = false
def S_crossed (n : Nat) (f : Nat → Nat → Bool) (ds : List PyData) (R : PyData → Prop) : Prop := ∃ b d : Nat, ds = [.int (b : Int), .int (d : Int)] ∧ b < n ∧ d < n ∧ ¬ subL n f b d ∧ ¬ subL n f d b ∧ ∀ a c, Crs n f a b c d → R (dTupN [a, b, c, d])
def S_fault (n : Nat) (f : Nat → Nat → Bool) (ds : List PyData) (R : PyData → Prop) : Prop := ds = [] ∧ (Chn n f → R .none) ∧ ∀ a b c d, Crs n f a b c d → R (dTupN [a, b, c, d])
theorem not_sub {n : Nat} {f : Nat → Nat → Bool} {x y : Nat} (h : ¬ subL n f x y) : ∃ k, k < n ∧ f k x = true ∧ f k y = false := by
  apply Classical.byContradiction
  intro hh
  refine h fun k hk hx => ?_
  cases e : f k y with
  | true => rfl
  | false => exact absurd ⟨k, hk, hx, e⟩ hh
theorem head_of {l : List Nat} (h : ∃ x, x ∈ l) : ∃ x, l[0]? = some x ∧ x ∈ l := by
  obtain ⟨x, hx⟩ := h
  cases l with
  | nil => simp at hx
  | cons y l => exact ⟨y, rfl, List.mem_cons_self⟩
theorem mk_sub {p q : Nat → Bool} {n : Nat} : mk p n &&& mk q n = mk p n ↔ ∀ k, k < n → p k = true → q k = true := by
  rw [mk_and]
  constructor
  · intro e k hk hp
    have := mk_inj e hk
    simp only [hp, Bool.true_and] at this
    exact this
  · intro h
    refine mk_congr fun k hk => ?_
    cases hp : p k with
    | true => rw [h k hk hp]; rfl
    | false => rfl
section
variable {P : Program} {w : World} {K : PySem.W.Frag} {mg : Str → Option Value} {base : Heap} {C c T : Addr}
theorem ok_crossed (F : At K mg "crossed" (topS 14)) (O : OrdF K mg C) (B : Bl mg) (k7 : Kn P w K mg base "elements_of" 1 ["mask"] (spP S_elem)) : Kn P w K mg base "crossed" 2 ["order", "one", "other"] (spOrd T C S_crossed) := by
  refine kn14 F (spOrd_len fun n f ds R ⟨_, _, e, _⟩ => by rw [e]; rfl) fun fa cdv A outer s H vs Q E hr ⟨Fk, a, n, f, vs', ds, ev, g, o, hn, kd, b, d, ed, hb, hd, h1, h2, hR⟩ => ?_
  subst ed ev
  obtain ⟨v, u, rfl, k1, k2⟩ := dq2 kd
  cases k1
  cases k2
  refine jss_cons (js_setD 3 sc14.nd g (jd_ixP (P := fun z => ∃ x : Nat, x < n ∧ f x b = true ∧ f x d = false ∧ z = .int (x : Int)) (jd_fn (P := Is (dInts (nats ((List.range n).filter fun k => f k b && !f k d)))) k7 hr (jds_is ((jd_bin (jd_dm O hr (fun H => rv_var 0 rfl) o (jd_var 1 rfl (.int _)) hb) (jd_inv (jd_dm O hr (fun H => rv_var 0 rfl) o (jd_var 2 rfl (.int _)) hd)) od_and).is (by rw [bAndNot, mk_andNot])) jds_nil) fun ds R e q => ⟨n, _, e, hn, mk_lt _ _, q _ (by rw [mk_bits])⟩) jd_int fun x y ex ey => ?_) fun v3 z G1 J1 r1 g1 pz k3 => ?_)
  · obtain ⟨k, hk, ha, hb'⟩ := not_sub h1
    obtain ⟨x, hx, hm⟩ := head_of (l := (List.range n).filter fun k => f k b && !f k d) ⟨k, List.mem_filter.mpr ⟨List.mem_range.mpr hk, by rw [ha, hb']; rfl⟩⟩
    obtain ⟨m1, m2⟩ := List.mem_filter.mp hm
    rw [Bool.and_eq_true, Bool.not_eq_true'] at m2
    subst ex ey
    exact ⟨_, 0, .int (x : Int), rfl, rfl, by unfold nats; rw [List.getElem?_map, List.getElem?_map, hx]; rfl, x, List.mem_range.mp m1, m2.1, m2.2, rfl⟩
  obtain ⟨x, hx, hx1, hx2, rfl⟩ := pz
  cases k3
  have o1 := o.up r1.fg
  refine jss_cons (js_setD 4 sc14.nd g1 (jd_ixP (P := fun z => ∃ x : Nat, x < n ∧ f x d = true ∧ f x b = false ∧ z = .int (x : Int)) (jd_fn (P := Is (dInts (nats ((List.range n).filter fun k => f k d && !f k b)))) k7 hr (jds_is ((jd_bin (jd_dm O hr (fun H => rv_var 0 rfl) o1 (jd_var 2 rfl (.int _)) hd) (jd_inv (jd_dm O hr (fun H => rv_var 0 rfl) o1 (jd_var 1 rfl (.int _)) hb)) od_and).is (by rw [bAndNot, mk_andNot])) jds_nil) fun ds R e q => ⟨n, _, e, hn, mk_lt _ _, q _ (by rw [mk_bits])⟩) jd_int fun x y ex ey => ?_) fun v4 z G2 J2 r2 g2 pz k4 => ?_)
  · obtain ⟨k, hk, ha, hb'⟩ := not_sub h2
    obtain ⟨x, hx, hm⟩ := head_of (l := (List.range n).filter fun k => f k d && !f k b) ⟨k, List.mem_filter.mpr ⟨List.mem_range.mpr hk, by rw [ha, hb']; rfl⟩⟩
    obtain ⟨m1, m2⟩ := List.mem_filter.mp hm
    rw [Bool.and_eq_true, Bool.not_eq_true'] at m2
    subst ex ey
    exact ⟨_, 0, .int (x : Int), rfl, rfl, by unfold nats; rw [List.getElem?_map, List.getElem?_map, hx]; rfl, x, List.mem_range.mp m1, m2.1, m2.2, rfl⟩
  obtain ⟨y, hy, hy1, hy2, rfl⟩ := pz
  cases k4
  exact jss_one (js_retD g2 (jd_tup (P := Is (dTupN [x, b, y, d])) (jds_is (jd_var 3 rfl (.int _)) (jds_is (jd_var 1 rfl (.int _)) (jds_is (jd_var 4 rfl (.int _)) (jds_is (jd_var 2 rfl (.int _)) jds_nil)))) fun ds e => by subst e; exact ⟨by show 4 ≤ 100000; omega, rfl⟩) fun v d' G J r3 ed kd' => by subst ed; exact hR x y ⟨hx, hb, hy, hd, hx1, hx2, hy1, hy2⟩ v G J ((r1.trans r2 g).trans r3 g) kd')
theorem ok_fault (F : At K mg "span_fault" (topS 15)) (O : OrdF K mg C) (B : Bl mg) (k14 : Kn P w K mg base "crossed" 2 ["order", "one", "other"] (spOrd T C S_crossed)) : Kn P w K mg base "span_fault" 3 ["order"] (spOrd T C S_fault) := by
  refine kn15 F (spOrd_len fun n f ds R ⟨e, _⟩ => by rw [e]; rfl) fun fa cdv A outer s H vs Q E hr ⟨Fk, a, n, f, vs', ds, ev, g, o, hn, kd, ed, hR1, hR2⟩ => ?_
  subst ed ev
  cases kd
  refine jss_cons (js_for (ji_range (n := n) B.range (by omega) (jd_size O hr (fun H => rv_var 0 rfl) o)) (pg_name (i := 1) sc15.nd rfl (.inl rfl)) g
    (fun G0 i σ' H' => ∃ o1 o2 o3 o4 G', σ' = [some (.ref a), o1, o2, o3, o4] ∧ Ex G0 G' ∧ Gr (Wt T qLam) Fk H G' H' ∧ Good (Wt T qLam) G' H' ∧ ∀ b d, b < i → d < b → subL n f b d ∨ subL n f d b) (fun G0 i σ' H' ⟨_, _, _, _, G', _, e, _, g', _⟩ => e.trans g'.fh)
    (fun G J r g' => ⟨none, none, none, none, G, rfl, Ex.refl G, r, g', fun b d h => absurd h (Nat.not_lt_zero b)⟩) ?_ ?_)
  · rintro G0 b x d σ' H' eF hd kx ⟨o1, o2, o3, o4, G', rfl, eG, r, g', hc⟩
    obtain ⟨hb, rfl⟩ := rngN_of hd
    cases kx
    refine jss_one (js_for (ji_range (n := b) B.range (by omega) (jd_var 1 rfl (.int _))) (pg_name (i := 2) sc15.nd rfl (.inl rfl)) g'
      (fun G0' i σ' H' => ∃ o2 o3 o4 G', σ' = [some (.ref a), some (.int (b : Int)), o2, o3, o4] ∧ Ex G0' G' ∧ Ex G0 G' ∧ Gr (Wt T qLam) Fk H G' H' ∧ Good (Wt T qLam) G' H' ∧ ∀ d, d < i → subL n f b d ∨ subL n f d b) (fun G0' i σ' H' ⟨_, _, _, G', _, e, _, _, g', _⟩ => e.trans g'.fh)
      (fun G J r' g2 => ⟨o2, o3, o4, G, rfl, Ex.refl G, eG.trans r'.fg, r.trans r' g, g2, fun d h => absurd h (Nat.not_lt_zero d)⟩) ?_ ?_)
    · rintro G0' d x dd σ' H' eF' hdd kx ⟨o2, o3, o4, G', rfl, eG', eG0, r, g', hc'⟩
      obtain ⟨hdb, rfl⟩ := rngN_of hdd
      cases kx
      have oo := o.up r.fg
      have hdn : d < n := by omega
      refine jss_cons (js_setD 3 sc15.nd g' (jd_dm O hr (fun H => rv_var 0 rfl) oo (jd_var 1 rfl (.int _)) hb) fun v3 z G1 J1 r1 g1 pz k3 => ?_)
      subst pz
      cases k3
      refine jss_cons (js_setD 4 sc15.nd g1 (jd_dm O hr (fun H => rv_var 0 rfl) (oo.up r1.fg) (jd_var 2 rfl (.int _)) hdn) fun v4 z G2 J2 r2 g2 pz k4 => ?_)
      subst pz
      cases k4
      have r02 := (r.trans r1 g).trans r2 g
      have e02 := r1.fg.trans r2.fg
      refine jss_one (js_ifT g2 (jt_cp (jd_bin (jd_var 3 rfl (.int _)) (jd_var 4 rfl (.int _)) od_and) (jd_tup (P := Is (.tuple ([((dnM n f b : Nat) : Int), ((dnM n f d : Nat) : Int)].map .int))) (jds_is (jd_var 3 rfl (.int _)) (jds_is (jd_var 4 rfl (.int _)) jds_nil)) fun ds e => by subst e; exact ⟨by show 2 ≤ 100000; omega, rfl⟩) od_notInT) (fun G3 J3 r3 g3 hy => ?_) (fun G3 J3 r3 g3 hy => jss_nil ?_))
      · have hy := (Bool.not_eq_true' _).mp (Eq.symm hy)
        have hy := of_decide_eq_false hy
        rw [bAnd] at hy
        have n1 : ¬ subL n f b d := fun h => hy (List.mem_cons.mpr (.inl (congrArg (fun (m : Nat) => (m : Int)) (mk_sub.mpr h))))
        have n2 : ¬ subL n f d b := fun h => hy (List.mem_cons.mpr (.inr (List.mem_singleton.mpr (congrArg (fun (m : Nat) => (m : Int)) (by
          show dnM n f b &&& dnM n f d = dnM n f d
          rw [Nat.and_comm]; exact mk_sub.mpr h)))))
        exact jss_one (js_retD g3 (jd_fnO (Pd := fun z => ∃ x y, Crs n f x b y d ∧ z = dTupN [x, b, y, d]) (Sub.refl _) k14 hr (fun H => rv_var 0 rfl) (oo.up (e02.trans r3.fg)) hn (jds_is (jd_var 1 rfl (.int _)) (jds_is (jd_var 2 rfl (.int _)) jds_nil)) fun ds R e q => ⟨b, d, e, hb, hdn, n1, n2, fun x y h => q _ ⟨x, y, h, rfl⟩⟩) fun v z G J r4 ⟨x, y, hxy, ez⟩ kz => by subst ez; exact hR2 x b y d hxy v G J ((r02.trans r3 g).trans r4 g) kz)
      · have hy : (!decide (Builtin.bitAnd ((dnM n f b : Nat) : Int) ((dnM n f d : Nat) : Int) ∈ [((dnM n f b : Nat) : Int), ((dnM n f d : Nat) : Int)])) = false := Eq.symm hy
        rw [Bool.not_eq_false'] at hy
        have hy := of_decide_eq_true hy
        rw [bAnd] at hy
        refine ⟨_, _, _, G3, rfl, eG'.trans (e02.trans r3.fg), eG0.trans (e02.trans r3.fg), r02.trans r3 g, g3, fun d' hd' => ?_⟩
        by_cases e : d' = d
        · subst e
          rcases List.mem_cons.mp hy with h | h -- (Dw)
          · exact .inl (mk_sub.mp (by have h : dnM n f b &&& dnM n f d' = dnM n f b := by omega
                                      exact h))
          · have h := List.mem_singleton.mp h
            have h : dnM n f b &&& dnM n f d' = dnM n f d' := by omega
            rw [Nat.and_comm] at h
            exact .inr (mk_sub.mp h)
        · exact hc' d' (by omega)
    · rintro G0' σ' H' eF' ⟨o2, o3, o4, G', rfl, eG', eG0, r, g', hc'⟩
      rw [rngN_len] at hc'
      refine ⟨_, _, _, _, G', rfl, eG0, r, g', fun b' d' hb' hd' => ?_⟩
      by_cases e : b' = b
      · subst e; exact hc' d' hd'
      · exact hc b' d' (by omega) hd'
  · rintro G0 σ' H' eF ⟨o1, o2, o3, o4, G', rfl, eG, r, g', hc⟩
    rw [rngN_len] at hc
    exact jss_one (js_retD g' jd_none fun v d G J r4 ed kd => by subst ed; exact hR1 hc v G J (r.trans r4 g) kd)
end
end Dw
/-! draw_spans; draw. -/
namespace Dw
open PySem PySem.Spec PyProof.Rows L2 -- (Dw)
/-- the spans that the masks give -/
structure SpOk (n : Nat) (f : Nat → Nat → Bool) (ms : List Nat) (e : Nat) (p : Nat × Nat) : Prop where
  at_ : p.1 = ms.idxOf (dnM n f e)
  le : p.1 ≤ p.2
  lt : p.2 < ms.length
  out : ∀ k, p.1 < k → k ≤ p.2 → ∀ m, ms[k]? = some m → m.testBit e = false
  stop : ∀ m, ms[p.2 + 1]? = some m → m.testBit e = true
def AllSp (n : Nat) (f : Nat → Nat → Bool) (ms : List Nat) (sp : List (Nat × Nat)) : Prop := ∀ (e : Nat) p, sp[e]? = some p → SpOk n f ms e p
def S_drawsp (n : Nat) (f : Nat → Nat → Bool) (ds : List PyData) (R : PyData → Prop) : Prop := ds = [] ∧ (Chn n f → ∀ (ms : List Nat) sp, ms.Perm (lmT n f n) → ms.Pairwise (fun x y => bitsN n x ≤ bitsN n y) → sp.length = n → AllSp n f ms sp → R (.tuple [.bool true, dSpT sp])) ∧
  ∀ a b c d, Crs n f a b c d → R (.tuple [.bool false, dTupN [a, b, c, d]])
theorem lmT_mem {n : Nat} {f : Nat → Nat → Bool} {m : Nat} : ∀ {k : Nat}, m ∈ lmT n f k ↔ ∃ e, e < k ∧ m = dnM n f e
  | 0 => ⟨fun h => by simp [lmT] at h, fun ⟨e, h, _⟩ => absurd h (Nat.not_lt_zero e)⟩
  | k + 1 => by
    have ih := lmT_mem (n := n) (f := f) (m := m) (k := k)
    unfold lmT
    constructor
    · intro h
      split at h
      · obtain ⟨e, h1, h2⟩ := ih.mp h; exact ⟨e, by omega, h2⟩
      · rcases List.mem_append.mp h with h | h -- (Dw)
        · obtain ⟨e, h1, h2⟩ := ih.mp h; exact ⟨e, by omega, h2⟩
        · exact ⟨k, Nat.lt_succ_self k, List.mem_singleton.mp h⟩
    · rintro ⟨e, h1, h2⟩
      by_cases hk : e = k
      · subst hk
        split
        · rename_i h; rw [h2]; exact h
        · exact List.mem_append.mpr (.inr (List.mem_singleton.mpr h2))
      · have := ih.mpr ⟨e, by omega, h2⟩
        split
        · exact this
        · exact List.mem_append.mpr (.inl this)
theorem JT.run {W : Wo} {X : Cx} {c : Expr} {σ : St} {F H : Hp} {P : Bool → Prop} {Q : Bool → Hp → Prop} (h : JT W X c σ F P) (g : Good W F H) (q : ∀ b G J, Gr W F H G J → P b → Q b J) : JB X c σ H Q := h H g Q q
section
variable {P : Program} {w : World} {K : PySem.W.Frag} {mg : Str → Option Value} {base : Heap} {C c T : Addr}
theorem ok_drawsp (F : At K mg "draw_spans" (topS 16)) (O : OrdF K mg C) (B : Bl mg) (k13 : Kn P w K mg base "lower_sets" 5 ["order"] (spOrd T C S_lmasks)) (k15 : Kn P w K mg base "span_fault" 3 ["order"] (spOrd T C S_fault)) : Kn P w K mg base "draw_spans" 6 ["order"] (spOrd T C S_drawsp) := by
  refine kn16 F (spOrd_len fun n f ds R ⟨e, _⟩ => by rw [e]; rfl) fun fa cdv A outer s H vs Q E hr ⟨Fk, a, n, f, vs', ds, ev, g, o, hn, kd, ed, hR1, hR2⟩ => ?_
  subst ed ev
  cases kd
  refine jss_cons (js_setD 1 sc16.nd g (jd_fnO (Pd := fun z => (Chn n f ∧ z = .none) ∨ ∃ x b y d, Crs n f x b y d ∧ z = dTupN [x, b, y, d]) (Sub.refl _) k15 hr (fun H => rv_var 0 rfl) o hn jds_nil fun ds R e q => ⟨e, fun h => q _ (.inl ⟨h, rfl⟩), fun x b y d h => q _ (.inr ⟨x, b, y, d, h, rfl⟩)⟩) fun v1 z G1 J1 r1 g1 pz k1 => ?_)
  rcases pz with ⟨hch, rfl⟩ | ⟨x, b, y, d, hc, rfl⟩
  case inr =>
    refine jss_cons (js_ifT g1 ((jt_cp (jd_var 1 rfl k1) jd_none od_notN).is (d' := true) rfl) (fun G2 J2 r2 g2 _ => ?_) (fun G J r g p => by cases p))
    exact jss_one (js_retD g2 (jd_tup (P := Is (.tuple [.bool false, dTupN [x, b, y, d]])) (jds_is jd_bool (jds_is (jd_var 1 rfl (k1.up r2.fg)) jds_nil)) fun ds e => by subst e; exact ⟨by show 2 ≤ 100000; omega, rfl⟩) fun v z G J r3 ed kz => by subst ed; exact hR2 x b y d hc v G J ((r1.trans r2 g).trans r3 g) kz)
  refine jss_cons (js_ifT g1 ((jt_cp (jd_var 1 rfl k1) jd_none od_notN).is (d' := false) rfl) (fun G J r g p => by cases p) (fun G2 J2 r2 g2 _ => jss_nil ?_))
  have r2 := r1.trans r2 g
  refine jss_cons (js_setD 2 sc16.nd g2 (jd_fnO (Pd := fun z => ∃ ms : List Nat, ms.Perm (lmT n f n) ∧ ms.Pairwise (fun x y => bitsN n x ≤ bitsN n y) ∧ z = dInts (nats ms)) (Sub.refl _) k13 hr (fun H => rv_var 0 rfl) (o.up r2.fg) hn jds_nil fun ds R e q => ⟨e, fun ms h1 h2 => q _ ⟨ms, h1, h2, rfl⟩⟩) fun vm z G3 J3 r3 g3 pz km => ?_)
  obtain ⟨ms, hp, hsz, rfl⟩ := pz
  have hml : ms.length ≤ 40 := by have := hp.length_eq; have := lmT_len n f n; omega
  have r3 := r2.trans r3 g
  refine jss_cons (js_newO 3 sc16.nd g r3 fun p o0 hp0 => ?_)
  have hlN : ((nats ms).map PyData.int).length = ms.length := by unfold nats; simp only [List.length_map]
  refine jss_cons (js_for (ji_range (n := n) B.range (by omega) (jd_size O hr (fun H => rv_var 0 rfl) (o.up r3.fg))) (pg_name (i := 4) sc16.nd rfl (.inl rfl)) o0.gd
    (fun G0 i σ' H' => ∃ o4 o5 o6 G' sp, σ' = [some (.ref a), some v1, some vm, some (.ref p), o4, o5, o6] ∧ Ex G0 G' ∧ Ex G3 G' ∧ Own (Wt T qLam) Fk H p G' H' (sp.map prN) ∧ sp.length = i ∧ AllSp n f ms sp) (fun G0 i σ' H' ⟨_, _, _, G', _, _, e, _, w, _⟩ => e.trans w.gd.fh)
    (fun G J r g' => ⟨none, none, none, G, [], rfl, Ex.refl G, r.fg, o0.step g r, rfl, fun e p h => by simp at h⟩) ?_ ?_)
  · rintro G0 e x d σ' H' eF hd kx ⟨o4, o5, o6, G', sp, rfl, eG, eG3, w, hl, hA⟩
    obtain ⟨he, rfl⟩ := rngN_of hd
    cases kx
    have hmem : dnM n f e ∈ ms := hp.mem_iff.mpr (lmT_mem.mpr ⟨e, he, rfl⟩)
    have hidx := List.idxOf_lt_length_iff.mpr hmem
    refine jss_cons (js_setD 5 sc16.nd w.gd (jd_index (jd_var 2 rfl (km.up eG3)) (jd_dm O hr (fun H => rv_var 0 rfl) (o.up w.gr.fg) (jd_var 4 rfl (.int _)) he) hmem) fun v5 z G4 J4 r4 g4 pz k5 => ?_)
    subst pz
    cases k5
    refine jss_cons (js_setR 6 sc16.nd (rv_var 5 rfl) ?_)
    have w4 := w.step g r4
    have eG4 := eG3.trans r4.fg
    refine jss_mid (fun σ2 H2 => ∃ G5 r, σ2 = [some (.ref a), some v1, some vm, some (.ref p), some (.int (e : Int)), some (.int ((ms.idxOf (dnM n f e) : Nat) : Int)), some (.int ((r : Nat) : Int))] ∧ Ex G4 G5 ∧ Own (Wt T qLam) Fk H p G5 H2 (sp.map prN) ∧ SpOk n f ms e (ms.idxOf (dnM n f e), r)) (js_while (fun m σ2 H2 => ∃ G5 r, m = ms.length - r ∧ σ2 = [some (.ref a), some v1, some vm, some (.ref p), some (.int (e : Int)), some (.int ((ms.idxOf (dnM n f e) : Nat) : Int)), some (.int ((r : Nat) : Int))] ∧ Ex G4 G5 ∧ Own (Wt T qLam) Fk H p G5 H2 (sp.map prN) ∧ ms.idxOf (dnM n f e) ≤ r ∧ r < ms.length ∧ ∀ k, ms.idxOf (dnM n f e) < k → k ≤ r → ∀ m, ms[k]? = some m → m.testBit e = false) _ ⟨G4, ms.idxOf (dnM n f e), rfl, rfl, Ex.refl _, w4, Nat.le_refl _, hidx, fun k h1 h2 => by omega⟩ ?_) ?_
    · rintro m σ2 H2 ⟨G5, r, rfl, rfl, e45, w5, h1, h2, h3⟩
      have km5 := km.up (eG4.trans e45)
      refine JT.run (F := G5) (P := Is (decide (((r : Int) + 1) < (ms.length : Int)) && !(ms.getD (r + 1) 0).testBit e)) (JW.t (jw_andIs (jt_cp (jd_bin (jd_var 6 rfl (.int _)) jd_int od_add) ((jd_len B.len (jd_var 2 rfl km5)).is (by rw [hlN])) od_lt) (fun hm => jw_and1 ((jt_cp (jd_bin (jd_bin (jd_ix (k := r + 1) (jd_var 2 rfl km5) ((jd_bin (jd_var 6 rfl (.int _)) jd_int od_add).is (by congr 1)) (nats_at (by have := of_decide_eq_true hm; omega))) (jd_var 4 rfl (.int _)) (od_shr (by omega))) jd_int od_and) jd_int od_eqI).is (by
        show decide (Builtin.bitAnd ((((ms.getD (r + 1) 0 : Nat) : Int)) / 2 ^ e) 1 = 0) = _
        rw [shr_and]
        cases (ms.getD (r + 1) 0).testBit e <;> rfl))))) w5.gd fun k G6 J6 r6 pk => ?_
      have w6 := w5.step g r6
      cases k with
      | true =>
        rw [if_pos rfl]
        have pk := Eq.symm pk
        rw [Bool.and_eq_true] at pk
        obtain ⟨p1, p2⟩ := pk
        have p1 := of_decide_eq_true p1
        rw [Bool.not_eq_true'] at p2
        refine ⟨fun σ3 H3 => ∃ G5, σ3 = [some (.ref a), some v1, some vm, some (.ref p), some (.int (e : Int)), some (.int ((ms.idxOf (dnM n f e) : Nat) : Int)), some (.int ((r + 1 : Nat) : Int))] ∧ Ex G4 G5 ∧ Own (Wt T qLam) Fk H p G5 H3 (sp.map prN), fun σ3 H3 ⟨G7, e7, e8, w7⟩ => ⟨ms.length - (r + 1), by omega, G7, r + 1, rfl, e7, e8, w7, by omega, by omega, fun k k1 k2 m hm => ?_⟩, ?_⟩
        · by_cases hk : k = r + 1
          · subst hk
            rw [List.getD_eq_getElem?_getD, hm] at p2
            exact p2
          · exact h3 k k1 (by omega) m hm
        · exact jss_one (js_augR 6 sc16.nd rfl rv_int ⟨G6, rfl, e45.trans r6.fg, w6⟩)
      | false =>
        rw [if_neg Bool.false_ne_true] -- (Dw)
        have pk := Eq.symm pk
        refine ⟨G6, r, rfl, e45.trans r6.fg, w6, ⟨rfl, h1, h2, h3, fun m hm => ?_⟩⟩
        have hlt := (List.getElem?_eq_some_iff.mp hm).1
        rw [decide_eq_true (show (r : Int) + 1 < (ms.length : Int) by omega), Bool.true_and, Bool.not_eq_false', List.getD_eq_getElem?_getD, hm] at pk
        exact pk
    rintro σ2 H2 ⟨G5, r, rfl, e45, w5, hok⟩
    refine jss_one (js_appO (P := Is (prN (ms.idxOf (dnM n f e), r))) w5 g (rv_var 3 rfl) (by rw [List.length_map]; omega) (jd_tup (jds_is (jd_var 5 rfl (.int _)) (jds_is (jd_var 6 rfl (.int _)) jds_nil)) fun ds e => by subst e; exact ⟨by show 2 ≤ 100000; omega, rfl⟩) fun d G6 J6 pd e6 o6 => ?_)
    rw [show d = _ from pd] at o6
    refine ⟨_, _, _, G6, sp ++ [(ms.idxOf (dnM n f e), r)], rfl, eG.trans (r4.fg.trans (e45.trans e6)), eG4.trans (e45.trans e6), by rw [List.map_append]; exact o6, by rw [List.length_append, hl]; rfl, fun e' p' hp' => ?_⟩
    by_cases hlt : e' < sp.length
    · rw [List.getElem?_append_left hlt] at hp'
      exact hA e' p' hp'
    · rw [List.getElem?_append_right (by omega)] at hp'
      have : e' - sp.length = 0 := by
        have := (List.getElem?_eq_some_iff.mp hp').1
        rw [List.length_singleton] at this
        omega
      rw [this] at hp'
      cases hp'
      have ee : e' = e := by omega
      subst ee
      exact hok
  · rintro G0 σ' H' eF ⟨o4, o5, o6, G', sp, rfl, eG, eG3, w, hl, hA⟩
    rw [rngN_len] at hl
    obtain ⟨G4, e4, g4, r4, k4⟩ := w.known
    exact jss_one (js_retD g4 (jd_tup (P := Is (.tuple [.bool true, dSpT sp])) (jds_is jd_bool (jds_is (jd_tupOf B.tuple (jd_var 3 rfl k4)) jds_nil)) fun ds e => by subst e; exact ⟨by show 2 ≤ 100000; omega, rfl⟩) fun v z G J r5 ed kz => by subst ed; exact hR1 hch ms sp hp hsz hl hA v G J (r4.trans r5 g) kz)
end
end Dw
/-! match by strs; draw. -/
namespace Dw
open PySem PySem.Spec PyProof.Rows L2 -- (Dw)
def JM (X : Cx) (cs : List MatchCase) (u : V) (σ : St) (H : Hp) (D : Ends) : Prop := ∀ (first : Bool) (pins : List (Addr × Obj)) (s : Shared) (v : Value), RelV u v → Inv X pins σ H s → wpAny (model X.prog X.w) X.A (matchCases cs X.env v first) (SP X pins D) X.xe s
section
variable {X : Cx} {e : Expr} {σ : St} {H : Hp} {D : Ends} {cs : List MatchCase} {body : List Stmt} {x y : Str} {j : Option Str} {p1 p2 pos : Pos}
theorem jm_pat {Q : Option (List (Str × Value)) → Shared → Prop} {j} {pins : List (Addr × Obj)} {s : Shared} {v : Value} (rv : RelV (.str x) v) (I : Inv X pins σ H s) (h : ∀ s', Inv X pins σ H s' → if x = y then Q (some []) s' else Q none s') : wpAny (model X.prog X.w) X.A (matchPattern (.MatchValue (.Constant (.str y) j p1) p2) X.env v) Q X.xe s := by
  refine wpAny_matchPattern_Value (thn (pe_str.run pins s σ H (fun z J => z = .str y ∧ J = H) I ⟨rfl, rfl⟩) fun u s1 ⟨z, J, I1, r1, e1, e2⟩ => ?_)
  subst e1 e2
  refine thn (op_eq pins s1 σ J (.str x) (.str y) v u (fun z J2 => z = .bl (decide (V.str x = V.str y)) ∧ J2 = J) I1 rv r1 ⟨rfl, rfl, rfl⟩) fun c s2 ⟨z, J2, I2, r2, e1, e2⟩ => ?_
  subst e1 e2
  cases r2
  refine wpAny_truthy_bool ?_
  have := h s2 I2
  by_cases exy : x = y
  · subst exy
    rw [if_pos rfl] at this
    rw [decide_eq_true rfl]
    exact this
  · rw [if_neg exy] at this
    rw [vstr_ne2 exy]
    exact this
where vstr_ne2 {a b : Str} (h : a ≠ b) : decide (V.str a = V.str b) = false := decide_eq_false fun e => h (by injection e)
theorem jm_no {j} (hne : x ≠ y) (h : JM X cs (.str x) σ H D) : JM X (⟨.MatchValue (.Constant (.str y) j p1) p2, none, body⟩ :: cs) (.str x) σ H D := fun first pins s v rv I =>
  wpAny_matchCases_cons (jm_pat rv I fun s' I' => by rw [if_neg hne]; exact h false pins s' v rv I')
theorem jm_yes {j} (h : JSs X body σ H D) : JM X (⟨.MatchValue (.Constant (.str x) j p1) p2, none, body⟩ :: cs) (.str x) σ H D := fun first pins s v rv I =>
  wpAny_matchCases_cons (jm_pat rv I fun s' I' => by rw [if_pos rfl]; exact wpAny_pure (h pins s' I'))
theorem js_match (he : RV X e σ H (.str x)) (h : JM X cs (.str x) σ H D) : JS X (.Match e cs pos) σ H D := fun pins s I =>
  wpAny_Match (thn (he (fun z J => z = .str x ∧ J = H) ⟨rfl, rfl⟩ pins s I) fun u s1 ⟨z, J, I1, r1, e1, e2⟩ => by
    subst e1 e2
    exact h true pins s1 u r1 I1)
end
def S_draw2 (n : Nat) (f : Nat → Nat → Bool) (ds : List PyData) (R : PyData → Prop) : Prop := ds = [.str "spans"] ∧ S_drawsp n f [] R
section
variable {P : Program} {w : World} {K : PySem.W.Frag} {mg : Str → Option Value} {base : Heap} {C c T : Addr}
theorem ok_draw2 (F : At K mg "draw" (topS 56)) (k16 : Kn P w K mg base "draw_spans" 6 ["order"] (spOrd T C S_drawsp)) : Kn P w K mg base "draw" 7 ["order", "kind"] (spOrd T C S_draw2) := by
  refine kn56 F (spOrd_len fun n f ds R ⟨e, _⟩ => by rw [e]; rfl) fun fa cdv A outer s H vs Q E hr ⟨Fk, a, n, f, vs', ds, ev, g, o, hn, kd, ed, hS⟩ => ?_
  subst ed ev
  obtain ⟨v, rfl, k1⟩ := dq1 kd
  cases k1
  refine jss_cons (js_match (rv_var 1 rfl) (jm_no (by decide +kernel) (jm_no (by decide +kernel) (jm_no (by decide +kernel) (jm_no (by decide +kernel) (jm_yes ?_))))))
  exact jss_one (js_retD g (jd_fnO (Pd := fun z => ∀ R, S_drawsp n f [] R → R z) (Sub.refl _) k16 hr (fun H => rv_var 0 rfl) o hn jds_nil fun ds R e q => by
    have e : ds = [] := e
    subst e
    exact ⟨rfl, fun h ms sp h1 h2 h3 h4 => q _ fun R' hR' => hR'.2.1 h ms sp h1 h2 h3 h4, fun x b y d h => q _ fun R' hR' => hR'.2.2 x b y d h⟩) fun z d G J r pd kz => pd _ hS z G J r kz)
end
end Dw
/-! Plain: the chain of the lower sets, the spans, the bars. -/
namespace Dw
theorem tb_dn {n : Nat} {f : Nat → Nat → Bool} {e k : Nat} (h : k < n) : (dnM n f e).testBit k = f k e := by
  unfold dnM; rw [tb_mk, decide_eq_true h, Bool.true_and]
theorem lmT_nd (n : Nat) (f : Nat → Nat → Bool) : ∀ k, (lmT n f k).Nodup
  | 0 => List.nodup_nil
  | k + 1 => by
    have ih := lmT_nd n f k
    unfold lmT
    split
    · exact ih
    · rename_i h
      rw [List.nodup_append]
      refine ⟨ih, by simp, fun a ha b hb => ?_⟩
      rw [List.mem_singleton] at hb
      subst hb
      exact fun e => h (e ▸ ha)
theorem dn_congr {n : Nat} {f g : Nat → Nat → Bool} (h : ∀ i j, i < n → j < n → f i j = g i j) {e : Nat} (he : e < n) : dnM n f e = dnM n g e := mk_congr fun k hk => h k e hk he
/-- a mask within another, with no fewer bits -/
theorem dn_eq {n : Nat} {f : Nat → Nat → Bool} {b d : Nat} (h : subL n f b d) (hb : bitsN n (dnM n f d) ≤ bitsN n (dnM n f b)) : dnM n f b = dnM n f d := by
  refine mk_congr fun k hk => ?_
  cases e1 : f k b with
  | true => exact (h k hk e1).symm
  | false =>
    cases e2 : f k d with
    | false => rfl
    | true =>
      exfalso
      have : bitsN n (dnM n f b) < bitsN n (dnM n f d) := by
        unfold bitsN
        refine filter_lt (fun x hx hxb => ?_) ⟨k, List.mem_range.mpr hk, ?_, ?_⟩
        · rw [tb_dn (List.mem_range.mp hx)] at hxb ⊢
          exact h x (List.mem_range.mp hx) hxb
        · rw [tb_dn hk]; exact e2
        · rw [tb_dn hk]; exact e1
      omega
/-- the masks in their order are a chain -/
structure Ch (n : Nat) (f : Nat → Nat → Bool) (ms : List Nat) : Prop where
  perm : ms.Perm (lmT n f n)
  up : ∀ (i j : Nat) a b, ms[i]? = some a → ms[j]? = some b → i < j → (∀ k, k < n → a.testBit k = true → b.testBit k = true) ∧ bitsN n a < bitsN n b
theorem ch_of {n : Nat} {f : Nat → Nat → Bool} {ms : List Nat} (hp : ms.Perm (lmT n f n)) (hs : ms.Pairwise fun x y => bitsN n x ≤ bitsN n y) (hc : Chn n f) : Ch n f ms := by
  have hnd : ms.Nodup := hp.symm.nodup (lmT_nd n f n)
  refine ⟨hp, fun i j a b ha hb hij => ?_⟩
  obtain ⟨hi, ea⟩ := List.getElem?_eq_some_iff.mp ha
  obtain ⟨hj, eb⟩ := List.getElem?_eq_some_iff.mp hb
  obtain ⟨x, hx, ex⟩ := lmT_mem.mp (hp.mem_iff.mp (List.mem_of_getElem? ha))
  obtain ⟨y, hy, ey⟩ := lmT_mem.mp (hp.mem_iff.mp (List.mem_of_getElem? hb))
  have hle : bitsN n a ≤ bitsN n b := by
    have := List.pairwise_iff_getElem.mp hs i j hi hj hij
    rw [ea, eb] at this; exact this
  have hne : a ≠ b := fun e => by
    have : i = j := (List.getElem_inj hnd).mp (by rw [ea, eb, e])
    omega
  have hsub : subL n f x y := by
    have hor : subL n f x y ∨ subL n f y x := by
      rcases Nat.lt_trichotomy x y with h | h | h
      · exact (hc y x hy h).symm
      · subst h; exact .inl fun k _ h => h
      · exact hc x y hx h
    rcases hor with h | h
    · exact h
    · exact absurd (by rw [ex, ey]; exact (dn_eq h (by rw [← ex, ← ey]; exact hle)).symm) hne
  refine ⟨fun k hk h => ?_, ?_⟩
  · rw [ex, tb_dn hk] at h
    rw [ey, tb_dn hk]
    exact hsub k hk h
  · rcases Nat.lt_or_ge (bitsN n a) (bitsN n b) with h | h
    · exact h
    · exact absurd (by rw [ex, ey]; exact dn_eq hsub (by rw [← ex, ← ey]; exact h)) hne
section
variable {n : Nat} {f : Nat → Nat → Bool} {ms : List Nat}
theorem ch_idx (C : Ch n f ms) {e : Nat} (he : e < n) : ms[ms.idxOf (dnM n f e)]? = some (dnM n f e) := by
  have hm : dnM n f e ∈ ms := C.perm.mem_iff.mpr (lmT_mem.mpr ⟨e, he, rfl⟩)
  have h := List.idxOf_lt_length_iff.mpr hm
  rw [List.getElem?_eq_getElem h, List.getElem_idxOf h]
/-- e is in the masks behind its right end, and only there -/
theorem ch_bit (C : Ch n f ms) (O : Ord n f) {e : Nat} (he : e < n) {p : Nat × Nat} (S : SpOk n f ms e p) {i m : Nat} (hm : ms[i]? = some m) : m.testBit e = decide (p.2 < i) := by
  have hl := ch_idx C he
  rw [← S.at_] at hl
  have he0 : (dnM n f e).testBit e = false := by rw [tb_dn he]; exact O.irr e he
  have hil := (List.getElem?_eq_some_iff.mp hm).1
  by_cases h : p.2 < i
  · rw [decide_eq_true h]
    have h1 : p.2 + 1 < ms.length := by omega
    have hs := S.stop _ (List.getElem?_eq_getElem h1)
    by_cases e2 : i = p.2 + 1
    · subst e2
      rw [List.getElem?_eq_getElem h1] at hm
      cases hm
      exact hs
    · exact (C.up (p.2 + 1) i _ m (List.getElem?_eq_getElem h1) hm (by omega)).1 e he hs
  · rw [decide_eq_false h]
    by_cases h2 : p.1 < i
    · exact S.out i h2 (by omega) m hm
    · by_cases e2 : i = p.1
      · subst e2
        rw [hl] at hm
        cases hm
        exact he0
      · cases em : m.testBit e with
        | false => rfl
        | true =>
          have := (C.up i p.1 m _ hm hl (by omega)).1 e he em
          rw [he0] at this
          cases this
theorem ch_sp (C : Ch n f ms) (O : Ord n f) {i j : Nat} (hi : i < n) (hj : j < n) {p q : Nat × Nat} (Si : SpOk n f ms i p) (Sj : SpOk n f ms j q) : decide (p.2 < q.1) = f i j := by
  have hl := ch_idx C hj
  rw [← Sj.at_] at hl
  rw [← ch_bit C O hi Si hl, tb_dn hi]
theorem count_lt {q : Nat → Bool} : ∀ {l : List Nat} {k : Nat}, k ≤ l.length → (∀ (i m : Nat), l[i]? = some m → q m = decide (i < k)) → (l.filter q).length = k
  | [], k, h, _ => by simp at h; subst h; rfl
  | a :: l, 0, _, h => by
    have h0 : ∀ x ∈ a :: l, ¬ q x = true := fun x hx hq => by
      obtain ⟨i, hi⟩ := List.mem_iff_getElem?.mp hx -- (Dw)
      have := h i x hi
      rw [hq] at this
      simp at this
    rw [List.filter_eq_nil_iff.mpr h0]; rfl
  | a :: l, k + 1, hk, h => by
    have ha := h 0 a rfl
    rw [decide_eq_true (Nat.succ_pos k)] at ha
    rw [List.filter_cons, if_pos ha, List.length_cons, count_lt (l := l) (k := k) (by simpa using hk) fun i m hm => by
      rw [h (i + 1) m (by simpa using hm), decide_eq_decide]
      omega]
/-- the law's lists are these masks -/
def code (n : Nat) (l : List Nat) : Nat := mk (fun i => decide (i ∈ l)) n
theorem code_low (n : Nat) (f : Nat → Nat → Bool) (e : Nat) : code n (lowerL n f e) = dnM n f e := by
  unfold code dnM
  refine mk_congr fun i hi => ?_
  unfold lowerL
  rw [Bool.eq_iff_iff, decide_eq_true_eq, List.mem_filter, List.mem_range]
  exact ⟨fun h => h.2, fun h => ⟨hi, h⟩⟩
theorem low_inj {n : Nat} {f : Nat → Nat → Bool} {e d : Nat} (h : dnM n f e = dnM n f d) : lowerL n f e = lowerL n f d := by
  unfold lowerL
  exact List.filter_congr fun i hi => mk_inj h (List.mem_range.mp hi)
theorem lsets_mem {n : Nat} {f : Nat → Nat → Bool} {l : List Nat} : ∀ {k : Nat}, l ∈ lsetsTo n f k → ∃ e, e < k ∧ l = lowerL n f e
  | 0, h => by simp [lsetsTo] at h
  | k + 1, h => by
    rw [lsetsTo_succ] at h
    unfold addNew at h
    split at h
    · obtain ⟨e, h1, h2⟩ := lsets_mem h; exact ⟨e, by omega, h2⟩
    · rcases List.mem_append.mp h with h | h -- (Dw)
      · obtain ⟨e, h1, h2⟩ := lsets_mem h; exact ⟨e, by omega, h2⟩
      · exact ⟨k, Nat.lt_succ_self k, List.mem_singleton.mp h⟩
theorem lsets_code (n : Nat) (f : Nat → Nat → Bool) : ∀ k, (lsetsTo n f k).map (code n) = lmT n f k
  | 0 => rfl
  | k + 1 => by
    have ih := lsets_code n f k
    rw [lsetsTo_succ]
    unfold addNew lmT
    by_cases h : lowerL n f k ∈ lsetsTo n f k
    · have h2 : dnM n f k ∈ lmT n f k := by rw [← ih, ← code_low]; exact List.mem_map.mpr ⟨_, h, rfl⟩
      rw [if_pos h, if_pos h2]; exact ih
    · have h2 : dnM n f k ∉ lmT n f k := fun h2 => by
        rw [← ih] at h2
        obtain ⟨l, hl, e⟩ := List.mem_map.mp h2
        obtain ⟨d, _, rfl⟩ := lsets_mem hl
        rw [code_low] at e
        exact h (low_inj e ▸ hl)
      rw [if_neg h, if_neg h2, List.map_append, ih]
      show _ ++ [code n (lowerL n f k)] = _
      rw [code_low]
theorem lsets_len (n : Nat) (f : Nat → Nat → Bool) : (lsetsTo n f n).length = (lmT n f n).length := by rw [← lsets_code, List.length_map]
theorem low_len (n : Nat) (f : Nat → Nat → Bool) (e : Nat) : (lowerL n f e).length = bitsN n (dnM n f e) := by
  unfold lowerL bitsN
  congr 1
  exact List.filter_congr fun i hi => by rw [tb_dn (List.mem_range.mp hi)]
theorem low_mem {n : Nat} {f : Nat → Nat → Bool} {e k : Nat} : k ∈ lowerL n f e ↔ k < n ∧ f k e = true := by
  unfold lowerL; rw [List.mem_filter, List.mem_range]
/-- counting among the lists is counting among the masks -/
theorem count_code {n : Nat} {f : Nat → Nat → Bool} {ms : List Nat} (hp : ms.Perm (lmT n f n)) {p : List Nat → Bool} {q : Nat → Bool} (h : ∀ e, e < n → p (lowerL n f e) = q (dnM n f e)) : ((lsetsTo n f n).filter p).length = (ms.filter q).length := by
  rw [(hp.filter q).length_eq, ← lsets_code, List.filter_map, List.length_map]
  congr 1
  refine List.filter_congr fun l hl => ?_
  obtain ⟨e, he, rfl⟩ := lsets_mem hl
  show p _ = q (code n (lowerL n f e))
  rw [code_low]
  exact h e he
theorem out_eq (C : Ch n f ms) (O : Ord n f) {e : Nat} (he : e < n) {p : Nat × Nat} (S : SpOk n f ms e p) : outOf n f e = p.2 + 1 := by
  unfold outOf
  rw [count_code C.perm (q := fun m => !m.testBit e) fun d hd => by
    rw [tb_dn he]
    congr 1
    rw [Bool.eq_iff_iff, decide_eq_true_eq, low_mem]
    exact ⟨fun h => h.2, fun h => ⟨he, h⟩⟩]
  refine count_lt S.lt fun i m hm => ?_
  rw [ch_bit C O he S hm, Bool.eq_iff_iff, Bool.not_eq_true', decide_eq_false_iff_not, decide_eq_true_eq]
  omega
theorem left_eq (C : Ch n f ms) {e : Nat} (he : e < n) {p : Nat × Nat} (S : SpOk n f ms e p) : leftOf n f e = p.1 := by
  unfold leftOf
  rw [count_code C.perm (q := fun m => decide (bitsN n m < bitsN n (dnM n f e)) && (List.range n).all fun k => !m.testBit k || (dnM n f e).testBit k) fun d hd => by
    rw [low_len, low_len]
    congr 1
    rw [Bool.eq_iff_iff, List.all_eq_true, List.all_eq_true] -- (Dw)
    constructor
    · intro h k hk
      have hk := List.mem_range.mp hk
      rw [tb_dn hk, tb_dn hk]
      cases e1 : f k d with
      | false => rfl
      | true =>
        have := of_decide_eq_true (h k (low_mem.mpr ⟨hk, e1⟩))
        rw [(low_mem.mp this).2]; rfl
    · intro h k hk
      obtain ⟨h1, h2⟩ := low_mem.mp hk
      have := h k (List.mem_range.mpr h1)
      rw [tb_dn h1, tb_dn h1, h2] at this
      exact decide_eq_true (low_mem.mpr ⟨h1, by simpa using this⟩)]
  have hl := ch_idx C he
  rw [← S.at_] at hl
  refine count_lt (Nat.le_trans S.le (Nat.le_of_lt S.lt)) fun i m hm => ?_
  by_cases h : i < p.1
  · obtain ⟨h1, h2⟩ := C.up i p.1 m _ hm hl h
    rw [decide_eq_true h, decide_eq_true h2, Bool.true_and, List.all_eq_true]
    intro k hk
    cases e1 : m.testBit k with
    | false => rfl
    | true => rw [h1 k (List.mem_range.mp hk) e1]; rfl
  · have : ¬ bitsN n m < bitsN n (dnM n f e) := by
      by_cases e2 : i = p.1
      · subst e2
        rw [hl] at hm
        cases hm
        omega
      · have := (C.up p.1 i _ m hl hm (by omega)).2
        omega
    rw [decide_eq_false h, decide_eq_false this, Bool.false_and]
end
end Dw
/-! Plain: what the law asks of the answers. -/
namespace Dw
open PySem PySem.Spec
theorem sp_at {sp : List (Nat × Nat)} {i : Nat} (h : i < sp.length) : sp[i]? = some (sp.getD i (0, 0)) := by
  rw [List.getD_eq_getElem?_getD, List.getElem?_eq_getElem h]; rfl -- (Dw)
section
variable {n : Nat} {f : Nat → Nat → Bool} {ms : List Nat} {sp : List (Nat × Nat)}
theorem spans_le (hA : AllSp n f ms sp) : ∀ p ∈ sp, p.1 ≤ p.2 := fun p hp => by
  obtain ⟨i, hi⟩ := List.mem_iff_getElem?.mp hp
  exact (hA i p hi).le
theorem spans_rel (C : Ch n f ms) (O : Ord n f) (hl : sp.length = n) (hA : AllSp n f ms sp) : ∀ i j, i < n → j < n → spG sp i j = f i j := fun i j hi hj =>
  ch_sp C O hi hj (hA i _ (sp_at (by omega))) (hA j _ (sp_at (by omega)))
theorem spans_law (C : Ch n f ms) (O : Ord n f) (hl : sp.length = n) (hA : AllSp n f ms sp) : PyData.tuple ((List.range n).map fun e => dSp (leftOf n f e) ((outOf n f e : Int) - 1)) = dSpT sp := by
  unfold dSpT
  congr 1
  apply List.ext_getElem?
  intro i
  by_cases hi : i < n
  · have hs := hA i _ (sp_at (by omega))
    rw [List.getElem?_map, List.getElem?_map, List.getElem?_range hi, sp_at (by omega)]
    show some (dSp (leftOf n f i) ((outOf n f i : Int) - 1)) = some (prN (sp.getD i (0, 0)))
    rw [left_eq C hi hs, out_eq C O hi hs]
    unfold dSp prN
    congr 5
    omega
  · rw [List.getElem?_eq_none (by rw [List.length_map, List.length_range]; omega), List.getElem?_eq_none (by rw [List.length_map]; omega)]
theorem spans_lt (C : Ch n f ms) (hn : n ≤ 40) (hA : AllSp n f ms sp) : ∀ p ∈ sp, p.1 < 40 ∧ p.2 < 40 := fun p hp => by
  obtain ⟨i, hi⟩ := List.mem_iff_getElem?.mp hp
  have h := hA i p hi
  have h1 := h.lt
  have h2 := h.le
  have h3 := C.perm.length_eq
  have h4 := lmT_len n f n
  omega
end
section
variable {n : Nat} {f : Nat → Nat → Bool} {a b c d : Nat}
theorem crs_no (h : Crs n f a b c d) : ¬ Chn n f := fun hc => by
  rcases Nat.lt_trichotomy b d with z | z | z
  · rcases hc d b h.ld z with k | k
    · have := k c h.lc h.cd
      rw [h.cb] at this; cases this
    · have := k a h.la h.ab
      rw [h.ad] at this; cases this
  · subst z
    have := h.ab
    rw [h.ad] at this; cases this
  · rcases hc b d h.lb z with k | k
    · have := k a h.la h.ab
      rw [h.ad] at this; cases this
    · have := k c h.lc h.cd
      rw [h.cb] at this; cases this
theorem ap_t {x y : Nat} (h1 : x ≠ y) (h2 : f x y = false) (h3 : f y x = false) : apB f x y = true := by
  unfold apB
  rw [h2, h3, decide_eq_false (fun e => h1 (by omega))]
  rfl
theorem crs_bar (O : Ord n f) (h : Crs n f a b c d) : barB f a b c d = true := by
  obtain ⟨la, lb, lc, ld, ab, ad, cd, cb⟩ := h
  have no : ∀ {x y : Nat}, f x y = true → f x y = false → False := fun h1 h2 => by rw [h1] at h2; cases h2
  have fl : ∀ {x y : Nat}, (f x y = true → False) → f x y = false := fun {x y} k => by
    cases e : f x y with
    | false => rfl
    | true => exact (k e).elim
  have nab : a ≠ b := fun e => no (e ▸ ab : f b b = true) (O.irr b lb)
  have nac : a ≠ c := fun e => no ab (e ▸ cb)
  have ncd : c ≠ d := fun e => no (e ▸ cd : f d d = true) (O.irr d ld)
  have nad : a ≠ d := fun e => no (O.tr c d b lc ld lb cd (e ▸ ab)) cb
  have nbc : b ≠ c := fun e => no (O.tr a b d la lb ld ab (by rw [e]; exact cd)) ad
  have nbd : b ≠ d := fun e => no ab (e ▸ ad)
  unfold barB
  rw [Bool.and_eq_true]
  constructor
  · unfold nodB
    rw [List.all_eq_true]
    intro k hk
    have hk := List.mem_range.mp hk
    rw [Bool.not_eq_true', decide_eq_false_iff_not]
    match k, hk with
    | 0, _ => simp
    | 1, _ => simp [nats]; omega
    | 2, _ => simp [nats]; omega
    | 3, _ => simp [nats]; omega
  · unfold twoB
    rw [ab, cd]
    simp only [List.all_cons, List.all_nil, Bool.and_true, Bool.true_and]
    rw [ap_t nac (fl fun h => no (O.tr a c d la lc ld h cd) ad) (fl fun h => no (O.tr c a b lc la lb h ab) cb), ap_t nad ad (fl fun h => no (O.tr c d b lc ld lb cd (O.tr d a b ld la lb h ab)) cb),
      ap_t nbc (fl fun h => no (O.tr a b d la lb ld ab (O.tr b c d lb lc ld h cd)) ad) cb, ap_t nbd (fl fun h => no (O.tr a b d la lb ld ab h) ad) (fl fun h => no (O.tr c d b lc ld lb cd h) cb)]
    rfl
theorem bar_no (la : a < n) (lb : b < n) (lc : c < n) (ld : d < n) (h : barB f a b c d = true) : ¬ Chn n f := by
  unfold barB twoB at h
  simp only [Bool.and_eq_true, List.all_cons, List.all_nil, Bool.and_true] at h
  obtain ⟨_, ab, cd, _, ad, bc, _⟩ := h
  unfold apB at ad bc
  simp only [Bool.and_eq_true, Bool.not_eq_true'] at ad bc
  exact crs_no ⟨la, lb, lc, ld, ab, ad.2.1, cd, bc.2.2⟩
theorem has_iff (O : Ord n f) (hc : Chn n f ∨ ∃ a b c d, Crs n f a b c d) : hasB n f ↔ ¬ Chn n f := by
  constructor
  · rintro ⟨a, b, c, d, la, lb, lc, ld, h⟩
    exact bar_no la lb lc ld h
  · intro h
    rcases hc with hc | ⟨a, b, c, d, hc⟩
    · exact absurd hc h
    · exact ⟨a, b, c, d, hc.la, hc.lb, hc.lc, hc.ld, crs_bar O hc⟩
end
/-- drawn spans make a chain -/
theorem chn_spans {sp : List (Nat × Nat)} (hs : ∀ p ∈ sp, p.1 ≤ p.2) : Chn sp.length (wsh (relP sp.length (spG sp)) sp.length) := fun b d hb hd => by
  have e : ∀ i j, i < sp.length → j < sp.length → wsh (relP sp.length (spG sp)) sp.length i j = spG sp i j := fun i j hi hj => wsh_rel (g := spG sp) (fun i m j _ hm _ => spG_tr hs hm) hi hj
  have hdl : d < sp.length := by omega
  rcases Nat.le_total (sp.getD b (0, 0)).1 (sp.getD d (0, 0)).1 with h | h
  · refine .inl fun k hk hx => ?_
    rw [e k b hk hb] at hx
    rw [e k d hk hdl]
    have hx : (sp.getD k (0, 0)).2 < (sp.getD b (0, 0)).1 := of_decide_eq_true hx
    exact decide_eq_true (Nat.lt_of_lt_of_le hx h)
  · refine .inr fun k hk hx => ?_
    rw [e k d hk hdl] at hx
    rw [e k b hk hb]
    have hx : (sp.getD k (0, 0)).2 < (sp.getD d (0, 0)).1 := of_decide_eq_true hx
    exact decide_eq_true (Nat.lt_of_lt_of_le hx h)
/-! ### the answers can be shown -/
def numOk (k : Nat) : Bool := PyData.showable (.int (k : Int)) && PyData.intsShort 13 (.int (k : Int)) && decide (PyData.weight (.int (k : Int)) ≤ 6)
theorem num_ok : ∀ k, k < 40 → numOk k = true := by decide +kernel
structure Sm (d : PyData) (w : Nat) : Prop where
  lay : d.canLay0 = true
  show_ : d.showable = true
  short : d.intsShort 13 = true
  wt : d.weight ≤ w
theorem sm_pr {p : Nat × Nat} (h : p.1 < 40 ∧ p.2 < 40) : Sm (prN p) 14 := by
  have h1 := num_ok _ h.1
  have h2 := num_ok _ h.2
  unfold numOk at h1 h2
  simp only [Bool.and_eq_true, decide_eq_true_eq] at h1 h2
  unfold prN
  refine ⟨by simp [PyData.canLay0, PyData.canLayAll0], ?_, ?_, ?_⟩
  · simp only [PyData.showable, PyData.showableAll, Bool.and_eq_true] at h1 h2 ⊢
    exact ⟨h1.1.1, h2.1.1, trivial⟩
  · show PyData.intsShortAll 13 _ = true
    simp only [PyData.intsShortAll, Bool.and_eq_true] -- (Dw)
    exact ⟨h1.1.2, h2.1.2, trivial⟩
  · show PyData.weightAll _ ≤ 14
    simp only [PyData.weightAll]
    omega
theorem sm_all {sp : List (Nat × Nat)} (h : ∀ p ∈ sp, p.1 < 40 ∧ p.2 < 40) : PyData.canLayAll0 (sp.map prN) = true ∧ PyData.showableAll (sp.map prN) = true ∧ PyData.intsShortAll 13 (sp.map prN) = true ∧ PyData.weightAll (sp.map prN) ≤ 15 * sp.length ∧ PyData.depthAll (sp.map prN) ≤ 1 := by
  induction sp with
  | nil => refine ⟨rfl, rfl, rfl, by show PyData.weightAll [] ≤ _; simp [PyData.weightAll], by show PyData.depthAll [] ≤ _; simp [PyData.depthAll]⟩
  | cons p sp ih =>
    obtain ⟨i1, i2, i3, i4, i5⟩ := ih fun q hq => h q (List.mem_cons_of_mem _ hq)
    obtain ⟨s1, s2, s3, s4⟩ := sm_pr (h p List.mem_cons_self)
    have hd : (prN p).depth = 1 := by unfold prN; simp [PyData.depth, PyData.depthAll]
    rw [List.map_cons]
    refine ⟨by simp only [PyData.canLayAll0, s1, i1, Bool.and_self], by simp only [PyData.showableAll, s2, i2, Bool.and_self], by simp only [PyData.intsShortAll, s3, i3, Bool.and_self], ?_, ?_⟩
    · simp only [PyData.weightAll, List.length_cons]; omega
    · simp only [PyData.depthAll, hd]; omega
theorem sm_sp {sp : List (Nat × Nat)} (hl : sp.length ≤ 40) (h : ∀ p ∈ sp, p.1 < 40 ∧ p.2 < 40) : PyData.layable0 (dSpT sp) = true ∧ (dSpT sp).showable = true ∧ (dSpT sp).intsShort 13 = true := by
  obtain ⟨i1, i2, i3, i4, i5⟩ := sm_all h
  refine ⟨?_, ?_, ?_⟩
  · show (PyData.canLay0 (dSpT sp) && decide (PyData.depth (dSpT sp) ≤ 64) && decide (PyData.weight (dSpT sp) ≤ 2 ^ 20)) = true
    unfold dSpT
    simp only [PyData.canLay0, PyData.depth, PyData.weight, i1, Bool.true_and, Bool.and_eq_true, decide_eq_true_eq]
    exact ⟨decide_eq_true (by omega), decide_eq_true (by omega)⟩
  · unfold dSpT; simp only [PyData.showable]; exact i2
  · unfold dSpT; show PyData.intsShortAll 13 _ = true; exact i3
theorem sm_ans {sp : List (Nat × Nat)} (hl : sp.length ≤ 40) (h : ∀ p ∈ sp, p.1 < 40 ∧ p.2 < 40) : PyData.layable0 (.tuple [.bool true, dSpT sp]) = true ∧ (PyData.tuple [.bool true, dSpT sp]).showable = true ∧ (PyData.tuple [.bool true, dSpT sp]).intsShort 13 = true := by
  obtain ⟨i1, i2, i3, i4, i5⟩ := sm_all h
  refine ⟨?_, ?_, ?_⟩
  · show (PyData.canLay0 (.tuple [.bool true, dSpT sp]) && decide (PyData.depth (.tuple [.bool true, dSpT sp]) ≤ 64) && decide (PyData.weight (.tuple [.bool true, dSpT sp]) ≤ 2 ^ 20)) = true
    unfold dSpT
    simp only [PyData.canLay0, PyData.canLayAll0, PyData.depth, PyData.depthAll, PyData.weight, PyData.weightAll, i1, Bool.true_and, Bool.and_true, Bool.and_eq_true, decide_eq_true_eq]
    exact ⟨decide_eq_true (by omega), decide_eq_true (by omega)⟩
  · unfold dSpT; simp only [PyData.showable, PyData.showableAll, i2, Bool.and_self]
  · unfold dSpT; show (PyData.intsShortAll 13 [_, _]) = true; simp only [PyData.intsShortAll, PyData.intsShort, i3, Bool.and_self]
end Dw
/-! repr; the world of the law; making an Order. -/
namespace Dw
open PySem PySem.Spec PyProof.Rows L2 -- (Dw)
def Wl (t T : Addr) : Wo := ⟨fun a => a = t ∨ a = T, fun H => StrAt H t ∧ LamX.TabS H T qLam, fun {H a} h m => m.elim (fun e => (Ws t).there h.1 e) (fun e => (Wt T qLam).there h.2 e), fun e h => ⟨(Ws t).mono e h.1, h.2.ext e⟩,
  fun {H p xs ys} n hp h => ⟨(Ws t).lst (fun e => n (.inl e)) hp h.1, (Wt T qLam).lst (fun e => n (.inr e)) hp h.2⟩, fun {H p C dx fs gs} n hp h => ⟨(Ws t).ins (fun e => n (.inl e)) hp h.1, (Wt T qLam).ins (fun e => n (.inr e)) hp h.2⟩⟩
theorem subS (t T : Addr) : Sub (Ws t) (Wl t T) := ⟨fun a h => .inl h, fun h => h.1, fun {H J} h hJ k => ⟨hJ, by
  obtain ⟨⟨b, c, d, hs⟩, ps, hT, ht, hc⟩ := h
  refine ⟨ps, k T _ (fun e => by rw [show T = t from e, hs] at hT; cases hT) hT, ht, fun pos cv hv => ?_⟩
  obtain ⟨c0, e1, e2⟩ := hc pos cv hv
  exact ⟨c0, e1, k c0 _ (fun e => by rw [show c0 = t from e, hs] at e2; unfold LamX.CodeO at e2; cases e2) e2⟩⟩⟩
theorem subT (t T : Addr) : Sub (Wt T qLam) (Wl t T) := ⟨fun a h => .inr h, fun h => h.2, fun {H J} h hJ k => ⟨by
  obtain ⟨⟨b, c, d, hs⟩, ps, hT, _⟩ := h
  exact ⟨b, c, d, k t _ (fun e => by rw [← show t = T from e, hs] at hT; cases hT) hs⟩, hJ⟩⟩
theorem Own.lift {V W : Wo} {F H G J : Hp} {p : Addr} {ds : List PyData} (s : Sub V W) (g : Good W F H) (o : Own V F H p G J ds) : Own W F H p G J ds := ⟨o.gr.sub s g, (o.gr.sub s g).good g, o.h0, g.nom o.h0, o.ex⟩
theorem OrdAt.cast {C : Addr} {F : Hp} {a : Addr} {n : Nat} {f g : Nat → Nat → Bool} (o : OrdAt C F a n f) (h : ∀ i j, i < n → j < n → f i j = g i j) : OrdAt C F a n g := by
  obtain ⟨dx, v1, v2, v3, e, k1, k2⟩ := o
  exact ⟨dx, v1, v2, v3, e, by rw [← msk_congr h]; exact k1, by rw [← msk_congr fun i j hi hj => h j i hj hi]; exact k2⟩
section
variable {W : Wo} {X : Cx} {a b e : Expr} {es : List Expr} {σ : St} {F H : Hp} {pos p : Pos} {C : Addr} {k : Nat} {Q : VK}
/-- Order(n, pairs) -/
theorem je_mkO {Ps : List PyData → Prop} (M : C8.Mak X.prog X.w X.K X.mg X.base 3 "Order" C (spIni C) []) (hr : Room k X.A) (hk : 4 ≤ k) (g : Good W F H) (ha : JDs W X (e :: es) σ F Ps)
    (h : ∀ ds G J, Gr W F H G J → Good W G J → Ps ds → ∃ (n : Nat) (ps : List (Nat × Nat)), ds = [.int (n : Int), dPN ps] ∧ n ≤ 40 ∧ Vd n ps ∧ ps.length ≤ 4000 ∧ ∀ x G' J', Gr W G J G' J' → OrdAt C G' x n (wsh ps n) → Q (.ref x) J')
    (hg : Gl X "Order" := by rfl) (he : starEach (e :: es) X.env = (false, eval e X.env) :: starEach es X.env := by rfl) (hpl : (backTo pos (starEach es X.env)).any (·.1) = false := by rfl) : JE X (.Call (.Name "Order" p) (e :: es) [] pos) σ H Q :=
  je_of (C8.pe_mk M hr hk hg pa_self (by decide) he hpl) (ha H g _ fun vs ds G J r pd kd x dx hx hdx hne => by
    obtain ⟨n, ps, ed, hn, hV, hl, hq⟩ := h ds G J r (r.good g) pd
    subst ed
    obtain ⟨v, u, rfl, k1, k2⟩ := dq2 kd
    cases k1
    exact ⟨G, J, x, dx, n, ps, u, rfl, hx, hdx, hne, rfl, (r.good g).sub (sub0 W), k2, hn, hV, hl, fun G' J' r' o => ⟨rfl, hq x G' J' (r'.sub (sub0 W) (r.good g)) o⟩⟩)
theorem bt_repr : bootBuiltins "repr" = some (.builtin "repr") := by decide +kernel
/-- repr of a tuple -/
theorem cr_repr (hgd : X.A.guards = some []) (hu : X.A.units + 66 < cLine) : CallR X (.builtin "repr") (fun vs H Q => ∃ (es : List PyData) (v : V), vs = [v] ∧ Dp X.K H v (.tuple es) ∧ PyData.layable0 (.tuple es) = true ∧ PyData.showable (.tuple es) = true ∧ PyData.intsShort 13 (.tuple es) = true ∧ Q (.str (PyData.shown (.tuple es))) H) := by
  intro pins s σ H vs us Q I r h -- (Dw)
  obtain ⟨es, v, rfl, hd, hl, hs, hi, q⟩ := h
  cases r with
  | cons ra rb =>
    cases rb
    obtain ⟨as, hr⟩ := Dp.reads I _ v _ hd ra
    cases hd with
    | tup h1 h2 =>
      cases ra
      have hl' : (PyData.canLay0 (.tuple es) && decide (PyData.depth (.tuple es) ≤ 64) && decide (PyData.weight (.tuple es) ≤ 2 ^ 20)) = true := hl
      simp only [Bool.and_eq_true, decide_eq_true_eq] at hl' -- (Dw)
      exact repr_of_reads' hr hs (PyData.noDict_hsm (PyData.hasDict_of_layable hl)) hgd (by omega) (fun _ _ e => e) (fun h' u tk hk => ⟨.str _, H, I.kept hk, ⟨_, rfl⟩, q⟩) (by have := shown_le13 hl hi; rw [sizeLine_eq]; omega)
theorem jd_repr {es : List PyData} (hgd : X.A.guards = some []) (hu : X.A.units + 66 < cLine) (hm : X.mg "repr" = none) (ha : JD W X a σ F (Is (.tuple es))) (hl : PyData.layable0 (.tuple es) = true) (hsh : PyData.showable (.tuple es) = true) (hi : PyData.intsShort 13 (.tuple es) = true) (hg : Gl X "repr" := by rfl)
    (hs : starEach [a] X.env = (false, eval a X.env) :: starEach [] X.env := by rfl) (hpl : (backTo pos (starEach [] X.env)).any (·.1) = false := by rfl) : JD W X (.Call (.Name "repr" p) [a] [] pos) σ F (Is (.str (PyData.shown (.tuple es)))) :=
  jd_callB (cr_repr hgd hu) hg hm bt_repr (jds_is ha jds_nil hs) (fun F H vs ds' Q g ed kd q => by
    have ed : ds' = _ := ed
    subst ed
    obtain ⟨v, rfl, k1⟩ := dq1 kd
    exact ⟨es, v, rfl, (k1.inG g).to, hl, hsh, hi, q _ _ F H g.gr rfl (.str _)⟩) (by decide) (by decide) hs hpl
theorem jd_reprI {n : Nat} (hn : n < 2 ^ 60) (hm : X.mg "repr" = none) (ha : JD W X a σ F (Is (.int (n : Int)))) (hg : Gl X "repr" := by rfl)
    (hs : starEach [a] X.env = (false, eval a X.env) :: starEach [] X.env := by rfl) (hpl : (backTo pos (starEach [] X.env)).any (·.1) = false := by rfl) : JD W X (.Call (.Name "repr" p) [a] [] pos) σ F (Is (.str (toString (n : Int)))) :=
  jd_callB SkE.call_repr_int hg hm bt_repr (jds_is ha jds_nil hs) (fun F H vs ds' Q g ed kd q => by
    have ed : ds' = _ := ed
    subst ed
    obtain ⟨v, rfl, k1⟩ := dq1 kd
    cases k1
    refine ⟨_, rfl, ?_, q _ _ F H g.gr rfl (.str _)⟩
    rw [Int.natAbs_natCast]
    by_cases h0 : n = 0
    · subst h0; decide
    · have := (Nat.log2_lt h0).mpr hn
      omega) (by decide) (by decide) hs hpl
end
end Dw
/-! The law's body. -/
namespace Dw
open PySem PySem.Spec PyProof.Rows L2 -- (Dw)
structure LawKn (P : Program) (w : World) (K : PySem.W.Frag) (mg : Str → Option Value) (base : Heap) (C T : Addr) : Prop where
  k58 : Kn P w K mg base "_law_cell" 1 ["_law_script", "_law_k"] (spCell K)
  k59 : Kn P w K mg base "_law_stream" 1 ["_law_cell_here"] spStream
  k60 : DrawK P w K mg base
  k62 : Kn P w K mg base "_law_closed" 1 ["_law_size", "_law_pairs_here"] (spP S_closed)
  k71 : Kn P w K mg base "_law_any_spans" 2 ["_law_stream_here", "_law_size", "_law_most", "_law_length"] (spS S_anyspans)
  k72 : Kn P w K mg base "_law_by_spans" 1 ["_law_spans"] spBySp
  k84 : Kn P w K mg base "_law_any_order" 44 ["_law_stream_here", "_law_most"] (spS S_anyorder)
  k85 : Kn P w K mg base "_law_told" 3 ["_law_stream_here", "_law_table"] (spS S_told)
  k99 : Kn P w K mg base "_law_has_bar" 5 ["_law_table", "_law_kind"] (spP S_hasbar)
  k100 : Kn P w K mg base "_law_right" 5 ["_law_table", "_law_kind", "_law_told_here"] (spP S_right)
  k101 : Kn P w K mg base "_law_lower_sets" 2 ["_law_table"] (spP S_lsets)
  k102 : Kn P w K mg base "_law_spans_of" 3 ["_law_table"] (spP S_spans)
  mak : C8.Mak P w K mg base 3 "Order" C (spIni C) []
  k16 : Kn P w K mg base "draw_spans" 6 ["order"] (spOrd T C S_drawsp)
  k17 : Kn P w K mg base "end_count" 6 ["order"] (spOrd T C S_endcount)
  k56 : Kn P w K mg base "draw" 7 ["order", "kind"] (spOrd T C S_draw2)
/-- what draw_spans tells -/
def Ans (n : Nat) (f : Nat → Nat → Bool) (z : PyData) : Prop := (Chn n f ∧ ∃ ms sp, Ch n f ms ∧ sp.length = n ∧ AllSp n f ms sp ∧ z = .tuple [.bool true, dSpT sp]) ∨ ∃ a b c d, Crs n f a b c d ∧ z = .tuple [.bool false, dTupN [a, b, c, d]]
theorem ans_of {n : Nat} {f : Nat → Nat → Bool} {R : PyData → Prop} (h : ∀ z, Ans n f z → R z) : S_drawsp n f [] R := ⟨rfl, fun hc ms sp h1 h2 h3 h4 => h _ (.inl ⟨hc, ms, sp, ch_of h1 h2 hc, h3, h4, rfl⟩), fun a b c d hc => h _ (.inr ⟨a, b, c, d, hc, rfl⟩)⟩
theorem erase_map {α β : Type} (f : α → β) : ∀ (l : List α) (k : Nat), (l.map f).eraseIdx k = (l.eraseIdx k).map f
  | [], _ => rfl
  | _ :: _, 0 => rfl
  | a :: l, k + 1 => by simp [erase_map f l k]
def F0 : Hp := fun _ => none
section
variable {P : Program} {w : World} {K : PySem.W.Frag} {mg : Str → Option Value} {base : Heap} {C T : Addr}
theorem law_body (L : LawKn P w K mg base C T) (B : Bl mg) {fa : Addr} {cdv : Value} {A : Around} {outer : List Env} {s : Shared} {H : Hp} {E : XK} {a : Addr} {ns : List Int} (hr : Room 44 (A.deeper (envOfC "law" (defScope (topS 103)) s.heap.objs.size fa cdv)))
    (hgd : (A.deeper (envOfC "law" (defScope (topS 103)) s.heap.objs.size fa cdv)).guards = some []) (hs : SqL K H a (ns.map V.int)) (hT : LamX.TabS H T qLam) :
    JSs (cxOf CX0 P w K mg base N103 "law" (defScope (topS 103)) fa cdv A outer s H E).nox (defBody (topS 103)) (L2.start N103 [.ref a]) H { nx := fun _ H' => (fun v (_ : Hp) => v = V.bl true) .non H', rt := fun v _ => v = .bl true } := by
  -- the stream
  refine jss_cons (js_set 1 sc103.nd (je_call L.k59 hr (ja_of (pa_cons pe_self pa_nil) (je_call L.k58 hr (ja_of (pa_cons pe_self (pa_cons pe_self pa_nil)) (RV.q (rv_var 0 rfl) (RV.q rv_int ⟨a, ns, rfl, hs, fun i => ⟨i, rfl, fun p b c d J1 hp eJ hJ => ?_⟩⟩)))))))
  have g1 : Good (Wl p T) F0 J1 := ⟨fun _ _ h => (nomatch (show (none : Option HO) = some _ from h)), fun _ _ => rfl, ⟨b, c, d, hJ⟩, hT.ext eJ⟩
  -- the table
  refine jss_cons (js_setD 2 sc103.nd g1 (jd_fnS (P := fun d => ∃ n ps, n ≤ 7 ∧ Vd n ps ∧ d = dTab n (wsh ps n)) (subS p T) L.k84 hr (fun H => rv_var 1 rfl) (jds_is jd_int jds_nil) fun ds R e q => ⟨7, e, by omega, fun n ps h1 h2 h3 => q _ ⟨n, ps, h1, h2, rfl⟩⟩) fun vt d2 G2 J2 r2 g2 pd kt => ?_)
  obtain ⟨n0, ps0, hn0, hv0, rfl⟩ := pd
  refine jss_cons (js_setR 3 sc103.nd (rv_bl (k := false)) ?_)
  refine jss_mid (fun σ' H' => ∃ (n : Nat) (f : Nat → Nat → Bool) (pl : Bool) (G : Hp) (vt : V) (o4 o5 : Option V), σ' = [some (.ref a), some (.ref p), some vt, some (.bl pl), o4, o5, none, none, none] ∧ Good (Wl p T) G H' ∧ Dq G vt (dTab n f) ∧ n ≤ 10 ∧ Ord n f ∧ (pl = true → Chn n f)) (js_ifT g2 (P := fun _ => True) (jt_cmp (jd_draw (n := 2) L.k60 (subS p T) hr (fun H => rv_var 1 rfl) jd_int (by decide) (by decide)) jd_int fun x y ⟨k, _, ex⟩ ey => by
        subst ex ey
        exact od_eqI.imp fun d ed => ⟨_, ed, trivial⟩) (fun G3 J3 r3 g3 _ => ?_) (fun G3 J3 r3 g3 _ => jss_nil ⟨n0, wsh ps0 n0, false, G3, vt, none, none, rfl, g3, kt.up r3.fg, by omega, .wsh hv0, fun h => by cases h⟩)) ?_
  · refine jss_cons (js_setD 4 sc103.nd g3 (jd_op (P := fun d => ∃ m : Nat, 1 ≤ m ∧ m ≤ 10 ∧ d = .int (m : Int)) jd_int (jd_draw (n := 10) L.k60 (subS p T) hr (fun H => rv_var 1 rfl) jd_int (by decide) (by decide)) fun x y ex ⟨c, hc, ey⟩ => by
      subst ex ey
      exact od_add.imp fun d ed => ⟨1 + c, by omega, by omega, by rw [show d = _ from ed]; congr 1⟩) fun v4 d4 G4 J4 r4 g4 pd k4 => ?_)
    obtain ⟨m, hm1, hm2, rfl⟩ := pd
    cases k4
    refine jss_cons (js_set 5 sc103.nd (je_call L.k72 hr (ja_of (pa_cons pe_self pa_nil) (JD.dq (jd_fnS (P := fun d => ∃ sp : List (Nat × Nat), sp.length = m ∧ (∀ p ∈ sp, p.1 ≤ p.2) ∧ d = dPN sp) (subS p T) L.k71 hr (fun H => rv_var 1 rfl) (jds_cons (P := fun ds => ∃ l : Nat, 0 < l ∧ l ≤ 1000 ∧ ds = [.int (m : Int), .int (l : Int), .int (-1)]) (jd_var 4 rfl (.int _)) (jds_cons (P := fun ds => ∃ l : Nat, 0 < l ∧ l ≤ 1000 ∧ ds = [.int (l : Int), .int (-1)]) (jd_op (P := fun d => ∃ l : Nat, 0 < l ∧ l ≤ 1000 ∧ d = .int (l : Int)) jd_int (jd_draw (n := 12) L.k60 (subS p T) hr (fun H => rv_var 1 rfl) jd_int (by decide) (by decide)) fun x y ex ⟨c, hc, ey⟩ => by
      subst ex ey
      exact od_add.imp fun d ed => ⟨2 + c, by omega, by omega, by rw [show d = _ from ed]; congr 1⟩) (jds_is jd_neg1 jds_nil) fun d ds ⟨l, h1, h2, h3⟩ e => ⟨l, h1, h2, by rw [h3, e]⟩) fun d ds e ⟨l, h1, h2, h3⟩ => ⟨l, h1, h2, by rw [h3, e]⟩) fun ds R ⟨l, h1, h2, e⟩ qq => ⟨m, l, -1, e, by omega, h1, h2, by omega, fun sp h1 h2 => qq _ ⟨sp, h1, h2, rfl⟩⟩) g4 fun v5 d5 G5 J5 r5 g5 pd k5 => ?_))))
    obtain ⟨sp, hl, hsp, rfl⟩ := pd
    refine ⟨G5, sp, v5, rfl, g5.sub (sub0 _), k5, by omega, fun q G6 J6 ow => ?_⟩
    have ow := ow.lift (sub0 (Wl p T)) g5
    subst hl
    have hrl : (relP sp.length (spG sp)).length ≤ 100 := Nat.le_trans (relP_len _ _) (by have := Nat.mul_le_mul hm2 hm2; omega)
    have hVd := Vd.spans hsp
    refine jss_cons (js_setR 3 sc103.nd (rv_bl (k := true)) ?_)
    refine jss_mid (fun σ' H' => ∃ (qs : List (Nat × Nat)) (pl : Bool) (G : Hp), σ' = [some (.ref a), some (.ref p), some vt, some (.bl pl), some (.int (sp.length : Int)), some (.ref q), none, none, none] ∧ Own (Wl p T) G5 J5 q G H' (qs.map prN) ∧ (∀ z ∈ qs, z ∈ relP sp.length (spG sp)) ∧ qs.length ≤ 100 ∧ (pl = true → qs = relP sp.length (spG sp))) (js_ifO ow g5 (P := fun b => b = true → 0 < (relP sp.length (spG sp)).length) (fun G' e' k' => JW.t (jw_and (P1 := Is (decide ((0 : Int) < ((relP sp.length (spG sp)).length : Int)))) (jt_cp ((jd_len B.len (jd_var 5 rfl k')).is (by rw [List.length_map])) jd_int od_gt) (fun _ z => by cases z) fun hp1 => jw_and1 (jt_cmp (jd_draw (n := 3) L.k60 (subS p T) hr (fun H => rv_var 1 rfl) jd_int (by decide) (by decide)) jd_int fun x y ⟨k, _, ex⟩ ey => by
        subst ex ey
        exact od_eqI.imp fun d ed => ⟨_, ed, fun _ => by have := of_decide_eq_true (Eq.symm hp1); omega⟩))) (fun J' hpos ow' => ?_) (fun J' _ ow' => jss_nil ⟨_, true, G6, rfl, ow', fun z h => h, hrl, fun _ => rfl⟩)) ?_
    · have hpos := hpos rfl
      refine jss_cons (js_expr (je_popO ow' (rv_var 5 rfl) (by rw [List.length_map]; omega) (fun G' e' k' => (jd_draw (n := (relP sp.length (spG sp)).length) L.k60 (subS p T) hr (fun H => rv_var 1 rfl) ((jd_len B.len (jd_var 5 rfl k')).is (by rw [List.length_map])) hpos (by omega)).imp fun d ⟨k, hk, e⟩ => ⟨k, by rw [List.length_map]; exact hk, e⟩) fun k v d J7 vs r7 h7 hk hv hd => ?_))
      have ow7 := (ow'.step g5 r7).put h7 (hk.erase k)
      refine jss_one (js_setR 3 sc103.nd (rv_bl (k := false)) ⟨(relP sp.length (spG sp)).eraseIdx k, false, G6, rfl, ?_, fun z hz => List.mem_of_mem_eraseIdx hz, Nat.le_trans (List.length_eraseIdx_le _ _) hrl, fun h => by cases h⟩)
      rw [erase_map] at ow7
      exact ow7
    rintro σ7 J7 ⟨qs, pl, G7, rfl, ow7, hqs, hql, hpl⟩
    obtain ⟨G8, e8, g8, r8, k8⟩ := ow7.known
    have hVq := hVd.sub hqs
    refine jss_one (js_setD 2 sc103.nd g8 (jd_fn (P := Is (dTab sp.length (wsh qs sp.length))) L.k62 hr (jds_is (jd_var 4 rfl (.int _)) (jds_is (jd_var 5 rfl k8) jds_nil)) fun ds R e q => ⟨sp.length, qs, e, by omega, by omega, hVq.lt, q _ rfl⟩) fun v9 d9 G9 J9 r9 g9 pd k9 => ?_)
    subst pd
    exact ⟨sp.length, wsh qs sp.length, pl, G9, v9, _, _, rfl, g9, k9, by omega, .wsh hVq, fun h => by rw [hpl h]; exact chn_spans hsp⟩
  rintro σ3 J3 ⟨n, f, pl, G3, vt3, o4, o5, rfl, g3, kt3, hn, O, hpl⟩
  -- the order
  refine jss_cons (js_set 6 sc103.nd (je_mkO (Ps := fun ds => ∃ ps, ds = [.int (n : Int), dPN ps] ∧ (∀ p ∈ ps, p ∈ relP n f) ∧ (∀ p ∈ relP n f, cvB n f p.1 p.2 = true → p ∈ ps) ∧ ps.length ≤ 4000) L.mak hr (by decide) g3 (jds_cons ((jd_len B.len (jd_var 2 rfl kt3)).is (d' := .int (n : Int)) (by rw [dTab_len])) (jds_cons (P := fun ds => ∃ ps, ds = [dPN ps] ∧ (∀ p ∈ ps, p ∈ relP n f) ∧ (∀ p ∈ relP n f, cvB n f p.1 p.2 = true → p ∈ ps) ∧ ps.length ≤ 4000) (jd_fnS (P := fun d => ∃ ps, (∀ p ∈ ps, p ∈ relP n f) ∧ (∀ p ∈ relP n f, cvB n f p.1 p.2 = true → p ∈ ps) ∧ ps.length ≤ 4000 ∧ d = dPN ps) (subS p T) L.k85 hr (fun H => rv_var 1 rfl) (jds_is (jd_var 2 rfl kt3) jds_nil) fun ds R e q => ⟨n, f, e, by omega, fun ps h1 h2 h3 => q _ ⟨ps, h1, h2, h3, rfl⟩⟩) jds_nil fun d ds ⟨ps, h1, h2, h3, h4⟩ e => ⟨ps, by rw [h4, e], h1, h2, h3⟩) fun d ds e ⟨ps, e2, h1, h2, h3⟩ => ⟨ps, by rw [e, e2], h1, h2, h3⟩) fun ds G4 J4 r4 g4 ⟨ps, ed, h1, h2, h3⟩ => ⟨n, ps, ed, by omega, told_vd O h1, h3, fun x G5 J5 r5 o5' => ?_⟩))
  have o := o5'.cast fun i j hi hj => told_cl O h1 h2 hi hj
  have g5 := (r5.good g4)
  have kt5 := kt3.up (r4.fg.trans r5.fg)
  have hn40 : n ≤ 40 := by omega
  -- told
  refine jss_cons (js_setD 7 sc103.nd g5 (jd_fnO (Pd := Ans n f) (subT p T) L.k16 hr (fun H => rv_var 6 rfl) o hn40 jds_nil fun ds R e q => by
    have e : ds = [] := e
    subst e
    exact ans_of q) fun v7 d7 G7 J7 r7 g7 an7 k7 => ?_)
  have o7 := o.up r7.fg
  have kt7 := kt5.up r7.fg
  have hsz : (lmT n f n).length < 2 ^ 60 := Nat.lt_of_le_of_lt (lmT_len n f n) (by omega)
  refine jss_cons (js_ifT g7 ((jt_cp (jd_reprI (n := (lmT n f n).length) hsz B.repr (jd_fnO (Pd := Is (.int (((lmT n f n).length : Nat) : Int))) (subT p T) L.k17 hr (fun H => rv_var 6 rfl) o7 hn40 jds_nil fun ds R e q => ⟨e, q _ rfl⟩)) (jd_reprI (n := (lmT n f n).length) hsz B.repr ((jd_len B.len (jd_fn (P := Is (dLL (lsetsTo n f n))) L.k101 hr (jds_is (jd_var 2 rfl kt7) jds_nil) fun ds R e q => ⟨n, f, e, hn40, q _ rfl⟩)).is (by rw [List.length_map, lsets_len]))) od_neS).is (d' := false) (by rw [decide_eq_true rfl]; rfl)) (fun G J r g h => by cases h) (fun G8 J8 r8 g8 _ => jss_nil ?_))
  have o8 := o7.up r8.fg
  have kt8 := kt7.up r8.fg
  have k78 := k7.up r8.fg
  refine jss_cons (js_setD 8 sc103.nd g8 (jd_fnO (Pd := Ans n f) (subT p T) L.k56 hr (fun H => rv_var 6 rfl) o8 hn40 (jds_is jd_str jds_nil) fun ds R e q => ⟨e, ans_of q⟩) fun v9 d9 G9 J9 r9 g9 an9 k9 => ?_)
  have kt9 := kt8.up r9.fg
  have k79 := k78.up r9.fg
  have hun := hr.un
  rcases an7 with ⟨hc, ms, sp, CH, hl, hA, e7⟩ | ⟨x, b, y, d, hcr, e7⟩
  · -- spans
    subst e7
    have e9 : d9 = .tuple [.bool true, dSpT sp] := by
      rcases an9 with ⟨_, ms', sp', CH', hl', hA', e9⟩ | ⟨_, _, _, _, hcr, _⟩
      · rw [e9, ← spans_law CH O hl hA, ← spans_law CH' O hl' hA']
      · exact absurd hc (crs_no hcr)
    subst e9
    have hlt := spans_lt CH hn40 hA
    obtain ⟨y1, y2, y3⟩ := sm_ans (by omega) hlt
    obtain ⟨z1, z2, z3⟩ := sm_sp (sp := sp) (by omega) hlt
    refine jss_cons (js_ifT g9 (P := Is false) (JW.t (jw_orF (jt_notIs (m := true) (jt_of (jd_fn (P := Is (.bool true)) L.k100 hr (jds_is (jd_var 2 rfl kt9) (jds_is jd_str (jds_is (jd_var 8 rfl k9) jds_nil))) fun ds R e q => ⟨n, f, hn40, .inl ⟨sp, e, hl, spans_le hA, spans_rel CH O hl hA, q _ rfl⟩⟩))) (jw_or1 (JW.t (jw_andIs (m := true) (k := false) (jt_of (jd_ixT (k := 0) (jd_var 7 rfl k79) jd_int rfl)) fun _ => jw_and1 ((jt_cp (jd_repr hgd (by show (A.deeper _).units + 66 < cLine; omega) B.repr (jd_var 8 rfl k9) y1 y2 y3) (jd_repr hgd (by show (A.deeper _).units + 66 < cLine; omega) B.repr (jd_var 7 rfl k79) y1 y2 y3) od_neS).is (by rw [decide_eq_true rfl]; rfl))))))) (fun G J r g h => by cases h) (fun G10 J10 r10 g10 _ => jss_nil ?_))
    have kt10 := kt9.up r10.fg
    have k10 := k79.up r10.fg
    refine jss_cons (js_ifT g10 (P := Is false) (JW.t (jw_orF (jt_notIs (m := true) (jt_of (jd_fn (P := Is (.bool true)) L.k100 hr (jds_is (jd_var 2 rfl kt10) (jds_is jd_str (jds_is (jd_var 7 rfl k10) jds_nil))) fun ds R e q => ⟨n, f, hn40, .inl ⟨sp, e, hl, spans_le hA, spans_rel CH O hl hA, q _ rfl⟩⟩))) (jw_or1 ((JW.t (jw_andIs (m := pl) (k := false) (jt_of (jd_var 3 rfl (.bl pl))) fun _ => jw_and1 (jt_notIs (m := true) (jt_of (jd_ixT (k := 0) (jd_var 7 rfl k10) jd_int rfl))))).is (by rw [Bool.and_false]))))) (fun G J r g h => by cases h) (fun G11 J11 r11 g11 _ => jss_nil ?_))
    have kt11 := kt10.up r11.fg
    have k11 := k10.up r11.fg
    have hb : ∀ r : Bool, (r = true ↔ hasB n f) → r = false := fun r h => by
      cases r with
      | false => rfl
      | true => exact absurd hc ((has_iff O (.inl hc)).mp (h.mp rfl))
    refine jss_cons (js_ifT g11 (P := Is false) ((JW.t (jw_andIs (m := !pl) (k := decide ((n : Int) < 8) && false) (jt_notIs (jt_of (jd_var 3 rfl (.bl pl)))) fun _ => jw_andIs (jt_cp ((jd_len B.len (jd_var 2 rfl kt11)).is (d' := .int (n : Int)) (by rw [dTab_len])) jd_int od_lt) fun _ => jw_and1 ((jt_cp (jd_ixT (k := 0) (jd_var 7 rfl k11) jd_int rfl) (jd_notIs (m := false) (jd_fn (P := Is (.bool false)) L.k99 hr (jds_is (jd_var 2 rfl kt11) (jds_is jd_str jds_nil)) fun ds R e q => ⟨n, f, e, hn40, fun r h => by rw [hb r h]; exact q _ rfl⟩)) od_neB).is rfl))).is (by rw [Bool.and_false, Bool.and_false])) (fun G J r g h => by cases h) (fun G12 J12 r12 g12 _ => jss_nil ?_))
    have kt12 := kt11.up r12.fg
    have k12 := k11.up r12.fg
    exact jss_one (js_retD g12 (jd_or (m := false) (n := true) (jd_notIs (m := true) (jd_ixT (k := 0) (jd_var 7 rfl k12) jd_int rfl)) fun _ => jd_one ((jd_cp (jd_repr hgd (by show (A.deeper _).units + 66 < cLine; omega) B.repr (jd_ixT (k := 1) (jd_var 7 rfl k12) jd_int rfl) z1 z2 z3) (jd_repr hgd (by show (A.deeper _).units + 66 < cLine; omega) B.repr (jd_fn (P := Is (dSpT sp)) L.k102 hr (jds_is (jd_var 2 rfl kt12) jds_nil) fun ds R e q => ⟨n, f, e, hn40, q _ (spans_law CH O hl hA)⟩) z1 z2 z3) od_eqS).is (by rw [decide_eq_true rfl]))) fun v z G J r ed kz => by
      have ed : z = .bool true := ed
      subst ed
      cases kz
      rfl)
  · -- a bar
    subst e7
    have hno := crs_no hcr
    have hpf : pl = false := by
      cases pl with
      | false => rfl
      | true => exact absurd (hpl rfl) hno
    subst hpf
    obtain ⟨x', b', y', d', hcr', e9⟩ : ∃ x b y d, Crs n f x b y d ∧ d9 = .tuple [.bool false, dTupN [x, b, y, d]] := by
      rcases an9 with ⟨hc, _⟩ | h
      · exact absurd hc hno
      · exact h
    subst e9
    refine jss_cons (js_ifT g9 (P := Is false) (JW.t (jw_orF (jt_notIs (m := true) (jt_of (jd_fn (P := Is (.bool true)) L.k100 hr (jds_is (jd_var 2 rfl kt9) (jds_is jd_str (jds_is (jd_var 8 rfl k9) jds_nil))) fun ds R e q => ⟨n, f, hn40, .inr ⟨x', b', y', d', e, hcr'.la, hcr'.lb, hcr'.lc, hcr'.ld, q _ (by rw [crs_bar O hcr'])⟩⟩))) (jw_or1 (JW.t (jw_andF (jt_of (jd_ixT (k := 0) (jd_var 7 rfl k79) jd_int rfl))))))) (fun G J r g h => by cases h) (fun G10 J10 r10 g10 _ => jss_nil ?_))
    have kt10 := kt9.up r10.fg
    have k10 := k79.up r10.fg
    refine jss_cons (js_ifT g10 (P := Is false) (JW.t (jw_orF (jt_notIs (m := true) (jt_of (jd_fn (P := Is (.bool true)) L.k100 hr (jds_is (jd_var 2 rfl kt10) (jds_is jd_str (jds_is (jd_var 7 rfl k10) jds_nil))) fun ds R e q => ⟨n, f, hn40, .inr ⟨x, b, y, d, e, hcr.la, hcr.lb, hcr.lc, hcr.ld, q _ (by rw [crs_bar O hcr])⟩⟩))) (jw_or1 (JW.t (jw_andF (jt_of (jd_var 3 rfl (.bl false)))))))) (fun G J r g h => by cases h) (fun G11 J11 r11 g11 _ => jss_nil ?_))
    have kt11 := kt10.up r11.fg
    have k11 := k10.up r11.fg
    have hb : ∀ r : Bool, (r = true ↔ hasB n f) → r = true := fun r h => h.mpr ((has_iff O (.inr ⟨x, b, y, d, hcr⟩)).mpr hno)
    refine jss_cons (js_ifT g11 (P := Is false) ((JW.t (jw_andIs (m := true) (k := decide ((n : Int) < 8) && false) (jt_notIs (m := false) (jt_of (jd_var 3 rfl (.bl false)))) fun _ => jw_andIs (jt_cp ((jd_len B.len (jd_var 2 rfl kt11)).is (d' := .int (n : Int)) (by rw [dTab_len])) jd_int od_lt) fun _ => jw_and1 ((jt_cp (jd_ixT (k := 0) (jd_var 7 rfl k11) jd_int rfl) (jd_notIs (m := true) (jd_fn (P := Is (.bool true)) L.k99 hr (jds_is (jd_var 2 rfl kt11) (jds_is jd_str jds_nil)) fun ds R e q => ⟨n, f, e, hn40, fun r h => by rw [hb r h]; exact q _ rfl⟩)) od_neB).is rfl))).is (by rw [Bool.and_false, Bool.and_false])) (fun G J r g h => by cases h) (fun G12 J12 r12 g12 _ => jss_nil ?_))
    have k12 := k11.up r12.fg
    exact jss_one (js_retD g12 (jd_or (m := true) (n := true) (jd_notIs (m := false) (jd_ixT (k := 0) (jd_var 7 rfl k12) jd_int rfl)) fun h => by cases h) fun v z G J r ed kz => by
      have ed : z = .bool true := ed
      subst ed
      cases kz
      rfl)
end
end Dw
/-! The law's call from the caller's frame, one table of code objects. -/
namespace Dw
open PySem PySem.Spec PyProof.Rows L2 -- (Dw)
abbrev scrO (vs : List Value) : Obj := { cls := .type "list", data := .seq vs.toArray }
abbrev tbO : Obj := { cls := .none, data := .fields #[] }
section
variable {P : Program} {w : World} {K : PySem.W.Frag} {mg mb : Str → Option Value} {fa a c T : Addr} {s1 : Shared} {vs : List Value} {ns : List Int} {E : XK}
/-- the abstract heap at the call: the table, and the script unless it is known -/
structure H1 (K : PySem.W.Frag) (a T : Addr) (vs : List Value) (ns : List Int) (H : Hp) : Prop where
  tab : H T = some (.tbl #[])
  scr : H a = none ∨ (H a = some (.frz (scrO vs) (.lst (ns.map V.int))) ∧ K.lookup a = none)
  rest : ∀ b, b ≠ T → b ≠ a → H b = none
theorem law_core (KX : K.In s1.heap) (hns : s1.heap.Ns mainGlobals mg) (hb : s1.heap.Ns builtinsNs mb) (hbb : ∀ x : Str, x ≠ "__name__" → mb x = bootBuiltins x) (hlim : s1.heap.NoLimit) (hg : s1.gens = #[]) (hT : s1.heap.get? T = some tbO) (nT : K.lookup T = none) (hC : PySem.W.CodeHd s1.heap c T)
    (hbm : ∃ (bm : Addr) (ob : Obj), mg "__builtins__" = some (.ref bm) ∧ bm ≠ builtinsNs ∧ s1.heap.get? bm = some ob ∧ ob.cls = .type "module" ∧ ob.dict = some builtinsNs ∧ ob.data = .plain) (ha : s1.heap.get? a = some (scrO vs)) {H : Hp} (hH : H1 K a T vs ns H) (hok : HOk P w H s1.heap)
    (F : ∀ base : Heap, K.In base → base.Ns mainGlobals mg → LamX.TabB base mg c T → Env0 P w K mg base callerA [] s1 H → codeAny (model P w) callerA (.call (.ref fa) ⟨[.ref a], []⟩) (CR CX0 [] P w H s1 (fun v _ => v = .bl true) E) s1) :
    codeAny (model P w) callerA (.call (.ref fa) ⟨[.ref a], []⟩) (fun r s' => r = .ok (.ret (.bool true)) ∧ OldK s1.heap s'.heap ∧ s'.os = s1.os ∧ AllBare s'.gens) s1 := by
  have at2 : ∀ {b : Addr}, H b ≠ none → b = T ∨ b = a := fun {b} h => by
    by_cases e1 : b = T
    · exact .inl e1
    · by_cases e2 : b = a
      · exact .inr e2
      · exact absurd (hH.rest b e1 e2) h
  -- what is neither a list nor an empty record stays in sight
  have see : ∀ {b : Addr} {o : Obj}, s1.heap.get? b = some o → o ≠ scrO vs → o ≠ tbO → H b = none := fun {b o} e h1 h2 => by
    cases q : H b with
    | none => rfl
    | some u =>
      rcases at2 (b := b) (by rw [q]; simp) with rfl | rfl
      · rw [hT] at e; exact absurd (Option.some.inj e).symm h2
      · rw [ha] at e; exact absurd (Option.some.inj e).symm h1
  have dic : ∀ {b : Addr} {o : Obj} {es ep}, s1.heap.get? b = some o → o.data = .dict es ep → H b = none := fun e d => see e (fun z => by rw [z] at d; cases d) fun z => by rw [z] at d; cases d
  have nsB : ∀ {b : Addr} {m : Str → Option Value}, s1.heap.Ns b m → (hidT s1.heap H).Ns b m := fun ⟨o, es, ep, e, d, r⟩ => ⟨o, es, ep, hidT_get e (dic e d), d, r⟩
  have inB : K.In (hidT s1.heap H) := fun b o e => hidT_get (KX b o e) (by
    cases q : H b with
    | none => rfl
    | some u =>
      rcases at2 (b := b) (by rw [q]; simp) with rfl | rfl
      · rw [nT] at e; cases e
      · rcases hH.scr with z | ⟨_, z⟩
        · rw [q] at z; cases z
        · rw [z] at e; cases e)
  have TB : LamX.TabB (hidT s1.heap H) mg c T := by
    obtain ⟨o, us, file, tf, flags, tg, inF, text, tt, e1, r1, r2, r3, r4⟩ := hC
    obtain ⟨bm, ob, b1, b2, b3, b4, b5, b6⟩ := hbm
    refine ⟨⟨o, us, file, tf, flags, tg, inF, text, tt, hidT_get e1 (see e1 (fun z => by rw [z] at r2; cases r2) fun z => by rw [z] at r2; cases r2; simp at r3), r1, r2, r3, r4⟩, ⟨bm, ob, b1, b2, ?_, ?_, hidT_get b3 (see b3 (fun z => by rw [z] at b6; cases b6) fun z => by rw [z] at b6; cases b6), b4, b5, b6⟩, ?_⟩
    · rintro rfl
      obtain ⟨o, es, ep, e, d, _⟩ := hns
      rw [e] at b3
      cases b3
      rw [d] at b6; cases b6
    · rintro rfl
      rw [hT] at b3
      cases b3
      cases b6
    · intro z
      obtain ⟨o, es, ep, e, d, _⟩ := hns
      rw [z, hT] at e
      cases e
      cases d
  have e0 : Env0 P w K mg (hidT s1.heap H) callerA [] s1 H := ⟨rfl, ⟨inB, nsB hns, ⟨mb, nsB hb, hbb⟩, let ⟨m, h1, h2⟩ := hlim; ⟨m, nsB h1, h2⟩⟩, fun b o e => of_hidT e, Nat.le_of_eq (hidT_size _ _), trivial, fun b hb => (nomatch (show b ∈ ([] : List Addr) from hb)), hok, .of_eq hg⟩
  refine codeAny_mono (F _ inB (nsB hns) TB e0) fun r s' h => ?_
  cases r with
  | error e => exact (show False from h).elim
  | ok fl =>
    cases fl with
    | next => exact False.elim h
    | brk => exact False.elim h
    | cont => exact False.elim h
    | ret u =>
      obtain ⟨v, H', os, bare, un, hok', r', q⟩ := h -- (Dw)
      have q : v = .bl true := q
      subst q
      obtain rfl : u = Value.bool true := r' -- (Dw)
      have stay : ∀ b o, b ≠ T → s1.heap.get? b = some o → s'.heap.get? b = some o := fun b o nb e => by
        cases q : H b with
        | none => exact un.keep b o e q (fun z => nomatch (show b ∈ ([] : List Addr) from z)) (by simp)
        | some u =>
          rcases at2 (b := b) (by rw [q]; simp) with e2 | rfl
          · exact absurd e2 nb
          · rcases hH.scr with z | ⟨z, _⟩
            · rw [q] at z; cases z
            · obtain ⟨g1, _⟩ := hok b _ z
              obtain ⟨g2, _⟩ := hok' b _ (un.frzs b _ _ z)
              rw [e] at g1
              cases g1
              exact g2
      obtain ⟨more, hm⟩ : ∃ more : Array Value, s'.heap.get? T = some { cls := .none, data := .fields (#[] ++ more) } := by
        obtain ⟨more, z⟩ := un.tbls T #[] hH.tab
        exact ⟨more, hok' T _ z⟩
      refine ⟨rfl, ⟨fun b o e => ?_, fun b o e => ?_⟩, os, bare⟩ -- (Dw)
      · by_cases hb : b = T
        · subst hb
          rw [hT] at e
          cases e
          exact .inr (.inl ⟨(hC.tab hT).isCodeTable, rfl, #[], more, rfl, hm⟩)
        · exact .inl (stay b o hb e)
      · by_cases hb : b = T
        · subst hb; exact ⟨_, hm⟩
        · exact ⟨o, stay b o hb e⟩
theorem law_call1 (KX : K.In s1.heap) (hns : s1.heap.Ns mainGlobals mg) (hb : s1.heap.Ns builtinsNs mb) (hbb : ∀ x : Str, x ≠ "__name__" → mb x = bootBuiltins x) (hlim : s1.heap.NoLimit) (hg : s1.gens = #[]) (hT : s1.heap.get? T = some tbO) (nT : K.lookup T = none) (hC : PySem.W.CodeHd s1.heap c T)
    (hbm : ∃ (bm : Addr) (ob : Obj), mg "__builtins__" = some (.ref bm) ∧ bm ≠ builtinsNs ∧ s1.heap.get? bm = some ob ∧ ob.cls = .type "module" ∧ ob.dict = some builtinsNs ∧ ob.data = .plain) (ha : s1.heap.get? a = some (scrO vs)) (hi : IntsAre vs ns) (hl : ns.length ≤ sizeLine)
    (F : ∀ (base : Heap) (H : Hp), K.In base → base.Ns mainGlobals mg → LamX.TabB base mg c T → H T = some (.tbl #[]) → SqL K H a (ns.map V.int) → Env0 P w K mg base callerA [] s1 H → codeAny (model P w) callerA (.call (.ref fa) ⟨[.ref a], []⟩) (CR CX0 [] P w H s1 (fun v _ => v = .bl true) E) s1) :
    codeAny (model P w) callerA (.call (.ref fa) ⟨[.ref a], []⟩) (fun r s' => r = .ok (.ret (.bool true)) ∧ OldK s1.heap s'.heap ∧ s'.os = s1.os ∧ AllBare s'.gens) s1 := by
  have rv := vals_ints hi
  have aT : a ≠ T := fun e => by rw [e, hT] at ha; cases ha
  cases hk : K.lookup a with
  | some o =>
    have e := KX a o hk
    rw [ha] at e
    cases e
    have h1 : H1 K a T vs ns (fun b => if b = T then some (.tbl #[]) else none) := ⟨if_pos rfl, .inl (if_neg aT), fun b h _ => if_neg h⟩
    refine law_core KX hns hb hbb hlim hg hT nT hC hbm ha h1 (fun b u z => ?_) fun base k1 k2 k3 e0 => F base _ k1 k2 k3 h1.tab (.inr ⟨_, vs.toArray, _, hk, rfl, rfl, rfl, by rw [List.size_toArray, hi.length]; exact hl, by simpa using rv⟩) e0
    by_cases hb : b = T
    · subst hb
      rw [h1.tab] at z
      cases z
      exact hT
    · have z2 := (if_neg hb).symm.trans z
      cases z2
  | none =>
    have h1 : H1 K a T vs ns (fun b => if b = T then some (.tbl #[]) else if b = a then some (.frz (scrO vs) (.lst (ns.map V.int))) else none) := ⟨if_pos rfl, .inr ⟨(if_neg aT).trans (if_pos rfl), hk⟩, fun b h h' => (if_neg h).trans (if_neg h')⟩
    refine law_core KX hns hb hbb hlim hg hT nT hC hbm ha h1 (fun b u z => ?_) fun base k1 k2 k3 e0 => F base _ k1 k2 k3 h1.tab (.inl (.inr ⟨scrO vs, (if_neg aT).trans (if_pos rfl)⟩)) e0
    by_cases hb : b = T
    · subst hb
      rw [h1.tab] at z
      cases z
      exact hT
    · by_cases hb2 : b = a
      · subst hb2
        have z2 := ((if_neg hb).trans (if_pos rfl)).symm.trans z
        cases z2
        exact ⟨ha, by rw [List.length_map]; exact hl, vs, _, rv, ha⟩ -- (Dw)
      · rw [h1.rest b hb hb2] at z
        cases z
end
end Dw
/-! All together. -/
namespace Dw
open PySem PySem.Spec PyProof.Rows L2 -- (Dw)
section
variable {P : Program} {w : World} {K : PySem.W.Frag} {mg : Str → Option Value} {h : Heap}
theorem SaysY.fact (c : SaysY h K) (i : Nat) {f : He.Fa} (e : fcs[i]? = some f := by rfl) : f.ok K = true := List.all_eq_true.mp c.fa f (List.mem_of_getElem? e)
theorem SaysY.def_ (c : SaysY h K) (i : Nat) {d : Fy} (e : fys[i]? = some d := by rfl) : ∃ fd, FunD K d.name d.qual (defArgs d.st) (defBody d.st) (defScope d.st) [] [] (d.at_ K) fd := by
  have e2 : (fys.map fun d => fnAt K (d.at_ K))[i]? = (fys.map Fy.val)[i]? := by rw [c.vals]
  rw [List.getElem?_map, List.getElem?_map, e] at e2
  exact Fy.funD (Option.some.inj e2) (List.all_eq_true.mp c.fn d (List.mem_of_getElem? e))
theorem SaysY.at_ (c : SaysY h K) (X : K.In h) (G : h.Ns mainGlobals mg) (i : Nat) {x : Str} {n : Nat} (e : (tops ++ tops2)[i]? = some (x, n) := by rfl) : At K mg x (topS n) := by
  have hm := List.mem_of_getElem? e
  obtain ⟨j, hj⟩ := List.mem_iff_getElem?.mp (List.mem_append_right ([⟨fun K => He.ma K (cO K) "__init__", "__init__", "Order.__init__", meS 0⟩, ⟨fun K => He.ma K (cO K) "down_mask", "down_mask", "Order.down_mask", meS 7⟩, ⟨gA, "size", "Order.size", meS 1⟩] : List Fy) (List.mem_map.mpr ⟨(x, n), hm, rfl⟩ : fyT (x, n) ∈ (tops ++ tops2).map fyT))
  obtain ⟨fd, F⟩ := c.def_ j hj
  refine ⟨He.ga K x, fd, F, He.glo_ok X G (List.all_eq_true.mp c.fa (.glo x) (List.mem_append_left _ (List.mem_map.mpr ⟨(x, n), hm, rfl⟩)))⟩
theorem SaysY.bl (c : SaysY h K) (X : K.In h) (G : h.Ns mainGlobals mg) : Bl mg :=
  ⟨He.free_ok X G (c.fact 58), He.free_ok X G (c.fact 59), He.free_ok X G (c.fact 60), He.free_ok X G (c.fact 61), He.free_ok X G (c.fact 62), He.free_ok X G (c.fact 63), He.free_ok X G (c.fact 64), He.free_ok X G (c.fact 65), He.free_ok X G (c.fact 66), He.free_ok X G (c.fact 67), He.free_ok X G (c.fact 68), He.free_ok X G (c.fact 69), He.free_ok X G (c.fact 70)⟩
theorem SaysY.ord (c : SaysY h K) (X : K.In h) (G : h.Ns mainGlobals mg) : OrdF K mg (cO K) := by
  obtain ⟨f0, F0⟩ := c.def_ 0
  obtain ⟨f1, F1⟩ := c.def_ 1
  obtain ⟨f2, F2⟩ := c.def_ 2
  exact ⟨He.glo_ok X G (c.fact 49), He.int_ok X G (c.fact 50), He.cls_ok (c.fact 51), He.noat_ok (c.fact 52), He.noat_ok (c.fact 53), He.noat_ok (c.fact 54), He.noat_ok (c.fact 55), ⟨_, f0, He.mkr_ok (c.fact 56), F0⟩, ⟨_, f1, He.meth_ok (c.fact 57), F1⟩, ⟨_, _, f2, prB_ok c.pr, F2⟩⟩
theorem SaysY.ls (c : SaysY h K) (X : K.In h) (G : h.Ns mainGlobals mg) : AtC K mg "lower_sets" (topS 13) (He.cT K lsT).1 := by
  obtain ⟨fd, F⟩ := c.def_ (3 + 4) (d := fyT ("lower_sets", 13))
  have hm : mg ("lower_sets" : Str) = some (.ref (He.ga K "lower_sets")) := He.glo_ok X G (c.fact 4)
  refine ⟨He.ga K "lower_sets", fd, F, hm, ?_⟩
  obtain ⟨oc, od, dV, kV, doc, pm, an, cdv, ct, osl, rfl, lk, hcd, _, _⟩ := F.ex -- (Dw)
  obtain ⟨c0, rfl⟩ := He.codeIn_ref hcd
  show Value.ref c0 = .ref (He.codeOf K lsT)
  rw [He.codeOf_eq (K := K) (p := lsT) (c := c0) lk rfl]
theorem law_kn {base : Heap} {C : Addr} {c : SaysY h K} (X : K.In h) (G : h.Ns mainGlobals mg) (TB : LamX.TabB base mg (He.cT K lsT).1 (He.cT K lsT).2) : LawKn P w K mg base (cO K) (He.cT K lsT).2 := by
  have B := c.bl X G
  have O := c.ord X G
  have a : ∀ (i : Nat) {x : Str} {n : Nat}, (tops ++ tops2)[i]? = some (x, n) → At K mg x (topS n) := fun i _ _ e => c.at_ X G i e
  have k60 : DrawK P w K mg base := ok_draw (a 12 rfl) B
  have k61 : MixK P w K mg base := ok_mixed (a 13 rfl) B k60
  have k62 := ok_closed (P := P) (w := w) (base := base) (a 14 rfl) B
  have k63 := ok_pairs (P := P) (w := w) (base := base) (a 15 rfl) B
  have k64 := ok_apart (P := P) (w := w) (base := base) (a 16 rfl) B
  have k65 := ok_allap (a 17 rfl) B k64
  have k66 := ok_covers (P := P) (w := w) (base := base) (a 18 rfl) B
  have k67 := ok_lower (P := P) (w := w) (base := base) (a 19 rfl) B
  have k68 := ok_isint (P := P) (w := w) (base := base) (a 20 rfl) B
  have k69 := ok_areint (a 21 rfl) B k68
  have k71 := ok_anyspans (a 23 rfl) B k60
  have k72 := ok_bysp (P := P) (w := w) (base := base) (a 24 rfl) B
  have k75 : ∀ m, Kn P w K mg base "_law_tree_members" (m + 1) ["_law_tree"] (spP (S_trmem m)) := fun m => ok_trmem (a 27 rfl) B m
  have fam : Fams P w K mg base := ⟨k60, k61, ok_anypairs (a 22 rfl) B k60 k61, k71, k72, ok_byrows (a 25 rfl) B, ok_anytree (a 26 rfl) B k60 40, ok_bytree (a 28 rfl) B k75 40, ok_anyarcs (a 29 rfl) B k60, ok_byar (a 30 rfl) B, ok_anyparents (a 31 rfl) B k60 k61, ok_bypa (a 32 rfl) B, ok_byrk (a 33 rfl) B, ok_crown (a 34 rfl) B k60 k61⟩
  have k83 := ok_family (a 35 rfl) B fam
  have k86 := ok_short (P := P) (w := w) (base := base) (a 38 rfl) B
  have k87 := ok_arepr (a 39 rfl) B k86 k69
  have k94 := ok_tableof (a 40 rfl) B k87 k72 k62
  have k95 := ok_memb (a 41 rfl) B k69
  have k97 := ok_four (a 42 rfl) B k65
  have k98 := ok_bars (a 43 rfl) B k95 k97
  have k101 := ok_lsets (a 46 rfl) B k67
  have k7 := ok_elem (P := P) (w := w) (base := base) (a 0 rfl) B
  have k8 := ok_maskof (P := P) (w := w) (base := base) (a 1 rfl) B
  have k9 := ok_ring (P := P) (w := w) (base := base) (a 2 rfl) B
  have k10 := ok_cmasks (a 3 rfl) B k8
  have k13 := ok_lmasks (P := P) (w := w) (c.ls X G) O B TB k7
  have k14 := ok_crossed (T := (He.cT K lsT).2) (a 5 rfl) O B k7
  have k15 := ok_fault (a 6 rfl) O B k14
  have k16 := ok_drawsp (a 7 rfl) O B k13 k15
  exact ⟨ok_cell (a 10 rfl) B, ok_stream (a 11 rfl) B, k60, k62, k71, ok_byspO (a 24 rfl) B, ok_anyorder (a 36 rfl) B k60 k83 k62, ok_told (a 37 rfl) B k60 k61 k63 k66, ok_hasbar (a 44 rfl) B k98, ok_right (a 45 rfl) B k94 k98, k101, ok_spans (a 47 rfl) B k67 k101, mak_order O B k7 k9 k10, k16, ok_endcount (a 8 rfl) B k13, ok_draw2 (a 9 rfl) k16⟩
end
end Dw
open PySem PySem.W PySem.Calls PyProof.Rows -- (Dw)
theorem PySem.Challenge.cw_drawnorders_k12_whole_spans_holds : PySem.Challenge.rw_drawnorders_k12_whole_spans.Holds := by
  w_on; o_law
  refine HandSHeadRun.head_any (r := Dw.R) (q := view Dw.R.prog [103]) (H := Dw.hookY) (ob := Dw.ob) (M := 20000) (loose := Dw.names) (d := HandSHeadRun.topDef Dw.R.prog 103) (kwd := []) Dw.ob_eq
    (by kernel_rfl) (fun s => by kernel_rfl) Dw.run (by kernel_rfl) (by kernel_rfl) (by kernel_rfl) (by rfl) (by first | assumption | decide +kernel) (by decide +kernel) ⟨rfl, rfl, rfl, rfl, rfl, by decide +kernel⟩ ?hw ?hc
  case hw => w_witness2
  case hc =>
    refine Att.attach_callB (l := PySem.Challenge.rw_drawnorders_k12_whole_spans) (n := 63) rfl (by kernel_rfl) fun w s0 s1 mg mb fa o pm cd doc a vs ns G Y ho hd hcd hmg hobj hints hlen hbits hg => ?_
    obtain ⟨K, KX, c⟩ := Y
    have Gg := G.T.g
    have hmg : mg ("law" : PySem.Str) = some (.ref fa) := by -- (Dw)
      have e : (HandSHeadRun.topDef Dw.R.prog 103).name = ("law" : PySem.Str) := by kernel_rfl
      rw [← e]
      exact hmg
    obtain ⟨fd, F⟩ := c.def_ (3 + 48) (d := Dw.fyT ("law", 103))
    have e0 := hmg.symm.trans (He.glo_ok KX Gg (c.fact 48 (f := .glo "law")))
    cases e0
    refine Dw.law_call1 (E := fun _ _ _ => False) KX Gg G.T.b G.T.builtins G.T.nolimit hg c.empty c.out (PySem.W.codeHd_of_K KX c.hd) G.T.bmain hobj hints (Nat.le_trans hlen (by decide)) fun base H k1 k2 TB hT hs e1 => ?_
    have L := Dw.law_kn (P := PySem.Challenge.rw_drawnorders_k12_whole_spans.prog) (w := w) (C := 0) (c := c) KX Gg TB
    have B := c.bl KX Gg
    obtain ⟨oc, od, dV, kV, doc', pm', an, cdv, ct, osl, rfl, lk, hcdI, hdv, hkv⟩ := F.ex
    have bn := L2.FunD.bindsN (ps := ["_law_script"]) F fun _ _ _ _ _ _ us hl => match us, hl with | [_], _ => rfl
    exact LamX.run_ofS (k := 44) lk hcdI Dw.sc103 ⟨rfl, by decide, by decide⟩ e1 (bn s1 [.ref a] KX rfl) (vs := [L2.V.ref a]) (.cons rfl .nil) rfl fun hr' => ⟨_, (Dw.pss_self).nox, Dw.law_body L B hr' rfl hs (LamX.TabS.nil hT)⟩
