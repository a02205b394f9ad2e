import PyProof.Rows.All
import HandS.ForMost
import HandS.ForExc
import HandS.Walk
import HandS.IsInst
import HandS.Deep
import HandS.Flow
import HandS.NoneIn
import HandS.Zip
import HandS.Conv
import PySem.Challenge.RW_noteshold_k08_whole_following
import HandS.Set
import HandS.Strs
import HandS.TupSets
import KE.GoesMore
import HandS.ExcInit
import KE.KExcSuper
import KE.KSuper
import HandS.ExcField
import HandS.TryMany
import HandS.ReplaceDef
import KE.KDictPairs
import HandS.DictComp
import HandS.ListItems
import HandS.Exc
import HandS.Lambda
import PyProof.ReprRoads
import HandS.EndTab
import HandS.HeadWalk
import HandS.DeepEq
import HandS.ListEq
import HandS.HeadHook4
import HandS.Head2
import Wide.All
import OpenK.AllK
import Wide.FinOn
import KE.KStateDown
import HandS.Ends
import HandS.Defaults
import HandS.HeadEnd
set_option Elab.async false
set_option linter.all false
set_option maxRecDepth 100000
set_option maxHeartbeats 4000000
/-! K8a: data that is laid in a heap, a frozen base within it, what evaluates to what. -/
namespace K8
open PySem PySem.Spec PyProof.Rows L2

/-! ### data, laid -/
def keyD : Key → PyData
  | .inl i => .int i
  | .inr x => .str x
mutual
/-- the value v is the data d in the heap H -/
inductive R (K : PySem.W.Frag) (H : Hp) : V → PyData → Prop
  | non : R K H .non .none
  | bl (b : Bool) : R K H (.bl b) (.bool b)
  | int (i : Int) : R K H (.int i) (.int i)
  | str (x : Str) : R K H (.str x) (.str x)
  | lst {a : Addr} {xs : List V} {ds : List PyData} : H a = some (.lst xs) → RAll K H xs ds → R K H (.ref a) (.list ds)
  | tup {a : Addr} {xs : List V} {ds : List PyData} : H a = some (.tup xs) → RAll K H xs ds → R K H (.ref a) (.tuple ds)
  | dk {a : Addr} {kvs : List (Key × V)} {es : List (PyData × PyData)} : H a = some (.dK kvs) → RKs K H kvs es → R K H (.ref a) (.dict es)
  | dt {a : Addr} {kvs : List (List Key × V)} {es : List (PyData × PyData)} : H a = some (.dT kvs) → kvs ≠ [] → RTs K H kvs es → R K H (.ref a) (.dict es)
inductive RAll (K : PySem.W.Frag) (H : Hp) : List V → List PyData → Prop
  | nil : RAll K H [] []
  | cons {v : V} {vs : List V} {d : PyData} {ds : List PyData} : R K H v d → RAll K H vs ds → RAll K H (v :: vs) (d :: ds)
inductive RKs (K : PySem.W.Frag) (H : Hp) : List (Key × V) → List (PyData × PyData) → Prop
  | nil : RKs K H [] []
  | cons {k : Key} {v : V} {vs : List (Key × V)} {d : PyData} {ds : List (PyData × PyData)} : R K H v d → RKs K H vs ds → RKs K H ((k, v) :: vs) ((keyD k, d) :: ds)
inductive RTs (K : PySem.W.Frag) (H : Hp) : List (List Key × V) → List (PyData × PyData) → Prop
  | nil : RTs K H [] []
  | cons {k : List Key} {v : V} {vs : List (List Key × V)} {d : PyData} {ds : List (PyData × PyData)} : R K H v d → RTs K H vs ds → RTs K H ((k, v) :: vs) ((.tuple (k.map keyD), d) :: ds)
end
section
variable {K : PySem.W.Frag} {H H' : Hp}
theorem sqt_mono {a : Addr} {xs : List V} (e : Same H H') (h : SqT K H a xs) : SqT K H' a xs := by
  rcases h with (h | ⟨o, h⟩) | h
  · exact .inl (.inl (e _ _ h))
  · exact .inl (.inr ⟨o, e _ _ h⟩)
  · exact .inr h
mutual
theorem R.mono (e : Same H H') : ∀ {v : V} {d : PyData}, R K H v d → R K H' v d
  | _, _, .non => .non
  | _, _, .bl b => .bl b
  | _, _, .int i => .int i
  | _, _, .str x => .str x
  | _, _, .lst h r => .lst (e _ _ h) (RAll.mono e r)
  | _, _, .tup h r => .tup (e _ _ h) (RAll.mono e r)
  | _, _, .dk h r => .dk (e _ _ h) (RKs.mono e r)
  | _, _, .dt h n r => .dt (e _ _ h) n (RTs.mono e r)
theorem RAll.mono (e : Same H H') : ∀ {v : List V} {d : List PyData}, RAll K H v d → RAll K H' v d
  | _, _, .nil => .nil
  | _, _, .cons h r => .cons (R.mono e h) (RAll.mono e r)
theorem RKs.mono (e : Same H H') : ∀ {v : List (Key × V)} {d : List (PyData × PyData)}, RKs K H v d → RKs K H' v d
  | _, _, .nil => .nil
  | _, _, .cons h r => .cons (R.mono e h) (RKs.mono e r)
theorem RTs.mono (e : Same H H') : ∀ {v : List (List Key × V)} {d : List (PyData × PyData)}, RTs K H v d → RTs K H' v d
  | _, _, .nil => .nil
  | _, _, .cons h r => .cons (R.mono e h) (RTs.mono e r)
end
/- no dict in it -/
mutual
def flat : PyData → Bool
  | .list xs => flatAll xs
  | .tuple xs => flatAll xs
  | .dict _ => false
  | _ => true
def flatAll : List PyData → Bool
  | [] => true
  | d :: ds => flat d && flatAll ds
end
mutual
theorem R.dp : ∀ {v : V} {d : PyData}, R K H v d → flat d = true → Dp K H v d
  | _, _, .non, _ => .non
  | _, _, .bl b, _ => .bl b
  | _, _, .int i, _ => .int i
  | _, _, .str x, _ => .str x
  | _, _, .lst h r, f => .lst (.inl (.inl h)) (RAll.dp r (by simpa [flat] using f))
  | _, _, .tup h r, f => .tup (.inl (.inl h)) (RAll.dp r (by simpa [flat] using f))
  | _, _, .dk h r, f => by simp [flat] at f
  | _, _, .dt h n r, f => by simp [flat] at f
theorem RAll.dp : ∀ {v : List V} {d : List PyData}, RAll K H v d → flatAll d = true → DpAll K H v d
  | _, _, .nil, _ => .nil
  | _, d :: ds, .cons h r, f => by
    have f2 : flat d = true ∧ flatAll ds = true := by simpa [flatAll] using f
    exact .cons (R.dp h f2.1) (RAll.dp r f2.2)
end
theorem R.bl_inv {v : V} {b : Bool} (h : R K H v (.bool b)) : v = .bl b := by cases h; rfl
theorem R.int_inv {v : V} {b : Int} (h : R K H v (.int b)) : v = .int b := by cases h; rfl
theorem R.str_inv {v : V} {b : Str} (h : R K H v (.str b)) : v = .str b := by cases h; rfl
theorem R.non_inv {v : V} (h : R K H v .none) : v = .non := by cases h; rfl
theorem R.lst_at {v : V} {ds : List PyData} (h : R K H v (.list ds)) : ∃ a xs, v = .ref a ∧ H a = some (.lst xs) ∧ RAll K H xs ds := by
  cases h with
  | lst h r => exact ⟨_, _, rfl, h, r⟩
theorem R.lst_inv {v : V} {ds : List PyData} (h : R K H v (.list ds)) : ∃ a xs, v = .ref a ∧ SqL K H a xs ∧ RAll K H xs ds := by
  cases h with
  | lst h r => exact ⟨_, _, rfl, .inl (.inl h), r⟩
theorem R.tup_inv {v : V} {ds : List PyData} (h : R K H v (.tuple ds)) : ∃ a xs, v = .ref a ∧ SqT K H a xs ∧ RAll K H xs ds := by
  cases h with
  | tup h r => exact ⟨_, _, rfl, .inl (.inl h), r⟩
theorem R.tup_at {v : V} {ds : List PyData} (h : R K H v (.tuple ds)) : ∃ a xs, v = .ref a ∧ H a = some (.tup xs) ∧ RAll K H xs ds := by
  cases h with
  | tup h r => exact ⟨_, _, rfl, h, r⟩
theorem RAll.len : ∀ {vs : List V} {ds : List PyData}, RAll K H vs ds → vs.length = ds.length
  | _, _, .nil => rfl
  | _, _, .cons _ r => by rw [List.length_cons, List.length_cons, RAll.len r]
theorem RAll.get : ∀ {vs : List V} {ds : List PyData} {i : Nat} {d : PyData}, RAll K H vs ds → ds[i]? = some d → ∃ v, vs[i]? = some v ∧ R K H v d
  | _, _, _, _, .nil, h => by simp at h
  | _, _, 0, d, .cons h _, e => by
    simp at e
    subst e
    exact ⟨_, rfl, h⟩
  | _, _, i + 1, d, .cons _ r, e => by
    obtain ⟨v, e1, e2⟩ := RAll.get (i := i) (d := d) r (by simpa using e)
    exact ⟨v, by simpa using e1, e2⟩
theorem RAll.get' : ∀ {vs : List V} {ds : List PyData} {i : Nat} {v : V}, RAll K H vs ds → vs[i]? = some v → ∃ d, ds[i]? = some d ∧ R K H v d
  | _, _, _, _, .nil, h => by simp at h
  | _, _, 0, d, .cons h _, e => by
    simp at e
    subst e
    exact ⟨_, rfl, h⟩
  | _, _, i + 1, d, .cons _ r, e => by
    obtain ⟨v, e1, e2⟩ := RAll.get' (i := i) (v := d) r (by simpa using e)
    exact ⟨v, by simpa using e1, e2⟩
theorem RAll.app : ∀ {vs ws : List V} {ds es : List PyData}, RAll K H vs ds → RAll K H ws es → RAll K H (vs ++ ws) (ds ++ es)
  | _, _, _, _, .nil, s => s
  | _, _, _, _, .cons h r, s => .cons h (RAll.app r s)
theorem RAll.bls {K : PySem.W.Frag} {H : Hp} : ∀ {vs : List V} {bs : List Bool}, RAll K H vs (bs.map .bool) → vs = bs.map V.bl
  | _, [], .nil => rfl
  | _, b :: bs, .cons h r => by rw [List.map_cons, RAll.bls r, h.bl_inv]
theorem RAll.strs {K : PySem.W.Frag} {H : Hp} : ∀ {vs : List V} {bs : List Str}, RAll K H vs (bs.map .str) → vs = bs.map V.str
  | _, [], .nil => rfl
  | _, b :: bs, .cons h r => by rw [List.map_cons, RAll.strs r, h.str_inv]
theorem RAll.of_strs {K : PySem.W.Frag} {H : Hp} : ∀ (bs : List Str), RAll K H (bs.map V.str) (bs.map .str)
  | [] => .nil
  | b :: bs => .cons (.str b) (RAll.of_strs bs)
theorem RAll.of_bls {K : PySem.W.Frag} {H : Hp} : ∀ (bs : List Bool), RAll K H (bs.map V.bl) (bs.map .bool)
  | [] => .nil
  | b :: bs => .cons (.bl b) (RAll.of_bls bs)
end

/-! ### the frozen base within the heap -/
/-- from (B, H) to (B', H'): the base grows, what H holds stays but for S; what stood outside the base stays outside -/
structure Fz (S : Addr → Prop) (B H B' H' : Hp) : Prop where
  bb : Same B B'
  bh : Same B' H'
  hh : ∀ a o, ¬ S a → H a = some o → H' a = some o
  out : ∀ p, H p ≠ none → B p = none → B' p = none
  al : ∀ p, H p ≠ none → H' p ≠ none
abbrev NoS : Addr → Prop := fun _ => False
abbrev F0 := Fz NoS
theorem Fz.refl {S : Addr → Prop} {B H : Hp} (h : Same B H) : Fz S B H B H := ⟨Same.refl B, h, fun _ _ _ e => e, fun _ _ e => e, fun _ e => e⟩
theorem Fz.trans {S : Addr → Prop} {B H B1 H1 B2 H2 : Hp} (a : Fz S B H B1 H1) (b : Fz S B1 H1 B2 H2) : Fz S B H B2 H2 :=
  ⟨a.bb.trans b.bb, b.bh, fun p o n e => b.hh p o n (a.hh p o n e), fun p n e => b.out p (a.al p n) (a.out p n e), fun p n => b.al p (a.al p n)⟩
theorem Fz.sub {S S' : Addr → Prop} {B H B1 H1 : Hp} (a : Fz S B H B1 H1) (h : ∀ p, S p → S' p) : Fz S' B H B1 H1 :=
  ⟨a.bb, a.bh, fun p o n e => a.hh p o (fun z => n (h p z)) e, a.out, a.al⟩
theorem Fz.hs {B H B1 H1 : Hp} (a : Fz NoS B H B1 H1) : Same H H1 := fun p o e => a.hh p o (fun z => z) e
theorem Fz.to {S : Addr → Prop} {B H B1 H1 : Hp} (a : Fz NoS B H B1 H1) : Fz S B H B1 H1 := a.sub fun _ z => z.elim
/-- a new object joins the base -/
theorem F0.new {B H : Hp} {p : Addr} {o : HO} (h : Same B H) (n : H p = none) : F0 B H (upd B p o) (upd H p o) where
  bb := fun b u e => by
    have nb : b ≠ p := ne_of_none (h _ _ e) n
    rw [upd_ne nb]
    exact e
  bh := fun b u e => by
    by_cases hb : b = p
    · rw [hb, upd_same] at e
      rw [hb, upd_same]
      exact e
    · rw [upd_ne hb] at e
      rw [upd_ne hb]
      exact h _ _ e
  hh := fun a u _ e => by
    rw [upd_ne (ne_of_none e n)]
    exact e
  out := fun q hq e => by
    have : q ≠ p := fun z => hq (by rw [z]; exact n)
    rw [upd_ne this]
    exact e
  al := fun q hq => by
    by_cases hb : q = p
    · rw [hb, upd_same]
      simp
    · rw [upd_ne hb]
      exact hq
/-- the union of two bases -/
def uni (B C : Hp) : Hp := fun a => match C a with
  | some o => some o
  | none => B a
theorem uni_mono {B0 B H B1 H1 : Hp} (f : F0 B0 H B1 H1) (h0 : Same B0 B) (h : Same B H) : F0 B H (uni B B1) H1 ∧ Same B1 (uni B B1) := by
  have key : ∀ a o, B a = some o → uni B B1 a = some o := fun a o e => by
    unfold uni
    cases q : B1 a with
    | none => exact e
    | some u =>
      have e1 := f.bh _ _ q
      have e2 := f.hs _ _ (h _ _ e)
      exact e1.symm.trans e2
  refine ⟨⟨key, fun a o e => ?_, f.hh, fun p n e => ?_, f.al⟩, fun a o e => ?_⟩
  · unfold uni at e
    cases q : B1 a with
    | none =>
      rw [q] at e
      exact f.hs _ _ (h _ _ e)
    | some u =>
      rw [q] at e
      cases e
      exact f.bh _ _ q
  · have e0 : B0 p = none := h0.free e
    have e1 := f.out p n e0
    unfold uni
    rw [e1]
    exact e
  · unfold uni
    rw [e]

/-! ### what evaluates to what -/
section
variable (K : PySem.W.Frag)
def EvD (te : TE) (σ : L2.St) (B : Hp) (d : PyData) : Prop := ∀ H, Same B H → ∀ Q : VK, (∀ v B' H', F0 B H B' H' → R K B' v d → Q v H') → te σ H Q
def EvT (tt : TT) (σ : L2.St) (B : Hp) (b : Bool) : Prop := ∀ H, Same B H → ∀ Q : Bool → Hp → Prop, (∀ B' H', F0 B H B' H' → Q b H') → tt σ H Q
def EvA (ta : TA) (σ : L2.St) (B : Hp) (ds : List PyData) : Prop := ∀ H, Same B H → ∀ Q : List V → Hp → Prop, (∀ vs B' H', F0 B H B' H' → RAll K B' vs ds → Q vs H') → ta σ H Q
end
section
variable {K : PySem.W.Frag} {σ : L2.St} {B B1 : Hp} {te ta tb : TE} {tt tu : TT} {tr : TA} {d d1 d2 : PyData} {b : Bool} {ds : List PyData}
theorem EvD.mono (h : EvD K te σ B d) (e : Same B B1) : EvD K te σ B1 d := fun H hb Q q => h H (e.trans hb) Q fun v B' H' f r => by
  obtain ⟨f1, s1⟩ := uni_mono f e hb
  exact q v _ H' f1 (r.mono s1)
theorem EvT.mono (h : EvT tt σ B b) (e : Same B B1) : EvT tt σ B1 b := fun H hb Q q => h H (e.trans hb) Q fun B' H' f => q _ H' (uni_mono f e hb).1
theorem EvA.mono (h : EvA K tr σ B ds) (e : Same B B1) : EvA K tr σ B1 ds := fun H hb Q q => h H (e.trans hb) Q fun v B' H' f r => by
  obtain ⟨f1, s1⟩ := uni_mono f e hb
  exact q v _ H' f1 (r.mono s1)
/-- a two-place operation on values of data -/
def RvD (K : PySem.W.Frag) (r : R2) (B : Hp) (d1 d2 d : PyData) : Prop := ∀ x y B1 H1, Same B B1 → Same B1 H1 → R K B1 x d1 → R K B1 y d2 → ∀ Q : VK, (∀ v B' H', F0 B1 H1 B' H' → R K B' v d → Q v H') → r x y H1 Q
theorem ev_op {r : R2} (ha : EvD K ta σ B d1) (hb : EvD K tb σ B d2) (hr : RvD K r B d1 d2 d) : EvD K (tOp r ta tb) σ B d := fun H h Q q =>
  ha H h _ fun x B1 H1 f1 r1 => (hb.mono f1.bb) H1 f1.bh _ fun y B2 H2 f2 r2 => hr x y B2 H2 (f1.bb.trans f2.bb) f2.bh (r1.mono f2.bb) r2 Q fun v B' H' f3 r3 => q v B' H' ((f1.trans f2).trans f3) r3
theorem ev_var {i : Nat} {v : V} (h : σ[i]? = some (some v)) (r : R K B v d) : EvD K (tVar i) σ B d := fun H hb Q q => ⟨v, h, q v B H (Fz.refl hb) r⟩
theorem ev_c {v : V} (r : R K B v d) : EvD K (tC v) σ B d := fun H hb Q q => q v B H (Fz.refl hb) r
theorem ea_nil : EvA K tNil σ B [] := fun H hb Q q => q [] B H (Fz.refl hb) .nil
theorem ea_cons (h : EvD K te σ B d) (hr : EvA K tr σ B ds) : EvA K (tCons te tr) σ B (d :: ds) := fun H hb Q q =>
  h H hb _ fun v B1 H1 f1 r1 => (hr.mono f1.bb) H1 f1.bh _ fun vs B2 H2 f2 r2 => q _ B2 H2 (f1.trans f2) (.cons (r1.mono f2.bb) r2)
theorem r_upd_t {B H : Hp} {p : Addr} {vs : List V} (h : Same B H) (n : H p = none) (r : RAll K B vs ds) : R K (upd B p (.tup vs)) (.ref p) (.tuple ds) :=
  .tup upd_same (r.mono (F0.new (o := .tup vs) h n).bb)
theorem r_upd_l {B H : Hp} {p : Addr} {vs : List V} (h : Same B H) (n : H p = none) (r : RAll K B vs ds) : R K (upd B p (.lst vs)) (.ref p) (.list ds) :=
  .lst upd_same (r.mono (F0.new (o := .lst vs) h n).bb)
theorem ev_tup (h : EvA K tr σ B ds) (hl : ds.length ≤ 100000) : EvD K (tTup tr) σ B (.tuple ds) := fun H hb Q q =>
  h H hb _ fun vs B1 H1 f1 r1 => ⟨by rw [r1.len]; exact Nat.le_trans hl (by decide), fun p hp => q _ _ _ (f1.trans (F0.new f1.bh hp)) (r_upd_t f1.bh hp r1)⟩
theorem ev_lst (h : EvA K tr σ B ds) (hl : ds.length ≤ 100000) : EvD K (tLst tr) σ B (.list ds) := fun H hb Q q =>
  h H hb _ fun vs B1 H1 f1 r1 => ⟨by rw [r1.len]; exact Nat.le_trans hl (by decide), fun p hp => q _ _ _ (f1.trans (F0.new f1.bh hp)) (r_upd_l f1.bh hp r1)⟩
end
end K8

set_option Elab.async false
set_option linter.all false
set_option maxRecDepth 100000
set_option maxHeartbeats 4000000
/-! K8b: the rules, said of data. -/
namespace K8
open PySem PySem.Spec PyProof.Rows L2

/-! ### what a piece of syntax does, as a reading of its own -/
@[irreducible] def wpE (X : Cx) (e : Expr) : TE := fun σ H Q => ∀ (pins : List (Addr × Obj)) (s : Shared), Inv X pins σ H s → wpAny (model X.prog X.w) X.A (eval e X.env) (EP X pins σ Q) X.xe s
@[irreducible] def wpT (X : Cx) (e : Expr) : TT := fun σ H Q => ∀ (pins : List (Addr × Obj)) (s : Shared), Inv X pins σ H s → wpAny (model X.prog X.w) X.A (isTrue e X.env (eval e X.env)) (TP X pins σ Q) X.xe s
@[irreducible] def wpW (X : Cx) (e : Expr) : TT := fun σ H Q => ∀ (whole : Sem Value) (pins : List (Addr × Obj)) (s : Shared), Inv X pins σ H s → wpAny (model X.prog X.w) X.A (isTrue e X.env whole) (TP X pins σ Q) X.xe s
@[irreducible] def wpA (X : Cx) (es : List Expr) : TA := fun σ H Q => ∀ (pos : Pos) (pins : List (Addr × Obj)) (s : Shared), Inv X pins σ H s → wpAny (model X.prog X.w) X.A (spliced (backTo pos (starEach es X.env))) (AP X pins σ Q) X.xe s
@[irreducible] def wpS (X : Cx) (st : Stmt) : TS := fun D σ H => ∀ (pins : List (Addr × Obj)) (s : Shared), Inv X pins σ H s → wpAny (model X.prog X.w) X.A (exec st X.env) (SP X pins D) X.xe s
@[irreducible] def wpB (X : Cx) (st : List Stmt) : TS := fun D σ H => ∀ (pins : List (Addr × Obj)) (s : Shared), Inv X pins σ H s → wpAny (model X.prog X.w) X.A (execs st X.env) (SP X pins D) X.xe s
section
variable {X : Cx} {e : Expr} {es : List Expr} {st : Stmt} {sts : List Stmt} {σ : L2.St} {H : Hp}
theorem pe_wp : PE X e (wpE X e) := ⟨fun pins s σ H Q I h => by
  unfold wpE at h
  exact h pins s I⟩
theorem pt_wp : PT X e (wpT X e) := ⟨fun pins s σ H Q I h => by
  unfold wpT at h
  exact h pins s I⟩
theorem pw_wp : PW X e (wpW X e) := ⟨fun wh pins s σ H Q I h => by
  unfold wpW at h
  exact h wh pins s I⟩
theorem pa_wp : PA X es (wpA X es) := ⟨fun pos pins s σ H Q I h => by
  unfold wpA at h
  exact h pos pins s I⟩
theorem ps_wp : PS X st (wpS X st) := ⟨fun pins s σ H Q I h => by
  unfold wpS at h
  exact h pins s I⟩
theorem pb_wp : PSs X sts (wpB X sts) := ⟨fun pins s σ H Q I h => by
  unfold wpB at h
  exact h pins s I⟩
theorem PE.wp {t : TE} {Q : VK} (h : PE X e t) (k : t σ H Q) : wpE X e σ H Q := by
  unfold wpE
  exact fun pins s I => h.run pins s σ H Q I k
theorem PT.wp {t : TT} {Q : Bool → Hp → Prop} (h : PT X e t) (k : t σ H Q) : wpT X e σ H Q := by
  unfold wpT
  exact fun pins s I => h.run pins s σ H Q I k
theorem PW.wp {t : TT} {Q : Bool → Hp → Prop} (h : PW X e t) (k : t σ H Q) : wpW X e σ H Q := by
  unfold wpW
  exact fun wh pins s I => h.run wh pins s σ H Q I k
theorem PA.wp {t : TA} {Q : List V → Hp → Prop} (h : PA X es t) (k : t σ H Q) : wpA X es σ H Q := by
  unfold wpA
  exact fun pos pins s I => h.run pos pins s σ H Q I k
theorem PS.wp {t : TS} {D : Ends} (h : PS X st t) (k : t D σ H) : wpS X st D σ H := by
  unfold wpS
  exact fun pins s I => h.run pins s σ H D I k
theorem PSs.wp {t : TS} {D : Ends} (h : PSs X sts t) (k : t D σ H) : wpB X sts D σ H := by
  unfold wpB
  exact fun pins s I => h.run pins s σ H D I k
end
def PD (X : Cx) (e : Expr) (σ : L2.St) (B : Hp) (d : PyData) : Prop := EvD X.K (wpE X e) σ B d
def TD (X : Cx) (e : Expr) (σ : L2.St) (B : Hp) (b : Bool) : Prop := EvT (wpT X e) σ B b
def WD (X : Cx) (e : Expr) (σ : L2.St) (B : Hp) (b : Bool) : Prop := EvT (wpW X e) σ B b
def AD (X : Cx) (es : List Expr) (σ : L2.St) (B : Hp) (ds : List PyData) : Prop := EvA X.K (wpA X es) σ B ds
section
variable {X : Cx} {e a b c : Expr} {es : List Expr} {σ : L2.St} {B B1 : Hp} {d d1 d2 : PyData} {ds : List PyData} {t : TE} {tt : TT} {ta : TA} {p q : Bool} {i j : Int} {pos p1 p2 p3 apos : Pos} {k n : Nat}
theorem PD.of (h : PE X e t) (k : EvD X.K t σ B d) : PD X e σ B d := fun H hb Q q => PE.wp h (k H hb Q q)
theorem TD.of (h : PT X e tt) (k : EvT tt σ B p) : TD X e σ B p := fun H hb Q q => PT.wp h (k H hb Q q)
theorem WD.of (h : PW X e tt) (k : EvT tt σ B p) : WD X e σ B p := fun H hb Q q => PW.wp h (k H hb Q q)
theorem AD.of (h : PA X es ta) (k : EvA X.K ta σ B ds) : AD X es σ B ds := fun H hb Q q => PA.wp h (k H hb Q q)
theorem PD.mono (h : PD X e σ B d) (s : Same B B1) : PD X e σ B1 d := EvD.mono h s
theorem TD.mono (h : TD X e σ B p) (s : Same B B1) : TD X e σ B1 p := EvT.mono h s
theorem AD.mono (h : AD X es σ B ds) (s : Same B B1) : AD X es σ B1 ds := EvA.mono h s
theorem PD.cast (h : PD X e σ B d1) (s : d1 = d2) : PD X e σ B d2 := s ▸ h
theorem TD.cast (h : TD X e σ B p) (s : p = q) : TD X e σ B q := s ▸ h

/-! ### names, constants, displays -/
theorem pd_var (i : Nat) {x : Str} {v : V} (h : σ[i]? = some (some v)) (r : R X.K B v d) (hN : X.N[i]? = some x := by rfl) (hv : Vis X.env.scope x := by first | exact Or.inl rfl | exact Or.inr (Or.inl rfl) | exact Or.inr (Or.inr rfl)) (hd : (x == ("__debug__" : Str)) = false := by decide)
    (hcd : (x == ("__classdict__" : Str)) = false := by decide) : PD X (.Name x pos) σ B d := .of (pe_var hN hv hd hcd) (ev_var h r)
theorem pd_int : PD X (.Constant (.int i) k pos) σ B (.int i) := .of pe_int (ev_c (.int i))
theorem pd_bl : PD X (.Constant (.bool p) k pos) σ B (.bool p) := .of pe_bl (ev_c (.bl p))
theorem pd_str {x : Str} : PD X (.Constant (.str x) k pos) σ B (.str x) := .of pe_str (ev_c (.str x))
theorem pd_non : PD X (.Constant .none k pos) σ B .none := .of pe_non (ev_c .non)
theorem ad_nil : AD X [] σ B [] := .of pa_nil ea_nil
theorem ad_cons (h : PD X e σ B d) (r : AD X es σ B ds) (hs : starEach (e :: es) X.env = (false, eval e X.env) :: starEach es X.env := by rfl) : AD X (e :: es) σ B (d :: ds) := .of (pa_cons pe_wp pa_wp hs) (ea_cons h r)
theorem pd_tup {n : Nat} (h : AD X es σ B ds) (hl : ds.length ≤ 100000) : PD X (.Tuple es n pos) σ B (.tuple ds) := .of (pe_tup pa_wp) (ev_tup h hl)
theorem pd_lst (h : AD X es σ B ds) (hl : ds.length ≤ 100000) : PD X (.List es pos) σ B (.list ds) := .of (pe_lst pa_wp) (ev_lst h hl)

/-! ### operators -/
theorem pd_op {op : Operator} {r : R2} (ho : OpR X (binaryOp op) r) (ha : PD X a σ B d1) (hb : PD X b σ B d2) (hr : RvD X.K r B d1 d2 d) : PD X (.BinOp a op b pos) σ B d := .of (pe_op ho pe_wp pe_wp) (ev_op ha hb hr)
/-- a comparison and what it answers -/
def CD (X : Cx) (op : CmpOp) (a b : Expr) (σ : L2.St) (B : Hp) (p : Bool) : Prop := ∃ r : R2, OpR X (compareOp op) r ∧ EvD X.K (tOp r (wpE X a) (wpE X b)) σ B (.bool p) ∧ behindInMarks op b = false
theorem CD.pd {op : CmpOp} (h : CD X op a b σ B p) : PD X (.Compare a [op] [b] pos) σ B (.bool p) := by
  obtain ⟨r, ho, hr, hm⟩ := h
  exact .of (pe_cmpR ho pe_wp pe_wp hm) hr
theorem CD.td {op : CmpOp} (h : CD X op a b σ B p) : TD X (.Compare a [op] [b] pos) σ B p := by
  obtain ⟨r, ho, hr, hm⟩ := h
  exact .of (pt_cmpR ho pe_wp pe_wp hm) fun H hb Q k => hr H hb _ fun v B1 H1 f1 r1 => ⟨p, r1.bl_inv, k B1 H1 f1⟩
theorem CD.cast {op : CmpOp} (h : CD X op a b σ B p) (s : p = q) : CD X op a b σ B q := s ▸ h
theorem cd_cmp {op : CmpOp} {r : R2} (ho : OpR X (compareOp op) r) (ha : PD X a σ B d1) (hb : PD X b σ B d2) (hr : RvD X.K r B d1 d2 (.bool p)) (hm : behindInMarks op b = false) : CD X op a b σ B p := ⟨r, ho, ev_op ha hb hr, hm⟩
theorem rv_I0 {K : PySem.W.Frag} {g : Int → Int → V} (h : ∀ B, R K B (g i j) d) : RvD K (rI0 g) B (.int i) (.int j) d := fun x y B1 H1 _ s1 r1 r2 Q q => by
  rw [r1.int_inv, r2.int_inv]
  exact ⟨i, j, rfl, rfl, q _ B1 H1 (Fz.refl s1) (h B1)⟩
theorem rv_I {K : PySem.W.Frag} {C : Int → Int → Prop} {g : Int → Int → V} (hc : C i j) (h : ∀ B, R K B (g i j) d) : RvD K (rI C g) B (.int i) (.int j) d := fun x y B1 H1 _ s1 r1 r2 Q q => by
  rw [r1.int_inv, r2.int_inv]
  exact ⟨i, j, rfl, rfl, hc, q _ B1 H1 (Fz.refl s1) (h B1)⟩
theorem pd_add (ha : PD X a σ B (.int i)) (hb : PD X b σ B (.int j)) : PD X (.BinOp a .Add b pos) σ B (.int (i + j)) := pd_op op_add ha hb (rv_I0 fun _ => .int _)
theorem pd_mul (ha : PD X a σ B (.int i)) (hb : PD X b σ B (.int j)) (hc : CMul i j) : PD X (.BinOp a .Mult b pos) σ B (.int (i * j)) := pd_op op_mul ha hb (rv_I hc fun _ => .int _)
theorem pd_mod (ha : PD X a σ B (.int i)) (hb : PD X b σ B (.int j)) (hc : 0 < j) : PD X (.BinOp a .Mod b pos) σ B (.int (i % j)) := pd_op op_mod ha hb (rv_I hc fun _ => .int _)
theorem pd_fdiv (ha : PD X a σ B (.int i)) (hb : PD X b σ B (.int j)) (hc : CDiv i j) : PD X (.BinOp a .FloorDiv b pos) σ B (.int (i / j)) := pd_op op_fdiv ha hb (rv_I hc fun _ => .int _)
theorem pd_pow (ha : PD X a σ B (.int i)) (hb : PD X b σ B (.int j)) (hc : CPow i j) : PD X (.BinOp a .Pow b pos) σ B (.int (i ^ j.toNat)) := pd_op op_pow ha hb (rv_I hc fun _ => .int _)
theorem cd_lt (ha : PD X a σ B (.int i)) (hb : PD X b σ B (.int j)) : CD X .Lt a b σ B (decide (i < j)) := cd_cmp op_lt ha hb (rv_I0 fun _ => .bl _) (nomark _)
theorem cd_le (ha : PD X a σ B (.int i)) (hb : PD X b σ B (.int j)) : CD X .LtE a b σ B (decide (i ≤ j)) := cd_cmp op_le ha hb (rv_I0 fun _ => .bl _) (nomark _)
theorem cd_gt (ha : PD X a σ B (.int i)) (hb : PD X b σ B (.int j)) : CD X .Gt a b σ B (decide (j < i)) := cd_cmp op_gt ha hb (rv_I0 fun _ => .bl _) (nomark _)
theorem cd_ge (ha : PD X a σ B (.int i)) (hb : PD X b σ B (.int j)) : CD X .GtE a b σ B (decide (j ≤ i)) := cd_cmp op_ge ha hb (rv_I0 fun _ => .bl _) (nomark _)
theorem pd_adds {x y : Str} (ha : PD X a σ B (.str x)) (hb : PD X b σ B (.str y)) (hz : x.length + y.length ≤ 100000) : PD X (.BinOp a .Add b pos) σ B (.str (x ++ y)) := pd_op op_add_str ha hb fun u v B1 H1 _ s1 r1 r2 Q q => by
  rw [r1.str_inv, r2.str_inv]
  exact ⟨x, y, rfl, rfl, Nat.le_trans hz (by decide), q _ B1 H1 (Fz.refl s1) (.str _)⟩
mutual
theorem flat_lay : ∀ d : PyData, d.canLay0 = true → flat d = true
  | .none, _ => rfl
  | .bool _, _ => rfl
  | .int _, _ => rfl
  | .str _, _ => rfl
  | .list xs, h => by
    simp only [PyData.canLay0] at h
    simp only [flat]
    exact flat_lays xs h
  | .tuple xs, h => by
    simp only [PyData.canLay0] at h
    simp only [flat]
    exact flat_lays xs h
  | .dict _, h => by simp [PyData.canLay0] at h
theorem flat_lays : ∀ ds : List PyData, PyData.canLayAll0 ds = true → flatAll ds = true
  | [], _ => rfl
  | d :: ds, h => by
    simp only [PyData.canLayAll0, Bool.and_eq_true] at h
    simp only [flatAll, Bool.and_eq_true]
    exact ⟨flat_lay d h.1, flat_lays ds h.2⟩
end
theorem R.dps {K : PySem.W.Frag} {H : Hp} {v : V} {d : PyData} (r : R K H v d) (h : SeqAt.shaped d = true) : Dp K H v d := r.dp (flat_lay d (SeqAt.canLay_of_shaped h))
theorem cd_eq (hr : Room n X.A) (ha : PD X a σ B d1) (hb : PD X b σ B d2) (h1 : SeqAt.shaped d1 = true) (h2 : SeqAt.shaped d2 = true) : CD X .Eq a b σ B (PyData.eqv d1 d2) :=
  cd_cmp (op_eqD hr.units) ha hb (fun u v B1 H1 _ s1 r1 r2 Q q => ⟨d1, d2, (r1.mono s1).dps h1, (r2.mono s1).dps h2, h1, h2, q _ B1 H1 (Fz.refl s1) (.bl _)⟩) (nomark _)
theorem cd_ne (hr : Room n X.A) (ha : PD X a σ B d1) (hb : PD X b σ B d2) (h1 : SeqAt.shaped d1 = true) (h2 : SeqAt.shaped d2 = true) : CD X .NotEq a b σ B (!PyData.eqv d1 d2) :=
  cd_cmp (op_neD hr.units) ha hb (fun u v B1 H1 _ s1 r1 r2 Q q => ⟨d1, d2, (r1.mono s1).dps h1, (r2.mono s1).dps h2, h1, h2, q _ B1 H1 (Fz.refl s1) (.bl _)⟩) (nomark _)
def isNon : PyData → Bool
  | .none => true
  | _ => false
theorem R.non_iff {K : PySem.W.Frag} {H : Hp} {v : V} {d : PyData} (r : R K H v d) : decide (v = .non) = isNon d := by
  cases r <;> simp [isNon]
theorem cd_isN (ha : PD X a σ B d) (hp : isNon d = p := by rfl) : CD X .Is a (.Constant .none k p1) σ B p := hp ▸
  cd_cmp op_isN ha pd_non (fun u v B1 H1 _ s1 r1 r2 Q q => ⟨r2.non_inv, q _ B1 H1 (Fz.refl s1) (by rw [r1.non_iff]; exact .bl _)⟩) (nomark _)
theorem cd_notN (ha : PD X a σ B d) (hp : (!isNon d) = p := by rfl) : CD X .IsNot a (.Constant .none k p1) σ B p := hp ▸
  cd_cmp op_notN ha pd_non (fun u v B1 H1 _ s1 r1 r2 Q q => ⟨r2.non_inv, q _ B1 H1 (Fz.refl s1) (by rw [r1.non_iff]; exact .bl _)⟩) (nomark _)
theorem cd_inS {c : Nat} {z : Str} (ha : PD X a σ B (.str ⟨#[c]⟩)) (hb : PD X b σ B (.str z)) (hm : behindInMarks .In b = false) : CD X .In a b σ B (decide (c ∈ z.cps.toList)) :=
  cd_cmp op_in_sign ha hb (fun u v B1 H1 _ s1 r1 r2 Q q => by
    rw [r1.str_inv, r2.str_inv]
    exact ⟨c, z, rfl, rfl, q _ B1 H1 (Fz.refl s1) (.bl _)⟩) hm
theorem flat_strs : ∀ ss : List Str, (ss.map V.str).all flatV = true
  | [] => rfl
  | s :: ss => by
    show (true && (ss.map V.str).all flatV) = true
    rw [flat_strs ss]
    rfl
/-- a text not in a tuple of texts -/
theorem cd_notInT {z : Str} {ss : List Str} (ha : PD X a σ B (.str z)) (hb : PD X b σ B (.tuple (ss.map .str))) (hm : behindInMarks .NotIn b = false) : CD X .NotIn a b σ B (!inV (.str z) (ss.map V.str)) :=
  cd_cmp op_notIn_seq ha hb (fun u v B1 H1 _ s1 r1 r2 Q q => by
    obtain ⟨p, xs, e, hs, ra⟩ := r2.tup_inv
    have ex := ra.strs
    subst ex
    rw [r1.str_inv, e]
    exact ⟨p, _, rfl, .inr (sqt_mono s1 hs), rfl, flat_strs ss, q _ B1 H1 (Fz.refl s1) (.bl _)⟩) hm
/-- not in a list of data -/
theorem cd_notInL (hr : Room n X.A) (ha : PD X a σ B d) (hb : PD X b σ B (.list ds)) (h1 : SeqAt.shaped d = true) (h2 : SeqAt.shaped (.list ds) = true) (hm : behindInMarks .NotIn b = false) :
    CD X .NotIn a b σ B (!ds.any fun z => PyData.eqv z d) :=
  cd_cmp (op_notInD (by have := hr.un; omega)) ha hb (fun u v B1 H1 _ s1 r1 r2 Q q => ⟨d, ds, (r1.mono s1).dps h1, (r2.mono s1).dps h2, h1, h2, q _ B1 H1 (Fz.refl s1) (.bl _)⟩) hm

/-! ### and, or, not, if -/
theorem ev_and {ta tb : TE} {K : PySem.W.Frag} (h1 : EvD K ta σ B (.bool p)) (h2 : p = true → EvD K tb σ B (.bool q)) : EvD K (tAndV ta tb) σ B (.bool (p && q)) := fun H hb Q k => h1 H hb _ fun v B1 H1 f1 r1 => ⟨p, r1.bl_inv, by
  cases p with
  | true => exact (h2 rfl).mono f1.bb H1 f1.bh Q fun v B2 H2 f2 r2 => k v B2 H2 (f1.trans f2) r2
  | false => exact k _ B1 H1 f1 (.bl _)⟩
theorem ev_or {ta tb : TE} {K : PySem.W.Frag} (h1 : EvD K ta σ B (.bool p)) (h2 : p = false → EvD K tb σ B (.bool q)) : EvD K (tOrV ta tb) σ B (.bool (p || q)) := fun H hb Q k => h1 H hb _ fun v B1 H1 f1 r1 => ⟨p, r1.bl_inv, by
  cases p with
  | false => exact (h2 rfl).mono f1.bb H1 f1.bh Q fun v B2 H2 f2 r2 => k v B2 H2 (f1.trans f2) r2
  | true => exact k _ B1 H1 f1 (.bl _)⟩
theorem pd_and (h1 : PD X a σ B (.bool p)) (h2 : p = true → PD X (.BoolOp .And (b :: es) pos) σ B (.bool q)) : PD X (.BoolOp .And (a :: b :: es) pos) σ B (.bool (p && q)) := .of (pe_and pe_wp pe_wp) (ev_and h1 h2)
theorem pd_or (h1 : PD X a σ B (.bool p)) (h2 : p = false → PD X (.BoolOp .Or (b :: es) pos) σ B (.bool q)) : PD X (.BoolOp .Or (a :: b :: es) pos) σ B (.bool (p || q)) := .of (pe_or pe_wp pe_wp) (ev_or h1 h2)
theorem pd_one {op : PySem.BoolOp} (h : PD X a σ B d) : PD X (.BoolOp op [a] pos) σ B d := .of (pe_one pe_wp) h
theorem pd_not (h : PD X a σ B (.bool p)) : PD X (.UnaryOp .Not a pos) σ B (.bool (!p)) := .of (pe_not pe_wp) fun H hb Q k => h H hb _ fun v B1 H1 f1 r1 => ⟨p, r1.bl_inv, k _ B1 H1 f1 (.bl _)⟩
theorem td_val (h : PD X e σ B (.bool p)) (he : ∀ whole, isTrue e X.env whole = (do let v ← whole; standAt e.pos; holding [v] (truthy v)) := by intro _; rfl) : TD X e σ B p := .of (pt_val pe_wp he) fun H hb Q k => h H hb _ fun v B1 H1 f1 r1 => ⟨p, r1.bl_inv, k B1 H1 f1⟩
theorem et_and {t1 t2 : TT} (h1 : EvT t1 σ B p) (h2 : p = true → EvT t2 σ B q) : EvT (tAnd t1 t2) σ B (p && q) := fun H hb Q k => h1 H hb _ fun B1 H1 f1 => by
  cases p with
  | true => exact (h2 rfl).mono f1.bb H1 f1.bh Q fun B2 H2 f2 => k B2 H2 (f1.trans f2)
  | false => exact k B1 H1 f1
theorem et_or {t1 t2 : TT} (h1 : EvT t1 σ B p) (h2 : p = false → EvT t2 σ B q) : EvT (tOr t1 t2) σ B (p || q) := fun H hb Q k => h1 H hb _ fun B1 H1 f1 => by
  cases p with
  | false => exact (h2 rfl).mono f1.bb H1 f1.bh Q fun B2 H2 f2 => k B2 H2 (f1.trans f2)
  | true => exact k B1 H1 f1
theorem wd_and (h1 : TD X a σ B p) (h2 : p = true → WD X (.BoolOp .And (b :: es) pos) σ B q) : WD X (.BoolOp .And (a :: b :: es) pos) σ B (p && q) := .of (pw_and pt_wp pw_wp) (et_and h1 h2)
theorem wd_or (h1 : TD X a σ B p) (h2 : p = false → WD X (.BoolOp .Or (b :: es) pos) σ B q) : WD X (.BoolOp .Or (a :: b :: es) pos) σ B (p || q) := .of (pw_or pt_wp pw_wp) (et_or h1 h2)
theorem wd_and1 (h1 : TD X a σ B p) : WD X (.BoolOp .And [a] pos) σ B p := .of (pw_and1 pt_wp) h1
theorem wd_or1 (h1 : TD X a σ B p) : WD X (.BoolOp .Or [a] pos) σ B p := .of (pw_or1 pt_wp) h1
theorem WD.td (h : WD X e σ B p) : TD X e σ B p := .of (PW.pt pw_wp) h
theorem td_not (h : TD X a σ B p) : TD X (.UnaryOp .Not a pos) σ B (!p) := .of (pt_not pt_wp) fun H hb Q k => h H hb _ fun B1 H1 f1 => k B1 H1 f1
theorem pd_if (h : TD X c σ B p) (h1 : p = true → PD X a σ B d) (h2 : p = false → PD X b σ B d) : PD X (.IfExp c a b pos) σ B d := .of (pe_ifExp pt_wp pe_wp pe_wp) fun H hb Q k => h H hb _ fun B1 H1 f1 => by
  cases p with
  | true => exact (h1 rfl).mono f1.bb H1 f1.bh Q fun v B2 H2 f2 r2 => k v B2 H2 (f1.trans f2) r2
  | false => exact (h2 rfl).mono f1.bb H1 f1.bh Q fun v B2 H2 f2 r2 => k v B2 H2 (f1.trans f2) r2

/-! ### subscripts, slices -/
theorem pd_ixL {m : Nat} (ha : PD X a σ B (.list ds)) (hb : PD X b σ B (.int (m : Int))) (h : ds[m]? = some d) (hs : PlainIx b := by intro _ _; rfl) : PD X (.Subscript a b pos) σ B d :=
  .of (pe_ix ix_list pe_wp pe_wp hs) (ev_op ha hb fun u v B1 H1 _ s1 r1 r2 Q q => by
    obtain ⟨a0, xs, e, hs, ra⟩ := r1.lst_inv
    obtain ⟨w, hw, rw'⟩ := ra.get h
    rw [e, r2.int_inv]
    exact ⟨a0, xs, _, w, rfl, rfl, s1.seq hs, atI_nat hw, q _ B1 H1 (Fz.refl s1) rw'⟩)
theorem pd_ixT {m : Nat} (ha : PD X a σ B (.tuple ds)) (hb : PD X b σ B (.int (m : Int))) (h : ds[m]? = some d) (hs : PlainIx b := by intro _ _; rfl) : PD X (.Subscript a b pos) σ B d :=
  .of (pe_ix ix_tup pe_wp pe_wp hs) (ev_op ha hb fun u v B1 H1 _ s1 r1 r2 Q q => by
    obtain ⟨a0, xs, e, hs, ra⟩ := r1.tup_inv
    obtain ⟨w, hw, rw'⟩ := ra.get h
    rw [e, r2.int_inv]
    exact ⟨a0, xs, _, w, rfl, rfl, sqt_mono s1 hs, atI_nat hw, q _ B1 H1 (Fz.refl s1) rw'⟩)
/-- x[lo:], x[:hi] of a text; the parts by their own readings -/
def EvO (to : TO) (σ : L2.St) (B : Hp) (o : Option Int) : Prop := ∀ H, Same B H → ∀ Q : Option Int → Hp → Prop, (∀ B' H', F0 B H B' H' → Q o H') → to σ H Q
theorem EvO.mono {to : TO} {o : Option Int} (h : EvO to σ B o) (e : Same B B1) : EvO to σ B1 o := fun H hb Q q => h H (e.trans hb) Q fun B' H' f => q _ H' (uni_mono f e hb).1
theorem eo_none : EvO tNoPart σ B none := fun H hb Q q => q B H (Fz.refl hb)
theorem eo_some (h : PD X e σ B (.int i)) : EvO (tPart (wpE X e)) σ B (some i) := fun H hb Q q => h H hb _ fun v B1 H1 f1 r1 => ⟨i, r1.int_inv, q B1 H1 f1⟩
theorem pd_cutS {z : Str} {lo hi : Option Expr} {l u : Option Int} {tl th : TO} (ha : PD X a σ B (.str z)) (pl : PO X lo tl) (ph : PO X hi th) (el : EvO tl σ B l) (eh : EvO th σ B u) (hz : z.length ≤ 100000) : PD X (.Subscript a (.Slice lo hi none p1) pos) σ B (.str (cutS z l u)) :=
  .of (pe_slice sl_str pe_wp pl ph) fun H hb Q q => ha H hb _ fun v B1 H1 f1 r1 => el.mono f1.bb H1 f1.bh _ fun B2 H2 f2 => eh.mono (f1.bb.trans f2.bb) H2 f2.bh _ fun B3 H3 f3 => by
    rw [r1.str_inv]
    exact ⟨z, rfl, Nat.le_trans hz (by decide), q _ B3 H3 ((f1.trans f2).trans f3) (.str _)⟩

/-! ### built-in functions -/
theorem ev_cb {r : List V → Hp → VK → Prop} {K : PySem.W.Frag} (ha : EvA K ta σ B ds) (hr : ∀ vs B1 H1, Same B B1 → Same B1 H1 → RAll K B1 vs ds → ∀ Q : VK, (∀ v B' H', F0 B1 H1 B' H' → R K B' v d → Q v H') → r vs H1 Q) : EvD K (tCB r ta) σ B d := fun H hb Q q =>
  ha H hb _ fun vs B1 H1 f1 r1 => hr vs B1 H1 f1.bb f1.bh r1 Q fun v B2 H2 f2 r2 => q v B2 H2 (f1.trans f2) r2
theorem RAll.one {K : PySem.W.Frag} {H : Hp} {vs : List V} (h : RAll K H vs [d]) : ∃ v, vs = [v] ∧ R K H v d := by
  cases h with
  | cons h r => cases r; exact ⟨_, rfl, h⟩
theorem RAll.two {K : PySem.W.Frag} {H : Hp} {vs : List V} (h : RAll K H vs [d1, d2]) : ∃ v w, vs = [v, w] ∧ R K H v d1 ∧ R K H w d2 := by
  cases h with
  | cons h r => cases r with
    | cons h2 r => cases r; exact ⟨_, _, rfl, h, h2⟩
section
variable (hg : Gl X "len") (hm : X.mg "len" = none)
theorem pd_lenL (hg : Gl X "len") (hm : X.mg "len" = none) (ha : PD X a σ B (.list ds)) (he : starEach [a] X.env = (false, eval a X.env) :: starEach [] X.env := by rfl) : PD X (.Call (.Name "len" p1) [a] [] pos) σ B (.int (ds.length : Nat)) :=
  .of (pe_callB call_len_seq hg hm PySem.boot_len (pa_cons pe_wp pa_nil he) (he := he)) (ev_cb (ea_cons ha ea_nil) fun vs B1 H1 _ s1 r1 Q q => by
    obtain ⟨v, rfl, r⟩ := r1.one
    obtain ⟨a0, xs, rfl, hs, ra⟩ := r.lst_inv
    exact ⟨a0, xs, rfl, .inl (s1.seq hs), q _ B1 H1 (Fz.refl s1) (by rw [ra.len]; exact .int _)⟩)
theorem pd_lenT (hg : Gl X "len") (hm : X.mg "len" = none) (ha : PD X a σ B (.tuple ds)) (he : starEach [a] X.env = (false, eval a X.env) :: starEach [] X.env := by rfl) : PD X (.Call (.Name "len" p1) [a] [] pos) σ B (.int (ds.length : Nat)) :=
  .of (pe_callB call_len_seq hg hm PySem.boot_len (pa_cons pe_wp pa_nil he) (he := he)) (ev_cb (ea_cons ha ea_nil) fun vs B1 H1 _ s1 r1 Q q => by
    obtain ⟨v, rfl, r⟩ := r1.one
    obtain ⟨a0, xs, rfl, hs, ra⟩ := r.tup_inv
    exact ⟨a0, xs, rfl, .inr (sqt_mono s1 hs), q _ B1 H1 (Fz.refl s1) (by rw [ra.len]; exact .int _)⟩)
theorem pd_lenS {z : Str} (hg : Gl X "len") (hm : X.mg "len" = none) (ha : PD X a σ B (.str z)) (hz : z.length ≤ 100000) (he : starEach [a] X.env = (false, eval a X.env) :: starEach [] X.env := by rfl) : PD X (.Call (.Name "len" p1) [a] [] pos) σ B (.int (z.length : Nat)) :=
  .of (pe_callB call_len_str hg hm PySem.boot_len (pa_cons pe_wp pa_nil he) (he := he)) (ev_cb (ea_cons ha ea_nil) fun vs B1 H1 _ s1 r1 Q q => by
    obtain ⟨v, rfl, r⟩ := r1.one
    rw [r.str_inv]
    exact ⟨z, rfl, Nat.le_trans hz (by decide), q _ B1 H1 (Fz.refl s1) (.int _)⟩)
end
theorem pd_all {bs : List Bool} (hc : X.calm = true) (hg : Gl X "all") (hm : X.mg "all" = none) (ha : PD X a σ B (.list (bs.map .bool))) (he : starEach [a] X.env = (false, eval a X.env) :: starEach [] X.env := by rfl) : PD X (.Call (.Name "all" p1) [a] [] pos) σ B (.bool (bs.all id)) :=
  .of (pe_callB (cr_all hc) hg hm (by decide +kernel) (pa_cons pe_wp pa_nil he) (he := he)) (ev_cb (ea_cons ha ea_nil) fun vs B1 H1 _ s1 r1 Q q => by
    obtain ⟨v, rfl, r⟩ := r1.one
    obtain ⟨a0, xs, rfl, hs, ra⟩ := r.lst_inv
    have ex := ra.bls
    subst ex
    exact ⟨a0, bs, rfl, s1.seq hs, q _ B1 H1 (Fz.refl s1) (.bl _)⟩)
theorem pd_any {bs : List Bool} (hc : X.calm = true) (hg : Gl X "any") (hm : X.mg "any" = none) (ha : PD X a σ B (.list (bs.map .bool))) (he : starEach [a] X.env = (false, eval a X.env) :: starEach [] X.env := by rfl) : PD X (.Call (.Name "any" p1) [a] [] pos) σ B (.bool (bs.any id)) :=
  .of (pe_callB (cr_any hc) hg hm (by decide +kernel) (pa_cons pe_wp pa_nil he) (he := he)) (ev_cb (ea_cons ha ea_nil) fun vs B1 H1 _ s1 r1 Q q => by
    obtain ⟨v, rfl, r⟩ := r1.one
    obtain ⟨a0, xs, rfl, hs, ra⟩ := r.lst_inv
    have ex := ra.bls
    subst ex
    exact ⟨a0, bs, rfl, s1.seq hs, q _ B1 H1 (Fz.refl s1) (.bl _)⟩)
theorem pd_listL (hg : Gl X "list") (hm : X.mg "list" = none) (ha : PD X a σ B (.list ds)) (he : starEach [a] X.env = (false, eval a X.env) :: starEach [] X.env := by rfl) : PD X (.Call (.Name "list" p1) [a] [] pos) σ B (.list ds) :=
  .of (pe_callTy call_list_of hg hm (by decide +kernel) (pa_cons pe_wp pa_nil he) (he := he)) (ev_cb (ea_cons ha ea_nil) fun vs B1 H1 _ s1 r1 Q q => by
    obtain ⟨v, rfl, r⟩ := r1.one
    obtain ⟨a0, xs, rfl, hs, ra⟩ := r.lst_inv
    exact ⟨a0, xs, rfl, .inl (s1.seq hs), fun l hl => q _ _ _ (F0.new s1 hl) (r_upd_l s1 hl ra)⟩)
theorem pd_listT (hg : Gl X "list") (hm : X.mg "list" = none) (ha : PD X a σ B (.tuple ds)) (he : starEach [a] X.env = (false, eval a X.env) :: starEach [] X.env := by rfl) : PD X (.Call (.Name "list" p1) [a] [] pos) σ B (.list ds) :=
  .of (pe_callTy call_list_of hg hm (by decide +kernel) (pa_cons pe_wp pa_nil he) (he := he)) (ev_cb (ea_cons ha ea_nil) fun vs B1 H1 _ s1 r1 Q q => by
    obtain ⟨v, rfl, r⟩ := r1.one
    obtain ⟨a0, xs, rfl, hs, ra⟩ := r.tup_inv
    exact ⟨a0, xs, rfl, .inr (sqt_mono s1 hs), fun l hl => q _ _ _ (F0.new s1 hl) (r_upd_l s1 hl ra)⟩)
theorem pd_tupleL (hg : Gl X "tuple") (hm : X.mg "tuple" = none) (ha : PD X a σ B (.list ds)) (he : starEach [a] X.env = (false, eval a X.env) :: starEach [] X.env := by rfl) : PD X (.Call (.Name "tuple" p1) [a] [] pos) σ B (.tuple ds) :=
  .of (pe_callTy call_tuple_of hg hm (by decide +kernel) (pa_cons pe_wp pa_nil he) (he := he)) (ev_cb (ea_cons ha ea_nil) fun vs B1 H1 _ s1 r1 Q q => by
    obtain ⟨v, rfl, r⟩ := r1.one
    obtain ⟨a0, xs, rfl, hs, ra⟩ := r.lst_inv
    exact ⟨a0, xs, rfl, .inl ⟨s1.seq hs, fun l hl => q _ _ _ (F0.new s1 hl) (r_upd_t s1 hl ra)⟩⟩)
theorem pd_tupleT (hg : Gl X "tuple") (hm : X.mg "tuple" = none) (ha : PD X a σ B (.tuple ds)) (he : starEach [a] X.env = (false, eval a X.env) :: starEach [] X.env := by rfl) : PD X (.Call (.Name "tuple" p1) [a] [] pos) σ B (.tuple ds) :=
  .of (pe_callTy call_tuple_of hg hm (by decide +kernel) (pa_cons pe_wp pa_nil he) (he := he)) (ev_cb (ea_cons ha ea_nil) fun vs B1 H1 _ s1 r1 Q q => by
    obtain ⟨v, rfl, r⟩ := r1.one
    obtain ⟨a0, xs, rfl, hs, ra⟩ := r.tup_at
    exact ⟨a0, xs, rfl, .inr ⟨sqt_mono s1 (.inl (.inl hs)), q _ B1 H1 (Fz.refl s1) (.tup hs ra)⟩⟩)
theorem pd_intI (hg : Gl X "int") (hm : X.mg "int" = none) (ha : PD X a σ B (.int i)) (he : starEach [a] X.env = (false, eval a X.env) :: starEach [] X.env := by rfl) : PD X (.Call (.Name "int" p1) [a] [] pos) σ B (.int i) :=
  .of (pe_callTy call_int1 hg hm (by decide +kernel) (pa_cons pe_wp pa_nil he) (he := he)) (ev_cb (ea_cons ha ea_nil) fun vs B1 H1 _ s1 r1 Q q => by
    obtain ⟨v, rfl, r⟩ := r1.one
    rw [r.int_inv]
    exact .inl ⟨i, rfl, q _ B1 H1 (Fz.refl s1) (.int _)⟩)
theorem pd_min2 (hc : X.calm = true) (hg : Gl X "min") (hm : X.mg "min" = none) (ha : PD X a σ B (.int i)) (hb : PD X b σ B (.int j)) (he : starEach [a, b] X.env = (false, eval a X.env) :: starEach [b] X.env := by rfl) (he2 : starEach [b] X.env = (false, eval b X.env) :: starEach [] X.env := by rfl)
    (hpl : (backTo pos (starEach [b] X.env)).any (·.1) = false := by rfl) : PD X (.Call (.Name "min" p1) [a, b] [] pos) σ B (.int (if j < i then j else i)) :=
  .of (pe_callB (call_min2 hc) hg hm (by decide +kernel) (pa_cons pe_wp (pa_cons pe_wp pa_nil he2) he) (he := he) (hpl := hpl)) (ev_cb (ea_cons ha (ea_cons hb ea_nil)) fun vs B1 H1 _ s1 r1 Q q => by
    obtain ⟨v, w, rfl, r, r'⟩ := r1.two
    rw [r.int_inv, r'.int_inv]
    exact ⟨i, j, rfl, q _ B1 H1 (Fz.refl s1) (.int _)⟩)

/-! ### methods of texts -/
theorem ev_m1 {r : V → List V → Hp → VK → Prop} {to te : TE} {K : PySem.W.Frag} {z : Str} (ha : EvD K to σ B (.str z)) (hb : EvD K te σ B d1) (hr : ∀ v B1 H1, Same B B1 → Same B1 H1 → R K B1 v d1 → ∀ Q : VK, (∀ v B' H', F0 B1 H1 B' H' → R K B' v d → Q v H') → r (.str z) [v] H1 Q) : EvD K (tM1 r to te) σ B d := fun H hb' Q q =>
  ha H hb' _ fun x B1 H1 f1 r1 => by
    rw [r1.str_inv]
    exact ⟨⟨z, rfl⟩, (hb.mono f1.bb) H1 f1.bh _ fun y B2 H2 f2 r2 => hr y B2 H2 (f1.bb.trans f2.bb) f2.bh r2 Q fun v B3 H3 f3 r3 => q v B3 H3 ((f1.trans f2).trans f3) r3⟩
theorem pd_starts {z y : Str} (ha : PD X a σ B (.str z)) (hb : PD X b σ B (.str y)) (hs : starEach [b] X.env = [(false, eval b X.env)] := by rfl) (hbase : attributeBase a "startswith" X.env (eval a X.env) = eval a X.env := by rfl) (hline : (apos.endLine == pos.line) = true := by rfl) :
    PD X (.Call (.Attribute a "startswith" apos) [b] [] pos) σ B (.bool (Txt.startswith z y)) :=
  .of (pe_m1 F.slot_str_startswith F.type_str_startswith mt_startswith pe_wp pe_wp hs hbase hline) (ev_m1 ha hb fun v B1 H1 _ s1 r1 Q q => by
    rw [r1.str_inv]
    exact ⟨z, y, rfl, rfl, q _ B1 H1 (Fz.refl s1) (.bl _)⟩)
theorem pd_ends {z y : Str} (ha : PD X a σ B (.str z)) (hb : PD X b σ B (.str y)) (hs : starEach [b] X.env = [(false, eval b X.env)] := by rfl) (hbase : attributeBase a "endswith" X.env (eval a X.env) = eval a X.env := by rfl) (hline : (apos.endLine == pos.line) = true := by rfl) :
    PD X (.Call (.Attribute a "endswith" apos) [b] [] pos) σ B (.bool (Txt.endswith z y)) :=
  .of (pe_m1 F.slot_str_endswith F.type_str_endswith mt_endswith pe_wp pe_wp hs hbase hline) (ev_m1 ha hb fun v B1 H1 _ s1 r1 Q q => by
    rw [r1.str_inv]
    exact ⟨z, y, rfl, rfl, q _ B1 H1 (Fz.refl s1) (.bl _)⟩)
theorem pd_split {z y : Str} (ha : PD X a σ B (.str z)) (hb : PD X b σ B (.str y)) (h0 : (y.length == 0) = false) (hz : z.length ≤ 100000) (hs : starEach [b] X.env = [(false, eval b X.env)] := by rfl) (hbase : attributeBase a "split" X.env (eval a X.env) = eval a X.env := by rfl) (hline : (apos.endLine == pos.line) = true := by rfl) :
    PD X (.Call (.Attribute a "split" apos) [b] [] pos) σ B (.list ((Txt.split z y).map .str)) :=
  .of (pe_split pe_wp pe_wp hs hbase hline) (ev_m1 ha hb fun v B1 H1 _ s1 r1 Q q => by
    rw [r1.str_inv]
    exact ⟨z, y, rfl, rfl, h0, Nat.le_trans (Nat.add_le_add_right hz 2) (by decide), fun p hp => q _ _ _ (F0.new s1 hp) (r_upd_l s1 hp (RAll.of_strs _))⟩)
theorem pd_join {z : Str} {ys : List Str} (ha : PD X a σ B (.str z)) (hb : PD X b σ B (.list (ys.map .str))) (hz : (ys.map (·.length)).sum + ys.length * z.length ≤ 16777216) (hs : starEach [b] X.env = [(false, eval b X.env)] := by rfl) (hbase : attributeBase a "join" X.env (eval a X.env) = eval a X.env := by rfl) (hline : (apos.endLine == pos.line) = true := by rfl) :
    PD X (.Call (.Attribute a "join" apos) [b] [] pos) σ B (.str (Txt.join z ys)) :=
  .of (pe_join pe_wp pe_wp hs hbase hline) (ev_m1 ha hb fun v B1 H1 _ s1 r1 Q q => by
    obtain ⟨a0, xs, rfl, hs, ra⟩ := r1.lst_inv
    have ex := ra.strs
    subst ex
    exact ⟨z, a0, ys, rfl, rfl, .inl (s1.seq hs), hz, q _ B1 H1 (Fz.refl s1) (.str _)⟩)
end
end K8

set_option Elab.async false
set_option linter.all false
set_option maxRecDepth 100000
set_option maxHeartbeats 4000000
/-! K8c: isinstance, defs, comprehensions, blocks, loops, said of data. -/
namespace K8
open PySem PySem.Spec PyProof.Rows L2

/-! ### isinstance -/
def tyName : PyData → String
  | .none => "NoneType"
  | .bool _ => "bool"
  | .int _ => "int"
  | .str _ => "str"
  | .list _ => "list"
  | .tuple _ => "tuple"
  | .dict _ => "dict"
inductive Ty where
  | str | list | tuple | int | bool
def Ty.nm : Ty → String
  | .str => "str"
  | .list => "list"
  | .tuple => "tuple"
  | .int => "int"
  | .bool => "bool"
def isT : Ty → PyData → Bool
  | .str, .str _ => true
  | .list, .list _ => true
  | .tuple, .tuple _ => true
  | .int, .int _ => true
  | .int, .bool _ => true
  | .bool, .bool _ => true
  | _, _ => false
theorem R.ty {K : PySem.W.Frag} {B H : Hp} {v : V} {d : PyData} (r : R K B v d) (h : Same B H) : TyX K H v (.type (tyName d)) := by
  cases r with
  | non => exact .base .non
  | bl b => exact .base (.bl b)
  | int i => exact .base (.int i)
  | str x => exact .base (.str x)
  | lst hs _ => exact .base (.lst (h _ _ hs))
  | tup hs _ => exact .base (.tup (h _ _ hs))
  | dk e _ => exact .base (.dK (h _ _ e))
  | dt e _ _ => exact .base (.dT (h _ _ e))
theorem kit_all (T : Ty) (d : PyData) : kitB (tyName d) T.nm = some (isT T d) := by
  cases T <;> cases d <;> (simp only [tyName, isT, Ty.nm]; decide +kernel)
section
variable {X : Cx} {e a b c : Expr} {es : List Expr} {σ : L2.St} {B B1 : Hp} {d d1 d2 : PyData} {ds : List PyData} {t : TE} {tt : TT} {ta : TA} {p q : Bool} {i j : Int} {pos p1 p2 p3 p4 p5 apos : Pos} {k n : Nat}
/-- isinstance(x, T) -/
theorem pd_isi {T : Str} (S : Ty) (hg : Gl X "isinstance") (hm : X.mg "isinstance" = none) (hgT : Gl X T) (hmT : X.mg T = none) (hv : bootBuiltins T = some (.type S.nm)) (ha : PD X a σ B d)
    (hn : T ≠ "__name__" := by decide) (hd : (T == ("__debug__" : Str)) = false := by decide) (he : starEach [a, .Name T p2] X.env = (false, eval a X.env) :: starEach [.Name T p2] X.env := by rfl) (hpl : (backTo pos (starEach [.Name T p2] X.env)).any (·.1) = false := by rfl)
    (he2 : starEach [.Name T p2] X.env = (false, eval (.Name T p2) X.env) :: starEach [] X.env := by rfl) (hp : isT S d = p := by rfl) : PD X (.Call (.Name "isinstance" p1) [a, .Name T p2] [] pos) σ B (.bool p) := hp ▸
  .of (pe_callB call_isi hg hm (by decide +kernel) (pa_cons pe_wp (pa_cons (pe_bltn (v := .ty S.nm) hgT hmT hv rfl hn hd) pa_nil he2) he) (he := he) (hpl := hpl)) fun H hb Q q => ha H hb _ fun v B1 H1 f1 r1 =>
    ⟨v, .ty S.nm, _, _, _, rfl, .ty S.nm, r1.ty f1.bh, kit_ty (kit_all S d), q _ B1 H1 f1 (.bl _)⟩
/-- isinstance(x, (T, U)) -/
theorem pd_isi2 {T U : Str} (S S' : Ty) (hg : Gl X "isinstance") (hm : X.mg "isinstance" = none)
    (hgT : Gl X T) (hmT : X.mg T = none) (hv : bootBuiltins T = some (.type S.nm)) (hgU : Gl X U) (hmU : X.mg U = none) (hu : bootBuiltins U = some (.type S'.nm)) (ha : PD X a σ B d)
    (hn : T ≠ "__name__" := by decide) (hd : (T == ("__debug__" : Str)) = false := by decide) (hn' : U ≠ "__name__" := by decide) (hd' : (U == ("__debug__" : Str)) = false := by decide)
    (he : starEach [a, .Tuple [.Name T p2, .Name U p3] n p4] X.env = (false, eval a X.env) :: starEach [.Tuple [.Name T p2, .Name U p3] n p4] X.env := by rfl) (hpl : (backTo pos (starEach [.Tuple [.Name T p2, .Name U p3] n p4] X.env)).any (·.1) = false := by rfl)
    (he2 : starEach [.Tuple [.Name T p2, .Name U p3] n p4] X.env = (false, eval (.Tuple [.Name T p2, .Name U p3] n p4) X.env) :: starEach [] X.env := by rfl)
    (he3 : starEach [.Name T p2, .Name U p3] X.env = (false, eval (.Name T p2) X.env) :: starEach [.Name U p3] X.env := by rfl) (he4 : starEach [.Name U p3] X.env = (false, eval (.Name U p3) X.env) :: starEach [] X.env := by rfl) (hp : (isT S d || isT S' d) = p := by rfl) :
    PD X (.Call (.Name "isinstance" p1) [a, .Tuple [.Name T p2, .Name U p3] n p4] [] pos) σ B (.bool p) := hp ▸
  .of (pe_callB call_isiT hg hm (by decide +kernel) (pa_cons pe_wp (pa_cons (pe_tup (pa_cons (pe_bltn (v := .ty S.nm) hgT hmT hv rfl hn hd) (pa_cons (pe_bltn (v := .ty S'.nm) hgU hmU hu rfl hn' hd') pa_nil he4) he3)) pa_nil he2) he) (he := he) (hpl := hpl)) fun H hb Q q => ha H hb _ fun v B1 H1 f1 r1 =>
    ⟨by show 2 ≤ sizeLine; decide, fun tp hp => ⟨v, tp, _, _, [.type S.nm, .type S'.nm], isT S d || isT S' d, rfl, upd_same, .cons (.ty S.nm) (.cons (.ty S'.nm) .nil), (r1.mono (F0.new (o := .tup [.ty S.nm, .ty S'.nm]) f1.bh hp).bb).ty (F0.new f1.bh hp).bh, by
      refine kitAny_cons (kit_ty (kit_all S d)) (fun z => ?_) fun z => by rw [z]; rfl
      refine kitAny_cons (kit_ty (kit_all S' d)) (fun z' => ?_) fun z' => by rw [z']; simp
      rw [z, z']
      exact kitAny_nil, q _ _ _ (f1.trans (F0.new f1.bh hp)) (.bl _)⟩⟩

/-! ### defs -/
/-- a promise: with arguments ds the def hands back d -/
def SpR (K : PySem.W.Frag) (rel : List PyData → PyData → Prop) : Sp := fun vs H Q _ => ∃ B ds d, Same B H ∧ RAll K B vs ds ∧ rel ds d ∧ ∀ r B' H', F0 B H B' H' → R K B' r d → Q r H'
structure Fn (P : Program) (w : World) (K : PySem.W.Frag) (mg : Str → Option Value) (base : Heap) (CX : CXT) (x : Str) (k : Nat) (ps : List Str) (sp : Sp) : Prop where
  ex : ∃ (f : Addr) (fd : FuncData), mg x = some (.ref f) ∧ PySem.W.keepIn K (.ref f) = true ∧ Binds K fd ps [] ∧ FnOk P w K mg base CX k f fd ps sp
theorem pd_call {x : Str} {ps : List Str} {rel : List PyData → PyData → Prop} (F : Fn X.prog X.w X.K X.mg X.base CX0 x k ps (SpR X.K rel)) (hr : Room n X.A) (hk : k ≤ n) (hg : Gl X x) (ha : AD X (e :: es) σ B ds) (h : rel ds d)
    (hdb : (x == ("__debug__" : Str)) = false := by decide) (he : starEach (e :: es) X.env = (false, eval e X.env) :: starEach es X.env := by rfl) (hpl : (backTo pos (starEach es X.env)).any (·.1) = false := by rfl) :
    PD X (.Call (.Name x p1) (e :: es) [] pos) σ B d := by
  obtain ⟨f, fd, hm, kp, hb, F⟩ := F.ex
  refine .of (pe_call F (hr.mono hk) hg hm kp hb .nil pass0 pa_wp hdb he hpl) fun H hb Q q => ha H hb _ fun vs B1 H1 f1 r1 => ⟨B1, ds, d, f1.bh, by rw [List.append_nil]; exact r1, h, fun r B2 H2 f2 r2 => q r B2 H2 (f1.trans f2) r2⟩
theorem pd_call0 {x : Str} {rel : List PyData → PyData → Prop} (F : Fn X.prog X.w X.K X.mg X.base CX0 x k [] (SpR X.K rel)) (hr : Room n X.A) (hk : k ≤ n) (hg : Gl X x) (h : rel [] d)
    (hdb : (x == ("__debug__" : Str)) = false := by decide) : PD X (.Call (.Name x p1) [] [] pos) σ B d := by
  obtain ⟨f, fd, hm, kp, hb, F⟩ := F.ex
  exact .of (pe_call0 F (hr.mono hk) hg hm kp hb .nil pass0 hdb) fun H hb Q q => ⟨B, [], d, hb, .nil, h, fun r B2 H2 f2 r2 => q r B2 H2 f2 r2⟩

/-! ### targets -/
def GD (g : TG) (σ : L2.St) (B : Hp) (v : V) (σ2 : L2.St) : Prop := ∀ H, Same B H → ∀ Q : L2.St → Hp → Prop, Q σ2 H → g v σ H Q
theorem gd_name {i : Nat} {v : V} : GD (gName i) σ B v (σ.set i (some v)) := fun H _ Q q => q
theorem gd_pair {K : PySem.W.Frag} {v : V} (r : R K B v (.tuple [d1, d2])) : ∃ v1 v2, R K B v1 d1 ∧ R K B v2 d2 ∧ ∀ {g1 g2 : TG} {σ σ1 σ2 : L2.St}, GD g1 σ B v1 σ1 → GD g2 σ1 B v2 σ2 → GD (gTup K 2 (gCons g1 (gCons g2 gNil))) σ B v σ2 := by
  obtain ⟨a, xs, rfl, hs, ra⟩ := r.tup_inv
  obtain ⟨v1, v2, rfl, r1, r2⟩ := ra.two
  exact ⟨v1, v2, r1, r2, fun h1 h2 H hb Q q => ⟨a, _, rfl, sqt_mono hb hs, rfl, v1, [v2], rfl, h1 H hb _ ⟨v2, [], rfl, h2 H hb _ ⟨rfl, q⟩⟩⟩⟩
theorem gd_pairL {K : PySem.W.Frag} {v : V} (r : R K B v (.list [d1, d2])) : ∃ v1 v2, R K B v1 d1 ∧ R K B v2 d2 ∧ ∀ {g1 g2 : TG} {σ σ1 σ2 : L2.St}, GD g1 σ B v1 σ1 → GD g2 σ1 B v2 σ2 → GD (gUnl K 2 (gCons g1 (gCons g2 gNil))) σ B v σ2 := by
  obtain ⟨a, xs, rfl, hs, ra⟩ := r.lst_inv
  obtain ⟨v1, v2, rfl, r1, r2⟩ := ra.two
  exact ⟨v1, v2, r1, r2, fun h1 h2 H hb Q q => ⟨a, _, rfl, hb.seq hs, rfl, v1, [v2], rfl, h1 H hb _ ⟨v2, [], rfl, h2 H hb _ ⟨rfl, q⟩⟩⟩⟩

/-! ### comprehensions -/
abbrev blkE (X : Cx) (scope : Scope) (elt : Expr) : TE := fun σ H Q => ∀ (s : Shared) (H0 : Hp) (C : Addr) (cl : List (Str × Addr)) (fp : List Addr), wpE (X.blk s H0 scope (compEnvC scope cl C X.env) fp) elt σ H Q
abbrev blkT (X : Cx) (scope : Scope) (elt : Expr) : TT := fun σ H Q => ∀ (s : Shared) (H0 : Hp) (C : Addr) (cl : List (Str × Addr)) (fp : List Addr), wpT (X.blk s H0 scope (compEnvC scope cl C X.env) fp) elt σ H Q
theorem upd_out {B H : Hp} {p : Addr} {o : HO} (h : Same B H) (n : B p = none) : Same B (upd H p o) := fun a u e => by
  rw [upd_ne (ne_of_none e n)]
  exact h _ _ e
/-- the turns give the data ds, one after another, in a base that grows -/
def YD (K : PySem.W.Frag) (B1 : Hp) (ds : List PyData) : Nat → Hp → V → Hp → Prop := fun i H x H' => ∀ B, Same B1 B → Same B H → ∃ B' d, F0 B H B' H' ∧ ds[i]? = some d ∧ R K B' x d
def Src (K : PySem.W.Frag) (wi : TI) (σ : L2.St) (B : Hp) (ds : List PyData) : Prop := ∀ H, Same B H → ∀ Rr : It → Hp → Prop, (∀ J B1 H1, F0 B H B1 H1 → Walk J ds.length (Same B1) (YD K B1 ds) → Rr J H1) → wi σ H Rr
theorem yd_at {K : PySem.W.Frag} {B1 : Hp} {J : It} {xs : List V} {G : Hp → Prop} (ra : RAll K B1 xs ds) (w : Walk J xs.length G (YAt xs)) (hG : ∀ H', Same B1 H' → G H') : Walk J ds.length (Same B1) (YD K B1 ds) := by
  rw [← ra.len]
  refine w.mono hG fun i H x H' _ _ ⟨e, hx⟩ B b1 b2 => ?_
  subst e
  obtain ⟨d, hd, rd⟩ := ra.get' hx
  exact ⟨B, d, Fz.refl b2, hd, rd.mono b1⟩
theorem src_list {iter : Expr} (h : PD X iter σ B (.list ds)) : Src X.K (iList X.K (wpE X iter)) σ B ds := fun H hb Rr q =>
  h H hb _ fun v B1 H1 f1 r1 => by
    obtain ⟨a, xs, rfl, hs, ra⟩ := r1.lst_inv
    exact ⟨a, rfl, ⟨xs, f1.bh.seq hs⟩, q _ B1 H1 f1 (yd_at ra walk_list fun H' h' => h'.seq hs)⟩
theorem src_tup {iter : Expr} (h : PD X iter σ B (.tuple ds)) : Src X.K (iTup X.K (wpE X iter)) σ B ds := fun H hb Rr q =>
  h H hb _ fun v B1 H1 f1 r1 => by
    obtain ⟨a, xs, rfl, hs, ra⟩ := r1.tup_inv
    exact ⟨a, rfl, ⟨xs, sqt_mono f1.bh hs⟩, q _ B1 H1 f1 (yd_at ra walk_tup fun H' h' => sqt_mono h' hs)⟩
theorem src_str {iter : Expr} {z : Str} (h : PD X iter σ B (.str z)) : Src X.K (iStr (wpE X iter)) σ B (z.cps.toList.map fun c => PyData.str ⟨#[c]⟩) := fun H hb Rr q =>
  h H hb _ fun v B1 H1 f1 r1 => by
    rw [r1.str_inv]
    refine ⟨z, rfl, q _ B1 H1 f1 ?_⟩
    rw [List.length_map, Array.length_toList]
    refine walk_str.mono (fun _ _ => trivial) fun i H x H' hi _ ⟨e, c, h1, h2⟩ B b1 b2 => ?_
    subst e h2
    exact ⟨B, _, Fz.refl b2, by rw [List.getElem?_map, Array.getElem?_toList, h1]; rfl, .str _⟩
theorem src_range1 {a : Expr} {n : Nat} (h : PD X a σ B (.int n)) (hn : n ≤ 100000) (hs : starEach [a] X.env = (false, eval a X.env) :: starEach [] X.env := by rfl) : Src X.K (iRng1 (wpA X [a])) σ B ((List.range n).map fun i => PyData.int (i : Nat)) := fun H hb Rr q =>
  ad_cons h ad_nil hs H hb _ fun vs B1 H1 f1 r1 => by
    obtain ⟨v, rfl, r⟩ := r1.one
    rw [r.int_inv]
    refine ⟨(n : Int), rfl, by omega, by omega, q _ B1 H1 f1 ?_⟩
    rw [List.length_map, List.length_range, Int.toNat_natCast]
    refine walk_range.mono (fun _ _ => trivial) fun i H x H' hi _ ⟨e, h2⟩ B b1 b2 => ?_
    subst e h2
    exact ⟨B, _, Fz.refl b2, by rw [List.getElem?_map, List.getElem?_range hi]; rfl, by
      have e : (0 : Int) + (i : Int) = (i : Int) := Int.zero_add _
      show R X.K B (.int ((0 : Int) + (i : Int))) (.int (i : Int))
      rw [e]
      exact .int _⟩
theorem src_range2 {a b : Expr} {m n : Nat} (h : PD X a σ B (.int m)) (h2 : PD X b σ B (.int n)) (hm : m ≤ 100000) (hn : n ≤ 100000) (hs : starEach [a, b] X.env = (false, eval a X.env) :: starEach [b] X.env := by rfl) (hs2 : starEach [b] X.env = (false, eval b X.env) :: starEach [] X.env := by rfl) :
    Src X.K (iRng2 (wpA X [a, b])) σ B ((List.range (n - m)).map fun i => PyData.int ((m + i : Nat))) := fun H hb Rr q =>
  ad_cons h (ad_cons h2 ad_nil hs2) hs H hb _ fun vs B1 H1 f1 r1 => by
    obtain ⟨v, v2, rfl, r, r'⟩ := r1.two
    rw [r.int_inv, r'.int_inv]
    have en : ((n : Int) - (m : Int)).toNat = n - m := by omega
    refine ⟨(m : Int), (n : Int), rfl, by omega, q _ B1 H1 f1 ?_⟩
    rw [List.length_map, List.length_range, en]
    refine walk_range.mono (fun _ _ => trivial) fun i H x H' hi _ ⟨e, h2⟩ B b1 b2 => ?_
    subst e h2
    exact ⟨B, _, Fz.refl b2, by rw [List.getElem?_map, List.getElem?_range hi]; rfl, by
      have e : (m : Int) + (i : Int) = ((m + i : Nat) : Int) := by omega
      show R X.K B (.int ((m : Int) + (i : Int))) (.int ((m + i : Nat) : Int))
      rw [e]
      exact .int _⟩
/-- pairs of two -/
theorem yd_pair {K : PySem.W.Frag} {B1 : Hp} {J : It} {n : Nat} {d1s d2s : Nat → PyData} {xs ys : Nat → Option V} {G : Hp → Prop} (w : Walk J n G (YPair xs ys)) (hG : ∀ H', Same B1 H' → G H') (hx : ∀ i x, xs i = some x → R K B1 x (d1s i)) (hy : ∀ i x, ys i = some x → R K B1 x (d2s i)) : Walk J ((List.range n).map fun i => PyData.tuple [d1s i, d2s i]).length (Same B1) (YD K B1 ((List.range n).map fun i => PyData.tuple [d1s i, d2s i])) := by
  rw [List.length_map, List.length_range]
  refine w.mono hG fun i H v H' hi _ ⟨T, x, y, e, hT, eH, ex, ey⟩ B b1 b2 => ?_
  subst e eH
  exact ⟨_, _, F0.new b2 hT, by rw [List.getElem?_map, List.getElem?_range hi]; rfl, r_upd_t b2 hT (.cons ((hx i x ex).mono b1) (.cons ((hy i y ey).mono b1) .nil))⟩
theorem src_enumL {a : Expr} (h : PD X a σ B (.list ds)) (hs : starEach [a] X.env = (false, eval a X.env) :: starEach [] X.env := by rfl) : Src X.K (iEnum X.K (wpA X [a])) σ B ((List.range ds.length).map fun i => PyData.tuple [.int (i : Nat), ds.getD i .none]) := fun H hb Rr q =>
  ad_cons h ad_nil hs H hb _ fun vs B1 H1 f1 r1 => by
    obtain ⟨v, rfl, r⟩ := r1.one
    obtain ⟨a, xs, rfl, hs, ra⟩ := r.lst_inv
    refine ⟨a, xs, rfl, f1.bh.seq hs, q _ B1 H1 f1 ?_⟩
    rw [← ra.len]
    refine yd_pair (d1s := fun i => .int (i : Nat)) (d2s := fun i => ds.getD i .none) walk_enum (fun H' h' => h'.seq hs) (fun i x e => by cases e; exact .int _) fun i x e => ?_
    obtain ⟨d, hd, rd⟩ := ra.get' e
    rw [List.getD_eq_getElem?_getD, hd]
    exact rd
/-- the core: what the source gives is data ds -/
theorem lc_core2 {J : It} {K : PySem.W.Frag} {g : TG} {tt : TT} {te : TE} {vs : List Nat} {B1 H1 : Hp} {D : Addr} {Q : VK} {f : PyData → PyData} {p : PyData → Bool} (Wk : Walk J ds.length (Same B1) (YD K B1 ds)) (hb : Same B1 H1) (hD : H1 D = none) (hz : ds.length ≤ 100000)
    (hel : ∀ d ∈ ds, ∀ v B2, Same B1 B2 → R K B2 v d → ∃ σ2, GD g (wipe σ vs) B2 v σ2 ∧ wipe σ2 vs = wipe σ vs ∧ EvT tt σ2 B2 (p d) ∧ (p d = true → EvD K te σ2 B2 (f d)))
    (hq : ∀ B' H', F0 B1 H1 B' H' → R K B' (.ref D) (.list ((ds.filter p).map f)) → Q (.ref D) H') :
    ∃ W : Nat → Nat → Hp → Prop, (∃ m, W 0 m (upd H1 D (.lst []))) ∧ ∀ i m H, W i m H →
      (J.stop i H ∧ Q (.ref D) H) ∨ (J.go i H ∧ ∃ Nx : Hp → Prop, (∀ H', Nx H' → ∃ m', m' < m ∧ W (i + 1) m' H') ∧ ∀ x H', J.yld i H x H' → g x (wipe σ vs) H' fun σ2 H2 => wipe σ2 vs = wipe σ vs ∧ tt σ2 H2 fun b H3 =>
        if b = true then te σ2 H3 fun y H4 => ∃ acc, H4 D = some (.lst acc) ∧ acc.length < sizeLine ∧ Nx (upd H4 D (.lst (acc ++ [y]))) else Nx H3) := by
  have hBD : B1 D = none := hb.free hD
  refine lc_it Wk (Qd := Q (.ref D)) (fun i H2 => ∃ Bi acc, F0 B1 H1 Bi H2 ∧ Bi D = none ∧ H2 D = some (.lst acc) ∧ RAll K Bi acc (((ds.take i).filter p).map f)) ?_ ?_ ?_ ?_
  · refine ⟨B1, [], ⟨Same.refl _, upd_out hb hBD, fun a o _ e => ?_, fun _ _ e => e, fun q hq => ?_⟩, hBD, upd_same, ?_⟩
    · rw [upd_ne (ne_of_none e hD)]
      exact e
    · by_cases hqd : q = D
      · rw [hqd, upd_same]
        simp
      · rw [upd_ne hqd]
        exact hq
    · exact .nil
  · rintro i H2 _ ⟨Bi, acc, fi, _, _, _⟩
    exact fi.bb.trans fi.bh
  · rintro i x H2 H' hi ⟨Bi, acc, fi, hDi, hacc, racc⟩ yd
    obtain ⟨By, d, fy, hd, rd⟩ := yd Bi fi.bb fi.bh
    have hdm : d ∈ ds := List.mem_of_getElem? hd
    obtain ⟨σ2, hg2, hw2, ht2, he2⟩ := hel d hdm x By (fi.bb.trans fy.bb) rd
    have hDy : By D = none := fy.out D (by rw [hacc]; simp) hDi
    have haccy : H' D = some (.lst acc) := fy.hs _ _ hacc
    refine hg2 _ fy.bh _ ⟨hw2, ht2 _ fy.bh _ fun B3 H3 f3 => ?_⟩
    have etake : ds.take (i + 1) = ds.take i ++ [d] := by rw [List.take_add_one, hd]; rfl
    have hD3 : B3 D = none := f3.out D (by rw [haccy]; simp) hDy
    have hacc3 : H3 D = some (.lst acc) := f3.hs _ _ haccy
    have f13 := (fi.trans fy).trans f3
    cases hp : p d with
    | false =>
      show ∃ Bi acc, _
      refine ⟨B3, acc, f13, hD3, hacc3, ?_⟩
      rw [etake, List.filter_append, List.filter_cons, hp]
      simp only [Bool.false_eq_true, if_false, List.filter_nil, List.append_nil]
      exact (racc.mono fy.bb).mono f3.bb
    | true =>
      show te σ2 H3 _
      refine (he2 hp).mono f3.bb _ f3.bh _ fun y B4 H4 f4 r4 => ?_
      have hD4 : B4 D = none := f4.out D (by rw [hacc3]; simp) hD3
      have hacc4 : H4 D = some (.lst acc) := f4.hs _ _ hacc3
      have fall := f13.trans f4
      refine ⟨acc, hacc4, ?_, B4, acc ++ [y], ⟨fall.bb, upd_out fall.bh hD4, fun a o _ e => ?_, fall.out, fun q hq => ?_⟩, hD4, upd_same, ?_⟩
      · rw [racc.len, List.length_map]
        have := List.length_filter_le p (ds.take i)
        rw [List.length_take] at this
        have h1 : (16777216 : Nat) = sizeLine := sizeLine_eq.symm
        omega
      · rw [upd_ne (ne_of_none e hD)]
        exact fall.hs _ _ e
      · by_cases hqd : q = D
        · rw [hqd, upd_same]
          simp
        · rw [upd_ne hqd]
          exact fall.al q hq
      · rw [etake, List.filter_append, List.filter_cons, hp, List.map_append]
        exact (((racc.mono fy.bb).mono f3.bb).mono f4.bb).app (.cons r4 .nil)
  · rintro H2 ⟨Bi, acc, fi, hDi, hacc, racc⟩
    have el : ds.take ds.length = ds := List.take_of_length_le (Nat.le_refl _)
    rw [el] at racc
    have sub : Same Bi (upd Bi D (.lst acc)) := upd_out (Same.refl _) hDi
    refine hq (upd Bi D (.lst acc)) H2 ⟨fi.bb.trans sub, fun a o e => ?_, fi.hh, fun q hq e => ?_, fi.al⟩ (.lst upd_same (racc.mono sub))
    · by_cases ha : a = D
      · rw [ha, upd_same] at e
        rw [ha, hacc]
        exact e
      · rw [upd_ne ha] at e
        exact fi.bh _ _ e
    · have : q ≠ D := fun z => hq (by rw [z]; exact hD)
      rw [upd_ne this]
      exact fi.out q hq e
theorem ev_yes : EvT tYes σ B true := fun H hb Q q => q B H (Fz.refl hb)
theorem filter_yes {α : Type} (l : List α) : l.filter (fun _ => true) = l := List.filter_eq_self.mpr fun _ _ => rfl
section
variable {elt tg iter cnd : Expr} {scope : Scope} {own : List (Str × Nat)} {g : TG} {f : PyData → PyData} {pr : PyData → Bool} {wi : TI}
/-- a comprehension and the list it makes -/
def LD (X : Cx) (e : Expr) (σ : L2.St) (B : Hp) (d : PyData) : Prop := ∃ (elt tg iter : Expr) (ifs : List Expr) (scope : Scope) (pos : Pos) (wi : TI) (g : TG) (tt : TT) (te : TE) (own : List (Str × Nat)), e = .ListComp elt [⟨tg, iter, ifs, 0⟩] scope pos ∧ X.calm = true ∧ X.N.Nodup ∧ PI X tg iter wi ∧ BlkOk X.N X.env.scope scope own ∧
  (∀ (s : Shared) (H : Hp) (C : Addr) (cl : List (Str × Addr)) (fp : List Addr), PG (X.blk s H scope (compEnvC scope cl C X.env) fp) tg g) ∧ (∀ (s : Shared) (H : Hp) (C : Addr) (cl : List (Str × Addr)) (fp : List Addr), PTs (X.blk s H scope (compEnvC scope cl C X.env) fp) ifs tt) ∧
  (∀ (s : Shared) (H : Hp) (C : Addr) (cl : List (Str × Addr)) (fp : List Addr), PE (X.blk s H scope (compEnvC scope cl C X.env) fp) elt te) ∧ (∀ x, foldedSetIterable iter X.env x = pure x) ∧ EvD X.K (tLc wi g tt te (own.map (·.2))) σ B d
theorem LD.pd (h : LD X e σ B d) : PD X e σ B d := by
  obtain ⟨elt, tg, iter, ifs, scope, pos, wi, g, tt, te, own, rfl, hc, nd, hi, ok, hg, ht, he, hs, ev⟩ := h
  exact .of (pe_lc hc nd hi ok hg ht he hs) ev
theorem LD.set {i : Nat} {y : Str} {py spos : Pos} (h : LD X e σ B d) (hy : X.N[i]? = some y) (hyl : X.env.scope.names.lookup y = some .local) (hsw : swapsWith e (some (.Name y py)) spos.line X.env = pure true) : ∃ te, PS X (.Assign [.Name y py] e spos) (tAsg te (gName i)) ∧ EvD X.K te σ B d := by
  obtain ⟨elt, tg, iter, ifs, scope, pos, wi, g, tt, te, own, rfl, hc, nd, hi, ok, hg, ht, he, hs, ev⟩ := h
  exact ⟨_, ps_setLc hc nd hy hyl hsw hi ok hg ht he hs, ev⟩
theorem LD.cast (h : LD X e σ B d1) (s : d1 = d2) : LD X e σ B d2 := s ▸ h
theorem ld_gen (own : List (Str × Nat)) (hi : PI X tg iter wi) (src : Src X.K wi σ B ds) (hc : X.calm = true) (nd : X.N.Nodup) (ok : BlkOk X.N X.env.scope scope own) (hg : ∀ (s : Shared) (H : Hp) (C : Addr) (cl : List (Str × Addr)) (fp : List Addr), PG (X.blk s H scope (compEnvC scope cl C X.env) fp) tg g) (hz : ds.length ≤ 100000)
    (hel : ∀ d ∈ ds, ∀ v B2, Same B B2 → R X.K B2 v d → ∃ σ2, GD g (wipe σ (own.map (·.2))) B2 v σ2 ∧ wipe σ2 (own.map (·.2)) = wipe σ (own.map (·.2)) ∧ ∀ (s : Shared) (H0 : Hp) (C : Addr) (cl : List (Str × Addr)) (fp : List Addr), PD (X.blk s H0 scope (compEnvC scope cl C X.env) fp) elt σ2 B2 (f d))
    (hs : ∀ x, foldedSetIterable iter X.env x = pure x := by intro _; rfl) : LD X (.ListComp elt [⟨tg, iter, [], 0⟩] scope pos) σ B (.list (ds.map f)) :=
  ⟨_, _, _, _, _, _, _, g, tYes, blkE X scope elt, own, rfl, hc, nd, hi, ok, hg, fun _ _ _ _ _ => pts_nil, fun s H C cl fp => ⟨fun pins s2 σ2 H2 Q2 I2 q2 => pe_wp.run pins s2 σ2 H2 Q2 I2 (q2 s H C cl fp)⟩, hs, fun H hb Q q => src H hb _ fun J B1 H1 f1 w D hD => by
    refine lc_core2 (p := fun _ => true) (f := f) w f1.bh hD hz (fun d hd v B2 s2 r2 => ?_) fun B' H' f2 r2 => q _ B' H' (f1.trans f2) (by rw [filter_yes] at r2; exact r2)
    obtain ⟨σ2, h1, h2, h3⟩ := hel d hd v B2 (f1.bb.trans s2) r2
    exact ⟨σ2, h1, h2, ev_yes, fun _ H3 hb3 Q3 q3 s H0 C cl fp => h3 s H0 C cl fp H3 hb3 Q3 q3⟩⟩
/-- with a test -/
theorem ld_genf (own : List (Str × Nat)) (hi : PI X tg iter wi) (src : Src X.K wi σ B ds) (hc : X.calm = true) (nd : X.N.Nodup) (ok : BlkOk X.N X.env.scope scope own) (hg : ∀ (s : Shared) (H : Hp) (C : Addr) (cl : List (Str × Addr)) (fp : List Addr), PG (X.blk s H scope (compEnvC scope cl C X.env) fp) tg g) (hz : ds.length ≤ 100000)
    (hel : ∀ d ∈ ds, ∀ v B2, Same B B2 → R X.K B2 v d → ∃ σ2, GD g (wipe σ (own.map (·.2))) B2 v σ2 ∧ wipe σ2 (own.map (·.2)) = wipe σ (own.map (·.2)) ∧ (∀ (s : Shared) (H0 : Hp) (C : Addr) (cl : List (Str × Addr)) (fp : List Addr), TD (X.blk s H0 scope (compEnvC scope cl C X.env) fp) cnd σ2 B2 (pr d)) ∧
      (pr d = true → ∀ (s : Shared) (H0 : Hp) (C : Addr) (cl : List (Str × Addr)) (fp : List Addr), PD (X.blk s H0 scope (compEnvC scope cl C X.env) fp) elt σ2 B2 (f d)))
    (hs : ∀ x, foldedSetIterable iter X.env x = pure x := by intro _; rfl) : LD X (.ListComp elt [⟨tg, iter, [cnd], 0⟩] scope pos) σ B (.list ((ds.filter pr).map f)) :=
  ⟨_, _, _, _, _, _, _, g, blkT X scope cnd, blkE X scope elt, own, rfl, hc, nd, hi, ok, hg, fun s H C cl fp => pts_one ⟨fun pins s2 σ2 H2 Q2 I2 q2 => pt_wp.run pins s2 σ2 H2 Q2 I2 (q2 s H C cl fp)⟩, fun s H C cl fp => ⟨fun pins s2 σ2 H2 Q2 I2 q2 => pe_wp.run pins s2 σ2 H2 Q2 I2 (q2 s H C cl fp)⟩, hs, fun H hb Q q => src H hb _ fun J B1 H1 f1 w D hD => by
    refine lc_core2 (p := pr) (f := f) w f1.bh hD hz (fun d hd v B2 s2 r2 => ?_) fun B' H' f2 r2 => q _ B' H' (f1.trans f2) r2
    obtain ⟨σ2, h1, h2, h3, h4⟩ := hel d hd v B2 (f1.bb.trans s2) r2
    exact ⟨σ2, h1, h2, fun H3 hb3 Q3 q3 s H0 C cl fp => h3 s H0 C cl fp H3 hb3 Q3 q3, fun z H3 hb3 Q3 q3 s H0 C cl fp => h4 z s H0 C cl fp H3 hb3 Q3 q3⟩⟩
end

/-! ### blocks that hand back -/
def RD (X : Cx) (sts : List Stmt) (σ : L2.St) (B : Hp) (d : PyData) : Prop := ∀ H, Same B H → ∀ D : Ends, (∀ v B' H', F0 B H B' H' → R X.K B' v d → D.rt v H') → wpB X sts D σ H
section
variable {st : Stmt} {sts body : List Stmt}
theorem RD.mono (h : RD X sts σ B d) (e : Same B B1) : RD X sts σ B1 d := fun H hb D q => h H (e.trans hb) D fun v B' H' f r => by
  obtain ⟨f1, s1⟩ := uni_mono f e hb
  exact q v _ H' f1 (r.mono s1)
theorem RD.cast (h : RD X sts σ B d1) (s : d1 = d2) : RD X sts σ B d2 := s ▸ h
theorem wpB_cons {D : Ends} {H : Hp} (h : wpS X st { D with nx := wpB X sts D } σ H) : wpB X (st :: sts) D σ H := PSs.wp (pss_cons ps_wp pb_wp) h
theorem wpB_nil {D : Ends} {H : Hp} (h : D.nx σ H) : wpB X [] D σ H := PSs.wp pss_nil h
theorem wpS_of {t : TS} {D : Ends} {H : Hp} (hp : PS X st t) (h : t D σ H) : wpS X st D σ H := PS.wp hp h
theorem wpB_of {t : TS} {D : Ends} {H : Hp} (hp : PSs X sts t) (h : t D σ H) : wpB X sts D σ H := PSs.wp hp h
theorem rd_ret (h : PD X e σ B d) : RD X (.Return (some e) pos :: sts) σ B d := fun H hb D q => wpB_cons (wpS_of (ps_ret pe_wp) (h H hb _ q))
theorem rd_set {i : Nat} {x : Str} (hN : X.N.Nodup) (h : PD X e σ B d1) (k : ∀ v B1, Same B B1 → R X.K B1 v d1 → RD X sts (σ.set i (some v)) B1 d) (hi : X.N[i]? = some x := by rfl) (hx : Loc X.env.scope x := by first | exact Or.inl rfl | exact Or.inr rfl) (hs : swapsWith e (some (.Name x p2)) pos.line X.env = pure false := by rfl)
    (hf : X.fn x = true ∨ X.env.scope.names.lookup x = some .local := by first | exact .inl rfl | exact .inr rfl | assumption) : RD X (.Assign [.Name x p2] e pos :: sts) σ B d := fun H hb D q =>
  wpB_cons (wpS_of (ps_set hN hi hx pe_wp hs hf) (h H hb _ fun v B1 H1 f1 r1 => k v B1 f1.bb r1 H1 f1.bh D fun v B2 H2 f2 r2 => q v B2 H2 (f1.trans f2) r2))
/-- name = [..] on one line -/
theorem rd_setL {i : Nat} {x : Str} (h : LD X e σ B d1) (k : ∀ v B1, Same B B1 → R X.K B1 v d1 → RD X sts (σ.set i (some v)) B1 d) (hi : X.N[i]? = some x := by rfl) (hyl : X.env.scope.names.lookup x = some .local := by rfl) (hsw : swapsWith e (some (.Name x p2)) pos.line X.env = pure true := by exact sw_true rfl rfl rfl rfl) : RD X (.Assign [.Name x p2] e pos :: sts) σ B d := fun H hb D q => by
  obtain ⟨te, hps, ev⟩ := h.set hi hyl hsw
  exact wpB_cons (wpS_of hps (ev H hb _ fun v B1 H1 f1 r1 => k v B1 f1.bb r1 H1 f1.bh D fun v B2 H2 f2 r2 => q v B2 H2 (f1.trans f2) r2))
theorem rd_if (h : TD X c σ B p) (h1 : p = true → RD X body σ B d) (h2 : p = false → RD X sts σ B d) : RD X (.If c body [] pos :: sts) σ B d := fun H hb D q =>
  wpB_cons (wpS_of (ps_if pt_wp pb_wp pss_nil) (h H hb _ fun B1 H1 f1 => by
    cases p with
    | true => exact (h1 rfl).mono f1.bb H1 f1.bh _ fun v B2 H2 f2 r2 => q v B2 H2 (f1.trans f2) r2
    | false => exact (h2 rfl).mono f1.bb H1 f1.bh D fun v B2 H2 f2 r2 => q v B2 H2 (f1.trans f2) r2))
/-- target = e, a target that takes it apart -/
theorem rd_asg {tg : Expr} {g : TG} (hg : PG X tg g) (h : PD X e σ B d1) (k : ∀ v B1, Same B B1 → R X.K B1 v d1 → ∃ σ2, GD g σ B1 v σ2 ∧ RD X sts σ2 B1 d) (hs : swapsWithSole [tg] e pos.line X.env = pure false := by rfl) (hw : swappedStores [tg] e X.env = pure none := by rfl) (h1 : (assignEach [tg] X.env).map (·.2) = [assign tg X.env] := by rfl) : RD X (.Assign [tg] e pos :: sts) σ B d := fun H hb D q =>
  wpB_cons (wpS_of (ps_asg pe_wp hg hs hw h1) (h H hb _ fun v B1 H1 f1 r1 => by
    obtain ⟨σ2, hg2, k2⟩ := k v B1 f1.bb r1
    exact hg2 H1 f1.bh _ (k2 H1 f1.bh D fun v B2 H2 f2 r2 => q v B2 H2 (f1.trans f2) r2)))
/-- a body that hands back d, or falls through with the slots in U -/
def BD (X : Cx) (sts : List Stmt) (σ : L2.St) (B : Hp) (o : Option PyData) (U : L2.St → Prop) : Prop := ∀ H, Same B H → ∀ D : Ends, (∀ d, o = some d → ∀ v B' H', F0 B H B' H' → R X.K B' v d → D.rt v H') → (o = none → ∀ σ' B' H', F0 B H B' H' → U σ' → D.nx σ' H') → wpB X sts D σ H
theorem BD.mono {o : Option PyData} {U : L2.St → Prop} (h : BD X sts σ B o U) (e : Same B B1) : BD X sts σ B1 o U := fun H hb D q1 q2 => h H (e.trans hb) D (fun d ed v B' H' f r => by
  obtain ⟨f1, s1⟩ := uni_mono f e hb
  exact q1 d ed v _ H' f1 (r.mono s1)) fun en σ' B' H' f u => q2 en σ' _ H' (uni_mono f e hb).1 u
theorem RD.bd {U : L2.St → Prop} (h : RD X sts σ B d) : BD X sts σ B (some d) U := fun H hb D q1 _ => h H hb D (q1 d rfl)
theorem bd_nil {U : L2.St → Prop} (h : U σ) : BD X [] σ B none U := fun H hb D _ q2 => wpB_nil (q2 rfl σ B H (Fz.refl hb) h)
theorem bd_if {o : Option PyData} {U : L2.St → Prop} (h : TD X c σ B p) (h1 : p = true → RD X body σ B d ∧ o = some d) (h2 : p = false → BD X sts σ B o U) : BD X (.If c body [] pos :: sts) σ B o U := fun H hb D q1 q2 =>
  wpB_cons (wpS_of (ps_if pt_wp pb_wp pss_nil) (h H hb _ fun B1 H1 f1 => by
    cases p with
    | true => exact (h1 rfl).1.mono f1.bb H1 f1.bh _ fun v B2 H2 f2 r2 => q1 d (h1 rfl).2 v B2 H2 (f1.trans f2) r2
    | false => exact (h2 rfl).mono f1.bb H1 f1.bh D (fun d ed v B2 H2 f2 r2 => q1 d ed v B2 H2 (f1.trans f2) r2) fun en σ' B2 H2 f2 u => q2 en σ' B2 H2 (f1.trans f2) u))
theorem bd_set {o : Option PyData} {U : L2.St → Prop} {i : Nat} {x : Str} (hN : X.N.Nodup) (h : PD X e σ B d1) (k : ∀ v B1, Same B B1 → R X.K B1 v d1 → BD X sts (σ.set i (some v)) B1 o U) (hi : X.N[i]? = some x := by rfl) (hx : Loc X.env.scope x := by first | exact Or.inl rfl | exact Or.inr rfl) (hs : swapsWith e (some (.Name x p2)) pos.line X.env = pure false := by rfl)
    (hf : X.fn x = true ∨ X.env.scope.names.lookup x = some .local := by first | exact .inl rfl | exact .inr rfl | assumption) : BD X (.Assign [.Name x p2] e pos :: sts) σ B o U := fun H hb D q1 q2 =>
  wpB_cons (wpS_of (ps_set hN hi hx pe_wp hs hf) (h H hb _ fun v B1 H1 f1 r1 => k v B1 f1.bb r1 H1 f1.bh D (fun d ed v B2 H2 f2 r2 => q1 d ed v B2 H2 (f1.trans f2) r2) fun en σ' B2 H2 f2 u => q2 en σ' B2 H2 (f1.trans f2) u))
/-- a search: each item's body hands back or goes on; U: the slots between the turns -/
theorem rd_for {iter tg : Expr} {wi : TI} {g : TG} {U : L2.St → Prop} {find : PyData → Option PyData} (hp : PassesOwn (model X.prog X.w) X.A X.env X.xe) (hc : X.calm = true) (hi : PI X tg iter wi) (hg : PG X tg g) (src : Src X.K wi σ B ds)
    (u0 : U σ) (hel : ∀ d' ∈ ds, ∀ v B2 σ1, Same B B2 → R X.K B2 v d' → U σ1 → ∃ σ2, GD g σ1 B2 v σ2 ∧ BD X body σ2 B2 (find d') U)
    (hret : ∀ d', ds.findSome? find = some d' → d' = d) (hrest : ds.findSome? find = none → ∀ σ1 B2, Same B B2 → U σ1 → RD X sts σ1 B2 d) (hs : ∀ x, foldedSetIterable iter X.env x = pure x := by intro _; rfl) : RD X (.For tg iter body [] pos :: sts) σ B d := fun H hb D q => by
  refine wpB_cons (wpS_of (ps_for hp hc hi hg pb_wp hs) (src H hb _ fun J B1 H1 f1 W => ?_))
  have fst : ∀ (l : List PyData) (i : Nat) (d' : PyData), l[i]? = some d' → (l.take i).findSome? find = none → ∀ r, find d' = some r → l.findSome? find = some r := by
    intro l
    induction l with
    | nil => intro i d' h; simp at h
    | cons y l ih =>
      intro i d' h h2 r hr'
      cases i with
      | zero =>
        have e : y = d' := Option.some.inj (by simpa using h)
        rw [List.findSome?_cons, e, hr']
      | succ i =>
        rw [List.take_succ_cons, List.findSome?_cons] at h2
        rw [List.findSome?_cons]
        cases hy : find y with
        | some r2 => rw [hy] at h2; cases h2
        | none =>
          rw [hy] at h2
          exact ih i d' (by simpa using h) h2 r hr'
  refine for_it W (D := { D with nx := wpB X sts D }) (fun i σ1 H2 => ∃ Bi, F0 B1 H1 Bi H2 ∧ U σ1 ∧ (ds.take i).findSome? find = none) ?_ ?_ ?_ ?_
  · exact ⟨B1, Fz.refl f1.bh, u0, rfl⟩
  · rintro i σ1 H2 _ ⟨Bi, fi, _⟩
    exact fi.bb.trans fi.bh
  · rintro i x σ1 H2 H' hi' ⟨Bi, fi, u1, hno⟩ yd
    obtain ⟨By, d', fy, hd, rd⟩ := yd Bi fi.bb fi.bh
    obtain ⟨σ2, hg2, hbd⟩ := hel d' (List.mem_of_getElem? hd) x By σ1 ((f1.bb.trans fi.bb).trans fy.bb) rd u1
    refine hg2 _ fy.bh _ (hbd _ fy.bh _ (fun r er v B3 H3 f3 r3 => ?_) fun en σ3 B3 H3 f3 u3 => ?_)
    · have e := hret r (fst ds i d' hd hno r er)
      subst e
      exact q v B3 H3 (((f1.trans fi).trans fy).trans f3) r3
    · refine ⟨B3, (fi.trans fy).trans f3, u3, ?_⟩
      rw [List.take_add_one, hd, List.findSome?_append, hno]
      simp [en]
  · rintro σ1 H2 ⟨Bi, fi, u1, hno⟩
    rw [List.take_of_length_le (Nat.le_refl _)] at hno
    exact hrest hno σ1 Bi (f1.bb.trans fi.bb) u1 H2 fi.bh D fun v B2 H3 f2 r2 => q v B2 H3 ((f1.trans fi).trans f2) r2
end
end

section
variable {X : Cx} {e a b c : Expr} {es : List Expr} {σ : L2.St} {B B1 : Hp} {d d1 d2 : PyData} {ds : List PyData} {p q : Bool} {pos p1 p2 : Pos} {st : Stmt} {sts body : List Stmt}
theorem fst_some {find : PyData → Option PyData} : ∀ (l : List PyData) (i : Nat) (d' : PyData), l[i]? = some d' → (l.take i).findSome? find = none → ∀ r, find d' = some r → l.findSome? find = some r := by
  intro l
  induction l with
  | nil => intro i d' h; simp at h
  | cons y l ih =>
    intro i d' h h2 r hr'
    cases i with
    | zero =>
      have e : y = d' := Option.some.inj (by simpa using h)
      rw [List.findSome?_cons, e, hr']
    | succ i =>
      rw [List.take_succ_cons, List.findSome?_cons] at h2
      rw [List.findSome?_cons]
      cases hy : find y with
      | some r2 => rw [hy] at h2; cases h2
      | none =>
        rw [hy] at h2
        exact ih i d' (by simpa using h) h2 r hr'
/-- a search within a body that may fall through -/
theorem bd_for {iter tg : Expr} {wi : TI} {g : TG} {U V : L2.St → Prop} {find : PyData → Option PyData} {o : Option PyData} (hp : PassesOwn (model X.prog X.w) X.A X.env X.xe) (hc : X.calm = true) (hi : PI X tg iter wi) (hg : PG X tg g) (src : Src X.K wi σ B ds)
    (u0 : U σ) (hel : ∀ d' ∈ ds, ∀ v B2 σ1, Same B B2 → R X.K B2 v d' → U σ1 → ∃ σ2, GD g σ1 B2 v σ2 ∧ BD X body σ2 B2 (find d') U)
    (hret : ∀ d', ds.findSome? find = some d' → o = some d') (hrest : ds.findSome? find = none → ∀ σ1 B2, Same B B2 → U σ1 → BD X sts σ1 B2 o V) (hs : ∀ x, foldedSetIterable iter X.env x = pure x := by intro _; rfl) : BD X (.For tg iter body [] pos :: sts) σ B o V := fun H hb D q1 q2 => by
  refine wpB_cons (wpS_of (ps_for hp hc hi hg pb_wp hs) (src H hb _ fun J B1 H1 f1 W => ?_))
  refine for_it W (D := { D with nx := wpB X sts D }) (fun i σ1 H2 => ∃ Bi, F0 B1 H1 Bi H2 ∧ U σ1 ∧ (ds.take i).findSome? find = none) ?_ ?_ ?_ ?_
  · exact ⟨B1, Fz.refl f1.bh, u0, rfl⟩
  · rintro i σ1 H2 _ ⟨Bi, fi, _⟩
    exact fi.bb.trans fi.bh
  · rintro i x σ1 H2 H' hi' ⟨Bi, fi, u1, hno⟩ yd
    obtain ⟨By, d', fy, hd, rd⟩ := yd Bi fi.bb fi.bh
    obtain ⟨σ2, hg2, hbd⟩ := hel d' (List.mem_of_getElem? hd) x By σ1 ((f1.bb.trans fi.bb).trans fy.bb) rd u1
    refine hg2 _ fy.bh _ (hbd _ fy.bh _ (fun r er v B3 H3 f3 r3 => ?_) fun en σ3 B3 H3 f3 u3 => ?_)
    · exact q1 r (hret r (fst_some ds i d' hd hno r er)) v B3 H3 (((f1.trans fi).trans fy).trans f3) r3
    · refine ⟨B3, (fi.trans fy).trans f3, u3, ?_⟩
      rw [List.take_add_one, hd, List.findSome?_append, hno]
      simp [en]
  · rintro σ1 H2 ⟨Bi, fi, u1, hno⟩
    rw [List.take_of_length_le (Nat.le_refl _)] at hno
    exact hrest hno σ1 Bi (f1.bb.trans fi.bb) u1 H2 fi.bh D (fun d ed v B2 H3 f2 r2 => q1 d ed v B2 H3 ((f1.trans fi).trans f2) r2) fun en σ' B2 H3 f2 u => q2 en σ' B2 H3 ((f1.trans fi).trans f2) u
end

/-! ### a def that hands back data -/
/-- the context of a def's body -/
abbrev bx (P : Program) (w : World) (K : PySem.W.Frag) (mg : Str → Option Value) (base : Heap) (x : Str) (st : Stmt) (N : List Str) (f : Addr) (cdv : Value) (A : Around) (outer : List Env) (s : Shared) (H : Hp) (E : XK) : Cx :=
  (cxOf CX0 P w K mg base N x (defScope st) f cdv A outer s H E).nox
section
variable {P : Program} {w : World} {K : PySem.W.Frag} {mg : Str → Option Value} {base : Heap}
/-- the def x of the top's text st -/
def IsDef (K : PySem.W.Frag) (mg : Str → Option Value) (x : Str) (st : Stmt) : Prop := ∃ (f : Addr) (fd : FuncData), mg x = some (.ref f) ∧ Fun K x x st f fd
theorem fn_data {x : Str} {st : Stmt} {N ps : List Str} {k : Nat} {rel : List PyData → PyData → Prop} (D : IsDef K mg x st) (S : FnScope N ps (defScope st)) (len : ∀ ds d, rel ds d → ds.length = ps.length)
    (bind : ∀ (kV doc pm : Value) (an : Option Addr) (cdv ct : Value) (us : List Value), us.length = ps.length → bindArgs (PySem.W.fnOf x x (defArgs st) (defBody st) (defScope st) .none kV doc pm an cdv ct) ⟨us, []⟩ = pure (ps.zip us))
    (body : ∀ (f : Addr) (cdv : Value) (A : Around) (outer : List Env) (s : Shared) (H : Hp) (E : XK) (vs : List V) (B : Hp) (ds : List PyData) (d : PyData), Room k (bx P w K mg base x st N f cdv A outer s H E).A → rel ds d → RAll K B vs ds → RD (bx P w K mg base x st N f cdv A outer s H E) (defBody st) (start N vs) B d) :
    Fn P w K mg base CX0 x (k + 1) ps (SpR K rel) := by
  obtain ⟨f, fd, hm, F⟩ := D
  refine ⟨f, fd, hm, F.kp, F.binds bind, F.ok S (fun vs H Q E h => ?_) fun cdv A outer s H vs Q E hr h => ?_⟩
  · obtain ⟨B, ds, d, _, ra, hrel, _⟩ := h
    rw [ra.len]
    exact len ds d hrel
  · obtain ⟨B, ds, d, hb, ra, hrel, q⟩ := h
    exact ⟨wpB _ _, pb_wp, body f cdv A outer s H E vs B ds d hr hrel ra H hb { nx := fun _ H' => Q .non H', rt := Q } fun v B' H' f1 r1 => q v B' H' f1 r1⟩
end
end K8

set_option Elab.async false
set_option linter.all false
set_option maxRecDepth 100000
set_option maxHeartbeats 4000000
/-! K8t: the text: each def by its place, its slots. -/
namespace K8
open PySem PySem.Spec PyProof.Rows L2
def topS (i : Nat) : Stmt := PySem.Challenge.pw_noteshold_k08_whole_following.main.body.getD i (.Pass ⟨0, 0, 0, 0⟩)
abbrev s_is_name : Stmt := topS 8
abbrev N_is_name : List Str := ["thing", "sign"]
theorem sc_is_name : FnScope N_is_name ["thing"] (defScope s_is_name) := ⟨rfl, rfl, rfl, by decide +kernel, rfl, by decide +kernel, by decide +kernel⟩
abbrev s_is_path : Stmt := topS 9
abbrev N_is_path : List Str := ["thing", "part"]
theorem sc_is_path : FnScope N_is_path ["thing"] (defScope s_is_path) := ⟨rfl, rfl, rfl, by decide +kernel, rfl, by decide +kernel, by decide +kernel⟩
abbrev s_is_beneath : Stmt := topS 10
abbrev N_is_beneath : List Str := ["path", "other"]
theorem sc_is_beneath : FnScope N_is_beneath ["path", "other"] (defScope s_is_beneath) := ⟨rfl, rfl, rfl, by decide +kernel, rfl, by decide +kernel, by decide +kernel⟩
abbrev s_is_near : Stmt := topS 11
abbrev N_is_near : List Str := ["path", "other"]
theorem sc_is_near : FnScope N_is_near ["path", "other"] (defScope s_is_near) := ⟨rfl, rfl, rfl, by decide +kernel, rfl, by decide +kernel, by decide +kernel⟩
abbrev s_joined : Stmt := topS 12
abbrev N_joined : List Str := ["folder", "name"]
theorem sc_joined : FnScope N_joined ["folder", "name"] (defScope s_joined) := ⟨rfl, rfl, rfl, by decide +kernel, rfl, by decide +kernel, by decide +kernel⟩
abbrev s_next_name : Stmt := topS 13
abbrev N_next_name : List Str := ["path", "folder"]
theorem sc_next_name : FnScope N_next_name ["path", "folder"] (defScope s_next_name) := ⟨rfl, rfl, rfl, by decide +kernel, rfl, by decide +kernel, by decide +kernel⟩
abbrev s_is_list : Stmt := topS 15
abbrev N_is_list : List Str := ["thing"]
theorem sc_is_list : FnScope N_is_list ["thing"] (defScope s_is_list) := ⟨rfl, rfl, rfl, by decide +kernel, rfl, by decide +kernel, by decide +kernel⟩
abbrev s_look_of : Stmt := topS 16
abbrev N_look_of : List Str := ["thing", "word", "where"]
theorem sc_look_of : FnScope N_look_of ["thing"] (defScope s_look_of) := ⟨rfl, rfl, rfl, by decide +kernel, rfl, by decide +kernel, by decide +kernel⟩
abbrev s_entry_name : Stmt := topS 17
abbrev N_entry_name : List Str := ["entry"]
theorem sc_entry_name : FnScope N_entry_name ["entry"] (defScope s_entry_name) := ⟨rfl, rfl, rfl, by decide +kernel, rfl, by decide +kernel, by decide +kernel⟩
abbrev s_are_entries : Stmt := topS 18
abbrev N_are_entries : List Str := ["things", "thing", "names", "name"]
theorem sc_are_entries : FnScope N_are_entries ["things"] (defScope s_are_entries) := ⟨rfl, rfl, rfl, by decide +kernel, rfl, by decide +kernel, by decide +kernel⟩
abbrev s_answer_of : Stmt := topS 19
abbrev N_answer_of : List Str := ["look", "thing"]
theorem sc_answer_of : FnScope N_answer_of ["look", "thing"] (defScope s_answer_of) := ⟨rfl, rfl, rfl, by decide +kernel, rfl, by decide +kernel, by decide +kernel⟩
abbrev s_sight_of : Stmt := topS 20
abbrev N_sight_of : List Str := ["thing", "look", "answer"]
theorem sc_sight_of : FnScope N_sight_of ["thing"] (defScope s_sight_of) := ⟨rfl, rfl, rfl, by decide +kernel, rfl, by decide +kernel, by decide +kernel⟩
abbrev s_sights_of : Stmt := topS 21
abbrev N_sights_of : List Str := ["things", "found", "index", "thing", "sight"]
theorem sc_sights_of : FnScope N_sights_of ["things"] (defScope s_sights_of) := ⟨rfl, rfl, rfl, by decide +kernel, rfl, by decide +kernel, by decide +kernel⟩
abbrev s_entry_of : Stmt := topS 23
abbrev N_entry_of : List Str := ["entries", "name", "entry"]
theorem sc_entry_of : FnScope N_entry_of ["entries", "name"] (defScope s_entry_of) := ⟨rfl, rfl, rfl, by decide +kernel, rfl, by decide +kernel, by decide +kernel⟩
abbrev s_is_gone : Stmt := topS 24
abbrev N_is_gone : List Str := ["where", "entries", "look", "word", "path", "name", "entry"]
theorem sc_is_gone : FnScope N_is_gone ["where", "entries", "look"] (defScope s_is_gone) := ⟨rfl, rfl, rfl, by decide +kernel, rfl, by decide +kernel, by decide +kernel⟩
abbrev s_is_none_by : Stmt := topS 25
abbrev N_is_none_by : List Str := ["sight", "look", "word", "where", "answer", "asked", "path", "is_hid"]
theorem sc_is_none_by : FnScope N_is_none_by ["sight", "look"] (defScope s_is_none_by) := ⟨rfl, rfl, rfl, by decide +kernel, rfl, by decide +kernel, by decide +kernel⟩
abbrev s_brings : Stmt := topS 26
abbrev N_brings : List Str := ["sight", "look"]
theorem sc_brings : FnScope N_brings ["sight", "look"] (defScope s_brings) := ⟨rfl, rfl, rfl, by decide +kernel, rfl, by decide +kernel, by decide +kernel⟩
abbrev s_is_brought : Stmt := topS 27
abbrev N_is_brought : List Str := ["sights", "sight", "one"]
theorem sc_is_brought : FnScope N_is_brought ["sights", "sight"] (defScope s_is_brought) := ⟨rfl, rfl, rfl, by decide +kernel, rfl, by decide +kernel, by decide +kernel⟩
abbrev s_is_lacked : Stmt := topS 28
abbrev N_is_lacked : List Str := ["sight", "other", "word", "path", "answer", "entry"]
theorem sc_is_lacked : FnScope N_is_lacked ["sight", "other"] (defScope s_is_lacked) := ⟨rfl, rfl, rfl, by decide +kernel, rfl, by decide +kernel, by decide +kernel⟩
abbrev s_are_apart : Stmt := topS 29
abbrev N_are_apart : List Str := ["one", "other", "first", "second"]
theorem sc_are_apart : FnScope N_are_apart ["one", "other"] (defScope s_are_apart) := ⟨rfl, rfl, rfl, by decide +kernel, rfl, by decide +kernel, by decide +kernel⟩
abbrev s_first_apart : Stmt := topS 30
abbrev N_first_apart : List Str := ["sights", "at", "one", "later"]
theorem sc_first_apart : FnScope N_first_apart ["sights"] (defScope s_first_apart) := ⟨rfl, rfl, rfl, by decide +kernel, rfl, by decide +kernel, by decide +kernel⟩
abbrev s_checked : Stmt := topS 32
abbrev N_checked : List Str := ["sights", "found", "pair"]
theorem sc_checked : FnScope N_checked ["sights"] (defScope s_checked) := ⟨rfl, rfl, rfl, by decide +kernel, rfl, by decide +kernel, by decide +kernel⟩
abbrev s_follows : Stmt := topS 33
abbrev N_follows : List Str := ["sights", "sight", "found", "last"]
theorem sc_follows : FnScope N_follows ["sights", "sight"] (defScope s_follows) := ⟨rfl, rfl, rfl, by decide +kernel, rfl, by decide +kernel, by decide +kernel⟩
abbrev s_least_of : Stmt := topS 34
abbrev N_least_of : List Str := ["sights", "found", "sight", "other"]
theorem sc_least_of : FnScope N_least_of ["sights"] (defScope s_least_of) := ⟨rfl, rfl, rfl, by decide +kernel, rfl, by decide +kernel, by decide +kernel⟩
abbrev s_least : Stmt := topS 35
abbrev N_least : List Str := ["sights"]
theorem sc_least : FnScope N_least ["sights"] (defScope s_least) := ⟨rfl, rfl, rfl, by decide +kernel, rfl, by decide +kernel, by decide +kernel⟩
abbrev s_sure : Stmt := topS 36
abbrev N_sure : List Str := ["sights", "look", "found", "asked", "sight"]
theorem sc_sure : FnScope N_sure ["sights", "look"] (defScope s_sure) := ⟨rfl, rfl, rfl, by decide +kernel, rfl, by decide +kernel, by decide +kernel⟩
abbrev s_l_source : Stmt := topS 38
abbrev N_l_source : List Str := ["_law_script", "_law_turn", "_law_cell"]
theorem sc_l_source : FnScope N_l_source ["_law_script", "_law_turn"] (defScope s_l_source) := ⟨rfl, rfl, rfl, by decide +kernel, rfl, by decide +kernel, by decide +kernel⟩
abbrev s_l_draw : Stmt := topS 39
abbrev N_l_draw : List Str := ["_law_draws", "_law_many", "_law_digit"]
theorem sc_l_draw : FnScope N_l_draw ["_law_draws", "_law_many"] (defScope s_l_draw) := ⟨rfl, rfl, rfl, by decide +kernel, rfl, by decide +kernel, by decide +kernel⟩
abbrev s_l_pick : Stmt := topS 40
abbrev N_l_pick : List Str := ["_law_draws", "_law_things"]
theorem sc_l_pick : FnScope N_l_pick ["_law_draws", "_law_things"] (defScope s_l_pick) := ⟨rfl, rfl, rfl, by decide +kernel, rfl, by decide +kernel, by decide +kernel⟩
abbrev s_l_same : Stmt := topS 41
abbrev N_l_same : List Str := ["_law_found", "_law_due", "_law_one", "_law_other"]
theorem sc_l_same : FnScope N_l_same ["_law_found", "_law_due"] (defScope s_l_same) := ⟨rfl, rfl, rfl, by decide +kernel, rfl, by decide +kernel, by decide +kernel⟩
abbrev s_l_is_beneath : Stmt := topS 42
abbrev N_l_is_beneath : List Str := ["_law_path", "_law_other"]
theorem sc_l_is_beneath : FnScope N_l_is_beneath ["_law_path", "_law_other"] (defScope s_l_is_beneath) := ⟨rfl, rfl, rfl, by decide +kernel, rfl, by decide +kernel, by decide +kernel⟩
abbrev s_l_shown : Stmt := topS 43
abbrev N_l_shown : List Str := ["_law_files", "_law_look", "_law_word", "_law_path", "_law_found", "_law_other", "_law_rest", "_law_name"]
theorem sc_l_shown : FnScope N_l_shown ["_law_files", "_law_look"] (defScope s_l_shown) := ⟨rfl, rfl, rfl, by decide +kernel, rfl, by decide +kernel, by decide +kernel⟩
abbrev s_l_looks : Stmt := topS 44
abbrev N_l_looks : List Str := ["_law_found"]
theorem sc_l_looks : FnScope N_l_looks [] (defScope s_l_looks) := ⟨rfl, rfl, rfl, by decide +kernel, rfl, by decide +kernel, by decide +kernel⟩
abbrev s_l_answers : Stmt := topS 45
abbrev N_l_answers : List Str := ["_law_look"]
theorem sc_l_answers : FnScope N_l_answers ["_law_look"] (defScope s_l_answers) := ⟨rfl, rfl, rfl, by decide +kernel, rfl, by decide +kernel, by decide +kernel⟩
abbrev s_l_worlds : Stmt := topS 46
abbrev N_l_worlds : List Str := ["_law_inner", "_law_folders", "_law_base", "_law_more", "_law_path", "_law_text", "_law_found", "_law_folder"]
theorem sc_l_worlds : FnScope N_l_worlds [] (defScope s_l_worlds) := ⟨rfl, rfl, rfl, by decide +kernel, rfl, by decide +kernel, by decide +kernel⟩
abbrev s_l_table : Stmt := topS 47
abbrev N_l_table : List Str := ["_law_worlds_here", "_law_looks_here", "_law_look", "_law_files"]
theorem sc_l_table : FnScope N_l_table ["_law_worlds_here"] (defScope s_l_table) := ⟨rfl, rfl, rfl, by decide +kernel, rfl, by decide +kernel, by decide +kernel⟩
abbrev s_l_some_sights : Stmt := topS 48
abbrev N_l_some_sights : List Str := ["_law_draws", "_law_many", "_law_looks_here", "_law_found", "_law_k", "_law_look"]
theorem sc_l_some_sights : FnScope N_l_some_sights ["_law_draws", "_law_many"] (defScope s_l_some_sights) := ⟨rfl, rfl, rfl, by decide +kernel, rfl, by decide +kernel, by decide +kernel⟩
abbrev s_l_have : Stmt := topS 49
abbrev N_l_have : List Str := ["_law_grid", "_law_sights", "_law_row", "_law_look", "_law_answer"]
theorem sc_l_have : FnScope N_l_have ["_law_grid", "_law_sights"] (defScope s_l_have) := ⟨rfl, rfl, rfl, by decide +kernel, rfl, by decide +kernel, by decide +kernel⟩
abbrev s_l_handed_sights : Stmt := topS 50
abbrev N_l_handed_sights : List Str := ["_law_draws", "_law_sights", "_law_found", "_law_look", "_law_answer", "_law_asked", "_law_seen"]
theorem sc_l_handed_sights : FnScope N_l_handed_sights ["_law_draws", "_law_sights"] (defScope s_l_handed_sights) := ⟨rfl, rfl, rfl, by decide +kernel, rfl, by decide +kernel, by decide +kernel⟩
abbrev s_l_tried : Stmt := topS 51
abbrev N_l_tried : List Str := ["_law_ask", "e"]
theorem sc_l_tried : FnScope N_l_tried ["_law_ask"] (defScope s_l_tried) := ⟨rfl, rfl, rfl, by decide +kernel, rfl, by decide +kernel, by decide +kernel⟩
abbrev s_l_brought : Stmt := topS 52
abbrev N_l_brought : List Str := ["_law_grid", "_law_sights", "_law_sight", "_law_row"]
theorem sc_l_brought : FnScope N_l_brought ["_law_grid", "_law_sights", "_law_sight"] (defScope s_l_brought) := ⟨rfl, rfl, rfl, by decide +kernel, rfl, by decide +kernel, by decide +kernel⟩
abbrev s_l_least : Stmt := topS 53
abbrev N_l_least : List Str := ["_law_grid", "_law_sights", "_law_found", "_law_sight", "_law_others", "_law_other"]
theorem sc_l_least : FnScope N_l_least ["_law_grid", "_law_sights"] (defScope s_l_least) := ⟨rfl, rfl, rfl, by decide +kernel, rfl, by decide +kernel, by decide +kernel⟩
abbrev s_l_refused_right : Stmt := topS 54
abbrev N_l_refused_right : List Str := ["_law_draws", "_law_sights", "_law_pair", "_law_odd", "_law_look", "_law_found", "_law_due"]
theorem sc_l_refused_right : FnScope N_l_refused_right ["_law_draws", "_law_sights", "_law_pair"] (defScope s_l_refused_right) := ⟨rfl, rfl, rfl, by decide +kernel, rfl, by decide +kernel, by decide +kernel⟩
abbrev s_l_all_worlds : Stmt := topS 55
abbrev N_l_all_worlds : List Str := ["_law_found", "_law_files", "_law_more", "_law_path"]
theorem sc_l_all_worlds : FnScope N_l_all_worlds [] (defScope s_l_all_worlds) := ⟨rfl, rfl, rfl, by decide +kernel, rfl, by decide +kernel, by decide +kernel⟩
abbrev s_l_told_right : Stmt := topS 56
abbrev N_l_told_right : List Str := ["_law_draws", "_law_grid", "_law_sights", "_law_handed", "_law_before", "_law_lean_note", "_law_sight", "_law_due", "_law_asked", "_law_one", "_law_look", "_law_seen", "_law_row"]
theorem sc_l_told_right : FnScope N_l_told_right ["_law_draws", "_law_grid", "_law_sights"] (defScope s_l_told_right) := ⟨rfl, rfl, rfl, by decide +kernel, rfl, by decide +kernel, by decide +kernel⟩
abbrev s_l_deeper_right : Stmt := topS 57
abbrev N_l_deeper_right : List Str := ["_law_draws", "_law_rest", "_law_k", "_law_some", "_law_sight", "_law_due", "_law_word"]
theorem sc_l_deeper_right : FnScope N_l_deeper_right ["_law_draws"] (defScope s_l_deeper_right) := ⟨rfl, rfl, rfl, by decide +kernel, rfl, by decide +kernel, by decide +kernel⟩
abbrev s_law : Stmt := topS 58
abbrev N_law : List Str := ["_law_script", "_law_grid", "_law_turn", "_law_draws", "_law_sights", "_law_pair", "_law_one", "_law_other"]
theorem sc_law : FnScope N_law ["_law_script"] (defScope s_law) := ⟨rfl, rfl, rfl, by decide +kernel, rfl, by decide +kernel, by decide +kernel⟩
end K8

set_option Elab.async false
set_option linter.all false
set_option maxRecDepth 100000
set_option maxHeartbeats 4000000
/-! K8d: what the top has written, as facts; a few more rules; names and paths. -/
namespace K8
open PySem PySem.Spec PyProof.Rows L2
def signs : Str := "abcdefghijklmnopqrstuvwxyz0123456789"
structure Bl (mg : Str → Option Value) : Prop where
  isinstance : mg "isinstance" = none
  str : mg "str" = none
  len : mg "len" = none
  all : mg "all" = none
  any : mg "any" = none
  list : mg "list" = none
  tuple : mg "tuple" = none
  sorted : mg "sorted" = none
  set : mg "set" = none
  enumerate : mg "enumerate" = none
  range : mg "range" = none
  int : mg "int" = none
  bool : mg "bool" = none
  zip : mg "zip" = none
  dict : mg "dict" = none
  min : mg "min" = none
  super : mg "super" = none
  SIGNS : ∃ t, mg "SIGNS" = some (.str signs t)
  LONGEST : ∃ t, mg "LONGEST" = some (.int 8 t)
section
variable {X : Cx} {e a b c : Expr} {es : List Expr} {σ : L2.St} {B B1 : Hp} {d d1 d2 : PyData} {ds : List PyData} {p q : Bool} {i j k : Int} {pos p1 p2 p3 p4 p5 apos : Pos} {n : Nat}
theorem pd_glob {x : Str} {v : V} {u : Value} (hg : Gl X x) (hm : X.mg x = some u) (r : RelV v u) (rd : R X.K B v d) (hd : (x == ("__debug__" : Str)) = false := by decide) : PD X (.Name x pos) σ B d := .of (pe_glob hg hm r hd) (ev_c rd)
theorem pd_chain (ha : PD X a σ B (.int i)) (hb : PD X b σ B (.int j)) (hc : PD X c σ B (.int k)) (hm : lastMarks [CmpOp.LtE, CmpOp.LtE] [b, c] = false := by with_unfolding_all rfl) : PD X (.Compare a [.LtE, .LtE] [b, c] pos) σ B (.bool (decide (i ≤ j) && decide (j ≤ k))) :=
  .of (pe_chain op_le op_le pe_wp pe_wp pe_wp hm) fun H h Q q => by
    refine ha H h _ fun x B1 H1 f1 r1 => ?_
    refine (hb.mono f1.bb) H1 f1.bh _ fun y B2 H2 f2 r2 => ?_
    rw [r1.int_inv, r2.int_inv]
    refine ⟨i, j, rfl, rfl, decide (i ≤ j), rfl, ?_⟩
    cases hij : decide (i ≤ j) with
    | false =>
      rw [hij] at q
      exact q _ B2 H2 (f1.trans f2) (.bl _)
    | true =>
      refine ((hc.mono f1.bb).mono f2.bb) H2 f2.bh _ fun z B3 H3 f3 r3 => ?_
      rw [r3.int_inv]
      rw [hij] at q
      exact ⟨j, k, rfl, rfl, q _ B3 H3 ((f1.trans f2).trans f3) (.bl _)⟩
theorem pd_andF (h1 : PD X a σ B (.bool false)) : PD X (.BoolOp .And (a :: b :: es) pos) σ B (.bool false) := pd_and (q := false) h1 fun z => nomatch z
theorem pd_andT (h1 : PD X a σ B (.bool true)) (h2 : PD X (.BoolOp .And (b :: es) pos) σ B (.bool q)) : PD X (.BoolOp .And (a :: b :: es) pos) σ B (.bool q) := pd_and h1 fun _ => h2
theorem pd_orT (h1 : PD X a σ B (.bool true)) : PD X (.BoolOp .Or (a :: b :: es) pos) σ B (.bool true) := pd_or (q := true) h1 fun z => nomatch z
theorem pd_orF (h1 : PD X a σ B (.bool false)) (h2 : PD X (.BoolOp .Or (b :: es) pos) σ B (.bool q)) : PD X (.BoolOp .Or (a :: b :: es) pos) σ B (.bool q) := pd_or h1 fun _ => h2
theorem wd_orT (h1 : TD X a σ B true) : WD X (.BoolOp .Or (a :: b :: es) pos) σ B true := wd_or (q := true) h1 fun z => nomatch z
theorem wd_orF (h1 : TD X a σ B false) (h2 : WD X (.BoolOp .Or (b :: es) pos) σ B q) : WD X (.BoolOp .Or (a :: b :: es) pos) σ B q := wd_or h1 fun _ => h2
theorem wd_andT (h1 : TD X a σ B true) (h2 : WD X (.BoolOp .And (b :: es) pos) σ B q) : WD X (.BoolOp .And (a :: b :: es) pos) σ B q := wd_and h1 fun _ => h2
theorem wd_andF (h1 : TD X a σ B false) : WD X (.BoolOp .And (a :: b :: es) pos) σ B false := wd_and (q := false) h1 fun z => nomatch z
end
theorem all_id {α : Type} (l : List α) (f : α → Bool) : (l.map f).all id = l.all f := by
  induction l with
  | nil => rfl
  | cons x l ih => rw [List.map_cons, List.all_cons, List.all_cons, ih]; rfl
theorem any_id {α : Type} (l : List α) (f : α → Bool) : (l.map f).any id = l.any f := by
  induction l with
  | nil => rfl
  | cons x l ih => rw [List.map_cons, List.any_cons, List.any_cons, ih]; rfl

/-! ### names and paths -/
def nameB (z : Str) : Bool := decide (1 ≤ z.length) && decide (z.length ≤ 8) && z.cps.toList.all (fun c => decide (c ∈ signs.cps.toList))
def mName : PyData → Bool
  | .str z => nameB z
  | _ => false
def lenOk : PyData → Prop
  | .str z => z.length ≤ 100000
  | _ => True
section
variable {P : Program} {w : World} {K : PySem.W.Frag} {mg : Str → Option Value} {base : Heap}
theorem fn_is_name (D : IsDef K mg "is_name" s_is_name) (T : Bl mg) : Fn P w K mg base CX0 "is_name" 1 ["thing"] (SpR K fun ds d => ∃ x, ds = [x] ∧ lenOk x ∧ d = .bool (mName x)) := by
  refine fn_data D sc_is_name (fun ds d h => by obtain ⟨x, rfl, _⟩ := h; rfl) (fun _ _ _ _ _ _ us hl => match us, hl with | [_], _ => rfl) fun f cdv A outer s H E vs B ds d hr h ra => ?_
  obtain ⟨x, rfl, hl, rfl⟩ := h
  obtain ⟨v, rfl, r⟩ := ra.one
  obtain ⟨t1, hS⟩ := T.SIGNS
  obtain ⟨t2, hL⟩ := T.LONGEST
  refine rd_ret ?_
  cases x with
  | str z =>
    have hz : z.length ≤ 100000 := hl
    refine PD.cast (pd_andT (pd_isi (d := .str z) .str (by rfl) T.isinstance (by rfl) T.str (by decide +kernel) (pd_var 0 rfl r)) (pd_and (pd_chain pd_int (pd_lenS (by rfl) T.len (pd_var 0 rfl r) hz) (pd_glob (v := .int 8) (by rfl) hL ⟨_, rfl⟩ (.int 8))) fun _ => pd_one (pd_all (bs := z.cps.toList.map fun c => decide (c ∈ signs.cps.toList)) rfl (by rfl) T.all ?_))) ?_
    · refine PD.cast (LD.pd (ld_gen [("sign", 1)] (pi_str pe_wp) (src_str (pd_var 0 rfl r)) (g := gName 1) (f := fun d => match d with | .str y => .bool (decide (y.cps.toList.headD 0 ∈ signs.cps.toList)) | _ => .none) rfl sc_is_name.nd (blkOk_by (N := N_is_name) (sc := defScope s_is_name) (by decide +kernel)) (fun _ _ _ _ _ => pg_name (i := 1) sc_is_name.nd rfl (Or.inl rfl)) (by rw [List.length_map, Array.length_toList]; exact hz) fun d hd v B2 s2 r2 => ⟨_, gd_name, rfl, fun _ _ _ _ _ => by
        obtain ⟨c, hc, rfl⟩ := List.mem_map.mp hd
        exact CD.pd (cd_inS (pd_var 1 rfl r2) (pd_glob (v := .str signs) (by rfl) hS ⟨_, rfl⟩ (.str _)) rfl)⟩)) ?_
      rw [List.map_map, List.map_map]
      rfl
    · rw [all_id]
      show PyData.bool _ = PyData.bool (nameB z)
      unfold nameB
      congr 1
      have e1 : decide ((1 : Int) ≤ (z.length : Int)) = decide (1 ≤ z.length) := decide_eq_decide.mpr (by omega)
      have e2 : decide ((z.length : Int) ≤ 8) = decide (z.length ≤ 8) := decide_eq_decide.mpr (by omega)
      rw [e1, e2]
  | _ => refine pd_andF ?_; exact pd_isi .str (by rfl) T.isinstance (by rfl) T.str (by decide +kernel) (pd_var 0 rfl r)
end
end K8

set_option Elab.async false
set_option linter.all false
set_option maxRecDepth 100000
set_option maxHeartbeats 4000000
/-! K8p: names, paths, looks: the program's plain defs. -/
namespace K8
open PySem PySem.Spec PyProof.Rows L2
def okS (z : Str) : Bool := decide (z.length ≤ 1000) && decide ((Txt.split z "/").length ≤ 1000) && (Txt.split z "/").all fun y => decide (y.length ≤ 1000)
def okD : PyData → Bool
  | .str z => okS z
  | _ => true
def pathB (z : Str) : Bool := (Txt.split z "/").all nameB
def mPath : PyData → Bool
  | .str z => pathB z
  | _ => false
theorem okS_l {z : Str} (h : okS z = true) : z.length ≤ 1000 := by
  unfold okS at h
  simp only [Bool.and_eq_true, decide_eq_true_eq] at h
  exact h.1.1
theorem okS_n {z : Str} (h : okS z = true) : (Txt.split z "/").length ≤ 1000 := by
  unfold okS at h
  simp only [Bool.and_eq_true, decide_eq_true_eq] at h
  exact h.1.2
theorem okS_y {z : Str} (h : okS z = true) : ∀ y ∈ Txt.split z "/", y.length ≤ 1000 := fun y hy => by
  unfold okS at h
  simp only [Bool.and_eq_true, decide_eq_true_eq, List.all_eq_true] at h
  exact h.2 y hy
abbrev R_is_name : List PyData → PyData → Prop := fun ds d => ∃ x, ds = [x] ∧ lenOk x ∧ d = .bool (mName x)
abbrev R_is_path : List PyData → PyData → Prop := fun ds d => ∃ x, ds = [x] ∧ okD x = true ∧ d = .bool (mPath x)
abbrev beneath (p o : Str) : Bool := Txt.startswith p (o ++ "/")
abbrev R_is_beneath : List PyData → PyData → Prop := fun ds d => ∃ p o : Str, ds = [.str p, .str o] ∧ o.length ≤ 1000 ∧ d = .bool (beneath p o)
abbrev near (p o : Str) : Bool := beneath p o || beneath o p
abbrev R_is_near : List PyData → PyData → Prop := fun ds d => ∃ p o : Str, ds = [.str p, .str o] ∧ o.length ≤ 1000 ∧ p.length ≤ 1000 ∧ d = .bool (near p o)
abbrev joinP (f n : Str) : Str := f ++ "/" ++ n
abbrev R_joined : List PyData → PyData → Prop := fun ds d => ∃ f n : Str, ds = [.str f, .str n] ∧ f.length ≤ 1000 ∧ n.length ≤ 1000 ∧ d = .str (joinP f n)
abbrev restS (p f : Str) : Str := cutS p (some ((f.length : Int) + 1)) none
abbrev nextO (p f : Str) : Option Str := (Txt.split (restS p f) "/")[0]?
abbrev R_next_name : List PyData → PyData → Prop := fun ds d => ∃ p f y : Str, ds = [.str p, .str f] ∧ p.length ≤ 1000 ∧ f.length ≤ 1000 ∧ (restS p f).length ≤ 1000 ∧ nextO p f = some y ∧ d = .str y
def isSeq : PyData → Bool
  | .list _ => true
  | .tuple _ => true
  | _ => false
abbrev R_is_list : List PyData → PyData → Prop := fun ds d => ∃ x, ds = [x] ∧ d = .bool (isSeq x)
abbrev eName (e : Str) : Str := if Txt.endswith e "/" = true then cutS e none (some (-1)) else e
abbrev R_entry_name : List PyData → PyData → Prop := fun ds d => ∃ e : Str, ds = [.str e] ∧ e.length ≤ 1000 ∧ d = .str (eName e)
theorem pd_neg {X : Cx} {a : Expr} {σ : L2.St} {B : Hp} {i : Int} {pos : Pos} (ha : PD X a σ B (.int i)) : PD X (.UnaryOp .USub a pos) σ B (.int (-i)) :=
  .of (pe_un un_neg pe_wp) fun H hb Q q => ha H hb _ fun v B1 H1 f1 r1 => ⟨i, r1.int_inv, q _ B1 H1 f1 (.int _)⟩
theorem len_app (a b : Str) : (a ++ b).length = a.length + b.length := by
  show (a.cps ++ b.cps).size = _
  rw [Array.size_append]
  rfl
theorem len_sl : ("/" : Str).length = 1 := by decide +kernel
section
variable {P : Program} {w : World} {K : PySem.W.Frag} {mg : Str → Option Value} {base : Heap}
theorem fn_is_path (D : IsDef K mg "is_path" s_is_path) (T : Bl mg) (F1 : Fn P w K mg base CX0 "is_name" 1 ["thing"] (SpR K R_is_name)) : Fn P w K mg base CX0 "is_path" 2 ["thing"] (SpR K R_is_path) := by
  refine fn_data D sc_is_path (fun ds d h => by obtain ⟨x, rfl, _⟩ := h; rfl) (fun _ _ _ _ _ _ us hl => match us, hl with | [_], _ => rfl) fun f cdv A outer s H E vs B ds d hr h ra => ?_
  obtain ⟨x, rfl, hl, rfl⟩ := h
  obtain ⟨v, rfl, r⟩ := ra.one
  refine rd_ret ?_
  cases x with
  | str z =>
    have hz : okS z = true := hl
    refine PD.cast (pd_andT (pd_isi (d := .str z) .str (by rfl) T.isinstance (by rfl) T.str (by decide +kernel) (pd_var 0 rfl r)) (pd_one (pd_all (bs := (Txt.split z "/").map nameB) rfl (by rfl) T.all ?_))) ?_
    · refine PD.cast (LD.pd (ld_gen [("part", 1)] (pi_list pe_wp) (src_list (pd_split (pd_var 0 rfl r) pd_str (by decide +kernel) (by have := okS_l hz; omega))) (g := gName 1) (f := fun d => .bool (mName d)) rfl sc_is_path.nd (blkOk_by (N := N_is_path) (sc := defScope s_is_path) (by decide +kernel)) (fun _ _ _ _ _ => pg_name (i := 1) sc_is_path.nd rfl (Or.inl rfl)) (by rw [List.length_map]; have := okS_n hz; omega) fun c hc v B2 s2 r2 => ⟨_, gd_name, rfl, fun _ _ _ _ _ => ?_⟩)) ?_
      · obtain ⟨y, hy, rfl⟩ := List.mem_map.mp hc
        exact pd_call F1 hr (Nat.le_refl _) (by rfl) (ad_cons (pd_var 1 rfl r2) ad_nil) ⟨_, rfl, by have := okS_y hz y hy; show y.length ≤ 100000; omega, rfl⟩
      · rw [List.map_map, List.map_map]
        rfl
    · rw [all_id]
      rfl
  | _ => refine pd_andF ?_; exact pd_isi .str (by rfl) T.isinstance (by rfl) T.str (by decide +kernel) (pd_var 0 rfl r)
theorem fn_is_beneath (D : IsDef K mg "is_beneath" s_is_beneath) : Fn P w K mg base CX0 "is_beneath" 1 ["path", "other"] (SpR K R_is_beneath) := by
  refine fn_data D sc_is_beneath (fun ds d h => by obtain ⟨x, y, rfl, _⟩ := h; rfl) (fun _ _ _ _ _ _ us hl => match us, hl with | [_, _], _ => rfl) fun f cdv A outer s H E vs B ds d hr h ra => ?_
  obtain ⟨p, o, rfl, hl, rfl⟩ := h
  obtain ⟨v, v', rfl, r, r'⟩ := ra.two
  exact rd_ret (pd_starts (pd_var 0 rfl r) (pd_adds (pd_var 1 rfl r') pd_str (by rw [len_sl]; omega)))
theorem fn_is_near (D : IsDef K mg "is_near" s_is_near) (F1 : Fn P w K mg base CX0 "is_beneath" 1 ["path", "other"] (SpR K R_is_beneath)) : Fn P w K mg base CX0 "is_near" 2 ["path", "other"] (SpR K R_is_near) := by
  refine fn_data D sc_is_near (fun ds d h => by obtain ⟨x, y, rfl, _⟩ := h; rfl) (fun _ _ _ _ _ _ us hl => match us, hl with | [_, _], _ => rfl) fun f cdv A outer s H E vs B ds d hr h ra => ?_
  obtain ⟨p, o, rfl, hl, hl', rfl⟩ := h
  obtain ⟨v, v', rfl, r, r'⟩ := ra.two
  exact rd_ret (pd_or (pd_call F1 hr (Nat.le_refl _) (by rfl) (ad_cons (pd_var 0 rfl r) (ad_cons (pd_var 1 rfl r') ad_nil)) ⟨_, _, rfl, hl, rfl⟩) fun _ => pd_one (pd_call F1 hr (Nat.le_refl _) (by rfl) (ad_cons (pd_var 1 rfl r') (ad_cons (pd_var 0 rfl r) ad_nil)) ⟨_, _, rfl, hl', rfl⟩))
theorem fn_joined (D : IsDef K mg "joined" s_joined) : Fn P w K mg base CX0 "joined" 1 ["folder", "name"] (SpR K R_joined) := by
  refine fn_data D sc_joined (fun ds d h => by obtain ⟨x, y, rfl, _⟩ := h; rfl) (fun _ _ _ _ _ _ us hl => match us, hl with | [_, _], _ => rfl) fun f cdv A outer s H E vs B ds d hr h ra => ?_
  obtain ⟨p, o, rfl, hl, hl', rfl⟩ := h
  obtain ⟨v, v', rfl, r, r'⟩ := ra.two
  exact rd_ret (pd_adds (pd_adds (pd_var 0 rfl r) pd_str (by rw [len_sl]; omega)) (pd_var 1 rfl r') (by rw [len_app, len_sl]; omega))
theorem fn_next_name (D : IsDef K mg "next_name" s_next_name) (T : Bl mg) : Fn P w K mg base CX0 "next_name" 1 ["path", "folder"] (SpR K R_next_name) := by
  refine fn_data D sc_next_name (fun ds d h => by obtain ⟨x, y, z, rfl, _⟩ := h; rfl) (fun _ _ _ _ _ _ us hl => match us, hl with | [_, _], _ => rfl) fun f cdv A outer s H E vs B ds d hr h ra => ?_
  obtain ⟨p, o, y, rfl, hl, hl', hc, hy, rfl⟩ := h
  obtain ⟨v, v', rfl, r, r'⟩ := ra.two
  exact rd_ret (pd_ixL (m := 0) (pd_split (pd_cutS (pd_var 0 rfl r) (po_some pe_wp) po_none (eo_some (pd_add (pd_lenS (by rfl) T.len (pd_var 1 rfl r') (by omega)) pd_int)) eo_none (by omega)) pd_str (by decide +kernel) (by show (restS p o).length ≤ _; omega)) pd_int (by rw [List.getElem?_map]; exact congrArg _ hy))
theorem fn_is_list (D : IsDef K mg "is_list" s_is_list) (T : Bl mg) : Fn P w K mg base CX0 "is_list" 1 ["thing"] (SpR K R_is_list) := by
  refine fn_data D sc_is_list (fun ds d h => by obtain ⟨x, rfl, _⟩ := h; rfl) (fun _ _ _ _ _ _ us hl => match us, hl with | [_], _ => rfl) fun f cdv A outer s H E vs B ds d hr h ra => ?_
  obtain ⟨x, rfl, rfl⟩ := h
  obtain ⟨v, rfl, r⟩ := ra.one
  exact rd_ret (pd_isi2 .list .tuple (by rfl) T.isinstance (by rfl) T.list (by decide +kernel) (by rfl) T.tuple (by decide +kernel) (pd_var 0 rfl r) (hp := by cases x <;> rfl))
theorem fn_entry_name (D : IsDef K mg "entry_name" s_entry_name) : Fn P w K mg base CX0 "entry_name" 1 ["entry"] (SpR K R_entry_name) := by
  refine fn_data D sc_entry_name (fun ds d h => by obtain ⟨x, rfl, _⟩ := h; rfl) (fun _ _ _ _ _ _ us hl => match us, hl with | [_], _ => rfl) fun f cdv A outer s H E vs B ds d hr h ra => ?_
  obtain ⟨e, rfl, hl, rfl⟩ := h
  obtain ⟨v, rfl, r⟩ := ra.one
  refine rd_ret (pd_if (td_val (pd_ends (pd_var 0 rfl r) pd_str)) (fun q => ?_) fun q => ?_)
  · rw [eName, if_pos q]
    exact pd_cutS (l := none) (u := some (-1)) (pd_var 0 rfl r) po_none (po_some pe_wp) eo_none (eo_some (pd_neg pd_int)) (by omega)
  · rw [eName, if_neg (by rw [q]; decide)]
    exact pd_var 0 rfl r
end
/-! ### lists and tuples alike -/
def seqOf : PyData → Option (List PyData)
  | .list xs => some xs
  | .tuple xs => some xs
  | _ => none
section
variable {X : Cx} {e a b c : Expr} {σ : L2.St} {B B1 : Hp} {d d1 d2 : PyData} {ds : List PyData} {p q : Bool} {pos p1 : Pos} {n : Nat}
theorem pd_lenQ (h : seqOf d = some ds) (hg : Gl X "len") (hm : X.mg "len" = none) (ha : PD X a σ B d) (he : starEach [a] X.env = (false, eval a X.env) :: starEach [] X.env := by rfl) : PD X (.Call (.Name "len" p1) [a] [] pos) σ B (.int (ds.length : Nat)) := by
  cases d <;> simp [seqOf] at h
  · subst h
    exact pd_lenL hg hm ha he
  · subst h
    exact pd_lenT hg hm ha he
theorem pd_ixQ {m : Nat} (h : seqOf d1 = some ds) (ha : PD X a σ B d1) (hb : PD X b σ B (.int (m : Int))) (hi : ds[m]? = some d) (hs : PlainIx b := by intro _ _; rfl) : PD X (.Subscript a b pos) σ B d := by
  cases d1 <;> simp [seqOf] at h
  · subst h
    exact pd_ixL ha hb hi hs
  · subst h
    exact pd_ixT ha hb hi hs
theorem pd_tupleQ (h : seqOf d = some ds) (hg : Gl X "tuple") (hm : X.mg "tuple" = none) (ha : PD X a σ B d) (he : starEach [a] X.env = (false, eval a X.env) :: starEach [] X.env := by rfl) : PD X (.Call (.Name "tuple" p1) [a] [] pos) σ B (.tuple ds) := by
  cases d <;> simp [seqOf] at h
  · subst h
    exact pd_tupleL hg hm ha he
  · subst h
    exact pd_tupleT hg hm ha he
def gPair (K : PySem.W.Frag) (d : PyData) (g1 g2 : TG) : TG := match d with
  | .list _ => gUnl K 2 (gCons g1 (gCons g2 gNil))
  | _ => gTup K 2 (gCons g1 (gCons g2 gNil))
theorem pg_pair {es : List Expr} {g1 g2 : TG} (h : PGs X es (gCons g1 (gCons g2 gNil))) (hc : X.calm = true) (hn : (assignEach es X.env).length = 2 := by rfl) (hst : (assignEach es X.env).findIdx? (·.1) = none := by rfl) : PG X (.Tuple es n pos) (gPair X.K d g1 g2) := by
  cases d
  case list => exact pg_unl hc h hn hst
  all_goals exact pg_tup hc h hn hst
theorem gd_pairQ {K : PySem.W.Frag} {v : V} (h : seqOf d = some [d1, d2]) (r : R K B v d) : ∃ v1 v2, R K B v1 d1 ∧ R K B v2 d2 ∧ ∀ {g1 g2 : TG} {σ σ1 σ2 : L2.St}, GD g1 σ B v1 σ1 → GD g2 σ1 B v2 σ2 → GD (gPair K d g1 g2) σ B v σ2 := by
  cases d <;> simp [seqOf] at h
  · subst h
    exact gd_pairL r
  · subst h
    exact gd_pair r
theorem cd_neI {i j : Int} (hr : Room n X.A) (ha : PD X a σ B (.int i)) (hb : PD X b σ B (.int j)) : CD X .NotEq a b σ B (!decide (i = j)) := (cd_ne hr ha hb rfl rfl).cast (by rw [PyData.eqv]; rfl)
theorem cd_eqI {i j : Int} (hr : Room n X.A) (ha : PD X a σ B (.int i)) (hb : PD X b σ B (.int j)) : CD X .Eq a b σ B (decide (i = j)) := (cd_eq hr ha hb rfl rfl).cast (by rw [PyData.eqv]; rfl)
end
abbrev wd (l : Bool) : Str := if l = true then "list" else "read"
structure Lk where
  l : Bool
  p : Str
deriving DecidableEq
abbrev Lk.d (k : Lk) : PyData := .tuple [.str (wd k.l), .str k.p]
def wordOf (x : Str) : Option Bool := if x = "read" then some false else if x = "list" then some true else none
def lookP : PyData → PyData → Option Lk
  | .str u, .str p => match wordOf u with
    | some l => if pathB p = true then some ⟨l, p⟩ else none
    | none => none
  | _, _ => none
def lookOf (x : PyData) : Option Lk := match seqOf x with
  | some [a, b] => lookP a b
  | _ => none
abbrev oD {α : Type} (f : α → PyData) : Option α → PyData
  | some x => f x
  | none => .none
def okLook (x : PyData) : Bool := match seqOf x with
  | some [_, y] => okD y
  | _ => true
abbrev R_look_of : List PyData → PyData → Prop := fun ds d => ∃ x, ds = [x] ∧ okLook x = true ∧ d = oD Lk.d (lookOf x)
section
variable {P : Program} {w : World} {K : PySem.W.Frag} {mg : Str → Option Value} {base : Heap}
theorem fn_look_of (D : IsDef K mg "look_of" s_look_of) (T : Bl mg) (F1 : Fn P w K mg base CX0 "is_list" 1 ["thing"] (SpR K R_is_list)) (F2 : Fn P w K mg base CX0 "is_path" 2 ["thing"] (SpR K R_is_path)) : Fn P w K mg base CX0 "look_of" 3 ["thing"] (SpR K R_look_of) := by
  refine fn_data D sc_look_of (fun ds d h => by obtain ⟨x, rfl, _⟩ := h; rfl) (fun _ _ _ _ _ _ us hl => match us, hl with | [_], _ => rfl) fun f cdv A outer s H E vs B ds d hr h ra => ?_
  obtain ⟨x, rfl, ok, rfl⟩ := h
  obtain ⟨v, rfl, r⟩ := ra.one
  cases hq : seqOf x with
  | none =>
    have e1 : isSeq x = false := by cases x <;> first | rfl | simp [seqOf] at hq
    have e2 : lookOf x = none := by simp [lookOf, hq]
    rw [e2]
    refine rd_if (p := true) (WD.td (wd_orT ((td_not (td_val (pd_call F1 hr (by decide) (by rfl) (ad_cons (pd_var 0 rfl r) ad_nil) ⟨_, rfl, rfl⟩))).cast (by rw [e1]; rfl)))) (fun _ => rd_ret pd_non) (fun z => nomatch z)
  | some xs =>
    have e1 : isSeq x = true := by cases x <;> first | rfl | simp [seqOf] at hq
    refine rd_if (WD.td (wd_orF ((td_not (td_val (pd_call F1 hr (by decide) (by rfl) (ad_cons (pd_var 0 rfl r) ad_nil) ⟨_, rfl, rfl⟩))).cast (by rw [e1]; rfl)) (wd_or1 (cd_neI hr (pd_lenQ hq (by rfl) T.len (pd_var 0 rfl r)) pd_int).td))) (fun z => ?_) fun z => ?_
    · have e2 : lookOf x = none := by
        unfold lookOf
        rw [hq]
        match xs, z with
        | [], _ => rfl
        | [_], _ => rfl
        | _ :: _ :: _ :: _, _ => rfl
        | [_, _], z => simp at z
      rw [e2]
      exact rd_ret pd_non
    · match xs, z, hq with
      | [d1, d2], _, hq =>
        refine rd_asg (g := gPair K x (gName 1) (gName 2)) (pg_pair (pgs_cons (pg_name (i := 1) sc_look_of.nd rfl (Or.inl rfl)) (pgs_cons (pg_name (i := 2) sc_look_of.nd rfl (Or.inl rfl)) pgs_nil)) rfl) (pd_var 0 rfl r) fun v B1 s1 r1 => ?_
        obtain ⟨v1, v2, q1, q2, gd⟩ := gd_pairQ hq r1
        refine ⟨_, gd gd_name gd_name, ?_⟩
        have e2 : lookOf x = lookP d1 d2 := by
          unfold lookOf
          rw [hq]
        have ok2 : okD d2 = true := by
          unfold okLook at ok
          rw [hq] at ok
          exact ok
        rw [e2]
        cases d1 with
        | str u =>
          have ew : (!inV (.str u) [V.str "read", V.str "list"]) = (wordOf u).isNone := by
            unfold wordOf
            by_cases h1 : u = "read"
            · subst h1
              decide +kernel
            · by_cases h2 : u = "list"
              · subst h2
                decide +kernel
              · rw [if_neg h1, if_neg h2]
                simp [inV, eqV, h1, h2]
                exact ⟨fun z => h1 z.symm, fun z => h2 z.symm⟩
          refine rd_if (WD.td (wd_orF (td_not (td_val (pd_isi (d := .str u) .str (by rfl) T.isinstance (by rfl) T.str (by decide +kernel) (pd_var 1 rfl q1)))) (wd_or ((cd_notInT (ss := ["read", "list"]) (pd_var 1 rfl q1) (pd_tup (ad_cons pd_str (ad_cons pd_str ad_nil)) (by decide)) (by rfl)).td.cast ew) fun _ => wd_or1 (td_not (td_val (pd_call F2 hr (by decide) (by rfl) (ad_cons (pd_var 2 rfl q2) ad_nil) ⟨_, rfl, ok2, rfl⟩)))))) (fun z => ?_) fun z => ?_
          · have e3 : lookP (.str u) d2 = none := by
              cases hw : wordOf u with
              | none => cases d2 <;> simp [lookP, hw]
              | some l =>
                rw [hw] at z
                have z' : mPath d2 = false := by simpa using z
                cases d2 <;> simp [lookP, hw]
                simpa [mPath] using z'
            rw [e3]
            exact rd_ret pd_non
          · have z' := Bool.or_eq_false_iff.mp z
            obtain ⟨l, hw⟩ : ∃ l, wordOf u = some l := by
              cases hw : wordOf u with
              | none => rw [hw] at z'; cases z'.1
              | some l => exact ⟨l, rfl⟩
            have hp : mPath d2 = true := by simpa using z'.2
            cases d2 with
            | str p =>
              have e3 : lookP (.str u) (.str p) = some ⟨l, p⟩ := by
                have : pathB p = true := hp
                simp [lookP, hw, this]
              have ew : wd l = u := by
                unfold wordOf at hw
                split at hw
                · cases hw
                  rename_i e
                  exact e.symm
                · split at hw
                  · cases hw
                    rename_i e
                    exact e.symm
                  · cases hw
              rw [e3]
              refine rd_ret (PD.cast (pd_tup (ad_cons (pd_var 1 rfl q1) (ad_cons (pd_var 2 rfl q2) ad_nil)) (show 2 ≤ 100000 by decide)) ?_)
              show _ = PyData.tuple [.str (wd l), .str p]
              rw [ew]
            | _ => cases hp
        | _ => exact rd_if (p := true) (WD.td (wd_orT (td_not (td_val (pd_isi .str (by rfl) T.isinstance (by rfl) T.str (by decide +kernel) (pd_var 1 rfl q1)))))) (fun _ => rd_ret pd_non) (fun z => nomatch z)
end
end K8

set_option Elab.async false
set_option linter.all false
set_option maxRecDepth 100000
set_option maxHeartbeats 4000000
/-! K8s: sorted(set(xs)), xs a list of texts. -/
namespace K8
open PySem PySem.Spec PyProof.Rows L2
def EntS (w : World) (e : Int × Value) : Prop := ∃ k t, e.2 = Value.str k t ∧ e.1 = hashStr w k
def keyS (e : Int × Value) : Str := strOf e.2
/-- the set of texts at a: its members are ks, each once; its table can be walked -/
def SetS (w : World) (h : Heap) (a : Addr) (ks : List Str) : Prop :=
  ∃ o es ep t, h.get? a = some o ∧ o.ExactSet ∧ o.data = .set es ep t ∧ (∀ e ∈ es.toList, EntS w e) ∧ (es.toList.map keyS).Perm ks ∧ ks.Nodup ∧ es.size < scanBound ∧ t.fits es.size = true ∧ Ris t.place.toList ∧
    (w.params.followText "set-order" = true ∨ t.led = true)
section
variable {P : Program} {w : World} {h h' : Heap} {a : Addr} {ks : List Str}
theorem SetS.at (R : SetS w h a ks) (k : ∀ o, h.get? a = some o → h'.get? a = some o) : SetS w h' a ks := by
  obtain ⟨o, es, ep, t, ho, r⟩ := R
  exact ⟨o, es, ep, t, k o ho, r⟩
theorem ents_elems {l : List (Int × Value)} (g : ∀ e ∈ l, EntS w e) : ElemsOf (PySem.strKind P w) l := fun e he => by
  obtain ⟨k, t, h1, h2⟩ := g e he
  exact ⟨⟨k, by rw [h1]; exact strKind_is P w k t, h2⟩, by rw [h1]; rfl⟩
theorem ent_is {e : Int × Value} (g : EntS w e) (k : Str) : (PySem.strKind P w).is k e.2 = true ↔ keyS e = k := by
  obtain ⟨k0, t, h1, _⟩ := g
  unfold keyS
  rw [h1]
  constructor
  · intro q
    exact (PySem.strKind P w).inj _ _ _ (strKind_is P w k0 t) q
  · intro q
    have q' : k0 = k := q
    rw [← q']
    exact strKind_is P w k0 t
def addK (ks : List Str) (x : Str) : List Str := if x ∈ ks then ks else x :: ks
end
section
variable {P : Program} {w : World} {A : Around} {E : Value → Shared → Prop} {s : Shared} {a : Addr} {ks : List Str}
theorem sets_tail {g : Bool → Sem Unit} (hg : ∀ (b : Bool) (s₁ : Shared) (Q' : Unit → Shared → Prop), Q' () s₁ → wpAny (model P w) A (g b) Q' E s₁) {o : Obj} {es : Array (Int × Value)} {ep : Nat} {t : SetTable}
    (ho : s.heap.get? a = some o) (hex : o.ExactSet) (hd : o.data = .set es ep t) {e1 : Array (Int × Value)} {t2 : SetTable} {k1 : List Str} (g1 : ∀ e ∈ e1.toList, EntS w e) (pm : (e1.toList.map keyS).Perm k1) (nd : k1.Nodup) (hb : e1.size < scanBound) (hf : t2.fits e1.size = true)
    (hr : Ris t2.place.toList) (hl : w.params.followText "set-order" = true ∨ t2.led = true) {wasDummy : Bool} {R : Option Bool → Shared → Prop} (hR : ∀ h', Heap.SameBut a s.heap h' → SetS w h' a k1 → R (some true) { s with heap := h' }) :
    wpAny (model P w) A (do
        storeSet a e1 t2
        if (!wasDummy && t2.tooFull) = true then do
            g (relayAll t2 e1 (SetTable.grown e1.size)).2.2
            storeSet a (relayAll t2 e1 (SetTable.grown e1.size)).1 (relayAll t2 e1 (SetTable.grown e1.size)).2.1
            pure (some true)
          else pure (some true)) R E s := by
  have k1' := store_at (es' := e1) (t' := t2) ho hd
  have b1 := Heap.SameBut.update s.heap a (Obj.putSet e1 t2)
  refine wpAny_bind (wpAny_storeSet_of ho hd ?_ (fits_of_scanBound hb))
  split
  · have p2 := relayAll_perm t2 e1 (SetTable.grown e1.size)
    have f2 := relayAll_fits t2 e1 (SetTable.grown e1.size)
    have r2 := relayAll_ris t2 e1 (SetTable.grown e1.size)
    have l2 := relayAll_led t2 e1 (SetTable.grown e1.size)
    generalize relayAll t2 e1 (SetTable.grown e1.size) = Z at p2 f2 r2 l2 ⊢
    obtain ⟨e2, t3, gave⟩ := Z
    dsimp only at p2 f2 r2 l2 ⊢
    have z2 : e2.size = e1.size := by rw [← Array.length_toList, p2.length_eq, Array.length_toList]
    have hb2 : e2.size < scanBound := by rw [z2]; exact hb
    refine wpAny_bind (hg _ _ _ (wpAny_bind (wpAny_storeSet_of k1' rfl ?_ (fits_of_scanBound hb2))))
    refine wpAny_pure (hR _ (b1.trans (Heap.SameBut.update _ a _)) ⟨_, e2, _, t3, store_at k1' rfl, hex, rfl, fun e he => g1 e (p2.mem_iff.mp he), (p2.map keyS).trans pm, nd, hb2, f2, r2, hl.imp id fun z => by rw [l2]; exact z⟩)
  · exact wpAny_pure (hR _ b1 ⟨_, e1, _, t2, k1', hex, rfl, g1, pm, nd, hb, hf, hr, hl⟩)
theorem sets_add {x : Str} {tk : Tok} {Q : Bool → Shared → Prop} (R : SetS w s.heap a ks) (room : ks.length + 1 < scanBound) (hQ : ∀ b h', Heap.SameBut a s.heap h' → SetS w h' a (addK ks x) → Q b { s with heap := h' }) :
    wpAny (model P w) A (setAddHashed a (.str x tk) ((PySem.strKind P w).hash x)) Q E s := by
  obtain ⟨o, es, ep, t, ho, hex, hd, g, pm, nd, hb, hf, hr, hl⟩ := R
  have hkey : (PySem.strKind P w).is x (.str x tk) = true := strKind_is P w x tk
  have hsc : (Value.str x tk).scannable = true := rfl
  have hel : ElemsOf (PySem.strKind P w) es.toList := ents_elems g
  have hn : es.size = ks.length := by
    have q := pm.length_eq
    rw [List.length_map, Array.length_toList] at q
    exact q
  unfold setAddHashed setAddHashedIn
  refine wpAny_holding (wpAny_bind (wpAny_setState_of ho hd hf ?_))
  dsimp only
  rw [byScan_of hsc hb hel]
  simp only [↓reduceIte]
  unfold setAddByScan
  refine wpAny_bind (wpAny_bind (wpAny_rule (wpAny_bind (wpAny_setScan_of hkey ho hd hf hel ?_))))
  cases hfi : List.findIdx? (fun e => (PySem.strKind P w).is x e.2) es.toList with
  | some j =>
    dsimp only
    obtain ⟨hj, pj, _⟩ := List.findIdx?_eq_some_iff_getElem.mp hfi
    have hm : x ∈ ks := pm.mem_iff.mp (List.mem_map.mpr ⟨_, List.getElem_mem hj, (ent_is (P := P) (g _ (List.getElem_mem hj)) x).mp pj⟩)
    exact wpAny_pure (wpAny_pure (hQ _ s.heap (Heap.SameBut.refl a s.heap) ⟨o, es, ep, t, ho, hex, hd, g, by unfold addK; rw [if_pos hm]; exact pm, by unfold addK; rw [if_pos hm]; exact nd, hb, hf, hr, hl⟩))
  | none =>
    dsimp only
    have hm : x ∉ ks := fun z => by
      obtain ⟨e, he, q⟩ := List.mem_map.mp (pm.mem_iff.mpr z)
      have c := List.findIdx?_eq_none_iff.mp hfi e he
      rw [(ent_is (P := P) (g e he) x).mpr q] at c
      cases c
    have hgw : ∀ (b : Bool) {s₁ : Shared} {Q' : Unit → Shared → Prop}, Q' () s₁ → wpAny (model P w) A (match b with | true => rule "set.scan.the-table-gave-way" | false => pure ()) Q' E s₁ :=
      fun b s₁ Q' q => by cases b <;> first | exact wpAny_pure q | exact wpAny_rule q
    have p1 := layNew_perm t es ((PySem.strKind P w).hash x) (.str x tk)
    have f1 := layNew_fits t es ((PySem.strKind P w).hash x) (.str x tk)
    have r1 := layNew_ris t es ((PySem.strKind P w).hash x) (.str x tk) hr
    have l1 := layNew_led t es ((PySem.strKind P w).hash x) (.str x tk)
    generalize layNew t es ((PySem.strKind P w).hash x) (.str x tk) = Z at p1 f1 r1 l1 ⊢
    obtain ⟨e1, t1, wasDummy, gave⟩ := Z
    dsimp only at p1 f1 r1 l1 ⊢
    rw [Array.toList_push] at p1
    have pc : e1.toList.Perm (((PySem.strKind P w).hash x, Value.str x tk) :: es.toList) := p1.trans (List.perm_append_singleton _ _)
    have g1 : ∀ e ∈ e1.toList, EntS w e := fun e he => by
      rcases List.mem_cons.mp (pc.mem_iff.mp he) with z | z
      · rw [z]; exact ⟨x, tk, rfl, rfl⟩
      · exact g e z
    have ea : addK ks x = x :: ks := if_neg hm
    have pk : (e1.toList.map keyS).Perm (addK ks x) := by
      rw [ea]
      exact (pc.map keyS).trans (List.Perm.cons x pm)
    have nd1 : (addK ks x).Nodup := by
      rw [ea]
      exact List.nodup_cons.mpr ⟨hm, nd⟩
    have hb1 : e1.size < scanBound := by
      rw [← Array.length_toList, pc.length_eq, List.length_cons, Array.length_toList, hn]
      exact room
    have hled : w.params.followText "set-order" = true ∨ t1.led = true := hl.imp id fun z => by rw [l1]; exact z
    refine wpAny_bind (hgw _ ?_)
    split
    · refine wpAny_bind ?_
      rw [hashByValue_scannable 8 hsc]
      refine wpAny_pure ?_
      refine sets_tail ?_ ho hex hd g1 pk nd1 hb1 ?_ ?_ ?_ ?_
      · intro b s₁ Q' q; cases b <;> first | exact wpAny_pure q | exact wpAny_rule q
      · first | (split <;> first | exact f1 | exact SetTable.fits_plain_off f1) | exact f1
      · first | (split <;> exact r1) | exact r1
      · first | (split <;> exact hled) | exact hled
      · intro h' sb r; dsimp only; exact wpAny_pure (hQ _ h' sb r)
    · refine wpAny_bind (wpAny_pure ?_)
      simp only [↓reduceIte]
      refine sets_tail ?_ ho hex hd g1 pk nd1 hb1 f1 r1 hled ?_
      · intro b s₁ Q' q; cases b <;> first | exact wpAny_pure q | exact wpAny_rule q
      · intro h' sb r; dsimp only; exact wpAny_pure (hQ _ h' sb r)
end
/-- the members met so far -/
def metK (xs : List Str) : List Str := xs.foldl addK []
theorem addK_len (ks : List Str) (x : Str) : (addK ks x).length ≤ ks.length + 1 := by
  unfold addK
  split
  · omega
  · rw [List.length_cons]; omega
theorem metK_snoc (xs : List Str) (x : Str) : metK (xs ++ [x]) = addK (metK xs) x := by
  unfold metK
  rw [List.foldl_append]
  rfl
theorem fold_len : ∀ (xs ks : List Str), (xs.foldl addK ks).length ≤ ks.length + xs.length
  | [], ks => Nat.le_refl _
  | x :: xs, ks => by
    have h1 := fold_len xs (addK ks x)
    have h2 := addK_len ks x
    rw [List.foldl_cons, List.length_cons]
    omega
theorem metK_len (xs : List Str) : (metK xs).length ≤ xs.length := by
  have h := fold_len xs []
  rw [List.length_nil] at h
  unfold metK
  omega
theorem fold_mem (y : Str) : ∀ (xs ks : List Str), y ∈ xs.foldl addK ks ↔ y ∈ xs ∨ y ∈ ks
  | [], ks => by simp
  | x :: xs, ks => by
    rw [List.foldl_cons, fold_mem y xs (addK ks x), List.mem_cons]
    have h : y ∈ addK ks x ↔ y = x ∨ y ∈ ks := by
      unfold addK
      split
      · rename_i hx
        exact ⟨.inr, fun z => z.elim (fun e => e ▸ hx) id⟩
      · exact List.mem_cons
    rw [h]
    constructor
    · rintro (z | z | z)
      · exact .inl (.inr z)
      · exact .inl (.inl z)
      · exact .inr z
    · rintro ((z | z) | z)
      · exact .inr (.inl z)
      · exact .inl z
      · exact .inr (.inr z)
theorem metK_mem (y : Str) (xs : List Str) : y ∈ metK xs ↔ y ∈ xs := by
  unfold metK
  rw [fold_mem]
  simp
end K8

set_option Elab.async false
set_option linter.all false
set_option maxRecDepth 100000
set_option maxHeartbeats 4000000
/-! K8s2: set(xs) and sorted(set(xs)), xs a list of texts. -/
namespace K8
open PySem PySem.Spec PyProof.Rows L2
section
variable {P : Program} {w : World} {A : Around} {E : Value → Shared → Prop} {s : Shared}
/-- the loop of set.update over the texts xs -/
theorem sets_loop {R : Result → Shared → Prop} {I : Addr} {fp wr : List Addr} {G : Array GenState → Array GenState → Prop} {n : Nat} {Pv : Nat → Value → Prop} {St : Nat → Shared → Prop} (W : WalksS P w A.in1 I fp wr G n Pv St) (S : Addr) (hSf : S ∉ fp) (xs : List Str) (hn : xs.length = n) (hb : n + 1 < scanBound)
    (hval : ∀ i v, Pv i v → ∃ x t, xs[i]? = some x ∧ v = .str x t) : ∀ (k i : Nat) (s : Shared), n - i = k → i ≤ n → St i s → SetS w s.heap S (metK (xs.take i)) →
      (∀ s', Moved (S :: wr) G s s' → SetS w s'.heap S (metK xs) → R (.ok (.ret .none)) s') → codeAny (model P w) A (.builtin "set.update.loop" ⟨[.ref S, .ref I], []⟩) R s := by
  have hSw : S ∉ wr := fun h => hSf (W.sub _ h)
  have wider : ∀ b ∈ wr, b ∈ S :: wr := fun b hb => List.mem_cons_of_mem _ hb
  intro k
  induction k with
  | zero =>
    intro i s hk hi hst hS fin
    obtain rfl : i = n := by omega
    refine codeAny_builtin PyProof.Rows.F.entry_set_update_loop ?_
    rw [Around.under_plainId PyProof.Rows.F.plain_set_update_loop _]
    show wpAny _ A.in1 (pyNext (.ref I) >>= _) _ _ s
    refine wpAny_bind (W.done s _ _ hst fun s' hm => ?_)
    rw [List.take_of_length_le (by omega)] at hS
    exact wpAny_pure (fin s' (hm.mono wider) (hS.at fun o e => hm.heap S o hSw e))
  | succ k ih =>
    intro i s hk hi hst hS fin
    have hlt : i < n := by omega
    refine codeAny_builtin PyProof.Rows.F.entry_set_update_loop ?_
    rw [Around.under_plainId PyProof.Rows.F.plain_set_update_loop _]
    show wpAny _ A.in1 (pyNext (.ref I) >>= _) _ _ s
    refine wpAny_bind (W.item i s _ _ hlt hst fun v s' hP hst' hm => ?_)
    obtain ⟨x, t, hx, rfl⟩ := hval i v hP
    have hS' : SetS w s'.heap S (metK (xs.take i)) := hS.at fun o e => hm.heap S o hSw e
    show wpAny _ A.in1 (holding [Value.str x t] (setAdd S (.str x t)) >>= _) _ _ s'
    refine wpAny_bind (wpAny_holding ?_)
    unfold setAdd
    refine wpAny_holding (wpAny_bind ((PySem.strKind P w).pyHash (k := x) (strKind_is _ _ _ _) ?_))
    have room : (metK (xs.take i)).length + 1 < scanBound := by
      have h1 := metK_len (xs.take i)
      rw [List.length_take] at h1
      omega
    refine sets_add (s := { s' with toks := s'.toks + 1 }) hS' room fun b h' hsb hS2 => ?_
    have et : xs.take (i + 1) = xs.take i ++ [x] := by rw [List.take_add_one, hx]; rfl
    rw [← metK_snoc, ← et] at hS2
    refine wpAny_pure ⟨plainId_quiet PyProof.Rows.F.plain_set_update_loop _, ih (i + 1) _ (by omega) hlt (W.frame _ s' _ _ hst' (Nat.le_succ _) fun b hb o e => ?_) hS2 fun s'' hm'' hS'' => ?_⟩
    · exact (hsb.2 b (fun z : b = S => hSf (by rw [← z]; exact hb))).trans e
    · exact fin s'' (Moved.trans W.gtrans ((hm.mono wider).then_heap (Nat.le_succ _) fun b o hb e => (hsb.2 b (fun z : b = S => hb (by rw [z]; exact List.mem_cons_self))).trans e) hm'') hS''
abbrev newSet (w : World) : Obj := { cls := .type "set", dict := none, data := .set #[] 0 (.fresh 0 0 (!w.params.followText "set-order")) }
theorem sets_fresh {h : Heap} {a : Addr} (ho : h.get? a = some (newSet w)) : SetS w h a [] :=
  ⟨_, #[], 0, _, ho, ⟨rfl, rfl, rfl⟩, rfl, fun e he => by simp at he, by simp, List.nodup_nil, by decide, by rfl, List.Pairwise.nil, by
    show _ ∨ (!w.params.followText "set-order") = true
    cases w.params.followText "set-order"
    · exact .inr rfl
    · exact .inl rfl⟩
set_option maxHeartbeats 6400000 in
/-- set(xs) -/
theorem call_set_strs {l : Addr} {items : Array Value} (xs : List Str) {Q : Value → Shared → Prop} (hh : A.handled = none) (hl : s.heap.IsList l items) (hi : StrsAre items.toList xs) (hb : xs.length + 1 < scanBound)
    (h : ∀ (h' : Heap) (tk : Nat), SetS w h' s.heap.objs.size (metK xs) → (∀ b o, s.heap.get? b = some o → h'.get? b = some o) → Q (.ref s.heap.objs.size) { s with heap := h', toks := tk }) :
    wpAny (model P w) A (call (.type "set") [.ref l]) Q E s := by
  have hsz : items.size = xs.length := by
    have q := StrsAre.len_eq hi
    rw [Array.length_toList] at q
    exact q
  obtain ⟨c, tl, hmro⟩ := PySem.F.called_set.mro
  have m1 := PySem.F.called_set.made
  have m2 := PySem.F.called_set.sub
  refine wpAny_call (codeAny_of_tree ?_)
  show wpAny _ _ (callAny (.type "set") _) _ _ _
  refine wpAny_pure ⟨Code.quiet_builtin _ (by decide +kernel), codeAny_builtin PySem.F.entry_type_call ?_⟩
  rw [Around.under_plain (weight_type_call_type "set" [.ref l] []) rfl]
  have m3 := PySem.F.called_set.notType
  have m4 := PySem.F.called_set.canCreate
  have m5 := PySem.F.typeCall_set_1 (.ref l)
  repeat (any_goals (first | assumption | wp_step))
  refine codeAny_mono (code_set_led1 (.ref l) (E := E) (Q₁ := fun obj s₁ => obj = .ref s.heap.objs.size ∧ s₁ = { s with heap := s.heap.push (newSet w) }) ⟨rfl, rfl⟩) fun r s₁ hr => ?_
  cases r with
  | error e => exact hr
  | ok fl =>
    cases fl with
    | ret obj =>
      obtain ⟨rfl, rfl⟩ := hr
      have hS : (s.heap.push (newSet w)).get? s.heap.objs.size = some (newSet w) := Heap.get?_push_size _ rfl
      have hT : Shared.TypeIs { s with heap := s.heap.push (newSet w) } (.ref s.heap.objs.size) "set" := ⟨_, hS, rfl⟩
      have m6 := PySem.F.called_set.init.lookup
      have m7 := PySem.F.called_set.init.bind (.ref s.heap.objs.size)
      repeat (any_goals (first | assumption | wp_step))
      refine codeAny_mono (codeAny_call_builtin (R := wants (fun r s₂ => r = .none ∧ ∃ h' tk, s₂ = { s with heap := h', toks := tk } ∧ SetS w h' s.heap.objs.size (metK xs) ∧ (∀ b o, s.heap.get? b = some o → h'.get? b = some o)) E)
        PySem.F.called_set.init.plain PySem.F.entry_set_init (check_set_init_1 hT ?_)) fun r₂ s₂ hr₂ => ?_
      · obtain ⟨ol, hol, hcl, nl, hdl⟩ := hl
        obtain ⟨ocls, odict, odata, oslots⟩ := ol
        simp only at hcl hdl
        subst hcl; subst hdl
        have hol' : (s.heap.push (newSet w)).get? l = some { cls := .type "list", dict := odict, data := .seq items nl, slots := oslots } := Heap.get?_push_of_some _ hol
        have m8 := PySem.F.sub_list_set
        have m9 := PySem.F.sub_list_frozenset
        have hne : (Value.type "list" == Value.type "dict") = false := by decide
        have hl1 : (s.heap.push (newSet w)).IsList l items := ⟨_, hol', rfl, nl, rfl⟩
        unfold Builtin.«set.__init__» noKeywords Builtin.Frozenset.updateFrom
        generalize hPI : pyIter = PI
        wp_walk
        subst hPI
        refine wpAny_pyIter_list hl1 (wpAny_bind (wpAny_runValue ?_))
        have hlS : l < s.heap.objs.size := Heap.lt_size hol
        have hh3 : A.in1.in1.in1.handled = none := by simp [hh]
        have hz1 : (s.heap.push (newSet w)).objs.size = s.heap.objs.size + 1 := Heap.size_push ..
        have hneI : l ≠ (s.heap.push (newSet w)).objs.size := by rw [hz1]; exact Nat.ne_of_lt (Nat.lt_succ_of_lt hlS)
        have hSf : s.heap.objs.size ∉ [(s.heap.push (newSet w)).objs.size, l] := by
          rw [hz1]
          simp only [List.mem_cons, List.mem_singleton, List.not_mem_nil, or_false, not_or]
          exact ⟨Nat.ne_of_lt (Nat.lt_succ_self _), Nat.ne_of_gt hlS⟩
        have hval : ∀ (i : Nat) (v : Value), items[i]? = some v → ∃ x t, xs[i]? = some x ∧ v = .str x t := fun i v hv => by
          obtain ⟨t, e⟩ := SS.strs_at hi i v (by rw [Array.getElem?_toList]; exact hv)
          have hlt : i < xs.length := by
            rw [← hsz]
            exact (Array.getElem?_eq_some_iff.mp hv).1
          refine ⟨xs[i], t, List.getElem?_eq_getElem hlt, ?_⟩
          rw [e, List.getD_eq_getElem?_getD, List.getElem?_eq_getElem hlt]
          rfl
        refine sets_loop ((Walks.list hh3 _ l hneI items).toS) s.heap.objs.size hSf xs hsz.symm (by rw [hsz]; exact hb) hval (items.size - 0) 0 _ (by omega) (Nat.zero_le _)
          ⟨⟨_, Heap.get?_push_size _ rfl, rfl, rfl⟩, (hl1.push _)⟩ ?_ ?_
        · exact sets_fresh (Heap.get?_push_of_some _ hS)
        · intro s' hm hS'
          obtain ⟨h', g', d', tk', os'⟩ := s'
          obtain rfl : g' = s.gens := hm.gens
          obtain rfl : d' = s.drawn := hm.drawn
          obtain rfl : os' = s.os := hm.os
          show wpAny _ _ _ _ _ _
          refine wpAny_pure ?_
          show wpAny _ _ (ret Value.none) _ _ _
          refine wpAny_pure ⟨rfl, h', tk', rfl, hS', fun b o e => ?_⟩
          have hb' : b < s.heap.objs.size := Heap.lt_size e
          have hb1 : b ≠ s.heap.objs.size := Nat.ne_of_lt hb'
          have hb2 : b ≠ (s.heap.push (newSet w)).objs.size := by rw [hz1]; exact Nat.ne_of_lt (Nat.lt_succ_of_lt hb')
          exact hm.heap b o (by simp only [List.mem_cons, List.mem_singleton, List.not_mem_nil, or_false, not_or]; exact ⟨hb1, hb2⟩) (Heap.get?_push_of_some _ (Heap.get?_push_of_some _ e))
      · cases r₂ with
        | error e => exact hr₂
        | ok fl₂ =>
          cases fl₂ with
          | ret r =>
            obtain ⟨rfl, h', tk, rfl, hS', hk'⟩ := hr₂
            repeat (any_goals (first | assumption | wp_step))
            exact h _ _ hS' hk'
          | _ => exact hr₂.elim
    | _ => exact hr.elim
/-- sorted(the set) -/
theorem sorted_sets {a : Addr} {ks : List Str} {Q : Value → Shared → Prop} (R : SetS w s.heap a ks) (hh : A.handled = none) (h64 : ks.length < 64)
    (hQ : ∀ s' p (out : Array Value) (c : Nat) (ys : List Str), (∀ b o, s.heap.get? b = some o → s'.heap.get? b = some o) → s'.gens = s.gens → s'.os = s.os → s.heap.objs.size ≤ p → s'.heap.get? p = some (seqObj "list" out c) → StrsAre out.toList ys → ys.Perm ks → sortedS ys = true → Q (.ref p) s') :
    wpAny (model P w) A (call (.builtin "sorted") [.ref a]) Q E s := by
  obtain ⟨o, es, ep, t, ho, hex, hd, g, pm0, nd, hb, hf, hr, hl⟩ := R
  refine Calls.call_function_entry kind_sorted plain_sorted entry_sorted (args_sorted1 _) ?_
  unfold Builtin.«sorted»
  refine wpAny_bind (m := checkCount "sorted" 1 1 _) (wpAny_pure ?_)
  refine wpAny_bind (collect_set (A := A.in1) hh ⟨o, ho, hex.1, hd⟩ hf hb hr hl fun s1 vs k1 hz g1 o1 pm => ?_)
  have hall : ∀ v, v ∈ vs → ∃ x t, v = .str x t := fun v hv => by
    obtain ⟨e, he, q⟩ := List.mem_map.mp (pm.mem_iff.mp hv)
    obtain ⟨k, t', e1, _⟩ := g e he
    exact ⟨k, t', q ▸ e1⟩
  have hS : StrsAre vs (vs.map strOf) := strsAre_map vs hall
  have pk : (vs.map strOf).Perm ks := by
    have q := pm.map strOf
    rw [List.map_map] at q
    exact q.trans pm0
  have hvl : vs.length < 64 := by
    have q := pk.length_eq
    rw [List.length_map] at q
    omega
  refine wpAny_bind (wpAny_newList ?_ (by rw [sizeLine_eq]; omega))
  have hoL : (s1.heap.push (seqObj "list" vs.toArray 0)).get? s1.heap.objs.size = some (seqObj "list" vs.toArray 0) := Heap.get?_push_size _ rfl
  refine wpAny_bind (wpAny_holding (wpAny_call_entry slot_list_sort ⟨_, hoL, rfl⟩ entry_list_sort (list_sort_treeK strKind_oneLt hoL hS.keysOf (fun v₁ v₂ rest e => keyKind_strs (by rw [← e]; exact hS)) hvl fun st' hp hs => ⟨_, rfl, ?_⟩) (args_list_sort _)))
  obtain ⟨ys, a1, a2, a3⟩ := sorted_out_str hS hp hs
  obtain ⟨c, hc⟩ := sortedHeap_at (vs := vs) (out := (arrOf st').map (·.2)) hoL
  refine wpAny_pure ⟨_, rfl, hQ _ s1.heap.objs.size _ c ys (fun b u e => ?_) g1 o1 hz hc a1 (a2.trans pk) a3⟩
  have q := k1 b u e
  have hlt := Heap.lt_size q
  show (sortedHeap (s1.heap.push (seqObj "list" vs.toArray 0)) s1.heap.objs.size vs _).get? b = some u
  rw [sortedHeap_old (Nat.ne_of_lt hlt) (by rw [size_push']; exact Nat.lt_succ_of_lt hlt)]
  exact Heap.get?_push_of_some _ q
end
end K8

set_option Elab.async false
set_option linter.all false
set_option maxRecDepth 100000
set_option maxHeartbeats 4000000
/-! K8s3: names == sorted(set(names)). -/
namespace K8
open PySem PySem.Spec PyProof.Rows L2
def ascB : List Str → Bool
  | a :: b :: r => ltCps a.cps.toList b.cps.toList && ascB (b :: r)
  | _ => true
theorem ltc_irr : ∀ a : List Nat, ltCps a a = false
  | [] => rfl
  | x :: a => by
    have ih := ltc_irr a
    simp [ltCps, ih]
theorem ltc_tri : ∀ a b : List Nat, ltCps a b = false → ltCps b a = false → a = b
  | [], [], _, _ => rfl
  | [], y :: b, h, _ => by simp [ltCps] at h
  | x :: a, [], _, h => by simp [ltCps] at h
  | x :: a, y :: b, h1, h2 => by
    simp only [ltCps, Bool.or_eq_false_iff, Bool.and_eq_false_iff, decide_eq_false_iff_not, beq_eq_false_iff_ne] at h1 h2
    have e : x = y := by omega
    subst e
    rw [ltc_tri a b (by simpa using h1.2) (by simpa using h2.2)]
theorem ltc_trans : ∀ a b c : List Nat, ltCps a b = true → ltCps b c = true → ltCps a c = true
  | [], [], _, h, _ => by simp [ltCps] at h
  | [], y :: b, [], _, h => by simp [ltCps] at h
  | [], y :: b, z :: c, _, _ => by simp [ltCps]
  | x :: a, [], _, h, _ => by simp [ltCps] at h
  | x :: a, y :: b, [], _, h => by simp [ltCps] at h
  | x :: a, y :: b, z :: c, h1, h2 => by
    have ih := ltc_trans a b c
    simp only [ltCps, Bool.or_eq_true, Bool.and_eq_true, decide_eq_true_eq, beq_iff_eq] at h1 h2 ⊢
    rcases h1 with h1 | ⟨e1, h1⟩ <;> rcases h2 with h2 | ⟨e2, h2⟩
    · exact .inl (by omega)
    · exact .inl (by omega)
    · exact .inl (by omega)
    · exact .inr ⟨by omega, ih h1 h2⟩
theorem le_trans_c {a b c : List Nat} (h1 : ltCps b a = false) (h2 : ltCps c b = false) : ltCps c a = false := by
  cases h3 : ltCps c a with
  | false => rfl
  | true =>
    cases h4 : ltCps b c with
    | false =>
      have e := ltc_tri _ _ h2 h4
      rw [e, h1] at h3
      cases h3
    | true =>
      rw [ltc_trans _ _ _ h4 h3] at h1
      cases h1
abbrev LtS (a b : Str) : Prop := ltCps a.cps.toList b.cps.toList = true
abbrev LeS (a b : Str) : Prop := ltCps b.cps.toList a.cps.toList = false
theorem str_ext {a b : Str} (h : a.cps.toList = b.cps.toList) : a = b := by
  cases a
  cases b
  congr 1
  exact Array.toList_inj.mp h
theorem asc_pair : ∀ xs : List Str, ascB xs = true ↔ xs.Pairwise LtS
  | [] => by simp [ascB]
  | [x] => by simp [ascB]
  | x :: y :: r => by
    have ih := asc_pair (y :: r)
    rw [ascB, Bool.and_eq_true, ih, List.pairwise_cons (a := x)]
    constructor
    · rintro ⟨h1, h2⟩
      refine ⟨fun z hz => ?_, h2⟩
      rcases List.mem_cons.mp hz with e | hz
      · rw [e]
        exact h1
      · exact ltc_trans _ _ _ h1 ((List.pairwise_cons.mp h2).1 z hz)
    · rintro ⟨h1, h2⟩
      exact ⟨h1 y List.mem_cons_self, h2⟩
theorem rising_pair : ∀ (r : List Str) (p : Str), risingS p r = true → (p :: r).Pairwise LeS
  | [], p, _ => List.pairwise_singleton _ _
  | x :: r, p, h => by
    simp only [risingS, Bool.and_eq_true, Bool.not_eq_true'] at h
    have ih := rising_pair r x h.2
    refine List.pairwise_cons.mpr ⟨fun z hz => ?_, ih⟩
    rcases List.mem_cons.mp hz with e | hz
    · rw [e]
      exact h.1
    · exact le_trans_c h.1 ((List.pairwise_cons.mp ih).1 z hz)
theorem sorted_pair : ∀ ys : List Str, sortedS ys = true → ys.Pairwise LeS
  | [], _ => List.Pairwise.nil
  | x :: r, h => rising_pair r x h
theorem addK_nodup {ks : List Str} {x : Str} (h : ks.Nodup) : (addK ks x).Nodup := by
  unfold addK
  split
  · exact h
  · rename_i hx
    exact List.nodup_cons.mpr ⟨hx, h⟩
theorem fold_nodup : ∀ (xs ks : List Str), ks.Nodup → (xs.foldl addK ks).Nodup
  | [], _, h => h
  | x :: xs, ks, h => fold_nodup xs _ (addK_nodup h)
theorem metK_nodup (xs : List Str) : (metK xs).Nodup := fold_nodup xs [] List.nodup_nil
theorem strict_of {ys : List Str} (h : ys.Pairwise LeS) (nd : ys.Nodup) : ys.Pairwise LtS := by
  refine (h.and nd).imp fun {a b} ⟨h1, h2⟩ => ?_
  cases q : ltCps a.cps.toList b.cps.toList with
  | true => exact q
  | false => exact absurd (str_ext (ltc_tri _ _ q h1)) h2
theorem strict_eq : ∀ {xs ys : List Str}, xs.Pairwise LtS → ys.Pairwise LtS → xs.Perm ys → xs = ys
  | [], ys, _, _, p => (List.Perm.nil_eq p)
  | x :: xs, [], _, _, p => absurd p.length_eq (by simp)
  | x :: xs, y :: ys, h1, h2, p => by
    obtain ⟨a1, a2⟩ := List.pairwise_cons.mp h1
    obtain ⟨b1, b2⟩ := List.pairwise_cons.mp h2
    have e : x = y := by
      rcases List.mem_cons.mp (p.mem_iff.mp (List.mem_cons_self (a := x))) with e | hx
      · exact e
      · rcases List.mem_cons.mp (p.mem_iff.mpr (List.mem_cons_self (a := y))) with e | hy
        · exact e.symm
        · have q1 := b1 x hx
          have q2 := a1 y hy
          have q3 := ltc_trans _ _ _ q1 q2
          rw [ltc_irr] at q3
          cases q3
    subst e
    rw [strict_eq a2 b2 (List.Perm.cons_inv p)]
theorem asc_eq {xs ys : List Str} (p : ys.Perm (metK xs)) (h : sortedS ys = true) : decide (xs = ys) = ascB xs := by
  have hy := strict_of (sorted_pair ys h) (p.nodup_iff.mpr (metK_nodup xs))
  cases q : ascB xs with
  | true =>
    have hx := (asc_pair xs).mp q
    have nd : xs.Nodup := hx.imp fun {a b} r e => by
      rw [e] at r
      have r' : ltCps b.cps.toList b.cps.toList = true := r
      rw [ltc_irr] at r'
      cases r'
    have pm : (metK xs).Perm xs := (List.perm_ext_iff_of_nodup (metK_nodup xs) nd).mpr fun z => metK_mem z xs
    exact decide_eq_true (strict_eq hx hy (p.trans pm).symm)
  | false =>
    refine decide_eq_false fun e => ?_
    rw [← e] at hy
    rw [(asc_pair xs).mpr hy] at q
    cases q
/-! ### eqv of data -/
theorem eqvAll_strs : ∀ xs ys : List Str, PyData.eqvAll (xs.map .str) (ys.map .str) = decide (xs = ys)
  | [], [] => by simp [PyData.eqvAll]
  | [], y :: ys => by simp [PyData.eqvAll]
  | x :: xs, [] => by simp [PyData.eqvAll]
  | x :: xs, y :: ys => by
    rw [List.map_cons, List.map_cons, PyData.eqvAll, eqvAll_strs xs ys, PyData.eqv]
    by_cases h1 : x = y
    · by_cases h2 : xs = ys
      · simp [h1, h2]
      · simp [h1, h2]
    · simp [h1]
theorem canLay_strs : ∀ xs : List Str, xs.all PyData.strOk = true → PyData.canLayAll0 (xs.map .str) = true
  | [], _ => by simp [PyData.canLayAll0]
  | x :: xs, h => by
    simp only [List.all_cons, Bool.and_eq_true] at h
    simp only [List.map_cons, PyData.canLayAll0, PyData.canLay0, Bool.and_eq_true]
    exact ⟨h.1, canLay_strs xs h.2⟩
theorem depth_strs : ∀ xs : List Str, PyData.depthAll (xs.map .str) = 0
  | [] => by simp [PyData.depthAll]
  | x :: xs => by simp [PyData.depthAll, PyData.depth, depth_strs xs]
theorem shaped_mk {d : PyData} (h1 : d.canLay0 = true) (h2 : d.depth ≤ 64) : SeqAt.shaped d = true := by
  show (d.canLay0 && decide (d.depth ≤ 64)) = true
  rw [h1, decide_eq_true h2]
  rfl
theorem shaped_strs {xs : List Str} (h : xs.all PyData.strOk = true) : SeqAt.shaped (.list (xs.map .str)) = true :=
  shaped_mk (by simp only [PyData.canLay0]; exact canLay_strs xs h) (by simp only [PyData.depth, depth_strs]; omega)
/-! ### over the layer -/
def SetSO (w : World) (a : Addr) (ks : List Str) : HO := .ext fun h => SetS w h a ks
def rSetS (K : PySem.W.Frag) (w : World) : List V → Hp → VK → Prop := fun vs H Q => ∃ (l : Addr) (xs : List Str), vs = [.ref l] ∧ SqL K H l (xs.map V.str) ∧ xs.length < 63 ∧ ∀ a, H a = none → Q (.ref a) (upd H a (SetSO w a (metK xs)))
def rSrtS (w : World) : List V → Hp → VK → Prop := fun vs H Q => ∃ (a : Addr) (ks : List Str), vs = [.ref a] ∧ H a = some (SetSO w a ks) ∧ ks.length < 64 ∧ ∀ ys p, ys.Perm ks → sortedS ys = true → H p = none → Q (.ref p) (upd H p (.lst (ys.map V.str)))
section
variable {X : Cx}
theorem cr_setS (hc : X.calm = true) : CallR X (.type "set") (rSetS X.K X.w) := by
  intro pins s σ H vs us Q I r h
  obtain ⟨l, xs, rfl, hl, hz, q⟩ := h
  obtain ⟨its, rv, pl, _⟩ := I.list hl
  rw [Vals.ref1 r]
  refine call_set_strs xs (I.ok.hd hc) pl.isList (by simpa using rv.strs) (by unfold scanBound; omega) fun h' tk hS hk => ?_
  have hn : H s.heap.objs.size = none := I.hok.fresh (Nat.le_refl _)
  obtain ⟨o, _, _, _, ho, _⟩ := id hS
  exact ⟨.ref _, _, I.laid (o := SetSO X.w s.heap.objs.size (metK xs)) (t' := tk) hk (Nat.le_refl _) (show ObjOk _ _ _ _ _ (.ext _) from ⟨hS, ⟨o, ho⟩, fun h1 h2 p k => p.at k⟩), rfl, q _ hn⟩
theorem cr_srtS (hc : X.calm = true) : CallR X (.builtin "sorted") (rSrtS X.w) := by
  intro pins s σ H vs us Q I r h
  obtain ⟨a, ks, rfl, ha, hz, q⟩ := h
  have hS : SetS X.w s.heap a ks := (I.hok a _ ha).1
  rw [Vals.ref1 r]
  refine sorted_sets hS (I.ok.hd hc) hz fun s' p out c ys k g o hp hg hi pm hs => ?_
  have hn : H p = none := I.hok.fresh hp
  have hlen : (ys.map V.str).length ≤ sizeLine := by
    rw [List.length_map, pm.length_eq, sizeLine_eq]
    omega
  have e : s' = { s with heap := s'.heap, gens := s'.gens, drawn := s'.drawn, toks := s'.toks } := by
    cases s'
    cases s
    cases o
    rfl
  rw [e]
  exact ⟨.ref p, _, I.call (ch := []) (Un.laid (o := .lst (ys.map V.str)) k hp hn) (I.hok.laid (o := .lst (ys.map V.str)) k hp ⟨hlen, out.toList, c, vals_of_strs hi, hg⟩) (by rw [g]; exact I.bare) (fun _ z => nomatch z), rfl, q ys p pm hs hn⟩
variable {a b : Expr} {σ : L2.St} {B : Hp} {pos p1 p2 p3 p4 : Pos} {n : Nat}
/-- names == sorted(set(names)) -/
theorem pd_asc {xs : List Str} (hr : Room n X.A) (hc : X.calm = true) (hg : Gl X "sorted") (hm : X.mg "sorted" = none) (hg2 : Gl X "set") (hm2 : X.mg "set" = none) (ha : PD X a σ B (.list (xs.map .str))) (hb : PD X b σ B (.list (xs.map .str))) (hz : xs.length < 63) (ho : xs.all PyData.strOk = true)
    (he : starEach [b] X.env = (false, eval b X.env) :: starEach [] X.env := by rfl) (he2 : starEach [.Call (.Name "set" p1) [b] [] p2] X.env = (false, eval (.Call (.Name "set" p1) [b] [] p2) X.env) :: starEach [] X.env := by rfl) :
    PD X (.Compare a [.Eq] [.Call (.Name "sorted" p3) [.Call (.Name "set" p1) [b] [] p2] [] p4] pos) σ B (.bool (ascB xs)) := by
  refine .of (pe_cmpR (op_eqD hr.units) pe_wp (pe_callB (cr_srtS hc) hg hm (by decide +kernel) (pa_cons (pe_callTy (cr_setS hc) hg2 hm2 (by decide +kernel) (pa_cons pe_wp pa_nil he) (he := he)) pa_nil he2) (he := he2)) (nomark _)) fun H h Q q => ?_
  refine ha H h _ fun x B1 H1 f1 r1 => ?_
  refine (hb.mono f1.bb) H1 f1.bh _ fun y B2 H2 f2 r2 => ?_
  obtain ⟨l, vs, rfl, hl, rl⟩ := r2.lst_inv
  have ev := rl.strs
  subst ev
  refine ⟨l, xs, rfl, f2.bh.seq hl, hz, fun s hs => ?_⟩
  have f3 : F0 B2 H2 (upd B2 s (SetSO X.w s (metK xs))) (upd H2 s (SetSO X.w s (metK xs))) := F0.new f2.bh hs
  refine ⟨s, metK xs, rfl, upd_same, Nat.lt_of_le_of_lt (metK_len xs) (by omega), fun ys p pm hsd hp => ?_⟩
  have f4 := F0.new (o := .lst (ys.map V.str)) f3.bh hp
  have f12 := (f2.trans f3).trans f4
  have oky : ys.all PyData.strOk = true := List.all_eq_true.mpr fun z hz' => List.all_eq_true.mp ho z ((metK_mem z xs).mp (pm.mem_iff.mp hz'))
  have ry : R X.K (upd (upd B2 s (SetSO X.w s (metK xs))) p (.lst (ys.map V.str))) (.ref p) (.list (ys.map .str)) := r_upd_l f3.bh hp (RAll.of_strs ys)
  refine ⟨_, _, ((r1.mono f12.bb).mono f4.bh).dps (shaped_strs ho), (ry.mono f4.bh).dps (shaped_strs oky), shaped_strs ho, shaped_strs oky, q _ _ _ (f1.trans f12) ?_⟩
  have e1 : PyData.eqv (.list (xs.map .str)) (.list (ys.map .str)) = ascB xs := by
    simp only [PyData.eqv]
    rw [eqvAll_strs, asc_eq pm hsd]
  rw [e1]
  exact .bl _
end
end K8

set_option Elab.async false
set_option linter.all false
set_option maxRecDepth 100000
set_option maxHeartbeats 4000000
/-! K8q: answers and sights. -/
namespace K8
open PySem PySem.Spec PyProof.Rows L2
inductive An where
  | no
  | tx (s : Str)
  | nm (es : List Str)
deriving DecidableEq
abbrev An.d : An → PyData
  | .no => .none
  | .tx s => .str s
  | .nm es => .tuple (es.map .str)
structure Sg where
  k : Lk
  a : An
deriving DecidableEq
abbrev Sg.d (s : Sg) : PyData := .tuple [s.k.d, s.a.d]
def strsOf : List PyData → Option (List Str)
  | [] => some []
  | .str x :: ds => (strsOf ds).map (x :: ·)
  | _ :: _ => none
theorem strsOf_some : ∀ {ds : List PyData} {es : List Str}, strsOf ds = some es → ds = es.map .str
  | [], es, h => by
    cases h
    rfl
  | .str x :: ds, es, h => by
    rw [strsOf, Option.map_eq_some_iff] at h
    obtain ⟨r, h1, rfl⟩ := h
    rw [strsOf_some h1]
    rfl
  | .none :: _, _, h | .bool _ :: _, _, h | .int _ :: _, _, h | .list _ :: _, _, h | .tuple _ :: _, _, h | .dict _ :: _, _, h => by simp [strsOf] at h
theorem strsOf_all : ∀ ds : List PyData, (ds.all (isT .str)) = (strsOf ds).isSome
  | [] => rfl
  | .str x :: ds => by
    rw [List.all_cons, strsOf_all ds, strsOf]
    cases strsOf ds <;> rfl
  | .none :: _ | .bool _ :: _ | .int _ :: _ | .list _ :: _ | .tuple _ :: _ | .dict _ :: _ => rfl
def okE (e : Str) : Bool := decide (e.length ≤ 1000) && (decide ((eName e).length ≤ 1000) && PyData.strOk (eName e))
def okEd : PyData → Bool
  | .str e => okE e
  | _ => true
def okEnts (ds : List PyData) : Bool := decide (ds.length < 63) && ds.all okEd
def namesB (es : List Str) : Bool := (es.map eName).all nameB && ascB (es.map eName)
def entsB (ds : List PyData) : Bool := match strsOf ds with
  | some es => namesB es
  | none => false
abbrev R_are_entries : List PyData → PyData → Prop := fun ds d => ∃ x xs, ds = [x] ∧ seqOf x = some xs ∧ okEnts xs = true ∧ d = .bool (entsB xs)
def seqAns (ds : List PyData) : Option An := match strsOf ds with
  | some es => if ds.length = 0 then none else if namesB es = true then some (.nm es) else none
  | none => none
def ansOf (l : Bool) : PyData → Option An
  | .none => some .no
  | .str s => if l = true then none else some (.tx s)
  | .list xs => if l = true then seqAns xs else none
  | .tuple xs => if l = true then seqAns xs else none
  | _ => none
def okAns (x : PyData) : Bool := match seqOf x with
  | some xs => okEnts xs
  | none => true
abbrev R_answer_of : List PyData → PyData → Prop := fun ds d => ∃ (k : Lk) (x : PyData), ds = [k.d, x] ∧ okAns x = true ∧ d = oD (fun a => .tuple [An.d a]) (ansOf k.l x)
def sightP (a b : PyData) : Option Sg := match lookOf a with
  | some k => (ansOf k.l b).map (Sg.mk k)
  | none => none
def sightOf (x : PyData) : Option Sg := match seqOf x with
  | some [a, b] => sightP a b
  | _ => none
def okSight (x : PyData) : Bool := match seqOf x with
  | some [a, b] => okLook a && okAns b
  | _ => true
abbrev R_sight_of : List PyData → PyData → Prop := fun ds d => ∃ x, ds = [x] ∧ okSight x = true ∧ d = oD Sg.d (sightOf x)
section
variable {X : Cx} {σ : L2.St} {B B1 : Hp} {d : PyData} {ds : List PyData} {iter tg : Expr}
/-- over a list or a tuple -/
theorem src_seq (h : seqOf d = some ds) (hp : PD X iter σ B d) : ∃ wi, PI X tg iter wi ∧ Src X.K wi σ B ds := by
  cases d <;> simp [seqOf] at h
  · subst h
    exact ⟨_, pi_list pe_wp, src_list hp⟩
  · subst h
    exact ⟨_, pi_tup pe_wp, src_tup hp⟩
variable {elt : Expr} {scope : Scope} {pos : Pos} {g : TG} {f : PyData → PyData}
theorem ld_seq (own : List (Str × Nat)) (h : seqOf d = some ds) (hp : PD X iter σ B d) (hc : X.calm = true) (nd : X.N.Nodup) (ok : BlkOk X.N X.env.scope scope own) (hg : ∀ (s : Shared) (H : Hp) (C : Addr) (cl : List (Str × Addr)) (fp : List Addr), PG (X.blk s H scope (compEnvC scope cl C X.env) fp) tg g) (hz : ds.length ≤ 100000)
    (hel : ∀ d ∈ ds, ∀ v B2, Same B B2 → R X.K B2 v d → ∃ σ2, GD g (wipe σ (own.map (·.2))) B2 v σ2 ∧ wipe σ2 (own.map (·.2)) = wipe σ (own.map (·.2)) ∧ ∀ (s : Shared) (H0 : Hp) (C : Addr) (cl : List (Str × Addr)) (fp : List Addr), PD (X.blk s H0 scope (compEnvC scope cl C X.env) fp) elt σ2 B2 (f d))
    (hs : ∀ x, foldedSetIterable iter X.env x = pure x := by intro _; rfl) : LD X (.ListComp elt [⟨tg, iter, [], 0⟩] scope pos) σ B (.list (ds.map f)) := by
  obtain ⟨wi, hi, src⟩ := src_seq (tg := tg) h hp
  exact ld_gen own hi src hc nd ok hg hz hel hs
end
theorem mapBool {α : Type} (l : List α) (f : α → Bool) : l.map (fun x => PyData.bool (f x)) = (l.map f).map .bool := by rw [List.map_map]; rfl
section
variable {P : Program} {w : World} {K : PySem.W.Frag} {mg : Str → Option Value} {base : Heap}
theorem fn_are_entries (D : IsDef K mg "are_entries" s_are_entries) (T : Bl mg) (F1 : Fn P w K mg base CX0 "is_name" 1 ["thing"] (SpR K R_is_name)) (F2 : Fn P w K mg base CX0 "entry_name" 1 ["entry"] (SpR K R_entry_name)) : Fn P w K mg base CX0 "are_entries" 2 ["things"] (SpR K R_are_entries) := by
  refine fn_data D sc_are_entries (fun ds d h => by obtain ⟨x, _, rfl, _⟩ := h; rfl) (fun _ _ _ _ _ _ us hl => match us, hl with | [_], _ => rfl) fun f cdv A outer s H E vs B ds d hr h ra => ?_
  obtain ⟨x, xs, rfl, hq, ok, rfl⟩ := h
  obtain ⟨v, rfl, r⟩ := ra.one
  have ok' := ok
  unfold okEnts at ok'
  simp only [Bool.and_eq_true, decide_eq_true_eq, List.all_eq_true] at ok'
  obtain ⟨hz, hok⟩ := ok'
  refine rd_if (td_not (td_val (pd_all (bs := xs.map (isT .str)) rfl (by rfl) T.all (PD.cast (LD.pd (ld_seq [("thing", 1)] hq (pd_var 0 rfl r) (g := gName 1) (f := fun d => .bool (isT .str d)) rfl sc_are_entries.nd (blkOk_by (N := N_are_entries) (sc := defScope s_are_entries) (by decide +kernel)) (fun _ _ _ _ _ => pg_name (i := 1) sc_are_entries.nd rfl (Or.inl rfl)) (by omega) fun c hc v B2 s2 r2 => ⟨_, gd_name, rfl, fun _ _ _ _ _ => pd_isi .str (by rfl) T.isinstance (by rfl) T.str (by decide +kernel) (pd_var 1 rfl r2)⟩)) (by rw [mapBool]))))) (fun z => ?_) fun z => ?_
  · have e : entsB xs = false := by
      have e2 : (strsOf xs).isSome = false := by
        rw [← strsOf_all, ← all_id]
        simpa using z
      unfold entsB
      cases hx : strsOf xs with
      | none => rfl
      | some es => rw [hx] at e2; cases e2
    rw [e]
    exact rd_ret pd_bl
  · obtain ⟨es, hes⟩ : ∃ es, strsOf xs = some es := by
      have e2 : (strsOf xs).isSome = true := by
        rw [← strsOf_all, ← all_id]
        simpa using z
      exact Option.isSome_iff_exists.mp e2
    have ex := strsOf_some hes
    subst ex
    have hoe : ∀ e ∈ es, okE e = true := fun e he => hok (.str e) (List.mem_map_of_mem he)
    have hoe1 : ∀ e ∈ es, e.length ≤ 1000 := fun e he => by
      have := hoe e he
      unfold okE at this
      simp only [Bool.and_eq_true, decide_eq_true_eq] at this
      exact this.1
    have hoe2 : ∀ e ∈ es, (eName e).length ≤ 1000 := fun e he => by
      have := hoe e he
      unfold okE at this
      simp only [Bool.and_eq_true, decide_eq_true_eq] at this
      exact this.2.1
    have hoe3 : ∀ e ∈ es, PyData.strOk (eName e) = true := fun e he => by
      have := hoe e he
      unfold okE at this
      simp only [Bool.and_eq_true, decide_eq_true_eq] at this
      exact this.2.2
    have en : entsB (es.map .str) = namesB es := by unfold entsB; rw [hes]
    have hzl : es.length < 63 := by simpa using hz
    rw [en]
    refine rd_setL (i := 2) (d1 := .list ((es.map eName).map .str)) (LD.cast (ld_seq [("thing", 1)] hq (pd_var 0 rfl r) (g := gName 1) (f := fun d => match d with | .str e => .str (eName e) | _ => .none) rfl sc_are_entries.nd (blkOk_by (N := N_are_entries) (sc := defScope s_are_entries) (by decide +kernel)) (fun _ _ _ _ _ => pg_name (i := 1) sc_are_entries.nd rfl (Or.inl rfl)) (by omega) fun c hc v B2 s2 r2 => ⟨_, gd_name, rfl, fun _ _ _ _ _ => ?_⟩) ?_) fun v2 B1 s1 r1 => ?_
    · obtain ⟨e, he, rfl⟩ := List.mem_map.mp hc
      exact pd_call F2 hr (by decide) (by rfl) (ad_cons (pd_var 1 rfl r2) ad_nil) ⟨e, rfl, hoe1 e he, rfl⟩
    · rw [List.map_map, List.map_map]
      rfl
    · refine rd_ret (pd_and (p := (es.map eName).all nameB) (PD.cast (pd_all (bs := (es.map eName).map nameB) rfl (by rfl) T.all (PD.cast (LD.pd (ld_gen [("name", 3)] (pi_list pe_wp) (src_list (pd_var 2 rfl r1)) (g := gName 3) (f := fun d => .bool (mName d)) rfl sc_are_entries.nd (blkOk_by (N := N_are_entries) (sc := defScope s_are_entries) (by decide +kernel)) (fun _ _ _ _ _ => pg_name (i := 3) sc_are_entries.nd rfl (Or.inl rfl)) (by rw [List.length_map, List.length_map]; omega) fun c hc v B2 s2 r2 => ⟨_, gd_name, rfl, fun _ _ _ _ _ => ?_⟩)) ?_)) ?_) fun _ => pd_one (pd_asc hr rfl (by rfl) T.sorted (by rfl) T.set (pd_var 2 rfl r1) (pd_var 2 rfl r1) (by rw [List.length_map]; exact hzl) (List.all_eq_true.mpr fun z hz => ?_)))
      · obtain ⟨e, he, rfl⟩ := List.mem_map.mp hc
        refine pd_call F1 hr (by decide) (by rfl) (ad_cons (pd_var 3 rfl r2) ad_nil) ⟨_, rfl, ?_, rfl⟩
        obtain ⟨e', he', rfl⟩ := List.mem_map.mp he
        have := hoe2 e' he'
        show (eName e').length ≤ 100000
        omega
      · simp only [List.map_map]
        rfl
      · rw [all_id]
      · obtain ⟨e, he, rfl⟩ := List.mem_map.mp hz
        exact hoe3 e he
theorem eqv_read (l : Bool) : PyData.eqv (.str (wd l)) (.str "read") = !l := by cases l <;> decide +kernel
theorem shp_wd (l : Bool) : SeqAt.shaped (.str (wd l)) = true := by cases l <;> decide +kernel
theorem shp_read : SeqAt.shaped (.str "read") = true := by decide +kernel
theorem fn_answer_of (D : IsDef K mg "answer_of" s_answer_of) (T : Bl mg) (F1 : Fn P w K mg base CX0 "is_list" 1 ["thing"] (SpR K R_is_list)) (F2 : Fn P w K mg base CX0 "are_entries" 2 ["things"] (SpR K R_are_entries)) : Fn P w K mg base CX0 "answer_of" 3 ["look", "thing"] (SpR K R_answer_of) := by
  refine fn_data D sc_answer_of (fun ds d h => by obtain ⟨_, x, rfl, _⟩ := h; rfl) (fun _ _ _ _ _ _ us hl => match us, hl with | [_, _], _ => rfl) fun f cdv A outer s H E vs B ds d hr h ra => ?_
  obtain ⟨k, x, rfl, ok, rfl⟩ := h
  obtain ⟨v, v', rfl, r, r'⟩ := ra.two
  refine rd_if (cd_isN (pd_var 1 rfl r')).td (fun z => ?_) fun z => ?_
  · have e : x = .none := by cases x <;> first | rfl | cases z
    subst e
    exact rd_ret (pd_tup (ad_cons pd_non ad_nil) (show 1 ≤ 100000 by decide))
  · refine rd_if (p := !k.l) ((cd_eq hr (pd_ixT (m := 0) (pd_var 0 rfl r) pd_int rfl) pd_str (shp_wd _) shp_read).cast (eqv_read _)).td (fun z2 => ?_) fun z2 => ?_
    · have el : k.l = false := by simpa using z2
      rw [el]
      cases x with
      | none => cases z
      | str s => exact rd_ret (pd_if (p := true) (td_val (pd_isi (d := .str s) .str (by rfl) T.isinstance (by rfl) T.str (by decide +kernel) (pd_var 1 rfl r'))) (fun _ => pd_tup (ad_cons (pd_var 1 rfl r') ad_nil) (show 1 ≤ 100000 by decide)) fun z => nomatch z)
      | _ => exact rd_ret (pd_if (p := false) (td_val (pd_isi .str (by rfl) T.isinstance (by rfl) T.str (by decide +kernel) (pd_var 1 rfl r'))) (fun z => nomatch z) fun _ => pd_non)
    · have el : k.l = true := by simpa using z2
      rw [el]
      cases hq : seqOf x with
      | none =>
        have e1 : isSeq x = false := by cases x <;> first | rfl | simp [seqOf] at hq
        have e2 : ansOf true x = none := by cases x <;> first | rfl | (cases z; done) | simp [seqOf] at hq
        rw [e2]
        exact rd_if (p := true) (WD.td (wd_orT ((td_not (td_val (pd_call F1 hr (by decide) (by rfl) (ad_cons (pd_var 1 rfl r') ad_nil) ⟨_, rfl, rfl⟩))).cast (by rw [e1]; rfl)))) (fun _ => rd_ret pd_non) fun z => nomatch z
      | some xs =>
        have e1 : isSeq x = true := by cases x <;> first | rfl | simp [seqOf] at hq
        have e2 : ansOf true x = seqAns xs := by cases x <;> simp [seqOf] at hq <;> (subst hq; simp [ansOf])
        have ok2 : okEnts xs = true := by
          unfold okAns at ok
          rw [hq] at ok
          exact ok
        rw [e2]
        refine rd_if (WD.td (wd_orF ((td_not (td_val (pd_call F1 hr (by decide) (by rfl) (ad_cons (pd_var 1 rfl r') ad_nil) ⟨_, rfl, rfl⟩))).cast (by rw [e1]; rfl)) (wd_or (cd_eqI hr (pd_lenQ hq (by rfl) T.len (pd_var 1 rfl r')) pd_int).td fun _ => wd_or1 (td_not (td_val (pd_call F2 hr (by decide) (by rfl) (ad_cons (pd_var 1 rfl r') ad_nil) ⟨_, _, rfl, hq, ok2, rfl⟩)))))) (fun z3 => ?_) fun z3 => ?_
        · have e3 : seqAns xs = none := by
            unfold seqAns
            unfold entsB at z3
            cases hs : strsOf xs with
            | none => rfl
            | some es =>
              rw [hs] at z3
              simp only
              by_cases h0 : xs.length = 0
              · rw [if_pos h0]
              · rw [if_neg h0]
                have : namesB es = false := by
                  have h0' : ¬ xs = [] := fun e => h0 (by rw [e]; rfl)
                  simpa [h0'] using z3
                rw [this]
                rfl
          rw [e3]
          exact rd_ret pd_non
        · obtain ⟨h0, h1⟩ := Bool.or_eq_false_iff.mp z3
          have h0' : ¬ xs.length = 0 := fun e => by
            rw [e] at h0
            cases h0
          have h1' : entsB xs = true := by simpa using h1
          unfold entsB at h1'
          cases hs : strsOf xs with
          | none => rw [hs] at h1'; cases h1'
          | some es =>
            rw [hs] at h1'
            have h2 : namesB es = true := h1'
            have e3 : seqAns xs = some (.nm es) := by
              unfold seqAns
              rw [hs]
              simp only
              rw [if_neg h0', if_pos h2]
            rw [e3]
            have ex := strsOf_some hs
            subst ex
            exact rd_ret (pd_tup (ad_cons (pd_tupleQ hq (by rfl) T.tuple (pd_var 1 rfl r')) ad_nil) (show 1 ≤ 100000 by decide))
theorem fn_sight_of (D : IsDef K mg "sight_of" s_sight_of) (T : Bl mg) (F1 : Fn P w K mg base CX0 "is_list" 1 ["thing"] (SpR K R_is_list)) (F2 : Fn P w K mg base CX0 "look_of" 3 ["thing"] (SpR K R_look_of)) (F3 : Fn P w K mg base CX0 "answer_of" 3 ["look", "thing"] (SpR K R_answer_of)) : Fn P w K mg base CX0 "sight_of" 4 ["thing"] (SpR K R_sight_of) := by
  refine fn_data D sc_sight_of (fun ds d h => by obtain ⟨x, rfl, _⟩ := h; rfl) (fun _ _ _ _ _ _ us hl => match us, hl with | [_], _ => rfl) fun f cdv A outer s H E vs B ds d hr h ra => ?_
  obtain ⟨x, rfl, ok, rfl⟩ := h
  obtain ⟨v, rfl, r⟩ := ra.one
  cases hq : seqOf x with
  | none =>
    have e1 : isSeq x = false := by cases x <;> first | rfl | simp [seqOf] at hq
    have e2 : sightOf x = none := by simp [sightOf, hq]
    rw [e2]
    refine rd_if (p := true) (WD.td (wd_orT ((td_not (td_val (pd_call F1 hr (by decide) (by rfl) (ad_cons (pd_var 0 rfl r) ad_nil) ⟨_, rfl, rfl⟩))).cast (by rw [e1]; rfl)))) (fun _ => rd_ret pd_non) (fun z => nomatch z)
  | some xs =>
    have e1 : isSeq x = true := by cases x <;> first | rfl | simp [seqOf] at hq
    refine rd_if (WD.td (wd_orF ((td_not (td_val (pd_call F1 hr (by decide) (by rfl) (ad_cons (pd_var 0 rfl r) ad_nil) ⟨_, rfl, rfl⟩))).cast (by rw [e1]; rfl)) (wd_or1 (cd_neI hr (pd_lenQ hq (by rfl) T.len (pd_var 0 rfl r)) pd_int).td))) (fun z => ?_) fun z => ?_
    · have e2 : sightOf x = none := by
        unfold sightOf
        rw [hq]
        match xs, z with
        | [], _ => rfl
        | [_], _ => rfl
        | _ :: _ :: _ :: _, _ => rfl
        | [_, _], z => simp at z
      rw [e2]
      exact rd_ret pd_non
    · match xs, z, hq with
      | [d1, d2], _, hq =>
        have e2 : sightOf x = sightP d1 d2 := by
          unfold sightOf
          rw [hq]
        have ok2 : okLook d1 = true ∧ okAns d2 = true := by
          unfold okSight at ok
          rw [hq] at ok
          exact Bool.and_eq_true_iff.mp ok
        rw [e2]
        unfold sightP
        refine rd_set (i := 1) sc_sight_of.nd (d1 := oD Lk.d (lookOf d1)) (pd_call F2 hr (by decide) (by rfl) (ad_cons (pd_ixQ (m := 0) hq (pd_var 0 rfl r) pd_int rfl) ad_nil) ⟨_, rfl, ok2.1, rfl⟩) fun v2 B1 s1 r1 => ?_
        cases hk : lookOf d1 with
        | none =>
          rw [hk] at r1
          exact rd_if (p := true) (cd_isN (pd_var 1 rfl r1)).td (fun _ => rd_ret pd_non) fun z => nomatch z
        | some k =>
          rw [hk] at r1
          refine rd_if (p := false) (cd_isN (pd_var 1 rfl r1)).td (fun z => nomatch z) fun _ => ?_
          refine rd_set (i := 2) sc_sight_of.nd (d1 := oD (fun a => .tuple [An.d a]) (ansOf k.l d2)) (pd_call F3 hr (by decide) (by rfl) (ad_cons (pd_var 1 rfl r1) (ad_cons (pd_ixQ (m := 1) hq (pd_var 0 rfl (r.mono s1)) pd_int rfl) ad_nil)) ⟨k, _, rfl, ok2.2, rfl⟩) fun v3 B3 s3 r3 => ?_
          show RD _ _ _ _ (oD Sg.d ((ansOf k.l d2).map (Sg.mk k)))
          cases ha : ansOf k.l d2 with
          | none =>
            rw [ha] at r3
            exact rd_ret (pd_if (p := true) (cd_isN (pd_var 2 rfl r3)).td (fun _ => pd_non) fun z => nomatch z)
          | some an =>
            rw [ha] at r3
            exact rd_ret (pd_if (p := false) (cd_isN (pd_var 2 rfl r3)).td (fun z => nomatch z) fun _ => pd_tup (ad_cons (pd_var 1 rfl (r1.mono s3)) (ad_cons (pd_ixT (m := 0) (pd_var 2 rfl r3) pd_int rfl) ad_nil)) (show 2 ≤ 100000 by decide))
end
end K8

set_option Elab.async false
set_option linter.all false
set_option maxRecDepth 100000
set_option maxHeartbeats 4000000
/-! K8r: what a sight says of a look. -/
namespace K8
open PySem PySem.Spec PyProof.Rows L2
theorem shp_str {x : Str} (h : PyData.strOk x = true) : SeqAt.shaped (.str x) = true := shaped_mk (by simp only [PyData.canLay0]; exact h) (by simp [PyData.depth])
def okK (k : Lk) : Bool := decide (k.p.length ≤ 1000) && PyData.strOk k.p
def okEs (es : List Str) : Bool := decide (es.length < 63) && es.all fun e => okE e && PyData.strOk e
def okA (l : Bool) : An → Bool
  | .no => true
  | .tx s => !l && PyData.strOk s
  | .nm es => l && okEs es
def okG (s : Sg) : Bool := okK s.k && okA s.k.l s.a
theorem okK_l {k : Lk} (h : okK k = true) : k.p.length ≤ 1000 := by
  unfold okK at h
  simp only [Bool.and_eq_true, decide_eq_true_eq] at h
  exact h.1
theorem okK_s {k : Lk} (h : okK k = true) : PyData.strOk k.p = true := by
  unfold okK at h
  simp only [Bool.and_eq_true, decide_eq_true_eq] at h
  exact h.2
theorem okEs_n {es : List Str} (h : okEs es = true) : es.length < 63 := by
  unfold okEs at h
  simp only [Bool.and_eq_true, decide_eq_true_eq] at h
  exact h.1
theorem okEs_e {es : List Str} (h : okEs es = true) {e : Str} (he : e ∈ es) : e.length ≤ 1000 ∧ (eName e).length ≤ 1000 ∧ PyData.strOk (eName e) = true ∧ PyData.strOk e = true := by
  unfold okEs at h
  simp only [Bool.and_eq_true, List.all_eq_true, okE, decide_eq_true_eq] at h
  have := h.2 e he
  exact ⟨this.1.1, this.1.2.1, this.1.2.2, this.2⟩
theorem strOk_wd (l : Bool) : PyData.strOk (wd l) = true := by cases l <;> decide +kernel
theorem lay_lk {k : Lk} (h : okK k = true) : PyData.canLay0 k.d = true := by
  have h1 := strOk_wd k.l
  have h2 := okK_s h
  simp only [Lk.d, PyData.canLay0, PyData.canLayAll0, h1, h2, Bool.and_self]
theorem dep_lk (k : Lk) : PyData.depth k.d ≤ 2 := by simp [PyData.depth, PyData.depthAll]
theorem shp_lk {k : Lk} (h : okK k = true) : SeqAt.shaped k.d = true := shaped_mk (lay_lk h) (Nat.le_trans (dep_lk k) (by decide))
theorem lay_an {l : Bool} {a : An} (h : okA l a = true) : PyData.canLay0 a.d = true := by
  cases a with
  | no => simp [PyData.canLay0]
  | tx s =>
    simp only [okA, Bool.and_eq_true] at h
    simp only [PyData.canLay0]
    exact h.2
  | nm es =>
    simp only [okA, Bool.and_eq_true] at h
    simp only [PyData.canLay0]
    exact canLay_strs es (List.all_eq_true.mpr fun e he => (okEs_e h.2 he).2.2.2)
theorem dep_an (a : An) : PyData.depth a.d ≤ 2 := by
  cases a with
  | no => simp [PyData.depth]
  | tx s => simp [PyData.depth]
  | nm es => simp [PyData.depth, depth_strs]
theorem shp_an1 {l : Bool} {a : An} (h : okA l a = true) : SeqAt.shaped (.tuple [a.d]) = true := by
  refine shaped_mk ?_ ?_
  · have := lay_an h
    simp only [PyData.canLay0, PyData.canLayAll0, this, Bool.and_self]
  · have := dep_an a
    simp only [PyData.depth, PyData.depthAll]
    omega
theorem shp_sg {s : Sg} (h : okG s = true) : SeqAt.shaped s.d = true := by
  unfold okG at h
  simp only [Bool.and_eq_true] at h
  refine shaped_mk ?_ ?_
  · have h1 := lay_lk h.1
    have h2 := lay_an h.2
    show PyData.canLay0 (.tuple [Lk.d s.k, An.d s.a]) = true
    rw [PyData.canLay0, PyData.canLayAll0, PyData.canLayAll0, PyData.canLayAll0, h1, h2]
    rfl
  · have h1 := dep_lk s.k
    have h2 := dep_an s.a
    show PyData.depth (.tuple [Lk.d s.k, An.d s.a]) ≤ 64
    simp only [PyData.depth, PyData.depthAll] at h1 h2 ⊢
    omega
theorem eqv_str (x y : Str) : PyData.eqv (.str x) (.str y) = decide (x = y) := by
  rw [PyData.eqv]
  rfl
theorem wd_inj {l m : Bool} : (wd l = wd m) ↔ l = m := by
  cases l <;> cases m <;> decide +kernel
theorem eqv_lk (k m : Lk) : PyData.eqv k.d m.d = decide (k = m) := by
  obtain ⟨l, p⟩ := k
  obtain ⟨l', p'⟩ := m
  simp only [Lk.d, PyData.eqv, PyData.eqvAll, Lk.mk.injEq]
  by_cases h1 : l = l'
  · subst h1
    by_cases h2 : p = p'
    · subst h2
      simp
    · simp [h2]
  · have : ¬ wd l = wd l' := fun e => h1 (wd_inj.mp e)
    simp [this, h1]
theorem eqv_an (a b : An) : PyData.eqv a.d b.d = decide (a = b) := by
  cases a with
  | no => cases b <;> simp [PyData.eqv]
  | tx s =>
    cases b with
    | tx t =>
      rw [eqv_str]
      simp
    | _ => simp [PyData.eqv]
  | nm es =>
    cases b with
    | nm fs =>
      simp only [PyData.eqv]
      rw [eqvAll_strs]
      simp
    | _ => simp [PyData.eqv]
theorem eqv_an1 (a b : An) : PyData.eqv (.tuple [a.d]) (.tuple [b.d]) = decide (a = b) := by
  simp only [PyData.eqv, PyData.eqvAll]
  rw [eqv_an]
  simp
theorem eqv_sg (s t : Sg) : PyData.eqv s.d t.d = decide (s = t) := by
  obtain ⟨k, a⟩ := s
  obtain ⟨k', a'⟩ := t
  show PyData.eqv (.tuple [Lk.d k, An.d a]) (.tuple [Lk.d k', An.d a']) = _
  rw [PyData.eqv, PyData.eqvAll, PyData.eqvAll, PyData.eqvAll, eqv_lk, eqv_an]
  by_cases h1 : k = k' <;> by_cases h2 : a = a' <;> simp [h1, h2]
section
variable {X : Cx} {e a b c : Expr} {σ : L2.St} {B B1 : Hp} {n : Nat} {x y : Str}
theorem cd_eqS (hr : Room n X.A) (ha : PD X a σ B (.str x)) (hb : PD X b σ B (.str y)) (h1 : PyData.strOk x = true) (h2 : PyData.strOk y = true) : CD X .Eq a b σ B (decide (x = y)) := (cd_eq hr ha hb (shp_str h1) (shp_str h2)).cast (eqv_str x y)
theorem cd_neS (hr : Room n X.A) (ha : PD X a σ B (.str x)) (hb : PD X b σ B (.str y)) (h1 : PyData.strOk x = true) (h2 : PyData.strOk y = true) : CD X .NotEq a b σ B (!decide (x = y)) := (cd_ne hr ha hb (shp_str h1) (shp_str h2)).cast (by rw [eqv_str])
theorem cd_word {l : Bool} (hr : Room n X.A) (ha : PD X a σ B (.str (wd l))) (hb : PD X b σ B (.str "read")) : CD X .Eq a b σ B (!l) := (cd_eq hr ha hb (shp_wd l) shp_read).cast (eqv_read l)
theorem cd_wordL {l : Bool} (hr : Room n X.A) (ha : PD X a σ B (.str (wd l))) (hb : PD X b σ B (.str "list")) : CD X .Eq a b σ B l := (cd_eq hr ha hb (shp_wd l) (by decide +kernel)).cast (by cases l <;> decide +kernel)
theorem cd_wordN {l : Bool} (hr : Room n X.A) (ha : PD X a σ B (.str (wd l))) (hb : PD X b σ B (.str "list")) : CD X .NotEq a b σ B (!l) := (cd_ne hr ha hb (shp_wd l) (by decide +kernel)).cast (by cases l <;> decide +kernel)
end
theorem RAll.three {K : PySem.W.Frag} {H : Hp} {vs : List V} {d1 d2 d3 : PyData} (h : RAll K H vs [d1, d2, d3]) : ∃ u v w, vs = [u, v, w] ∧ R K H u d1 ∧ R K H v d2 ∧ R K H w d3 := by
  cases h with
  | cons h r =>
    obtain ⟨v, w, rfl, h2, h3⟩ := r.two
    exact ⟨_, _, _, rfl, h, h2, h3⟩
/-! ### the mirrors -/
abbrev entryOf (es : List Str) (n : Str) : Str := (es.find? fun e => decide (eName e = n)).getD ""
abbrev R_entry_of : List PyData → PyData → Prop := fun ds d => ∃ (es : List Str) (n : Str), ds = [.tuple (es.map .str), .str n] ∧ okEs es = true ∧ PyData.strOk n = true ∧ d = .str (entryOf es n)
def goneB (w : Str) (es : List Str) (k : Lk) (y : Str) : Bool := if entryOf es y = "" then true else if entryOf es y = y then k.l || !decide (k.p = joinP w y) else !k.l && decide (k.p = joinP w y)
def okY (w : Str) (k : Lk) (y : Str) : Bool := decide ((restS k.p w).length ≤ 1000) && (decide (y.length ≤ 1000) && (PyData.strOk y && PyData.strOk (joinP w y)))
def isGone (w : Str) (es : List Str) (k : Lk) : Option Bool := match nextO k.p w with
  | some y => if okY w k y = true then some (goneB w es k y) else none
  | none => none
abbrev R_is_gone : List PyData → PyData → Prop := fun ds d => ∃ (w : Str) (es : List Str) (k : Lk) (b : Bool), ds = [.str w, .tuple (es.map .str), k.d] ∧ w.length ≤ 1000 ∧ okEs es = true ∧ okK k = true ∧ isGone w es k = some b ∧ d = .bool b
def An.isNo : An → Bool
  | .no => true
  | _ => false
def isNoneBy (s : Sg) (k : Lk) : Option Bool :=
  if s.k.l = true then match s.a with
    | .no => some (beneath k.p s.k.p)
    | .nm es => if beneath k.p s.k.p = true then isGone s.k.p es k else some (!k.l && (decide (k.p = s.k.p) || beneath s.k.p k.p))
    | .tx _ => none
  else some (!s.a.isNo && ((beneath k.p s.k.p || (!k.l && near k.p s.k.p)) || (k.l && decide (k.p = s.k.p))))
abbrev R_is_none_by : List PyData → PyData → Prop := fun ds d => ∃ (s : Sg) (k : Lk) (b : Bool), ds = [s.d, k.d] ∧ okG s = true ∧ okK k = true ∧ isNoneBy s k = some b ∧ d = .bool b
def brings (s : Sg) (k : Lk) : Option (Option An) := if s.k = k then some (some s.a) else (isNoneBy s k).map fun b => if b = true then some .no else none
abbrev anD : Option An → PyData := oD fun a => .tuple [An.d a]
abbrev R_brings : List PyData → PyData → Prop := fun ds d => ∃ (s : Sg) (k : Lk) (r : Option An), ds = [s.d, k.d] ∧ okG s = true ∧ okK k = true ∧ brings s k = some r ∧ d = anD r
section
variable {P : Program} {w : World} {K : PySem.W.Frag} {mg : Str → Option Value} {base : Heap}
def findE (n : Str) : PyData → Option PyData
  | .str e => if eName e = n then some (.str e) else none
  | _ => none
theorem findE_map (n : Str) : ∀ l : List Str, (l.map PyData.str).findSome? (findE n) = (l.find? fun e => decide (eName e = n)).map PyData.str
  | [] => rfl
  | e :: l => by
    have ih := findE_map n l
    rw [List.map_cons, List.findSome?_cons, List.find?_cons, ih]
    by_cases h : eName e = n <;> simp [findE, h]
theorem fn_entry_of (D : IsDef K mg "entry_of" s_entry_of) (F1 : Fn P w K mg base CX0 "entry_name" 1 ["entry"] (SpR K R_entry_name)) : Fn P w K mg base CX0 "entry_of" 2 ["entries", "name"] (SpR K R_entry_of) := by
  refine fn_data D sc_entry_of (fun ds d h => by obtain ⟨_, _, rfl, _⟩ := h; rfl) (fun _ _ _ _ _ _ us hl => match us, hl with | [_, _], _ => rfl) fun f cdv A outer s H E vs B ds d hr h ra => ?_
  obtain ⟨es, n, rfl, oke, okn, rfl⟩ := h
  obtain ⟨v, v', rfl, r, r'⟩ := ra.two
  refine rd_for (U := fun σ1 => ∃ o, σ1 = [some v, some v', o]) (find := findE n) PassesOwn.never rfl (pi_tup pe_wp) (pg_name (i := 2) sc_entry_of.nd rfl (Or.inl rfl)) (src_tup (pd_var 0 rfl r)) ⟨_, rfl⟩ (fun d' hd v2 B2 σ1 s2 r2 u1 => ?_) (fun d' hd' => ?_) fun hno σ1 B2 s2 u1 => ?_
  · obtain ⟨e, he, rfl⟩ := List.mem_map.mp hd
    obtain ⟨o, rfl⟩ := u1
    have oe := okEs_e oke he
    refine ⟨_, gd_name, bd_if (d := .str e) (p := decide (eName e = n)) (cd_eqS hr (pd_call F1 hr (by decide) (by rfl) (ad_cons (pd_var 2 rfl r2) ad_nil) ⟨e, rfl, oe.1, rfl⟩) (pd_var 1 rfl (r'.mono s2)) oe.2.2.1 okn).td (fun z => ?_) fun z => ?_⟩
    · exact ⟨rd_ret (pd_var 2 rfl r2), by simp [findE, of_decide_eq_true z]⟩
    · have e1 : findE n (.str e) = none := by simp [findE, of_decide_eq_false z]
      rw [e1]
      exact bd_nil ⟨_, rfl⟩
  · rw [findE_map] at hd'
    obtain ⟨e, he, rfl⟩ := Option.map_eq_some_iff.mp hd'
    rw [entryOf, he]
    rfl
  · rw [findE_map] at hno
    rw [entryOf, Option.map_eq_none_iff.mp hno]
    exact rd_ret pd_str
theorem fn_is_gone (D : IsDef K mg "is_gone" s_is_gone) (F1 : Fn P w K mg base CX0 "next_name" 1 ["path", "folder"] (SpR K R_next_name)) (F2 : Fn P w K mg base CX0 "entry_of" 2 ["entries", "name"] (SpR K R_entry_of)) (F3 : Fn P w K mg base CX0 "joined" 1 ["folder", "name"] (SpR K R_joined)) : Fn P w K mg base CX0 "is_gone" 3 ["where", "entries", "look"] (SpR K R_is_gone) := by
  refine fn_data D sc_is_gone (fun ds d h => by obtain ⟨_, _, _, _, rfl, _⟩ := h; rfl) (fun _ _ _ _ _ _ us hl => match us, hl with | [_, _, _], _ => rfl) fun f cdv A outer s H E vs B ds d hr h ra => ?_
  obtain ⟨wh, es, k, b, rfl, okw, oke, okk, hb, rfl⟩ := h
  obtain ⟨v1, v2, v3, rfl, r1, r2, r3⟩ := ra.three
  unfold isGone at hb
  cases hy : nextO k.p wh with
  | none => rw [hy] at hb; cases hb
  | some y =>
    rw [hy] at hb
    simp only at hb
    by_cases hoy : okY wh k y = true
    · rw [if_pos hoy] at hb
      cases hb
      unfold okY at hoy
      simp only [Bool.and_eq_true, decide_eq_true_eq] at hoy
      obtain ⟨hl, hyl, hys, hjs⟩ := hoy
      have hkl := okK_l okk
      have hks := okK_s okk
      refine rd_asg (g := gPair K k.d (gName 3) (gName 4)) (pg_pair (pgs_cons (pg_name (i := 3) sc_is_gone.nd rfl (Or.inl rfl)) (pgs_cons (pg_name (i := 4) sc_is_gone.nd rfl (Or.inl rfl)) pgs_nil)) rfl) (pd_var 2 rfl r3) fun v B1 s1 q => ?_
      obtain ⟨u1, u2, q1, q2, gd⟩ := gd_pairQ (d1 := .str (wd k.l)) (d2 := .str k.p) rfl q
      refine ⟨_, gd gd_name gd_name, ?_⟩
      refine rd_set (i := 5) sc_is_gone.nd (d1 := .str y) (pd_call F1 hr (by decide) (by rfl) (ad_cons (pd_var 4 rfl q2) (ad_cons (pd_var 0 rfl (r1.mono s1)) ad_nil)) ⟨_, _, _, rfl, hkl, okw, hl, hy, rfl⟩) fun u3 B2 s2 q3 => ?_
      refine rd_set (i := 6) sc_is_gone.nd (d1 := .str (entryOf es y)) (pd_call F2 hr (by decide) (by rfl) (ad_cons (pd_var 1 rfl ((r2.mono s1).mono s2)) (ad_cons (pd_var 5 rfl q3) ad_nil)) ⟨_, _, rfl, oke, hys, rfl⟩) fun u4 B3 s3 q4 => ?_
      have hes : PyData.strOk (entryOf es y) = true := by
        unfold entryOf
        cases he : es.find? fun e => decide (eName e = y) with
        | none => decide +kernel
        | some e => exact (okEs_e oke (List.mem_of_find?_eq_some he)).2.2.2
      unfold goneB
      refine rd_if (cd_eqS hr (pd_var 6 rfl q4) pd_str hes (by decide +kernel)).td (fun z => ?_) fun z => ?_
      · rw [if_pos (of_decide_eq_true z)]
        exact rd_ret pd_bl
      · rw [if_neg (of_decide_eq_false z)]
        have r1' := ((r1.mono s1).mono s2).mono s3
        have q1' := (q1.mono s2).mono s3
        have q2' := (q2.mono s2).mono s3
        have q3' := q3.mono s3
        refine rd_if (cd_eqS hr (pd_var 6 rfl q4) (pd_var 5 rfl q3') hes hys).td (fun z => ?_) fun z => ?_
        · rw [if_pos (of_decide_eq_true z)]
          exact rd_ret (pd_or (cd_wordL hr (pd_var 3 rfl q1') pd_str).pd fun _ => pd_one (cd_neS hr (pd_var 4 rfl q2') (pd_call F3 hr (by decide) (by rfl) (ad_cons (pd_var 0 rfl r1') (ad_cons (pd_var 5 rfl q3') ad_nil)) ⟨_, _, rfl, okw, hyl, rfl⟩) hks hjs).pd)
        · rw [if_neg (of_decide_eq_false z)]
          exact rd_ret (pd_and (cd_word hr (pd_var 3 rfl q1') pd_str).pd fun _ => pd_one (cd_eqS hr (pd_var 4 rfl q2') (pd_call F3 hr (by decide) (by rfl) (ad_cons (pd_var 0 rfl r1') (ad_cons (pd_var 5 rfl q3') ad_nil)) ⟨_, _, rfl, okw, hyl, rfl⟩) hks hjs).pd)
    · rw [if_neg hoy] at hb
      cases hb
theorem isNon_an (a : An) : isNon a.d = a.isNo := by cases a <;> rfl
theorem fn_is_none_by (D : IsDef K mg "is_none_by" s_is_none_by) (F1 : Fn P w K mg base CX0 "is_beneath" 1 ["path", "other"] (SpR K R_is_beneath)) (F2 : Fn P w K mg base CX0 "is_near" 2 ["path", "other"] (SpR K R_is_near)) (F3 : Fn P w K mg base CX0 "is_gone" 3 ["where", "entries", "look"] (SpR K R_is_gone)) : Fn P w K mg base CX0 "is_none_by" 4 ["sight", "look"] (SpR K R_is_none_by) := by
  refine fn_data D sc_is_none_by (fun ds d h => by obtain ⟨_, _, _, rfl, _⟩ := h; rfl) (fun _ _ _ _ _ _ us hl => match us, hl with | [_, _], _ => rfl) fun f cdv A outer s H E vs B ds d hr h ra => ?_
  obtain ⟨⟨⟨l, wh⟩, a⟩, ⟨m, p⟩, b, rfl, okg, okk, hb, rfl⟩ := h
  obtain ⟨v1, v2, rfl, r1, r2⟩ := ra.two
  unfold okG at okg
  obtain ⟨okw, oka⟩ := Bool.and_eq_true_iff.mp okg
  have hwl : wh.length ≤ 1000 := okK_l okw
  have hws : PyData.strOk wh = true := okK_s okw
  have hpl : p.length ≤ 1000 := okK_l okk
  have hps : PyData.strOk p = true := okK_s okk
  refine rd_asg (g := gTup K 2 (gCons (gTup K 2 (gCons (gName 2) (gCons (gName 3) gNil))) (gCons (gName 4) gNil))) (pg_tup rfl (pgs_cons (pg_tup rfl (pgs_cons (pg_name (i := 2) sc_is_none_by.nd rfl (Or.inl rfl)) (pgs_cons (pg_name (i := 3) sc_is_none_by.nd rfl (Or.inl rfl)) pgs_nil))) (pgs_cons (pg_name (i := 4) sc_is_none_by.nd rfl (Or.inl rfl)) pgs_nil))) (pd_var 0 rfl r1) fun v B1 s1 q => ?_
  obtain ⟨u1, u2, q1, q2, gd⟩ := gd_pair q
  obtain ⟨u3, u4, q3, q4, gd2⟩ := gd_pair q1
  refine ⟨_, gd (gd2 gd_name gd_name) gd_name, ?_⟩
  refine rd_asg (g := gTup K 2 (gCons (gName 5) (gCons (gName 6) gNil))) (pg_tup rfl (pgs_cons (pg_name (i := 5) sc_is_none_by.nd rfl (Or.inl rfl)) (pgs_cons (pg_name (i := 6) sc_is_none_by.nd rfl (Or.inl rfl)) pgs_nil))) (pd_var 1 rfl (r2.mono s1)) fun v' B2 s2 q' => ?_
  obtain ⟨u5, u6, q5, q6, gd3⟩ := gd_pair q'
  refine ⟨_, gd3 gd_name gd_name, ?_⟩
  have q2 := q2.mono s2
  have q3 := q3.mono s2
  have q4 := q4.mono s2
  have r2' := (r2.mono s1).mono s2
  unfold isNoneBy at hb
  cases l with
  | false =>
    simp only [Bool.false_eq_true, if_false] at hb
    cases hb
    refine rd_if (p := true) (cd_word (l := false) hr (pd_var 2 rfl q3) pd_str).td (fun _ => ?_) (fun z => nomatch z)
    refine rd_set (i := 7) sc_is_none_by.nd (pd_or (pd_call F1 hr (by decide) (by rfl) (ad_cons (pd_var 6 rfl q6) (ad_cons (pd_var 3 rfl q4) ad_nil)) ⟨_, _, rfl, hwl, rfl⟩) fun _ => pd_one (pd_and (cd_word (l := m) hr (pd_var 5 rfl q5) pd_str).pd fun _ => pd_one (pd_call F2 hr (by decide) (by rfl) (ad_cons (pd_var 6 rfl q6) (ad_cons (pd_var 3 rfl q4) ad_nil)) ⟨_, _, rfl, hwl, hpl, rfl⟩))) fun u7 B3 s3 q7 => ?_
    exact rd_ret (pd_and (cd_notN (pd_var 4 rfl (q2.mono s3)) (hp := by rw [isNon_an])).pd fun _ => pd_one (pd_or (pd_var 7 rfl q7) fun _ => pd_one (pd_and (cd_wordL (l := m) hr (pd_var 5 rfl (q5.mono s3)) pd_str).pd fun _ => pd_one (cd_eqS hr (pd_var 6 rfl (q6.mono s3)) (pd_var 3 rfl (q4.mono s3)) hps hws).pd)))
  | true =>
    simp only [if_true] at hb
    refine rd_if (p := false) (cd_word (l := true) hr (pd_var 2 rfl q3) pd_str).td (fun z => nomatch z) fun _ => ?_
    cases a with
    | no =>
      cases hb
      exact rd_if (p := true) (cd_isN (pd_var 4 rfl q2)).td (fun _ => rd_ret (pd_call F1 hr (by decide) (by rfl) (ad_cons (pd_var 6 rfl q6) (ad_cons (pd_var 3 rfl q4) ad_nil)) ⟨_, _, rfl, hwl, rfl⟩)) (fun z => nomatch z)
    | tx s => cases hb
    | nm es =>
      have oke : okEs es = true := oka
      refine rd_if (p := false) (cd_isN (pd_var 4 rfl q2)).td (fun z => nomatch z) fun _ => ?_
      refine rd_if (td_val (pd_call F1 hr (by decide) (by rfl) (ad_cons (pd_var 6 rfl q6) (ad_cons (pd_var 3 rfl q4) ad_nil)) ⟨_, _, rfl, hwl, rfl⟩)) (fun z => ?_) fun z => ?_
      · simp only [z, if_true] at hb
        exact rd_ret (pd_call F3 hr (by decide) (by rfl) (ad_cons (pd_var 3 rfl q4) (ad_cons (pd_var 4 rfl q2) (ad_cons (pd_var 1 rfl r2') ad_nil))) ⟨wh, es, ⟨m, p⟩, b, rfl, hwl, oke, okk, hb, rfl⟩)
      · simp only [z, Bool.false_eq_true, if_false] at hb
        cases hb
        exact rd_ret (pd_and (cd_word (l := m) hr (pd_var 5 rfl q5) pd_str).pd fun _ => pd_one (pd_or (cd_eqS hr (pd_var 6 rfl q6) (pd_var 3 rfl q4) hps hws).pd fun _ => pd_one (pd_call F1 hr (by decide) (by rfl) (ad_cons (pd_var 3 rfl q4) (ad_cons (pd_var 6 rfl q6) ad_nil)) ⟨_, _, rfl, hpl, rfl⟩)))
theorem fn_brings (D : IsDef K mg "brings" s_brings) (F1 : Fn P w K mg base CX0 "is_none_by" 4 ["sight", "look"] (SpR K R_is_none_by)) : Fn P w K mg base CX0 "brings" 5 ["sight", "look"] (SpR K R_brings) := by
  refine fn_data D sc_brings (fun ds d h => by obtain ⟨_, _, _, rfl, _⟩ := h; rfl) (fun _ _ _ _ _ _ us hl => match us, hl with | [_, _], _ => rfl) fun f cdv A outer s H E vs B ds d hr h ra => ?_
  obtain ⟨sg, k, b, rfl, okg, okk, hb, rfl⟩ := h
  obtain ⟨v1, v2, rfl, r1, r2⟩ := ra.two
  have okg' := okg
  unfold okG at okg'
  obtain ⟨okw, oka⟩ := Bool.and_eq_true_iff.mp okg'
  unfold brings at hb
  refine rd_if ((cd_eq hr (pd_ixT (m := 0) (pd_var 0 rfl r1) pd_int rfl) (pd_var 1 rfl r2) (shp_lk okw) (shp_lk okk)).cast (eqv_lk _ _)).td (fun z => ?_) fun z => ?_
  · rw [if_pos (of_decide_eq_true z)] at hb
    cases hb
    exact rd_ret (pd_tup (ad_cons (pd_ixT (m := 1) (pd_var 0 rfl r1) pd_int rfl) ad_nil) (show 1 ≤ 100000 by decide))
  · rw [if_neg (of_decide_eq_false z)] at hb
    obtain ⟨c, hc, rfl⟩ := Option.map_eq_some_iff.mp hb
    refine rd_ret (pd_if (td_val (pd_call F1 hr (by decide) (by rfl) (ad_cons (pd_var 0 rfl r1) (ad_cons (pd_var 1 rfl r2) ad_nil)) ⟨sg, k, c, rfl, okg, okk, hc, rfl⟩)) (fun z => ?_) fun z => ?_)
    · rw [z]
      exact pd_tup (ad_cons pd_non ad_nil) (show 1 ≤ 100000 by decide)
    · rw [z]
      exact pd_non
end
end K8

set_option Elab.async false
set_option linter.all false
set_option maxRecDepth 100000
set_option maxHeartbeats 4000000
/-! K8u: sets of sights: brought, lacked, apart. -/
namespace K8
open PySem PySem.Spec PyProof.Rows L2
def broughtB (ss : List Sg) (t : Sg) : Bool := ss.any fun s => decide (brings s t.k = some (some t.a))
/-- what the sights of ss say of k is within the model -/
def okBr (ss : List Sg) (k : Lk) : Bool := ss.all fun s => (brings s k).isSome
abbrev R_is_brought : List PyData → PyData → Prop := fun ds d => ∃ (ss : List Sg) (t : Sg), ds = [.list (ss.map Sg.d), t.d] ∧ ss.length ≤ 1000 ∧ ss.all okG = true ∧ okG t = true ∧ okBr ss t.k = true ∧ d = .bool (broughtB ss t)
def lackE (f : Str) (t : Lk) (e : Str) : Option Bool := if t.p = joinP f (eName e) then some (decide (t.l = Txt.endswith e "/")) else none
def lackedB (s t : Sg) : Bool := match s.a with
  | .nm es => if (s.k.l && t.a.isNo) = true then (es.findSome? (lackE s.k.p t.k)).getD false else false
  | _ => false
abbrev R_is_lacked : List PyData → PyData → Prop := fun ds d => ∃ (s t : Sg), ds = [s.d, t.d] ∧ okG s = true ∧ okG t = true ∧ (∀ es, s.a = .nm es → es.all (fun e => PyData.strOk (joinP s.k.p (eName e))) = true) ∧ d = .bool (lackedB s t)
def badB (r : Option (Option An)) (a : An) : Bool := match r with
  | some (some b) => !decide (b = a)
  | _ => false
def apartB (s t : Sg) : Bool := (badB (brings s t.k) t.a || badB (brings t s.k) s.a) || (lackedB s t || lackedB t s)
def okJ (s : Sg) : Bool := match s.a with
  | .nm es => es.all fun e => PyData.strOk (joinP s.k.p (eName e))
  | _ => true
def okAp (s t : Sg) : Bool := ((brings s t.k).isSome && (brings t s.k).isSome) && (okJ s && okJ t)
abbrev R_are_apart : List PyData → PyData → Prop := fun ds d => ∃ (s t : Sg), ds = [s.d, t.d] ∧ okG s = true ∧ okG t = true ∧ okAp s t = true ∧ d = .bool (apartB s t)
theorem okG_k {s : Sg} (h : okG s = true) : okK s.k = true := (Bool.and_eq_true_iff.mp h).1
theorem okG_a {s : Sg} (h : okG s = true) : okA s.k.l s.a = true := (Bool.and_eq_true_iff.mp h).2
theorem shp_anD {s : Sg} {k : Lk} {r : Option An} (h : okG s = true) (hb : brings s k = some r) : SeqAt.shaped (anD r) = true := by
  unfold brings at hb
  split at hb
  · cases hb
    exact shp_an1 (okG_a h)
  · obtain ⟨c, _, rfl⟩ := Option.map_eq_some_iff.mp hb
    cases c
    · rfl
    · exact shp_an1 (l := false) (a := .no) rfl
theorem eqv_anD (r : Option An) (a : An) : PyData.eqv (anD r) (.tuple [a.d]) = decide (r = some a) := by
  cases r with
  | none => simp [PyData.eqv]
  | some b =>
    show PyData.eqv (.tuple [b.d]) (.tuple [a.d]) = _
    rw [eqv_an1]
    simp
theorem brought_map (ss : List Sg) (t : Sg) : (ss.map fun s => decide (brings s t.k = some (some t.a))).any id = broughtB ss t := by rw [any_id]; rfl
section
variable {X : Cx} {a b : Expr} {σ : L2.St} {B : Hp} {d d1 d2 : PyData} {sts : List Stmt} {pos : Pos}
theorem rd_par {i j : Nat} {x y : Str} {px py pt : Pos} {kt k2 : Nat} {pt2 : Pos} (hc : X.calm = true) (hN : X.N.Nodup) (h : AD X [a, b] σ B [d1, d2]) (k : ∀ v1 v2 B1, Same B B1 → R X.K B1 v1 d1 → R X.K B1 v2 d2 → RD X sts ((σ.set i (some v1)).set j (some v2)) B1 d) (hi : X.N[i]? = some x := by rfl) (hj : X.N[j]? = some y := by rfl) (hij : i ≠ j := by decide)
    (hx : X.env.scope.names.lookup x = some .local := by rfl) (hy : X.env.scope.names.lookup y = some .local := by rfl) (hw : swappedStores [.Tuple [.Name x px, .Name y py] kt pt] (.Tuple [a, b] k2 pt2) X.env = pure (some [x, y]) := by rfl)
    (hs : swapsWithSole [.Tuple [.Name x px, .Name y py] kt pt] (.Tuple [a, b] k2 pt2) pos.line X.env = pure false := by rfl) : RD X (.Assign [.Tuple [.Name x px, .Name y py] kt pt] (.Tuple [a, b] k2 pt2) pos :: sts) σ B d := fun H hb D q =>
  wpB_cons (wpS_of (ps_par hc hN hi hj hij hx hy pa_wp hw hs) (h H hb _ fun vs B1 H1 f1 r1 => by
    obtain ⟨v1, v2, rfl, q1, q2⟩ := r1.two
    exact ⟨v1, v2, rfl, k v1 v2 B1 f1.bb q1 q2 H1 f1.bh D fun v B2 H2 f2 r2 => q v B2 H2 (f1.trans f2) r2⟩))
end
section
variable {P : Program} {w : World} {K : PySem.W.Frag} {mg : Str → Option Value} {base : Heap}
def asSg (ss : List Sg) (d : PyData) : Option Sg := ss.find? fun s => PyData.eqv s.d d
theorem asSg_d {ss : List Sg} {s : Sg} (h : s ∈ ss) : asSg ss s.d = some s := by
  induction ss with
  | nil => cases h
  | cons t r ih =>
    unfold asSg
    rw [List.find?_cons]
    by_cases e : t = s
    · subst e
      rw [eqv_sg]
      simp
    · rw [eqv_sg, decide_eq_false e]
      rcases List.mem_cons.mp h with q | q
      · exact absurd q.symm e
      · exact ih q
theorem fn_is_brought (D : IsDef K mg "is_brought" s_is_brought) (T : Bl mg) (F1 : Fn P w K mg base CX0 "brings" 5 ["sight", "look"] (SpR K R_brings)) : Fn P w K mg base CX0 "is_brought" 6 ["sights", "sight"] (SpR K R_is_brought) := by
  refine fn_data D sc_is_brought (fun ds d h => by obtain ⟨_, _, rfl, _⟩ := h; rfl) (fun _ _ _ _ _ _ us hl => match us, hl with | [_, _], _ => rfl) fun f cdv A outer s H E vs B ds d hr h ra => ?_
  obtain ⟨ss, t, rfl, hz, oks, okt, okb, rfl⟩ := h
  obtain ⟨v1, v2, rfl, r1, r2⟩ := ra.two
  rw [← brought_map]
  refine rd_ret (pd_any (bs := ss.map fun s => decide (brings s t.k = some (some t.a))) rfl (by rfl) T.any (PD.cast (LD.pd (ld_gen [("one", 2)] (pi_list pe_wp) (src_list (pd_var 0 rfl r1)) (g := gName 2) (f := fun d => .bool (match asSg ss d with | some s => decide (brings s t.k = some (some t.a)) | none => false)) rfl sc_is_brought.nd (blkOk_by (N := N_is_brought) (sc := defScope s_is_brought) (by decide +kernel)) (fun _ _ _ _ _ => pg_name (i := 2) sc_is_brought.nd rfl (Or.inl rfl)) (by rw [List.length_map]; omega) fun c hc v B2 s2 q => ⟨_, gd_name, rfl, fun _ _ _ _ _ => ?_⟩)) ?_))
  · obtain ⟨sg, hm, rfl⟩ := List.mem_map.mp hc
    rw [asSg_d hm]
    have okg := List.all_eq_true.mp oks sg hm
    obtain ⟨br, hbr⟩ := Option.isSome_iff_exists.mp (List.all_eq_true.mp okb sg hm)
    have r2' := r2.mono s2
    refine PD.cast (CD.pd (cd_eq hr (pd_call F1 hr (Nat.le_refl _) (by rfl) (ad_cons (pd_var 2 rfl q) (ad_cons (pd_ixT (m := 0) (pd_var 1 rfl r2') pd_int rfl) ad_nil)) ⟨sg, t.k, br, rfl, okg, okG_k okt, hbr, rfl⟩) (pd_tup (ad_cons (pd_ixT (m := 1) (pd_var 1 rfl r2') pd_int rfl) ad_nil) (show 1 ≤ 100000 by decide)) (shp_anD okg hbr) (shp_an1 (okG_a okt)))) ?_
    rw [eqv_anD]
    show PyData.bool _ = PyData.bool (decide (brings sg t.k = some (some t.a)))
    rw [hbr]
    simp
  · congr 1
    rw [List.map_map, List.map_map]
    refine List.map_congr_left fun sg hm => ?_
    show PyData.bool (match asSg ss sg.d with | some s => decide (brings s t.k = some (some t.a)) | none => false) = _
    rw [asSg_d hm]
    rfl
def lackD (f : Str) (t : Lk) : PyData → Option PyData
  | .str e => (lackE f t e).map .bool
  | _ => none
theorem lackD_map (f : Str) (t : Lk) : ∀ l : List Str, (l.map PyData.str).findSome? (lackD f t) = (l.findSome? (lackE f t)).map PyData.bool
  | [] => rfl
  | e :: l => by
    have ih := lackD_map f t l
    rw [List.map_cons, List.findSome?_cons, List.findSome?_cons, ih]
    cases h : lackE f t e <;> simp [lackD, h]
theorem eqv_wd (l m : Bool) : PyData.eqv (.str (wd l)) (.str (wd m)) = decide (l = m) := by
  rw [eqv_str]
  exact decide_eq_decide.mpr wd_inj
theorem fn_is_lacked (D : IsDef K mg "is_lacked" s_is_lacked) (F1 : Fn P w K mg base CX0 "entry_name" 1 ["entry"] (SpR K R_entry_name)) (F3 : Fn P w K mg base CX0 "joined" 1 ["folder", "name"] (SpR K R_joined)) : Fn P w K mg base CX0 "is_lacked" 2 ["sight", "other"] (SpR K R_is_lacked) := by
  refine fn_data D sc_is_lacked (fun ds d h => by obtain ⟨_, _, rfl, _⟩ := h; rfl) (fun _ _ _ _ _ _ us hl => match us, hl with | [_, _], _ => rfl) fun f cdv A outer s H E vs B ds d hr h ra => ?_
  obtain ⟨⟨⟨l, wh⟩, a⟩, ⟨⟨m, p⟩, a'⟩, rfl, okg, okt, okj, rfl⟩ := h
  obtain ⟨v1, v2, rfl, r1, r2⟩ := ra.two
  have hwl : wh.length ≤ 1000 := okK_l (okG_k okg)
  have hws : PyData.strOk wh = true := okK_s (okG_k okg)
  have hpl : p.length ≤ 1000 := okK_l (okG_k okt)
  have hps : PyData.strOk p = true := okK_s (okG_k okt)
  have oka : okA l a = true := okG_a okg
  refine rd_asg (g := gTup K 2 (gCons (gTup K 2 (gCons (gName 2) (gCons (gName 3) gNil))) (gCons (gName 4) gNil))) (pg_tup rfl (pgs_cons (pg_tup rfl (pgs_cons (pg_name (i := 2) sc_is_lacked.nd rfl (Or.inl rfl)) (pgs_cons (pg_name (i := 3) sc_is_lacked.nd rfl (Or.inl rfl)) pgs_nil))) (pgs_cons (pg_name (i := 4) sc_is_lacked.nd rfl (Or.inl rfl)) pgs_nil))) (pd_var 1 rfl r2) fun v B1 s1 q => ?_
  obtain ⟨u1, u2, q1, q2, gd⟩ := gd_pair q
  obtain ⟨u3, u4, q3, q4, gd2⟩ := gd_pair q1
  refine ⟨_, gd (gd2 gd_name gd_name) gd_name, ?_⟩
  have r1' := r1.mono s1
  refine rd_if (p := !l || (a.isNo || !a'.isNo)) (WD.td (wd_or (CD.td (cd_wordN (l := l) hr (pd_ixT (m := 0) (pd_ixT (m := 0) (pd_var 0 rfl r1') pd_int rfl) pd_int rfl) pd_str)) fun _ => wd_or (CD.td (cd_isN (d := a.d) (pd_ixT (m := 1) (pd_var 0 rfl r1') pd_int rfl) (hp := isNon_an a))) fun _ => wd_or1 (CD.td (cd_notN (d := a'.d) (pd_var 4 rfl q2) (hp := by rw [isNon_an]))))) (fun z => ?_) fun z => ?_
  · have e : lackedB ⟨⟨l, wh⟩, a⟩ ⟨⟨m, p⟩, a'⟩ = false := by
      cases a with
      | nm es =>
        have e1 : (l && a'.isNo) = false := by
          cases l <;> cases hn : a'.isNo <;> simp_all [An.isNo]
        simp only [lackedB, e1]
        rfl
      | _ => rfl
    rw [e]
    exact rd_ret pd_bl
  · have z2 := Bool.or_eq_false_iff.mp z
    have z3 := Bool.or_eq_false_iff.mp z2.2
    have el : l = true := by simpa using z2.1
    have en : a'.isNo = true := by simpa using z3.2
    subst el
    cases a with
    | no => cases z3.1
    | tx s => cases oka
    | nm es =>
      have oke : okEs es = true := oka
      have hj := List.all_eq_true.mp (okj es rfl)
      have e : lackedB ⟨⟨true, wh⟩, .nm es⟩ ⟨⟨m, p⟩, a'⟩ = (es.findSome? (lackE wh ⟨m, p⟩)).getD false := by
        simp only [lackedB, en]
        rfl
      rw [e]
      have r1e := r1'
      refine rd_for (ds := es.map .str) (U := fun σ1 => ∃ o, σ1 = [some v1, some v2, some u3, some u4, some u2, o]) (find := lackD wh ⟨m, p⟩) PassesOwn.never rfl (pi_tup pe_wp) (pg_name (i := 5) sc_is_lacked.nd rfl (Or.inl rfl)) (src_tup (pd_ixT (m := 1) (pd_var 0 rfl r1') pd_int rfl)) ⟨_, rfl⟩ (fun d' hd v2 B2 σ1 s2 q5 u => ?_) (fun d' hd' => ?_) fun hno σ1 B2 s2 u => ?_
      · obtain ⟨e, he, rfl⟩ := List.mem_map.mp hd
        obtain ⟨o, rfl⟩ := u
        have oe := okEs_e oke he
        refine ⟨_, gd_name, bd_if (d := .bool (decide (m = Txt.endswith e "/"))) (p := decide (p = joinP wh (eName e))) (CD.td (cd_eqS hr (pd_var 3 rfl (q4.mono s2)) (pd_call F3 hr (by decide) (by rfl) (ad_cons (pd_ixT (m := 1) (pd_ixT (m := 0) (pd_var 0 rfl (r1'.mono s2)) pd_int rfl) pd_int rfl) (ad_cons (pd_call F1 hr (by decide) (by rfl) (ad_cons (pd_var 5 rfl q5) ad_nil) ⟨e, rfl, oe.1, rfl⟩) ad_nil)) ⟨wh, eName e, rfl, hwl, oe.2.1, rfl⟩) hps (hj e he))) (fun z => ?_) fun z => ?_⟩
        · refine ⟨rd_ret (PD.cast (CD.pd (cd_eq hr (d1 := .str (wd m)) (d2 := .str (wd (Txt.endswith e "/"))) (pd_var 2 rfl (q3.mono s2)) (pd_if (td_val (pd_ends (pd_var 5 rfl q5) pd_str)) (fun z => by rw [z]; exact pd_str) fun z => by rw [z]; exact pd_str) (shp_wd _) (shp_wd _))) (by rw [eqv_wd])), ?_⟩
          simp [lackD, lackE, of_decide_eq_true z]
        · have e1 : lackD wh ⟨m, p⟩ (.str e) = none := by simp [lackD, lackE, of_decide_eq_false z]
          rw [e1]
          exact bd_nil ⟨_, rfl⟩
      · rw [lackD_map] at hd'
        obtain ⟨e, he, rfl⟩ := Option.map_eq_some_iff.mp hd'
        rw [he]
        rfl
      · rw [lackD_map] at hno
        rw [Option.map_eq_none_iff.mp hno]
        exact rd_ret pd_bl
theorem fn_are_apart (D : IsDef K mg "are_apart" s_are_apart) (F1 : Fn P w K mg base CX0 "brings" 5 ["sight", "look"] (SpR K R_brings)) (F2 : Fn P w K mg base CX0 "is_lacked" 2 ["sight", "other"] (SpR K R_is_lacked)) : Fn P w K mg base CX0 "are_apart" 6 ["one", "other"] (SpR K R_are_apart) := by
  refine fn_data D sc_are_apart (fun ds d h => by obtain ⟨_, _, rfl, _⟩ := h; rfl) (fun _ _ _ _ _ _ us hl => match us, hl with | [_, _], _ => rfl) fun f cdv A outer s H E vs B ds d hr h ra => ?_
  obtain ⟨sg, t, rfl, okg, okt, oka, rfl⟩ := h
  obtain ⟨v1, v2, rfl, r1, r2⟩ := ra.two
  unfold okAp at oka
  obtain ⟨o1, o2⟩ := Bool.and_eq_true_iff.mp oka
  obtain ⟨o3, o4⟩ := Bool.and_eq_true_iff.mp o1
  obtain ⟨o5, o6⟩ := Bool.and_eq_true_iff.mp o2
  obtain ⟨b1, hb1⟩ := Option.isSome_iff_exists.mp o3
  obtain ⟨b2, hb2⟩ := Option.isSome_iff_exists.mp o4
  have hj : ∀ {s : Sg}, okJ s = true → ∀ es, s.a = .nm es → es.all (fun e => PyData.strOk (joinP s.k.p (eName e))) = true := fun {s} h es e => by
    unfold okJ at h
    rw [e] at h
    exact h
  refine rd_par (i := 2) (j := 3) (d1 := anD b1) (d2 := anD b2) rfl sc_are_apart.nd (ad_cons (pd_call F1 hr (by decide) (by rfl) (ad_cons (pd_var 0 rfl r1) (ad_cons (pd_ixT (m := 0) (pd_var 1 rfl r2) pd_int rfl) ad_nil)) ⟨sg, t.k, b1, rfl, okg, okG_k okt, hb1, rfl⟩) (ad_cons (pd_call F1 hr (by decide) (by rfl) (ad_cons (pd_var 1 rfl r2) (ad_cons (pd_ixT (m := 0) (pd_var 0 rfl r1) pd_int rfl) ad_nil)) ⟨t, sg.k, b2, rfl, okt, okG_k okg, hb2, rfl⟩) ad_nil)) fun u1 u2 B1 s1 q1 q2 => ?_
  have r1' := r1.mono s1
  have r2' := r2.mono s1
  have nn : ∀ r : Option An, (!isNon (anD r)) = r.isSome := fun r => by cases r <;> rfl
  have e0 : apartB sg t = ((badB (some b1) t.a || badB (some b2) sg.a) || (lackedB sg t || lackedB t sg)) := by
    unfold apartB
    rw [hb1, hb2]
  rw [e0]
  have bad : ∀ (r : Option An) (a : An), badB (some r) a = (r.isSome && !decide (r = some a)) := fun r a => by
    cases r with
    | none => rfl
    | some b => simp [badB]
  refine rd_if (p := badB (some b1) t.a || badB (some b2) sg.a) ?_ (fun z => ?_) fun z => ?_
  · rw [bad, bad]
    refine WD.td (wd_or (WD.td (wd_and (CD.td (cd_notN (d := anD b1) (pd_var 2 rfl q1) (hp := nn b1))) fun _ => wd_and1 (CD.td ?_))) fun _ => wd_or1 (WD.td (wd_and (CD.td (cd_notN (d := anD b2) (pd_var 3 rfl q2) (hp := nn b2))) fun _ => wd_and1 (CD.td ?_))))
    · exact CD.cast (cd_ne hr (pd_var 2 rfl q1) (pd_tup (ad_cons (pd_ixT (m := 1) (pd_var 1 rfl r2') pd_int rfl) ad_nil) (show 1 ≤ 100000 by decide)) (shp_anD okg hb1) (shp_an1 (okG_a okt))) (by rw [eqv_anD])
    · exact CD.cast (cd_ne hr (pd_var 3 rfl q2) (pd_tup (ad_cons (pd_ixT (m := 1) (pd_var 0 rfl r1') pd_int rfl) ad_nil) (show 1 ≤ 100000 by decide)) (shp_anD okt hb2) (shp_an1 (okG_a okg))) (by rw [eqv_anD])
  · rw [z]
    exact rd_ret pd_bl
  · rw [z, Bool.false_or]
    exact rd_ret (pd_or (pd_call F2 hr (by decide) (by rfl) (ad_cons (pd_var 0 rfl r1') (ad_cons (pd_var 1 rfl r2') ad_nil)) ⟨sg, t, rfl, okg, okt, hj o5, rfl⟩) fun _ => pd_one (pd_call F2 hr (by decide) (by rfl) (ad_cons (pd_var 1 rfl r2') (ad_cons (pd_var 0 rfl r1') ad_nil)) ⟨t, sg, rfl, okt, okg, hj o6, rfl⟩))
def apartAt (ss : List Sg) (i j : Nat) : Bool := match ss[i]?, ss[j]? with
  | some s, some t => apartB s t
  | _, _ => false
def innerF (ss : List Sg) (i : Nat) : Option (Nat × Nat) := (List.range (ss.length - (i + 1))).findSome? fun j => if apartAt ss i (i + 1 + j) = true then some (i, i + 1 + j) else none
def firstApart (ss : List Sg) : Option (Nat × Nat) := (List.range ss.length).findSome? (innerF ss)
def pairD (p : Nat × Nat) : PyData := .tuple [.int (p.1 : Nat), .int (p.2 : Nat)]
abbrev R_first_apart : List PyData → PyData → Prop := fun ds d => ∃ (ss : List Sg), ds = [.list (ss.map Sg.d)] ∧ ss.length ≤ 1000 ∧ ss.all okG = true ∧ (ss.all fun s => ss.all fun t => okAp s t) = true ∧ d = oD pairD (firstApart ss)
theorem fs_map {α β γ : Type} (f : α → Option β) (g : β → γ) : ∀ l : List α, (l.findSome? f).map g = l.findSome? fun x => (f x).map g
  | [] => rfl
  | x :: l => by
    rw [List.findSome?_cons, List.findSome?_cons, ← fs_map f g l]
    cases f x <;> rfl
theorem fs_src {α β γ : Type} (f : β → Option γ) (g : α → β) : ∀ l : List α, (l.map g).findSome? f = l.findSome? fun x => f (g x)
  | [] => rfl
  | x :: l => by
    rw [List.map_cons, List.findSome?_cons, List.findSome?_cons, fs_src f g l]
def findJ (ss : List Sg) (i : Nat) : PyData → Option PyData
  | .int j => if apartAt ss i j.toNat = true then some (pairD (i, j.toNat)) else none
  | _ => none
def findI (ss : List Sg) : PyData → Option PyData
  | .tuple [.int i, _] => (innerF ss i.toNat).map pairD
  | _ => none
theorem findJ_eq (ss : List Sg) (i : Nat) : ((List.range (ss.length - (i + 1))).map fun j => PyData.int ((i + 1 + j : Nat))).findSome? (findJ ss i) = (innerF ss i).map pairD := by
  rw [fs_src, innerF, fs_map]
  congr 1
  funext j
  show (if apartAt ss i (((i + 1 + j : Nat) : Int)).toNat = true then some (pairD (i, (((i + 1 + j : Nat) : Int)).toNat)) else none) = _
  rw [Int.toNat_natCast]
  by_cases h : apartAt ss i (i + 1 + j) = true <;> simp [h]
theorem findI_eq (ss : List Sg) : ((List.range (ss.map Sg.d).length).map fun i => PyData.tuple [.int (i : Nat), (ss.map Sg.d).getD i .none]).findSome? (findI ss) = (firstApart ss).map pairD := by
  rw [fs_src, firstApart, fs_map, List.length_map]
  rfl
theorem fn_first_apart (D : IsDef K mg "first_apart" s_first_apart) (T : Bl mg) (F1 : Fn P w K mg base CX0 "are_apart" 6 ["one", "other"] (SpR K R_are_apart)) : Fn P w K mg base CX0 "first_apart" 7 ["sights"] (SpR K R_first_apart) := by
  refine fn_data D sc_first_apart (fun ds d h => by obtain ⟨_, rfl, _⟩ := h; rfl) (fun _ _ _ _ _ _ us hl => match us, hl with | [_], _ => rfl) fun f cdv A outer s H E vs B ds d hr h ra => ?_
  obtain ⟨ss, rfl, hz, okg, oka, rfl⟩ := h
  obtain ⟨v, rfl, r⟩ := ra.one
  have okap : ∀ s ∈ ss, ∀ t ∈ ss, okAp s t = true := fun s hs t ht => List.all_eq_true.mp (List.all_eq_true.mp oka s hs) t ht
  refine rd_for (ds := (List.range (ss.map Sg.d).length).map fun i => PyData.tuple [.int (i : Nat), (ss.map Sg.d).getD i .none]) (U := fun σ1 => ∃ o1 o2 o3, σ1 = [some v, o1, o2, o3]) (find := findI ss) PassesOwn.never rfl (pi_enum (by rfl) T.enumerate pa_wp) (pg_tup rfl (pgs_cons (pg_name (i := 1) sc_first_apart.nd rfl (Or.inl rfl)) (pgs_cons (pg_name (i := 2) sc_first_apart.nd rfl (Or.inl rfl)) pgs_nil))) (src_enumL (pd_var 0 rfl r)) ⟨_, _, _, rfl⟩ (fun d' hd v2 B2 σ1 s2 r2 u1 => ?_) (fun d' hd' => ?_) fun hno σ1 B2 s2 u1 => ?_
  · obtain ⟨i, hi, rfl⟩ := List.mem_map.mp hd
    obtain ⟨o1, o2, o3, rfl⟩ := u1
    have hi' : i < ss.length := by
      have := List.mem_range.mp hi
      rwa [List.length_map] at this
    obtain ⟨sg, hsg⟩ : ∃ sg, ss[i]? = some sg := ⟨ss[i], by simp [hi']⟩
    have esg : (ss.map Sg.d).getD i .none = sg.d := by
      rw [List.getD_eq_getElem?_getD, List.getElem?_map, hsg]
      rfl
    rw [esg] at r2 ⊢
    obtain ⟨v3, v4, r3, r4, gd⟩ := gd_pair r2
    refine ⟨_, gd gd_name gd_name, ?_⟩
    have rr := r.mono s2
    refine bd_for (ds := (List.range (ss.length - (i + 1))).map fun j => PyData.int ((i + 1 + j : Nat))) (U := fun σ1 => ∃ o3, σ1 = [some v, some v3, some v4, o3]) (find := findJ ss i) PassesOwn.never rfl (pi_range2 (by rfl) T.range pa_wp) (pg_name (i := 3) sc_first_apart.nd rfl (Or.inl rfl)) (PD.cast (pd_add (pd_var 1 rfl r3) pd_int) (by rfl) |> fun h1 => src_range2 (m := i + 1) (n := ss.length) h1 (PD.cast (pd_lenL (by rfl) T.len (pd_var 0 rfl rr)) (by rw [List.length_map])) (by omega) (by omega)) ⟨_, rfl⟩ (fun d' hd v2 B3 σ1 s3 r5 u1 => ?_) (fun d' hd' => ?_) fun hno σ1 B3 s3 u1 => ?_
    · obtain ⟨j, hj, rfl⟩ := List.mem_map.mp hd
      obtain ⟨o3, rfl⟩ := u1
      have hj' : i + 1 + j < ss.length := by
        have := List.mem_range.mp hj
        omega
      obtain ⟨t, ht⟩ : ∃ t, ss[i + 1 + j]? = some t := ⟨ss[i + 1 + j], by simp [hj']⟩
      have ms := List.mem_of_getElem? hsg
      have mt := List.mem_of_getElem? ht
      have ea : apartAt ss i (i + 1 + j) = apartB sg t := by
        unfold apartAt
        rw [hsg, ht]
      have ej : findJ ss i (.int ((i + 1 + j : Nat))) = if apartB sg t = true then some (pairD (i, i + 1 + j)) else none := by
        show (if apartAt ss i (((i + 1 + j : Nat) : Int)).toNat = true then some (pairD (i, (((i + 1 + j : Nat) : Int)).toNat)) else none) = _
        rw [Int.toNat_natCast, ea]
      rw [ej]
      refine ⟨_, gd_name, bd_if (d := pairD (i, i + 1 + j)) (p := apartB sg t) (td_val (pd_call F1 hr (by decide) (by rfl) (ad_cons (pd_var 2 rfl (r4.mono s3)) (ad_cons (pd_ixL (m := i + 1 + j) (pd_var 0 rfl (rr.mono s3)) (pd_var 3 rfl r5) (by rw [List.getElem?_map, ht]; rfl)) ad_nil)) ⟨sg, t, rfl, List.all_eq_true.mp okg sg ms, List.all_eq_true.mp okg t mt, okap sg ms t mt, rfl⟩)) (fun z => ?_) fun z => ?_⟩
      · rw [if_pos z]
        exact ⟨rd_ret (pd_tup (ad_cons (pd_var 1 rfl (r3.mono s3)) (ad_cons (pd_var 3 rfl r5) ad_nil)) (show 2 ≤ 100000 by decide)), rfl⟩
      · rw [if_neg (by rw [z]; decide)]
        exact bd_nil ⟨_, rfl⟩
    · rw [findJ_eq] at hd'
      rw [← hd']
      rfl
    · rw [findJ_eq] at hno
      have e : findI ss (.tuple [.int (i : Nat), sg.d]) = none := hno
      rw [e]
      obtain ⟨o3, rfl⟩ := u1
      exact bd_nil ⟨_, _, _, rfl⟩
  · rw [findI_eq] at hd'
    obtain ⟨p, hp, rfl⟩ := Option.map_eq_some_iff.mp hd'
    rw [hp]
  · rw [findI_eq] at hno
    rw [Option.map_eq_none_iff.mp hno]
    exact rd_ret pd_non
end
end K8

set_option Elab.async false
set_option linter.all false
set_option maxRecDepth 100000
set_option maxHeartbeats 4000000
/-! K8e: enumerate over a tuple. -/
namespace PySem
open AutoSeq1 (wpAny_loadPart')
theorem k8_enum_newT (l : Addr) (items : Array Value) (n : Nat) (dct : Option Addr) (sl : Array (Option Value)) :
    Meets (Builtin.«enumerate.__new__» ⟨[.type "enumerate", .ref l], []⟩) (fun _ R s => s.heap.get? l = some { cls := .type "tuple", dict := dct, data := .seq items n, slots := sl } ∧
      R (.ok (.ret (.ref (s.heap.push { cls := .type "tuple_iterator", data := .fields #[.ref l, .int 0 0] }).objs.size)))
        { s with heap := (s.heap.push { cls := .type "tuple_iterator", data := .fields #[.ref l, .int 0 0] }).push { cls := .type "enumerate", data := .fields #[.none, .bool false, .ref s.heap.objs.size, rawInt 0, .none, .none] } }) :=
  .of_wp fun prog w A R s h => by
    obtain ⟨hp, g, d, tk, os⟩ := s; obtain ⟨hl, h⟩ := h
    have hsub := sub_enumerate
    have hL : Heap.IsTuple (Shared.heap ⟨hp, g, d, tk, os⟩) l items := ⟨_, hl, rfl, n, rfl⟩
    wp_walk using wpAny_loadPart' hl
    refine wpAny_stack_any fun st => wpAny_pure ?_
    split
    · rename_i c _ _ _ _ _
      cases (c == Value.type "enumerate")
      · wp_walk using wpAny_loadPart' hl, wpAny_pyIter_tuple hL
        exact ⟨_, rfl, h⟩
      · wp_walk using wpAny_loadPart' hl, wpAny_pyIter_tuple hL
        exact ⟨_, rfl, h⟩
    · wp_walk using wpAny_loadPart' hl, wpAny_pyIter_tuple hL
      exact ⟨_, rfl, h⟩
section
variable {prog : Program} {w : World} {A : Around} {E : Value → Shared → Prop} {s : Shared}
theorem k8_call_enumT {l : Addr} {items : Array Value} {Q : Value → Shared → Prop} (hL : s.heap.IsTuple l items)
    (h : ∀ h', IsEnum h' (s.heap.objs.size + 1) s.heap.objs.size 0 .none → h'.IsTupleIter s.heap.objs.size l 0 → h'.objs.size = s.heap.objs.size + 2 →
      (∀ b o, s.heap.get? b = some o → h'.get? b = some o) → Q (.ref (s.heap.objs.size + 1)) { s with heap := h' }) :
    wpAny (model prog w) A (call (.type "enumerate") [.ref l]) Q E s := by
  obtain ⟨⟨c, dct, dt, sl⟩, hl, hc, n, hd⟩ := hL
  replace hc : c = .type "tuple" := hc
  replace hd : dt = .seq items n := hd
  subst hc hd
  refine callType_new F.called_enumerate (by decide) (F.typeCall_enumerate_1 _) (F.newCall_enumerate_1 _) (fun obj => F.args_object_init_2 obj _) F.entry_enumerate_new
    (k8_enum_newT l items n dct sl) ⟨hl, ?_⟩
  have hz : (s.heap.push { cls := .type "tuple_iterator", data := .fields #[.ref l, .int 0 0] }).objs.size = s.heap.objs.size + 1 := Heap.size_push ..
  show _ ∧ _
  rw [hz]
  have he : IsEnum ((s.heap.push { cls := .type "tuple_iterator", data := .fields #[.ref l, .int 0 0] }).push
      { cls := .type "enumerate", data := .fields #[.none, .bool false, .ref s.heap.objs.size, rawInt 0, .none, .none] }) (s.heap.objs.size + 1) s.heap.objs.size 0 .none := by
    have := Heap.get?_push_size (s.heap.push { cls := .type "tuple_iterator", data := .fields #[.ref l, .int 0 0] })
      (o := { cls := .type "enumerate", data := .fields #[.none, .bool false, .ref s.heap.objs.size, rawInt 0, .none, .none] }) rfl
    rw [hz] at this; exact this
  refine ⟨⟨_, he, rfl⟩, h _ he ⟨_, Heap.get?_push_of_some _ (Heap.get?_push_size _ rfl), rfl, rfl⟩ (by rw [Heap.size_push, hz]) fun b o x => Heap.get?_push_of_some _ (Heap.get?_push_of_some _ x)⟩
end
end PySem
namespace K8
open PySem PySem.Spec PyProof.Rows L2
def IteT (K : PySem.W.Frag) (a : Addr) : It :=
  ⟨fun i H => ∃ (xs : List V) (x : V), SqT K H a xs ∧ xs[i]? = some x, fun i H v H' => ∃ T x, v = .ref T ∧ H T = none ∧ H' = upd H T (.tup [.int (i : Nat), x]) ∧ ∀ xs, SqT K H a xs → xs[i]? = some x, fun i H => ∃ xs : List V, SqT K H a xs ∧ xs.length ≤ i⟩
theorem tup_ne_enum {h : Heap} {e it t : Addr} {i : Int} {old : Value} {items : Array Value} (he : IsEnum h e it i old) (ht : h.IsTuple t items) : e ≠ t := fun z => by
  obtain ⟨o, ho, hc, _⟩ := ht
  rw [← z, he] at ho
  cases ho
  injection hc with q
  exact absurd q (by decide)
theorem tup_ne_it {h : Heap} {it t : Addr} {i : Nat} {a : Addr} {items : Array Value} (he : h.IsTupleIter it a i) (ht : h.IsTuple t items) : t ≠ it := fun z => by
  obtain ⟨o, ho, hc, _⟩ := ht
  obtain ⟨o2, ho2, hc2, _⟩ := he
  rw [z, ho2] at ho
  cases ho
  rw [hc2] at hc
  injection hc with q
  exact absurd q (by decide)
theorem turn_enumT {P : Program} {w : World} {K : PySem.W.Frag} {elts : List Expr} {kk : Nat} {tpos : Pos} (a e it : Addr) :
    Turn P w K (.Tuple elts kk tpos) (IteT K a) [e, it] e (fun i h => (∃ old, IsEnum h e it ((i : Nat) : Int) old) ∧ h.IsTupleIter it a i ∧ e ≠ it) where
  mem := by simp
  obj := fun i h st b hb => by
    obtain ⟨⟨old, he⟩, ⟨o, ho, hc, hd⟩, _⟩ := st
    have e' : b = e ∨ b = it := by simpa using hb
    rcases e' with z | z
    · rw [z]; exact ⟨_, he, fun v q => nomatch q⟩
    · rw [z]; exact ⟨o, ho, fun v q => by rw [hd] at q; cases q⟩
  keep := fun i h h' st k => let ⟨⟨old, he⟩, hi, hne⟩ := st; ⟨⟨old, k e (by simp) _ he⟩, hi.at fun o q => k it (by simp) o q, hne⟩
  item := by
    intro X hP hw hK hc i pins s σ H E I hf st hg
    subst hP hw hK
    obtain ⟨⟨old, he⟩, hit, hne⟩ := st
    obtain ⟨xs, x, hq, hx⟩ := hg
    obtain ⟨its, rv, p, hz⟩ := I.tuple hq
    obtain ⟨u, hu, ru⟩ := rv.get hx
    have hel : e < s.heap.objs.size := Heap.lt_size he
    have hil : it < s.heap.objs.size := by obtain ⟨_, q, _⟩ := hit; exact Heap.lt_size q
    have pT := p
    have hin : i < its.length := (List.getElem?_eq_some_iff.mp hu).1
    refine wpAny_pyNext_enum_itemD (Draws.tuple (A := X.A.in1) (I.ok.hd hc) it a (tup_ne_it hit pT) _) he ⟨hit, pT⟩ (by simpa using hin) hne (fun hm => by
      have e' : e = it ∨ e = a := by simpa using hm
      rcases e' with z | z
      · exact hne z
      · exact tup_ne_enum he pT z) fun x' h' tk hPx ho hit' hT hsz hk => ?_
    have ex : x' = u := by
      have h2 : its.toArray[i]? = some u := by simpa using hu
      have h1 : its.toArray[i]? = some x' := hPx
      rw [h2] at h1
      exact (Option.some.inj h1).symm
    subst ex
    refine ⟨_, rfl, wpAny_letOwnedTupleGo_enum (s := { s with heap := h', toks := tk + 1 }) ho fun h'' he' sb => ?_⟩
    have hT2 : h''.get? s.heap.objs.size = some { cls := .type "tuple", data := .seq #[.int i tk, x'] } := (sb.2 _ (Nat.ne_of_gt hel)).trans hT
    have new : ObjOk X.prog X.w (upd H s.heap.objs.size (.tup [.int (i : Nat), x])) h'' s.heap.objs.size (.tup [.int (i : Nat), x]) :=
      ⟨by show 2 ≤ sizeLine; decide, [.int i tk, x'], .cons ⟨_, rfl⟩ (.cons ru .nil), ⟨_, hT2, rfl, _, rfl⟩⟩
    have I1 : Inv X pins σ (upd H s.heap.objs.size (.tup [.int (i : Nat), x])) { s with heap := h'', toks := tk + 1 } :=
      I.turnedNew (ch := [e, it]) (fun b ob hb q => (sb.2 b (fun z => hb (by simp [z]))).trans (hk b ob (fun z => hb (by simp [z])) (fun z => hb (by simp [z])) q)) hf (Nat.le_refl _) new
    refine ⟨.ref s.heap.objs.size, _, I1, rfl, ⟨_, x, rfl, I.hok.fresh (Nat.le_refl _), rfl, fun ys hy => by rw [I.tuple_inj hy hq]; exact hx⟩, ⟨⟨x', ?_⟩, hit'.1.at fun o q => (sb.2 it (Ne.symm hne)).trans q, hne⟩, fun b hb => ?_⟩
    · have e1 : ((i + 1 : Nat) : Int) = (i : Int) + 1 := by omega
      rw [e1]; exact he'
    · have hb' : b < s.heap.objs.size := by
        have e' : b = e ∨ b = it := by simpa using hb
        rcases e' with z | z
        · rw [z]; exact hel
        · rw [z]; exact hil
      rw [upd_ne (Nat.ne_of_lt hb')]
      exact (hf b hb).1
  done := by
    intro X hP hw hK hc i pins s σ H E I hf st hg
    subst hP hw hK
    obtain ⟨⟨old, he⟩, hit, hne⟩ := st
    obtain ⟨xs, hq, hx⟩ := hg
    obtain ⟨its, rv, p, hz⟩ := I.tuple hq
    obtain ⟨f0, f1, f2, f3, f4, f5⟩ := hf it (by simp)
    have hl := rv.length
    have hT : s.TypeIs (.ref e) "enumerate" := ⟨_, he, rfl⟩
    unfold pyNext
    refine wpAny_bind (wpAny_attempt (wpAny_callSpecial?_slot (name := Str.ofString "__next__") hT F.slot_enumerate_next
      (wpAny_call_entry F.slot_enumerate_next hT F.entry_enumerate_next ?_ (F.args_enumerate_next_1 _))))
    show wpAny _ _ (field (.ref e) 2 >>= _) _ _ _
    refine wpAny_bind (wpAny_field he rfl (x := .ref it) rfl ?_)
    refine wpAny_bind (wpAny_nextOf_tuple_end (I.ok.hd hc) hit p (by simp; omega) fun h' x he' hx' => ?_)
    obtain ⟨o, ho, hc'⟩ := hx'
    refine wpAny_bind (wpAny_isInstance (T := "StopIteration") (b := true) ⟨o, ho, hc'⟩ isSubtype_stop ?_)
    exact wpAny_pure ⟨rfl, I.turned (t' := s.toks) (fun b o hb q => he' b o hb q) f0 f1 f3 f4 f5⟩
  self := fun A i s Q E st h => let ⟨⟨_, he⟩, _⟩ := st; wpAny_pyIter_enum he h
def iEnumT (K : PySem.W.Frag) (ta : TA) : TI := fun σ H R => ta σ H fun vs H1 => ∃ a xs, vs = [.ref a] ∧ SqT K H1 a xs ∧ R (IteT K a) H1
theorem pi_enumT {X : Cx} {e : Expr} {ta : TA} {p pos tpos : Pos} {elts : List Expr} {kk : Nat} (hg : Gl X "enumerate") (hm : X.mg "enumerate" = none) (ha : PA X [e] ta) (hs : starEach [e] X.env = [(false, eval e X.env)] := by rfl) :
    PI X (.Tuple elts kk tpos) (.Call (.Name "enumerate" p) [e] [] pos) (iEnumT X.K ta) := by
  refine ⟨fun pins s σ H R I h => ?_⟩
  refine Call_ (ld_blt I hg hm boot_enumerate (PyProof.Rows.callWith_type1 (thn (ha.run pos pins s σ H _ I h) fun us s1 ⟨vs, H1, I1, r1, q1⟩ => ?_) hs rfl))
  obtain ⟨a, xs, ex, hq, q⟩ := q1
  subst ex
  cases r1 with
  | cons r rr =>
    cases rr
    cases r
    obtain ⟨its, rv, p', hz⟩ := I1.tuple hq
    refine k8_call_enumT p' fun h' he hit hsz hk => wpAny_pyIter_enum he ?_
    have I2 : Inv X pins σ H1 { s1 with heap := h' } := I1.kept (t' := s1.toks) hk
    refine ⟨s1.heap.objs.size + 1, [s1.heap.objs.size + 1, s1.heap.objs.size], _, _, H1, rfl, I2, turn_enumT a (s1.heap.objs.size + 1) s1.heap.objs.size, ⟨⟨.none, he⟩, hit, Nat.succ_ne_self _⟩, fun b hb => ?_, q⟩
    have e' : b = s1.heap.objs.size + 1 ∨ b = s1.heap.objs.size := by simpa using hb
    have hle : s1.heap.objs.size ≤ b := by
      rcases e' with z | z
      · rw [z]; exact Nat.le_add_right _ _
      · rw [z]; exact Nat.le_refl _
    exact I1.fpOk hle (I1.hok.fresh hle)
theorem walk_enumT {K : PySem.W.Frag} {a : Addr} {xs : List V} : Walk (IteT K a) xs.length (fun H => SqT K H a xs) (YPair (fun i => some (.int (i : Nat))) (fun i => xs[i]?)) := by
  refine ⟨fun i _ hi q => ⟨xs, xs[i], q, by simp [hi]⟩, fun _ q => ⟨xs, q, Nat.le_refl _⟩, fun i H v H' _ q y => ?_⟩
  obtain ⟨T, x, h1, h2, h3, h4⟩ := y
  exact ⟨T, .int (i : Nat), x, h1, h2, h3, rfl, h4 xs q⟩
section
variable {X : Cx} {a : Expr} {σ : L2.St} {B : Hp} {d : PyData} {ds : List PyData} {p pos tpos : Pos} {elts : List Expr} {kk : Nat}
theorem src_enumT (h : PD X a σ B (.tuple ds)) (hs : starEach [a] X.env = (false, eval a X.env) :: starEach [] X.env := by rfl) : Src X.K (iEnumT X.K (wpA X [a])) σ B ((List.range ds.length).map fun i => PyData.tuple [.int (i : Nat), ds.getD i .none]) := fun H hb Rr q =>
  ad_cons h ad_nil hs H hb _ fun vs B1 H1 f1 r1 => by
    obtain ⟨v, rfl, r⟩ := r1.one
    obtain ⟨a, xs, rfl, hs, ra⟩ := r.tup_inv
    refine ⟨a, xs, rfl, sqt_mono f1.bh hs, q _ B1 H1 f1 ?_⟩
    rw [← ra.len]
    refine yd_pair (d1s := fun i => .int (i : Nat)) (d2s := fun i => ds.getD i .none) walk_enumT (fun H' h' => sqt_mono h' hs) (fun i x e => by cases e; exact .int _) fun i x e => ?_
    obtain ⟨d, hd, rd⟩ := ra.get' e
    rw [List.getD_eq_getElem?_getD, hd]
    exact rd
/-- over a list or a tuple -/
theorem src_enum (hq : seqOf d = some ds) (hg : Gl X "enumerate") (hm : X.mg "enumerate" = none) (h : PD X a σ B d) (hs : starEach [a] X.env = (false, eval a X.env) :: starEach [] X.env := by rfl) :
    ∃ wi, PI X (.Tuple elts kk tpos) (.Call (.Name "enumerate" p) [a] [] pos) wi ∧ Src X.K wi σ B ((List.range ds.length).map fun i => PyData.tuple [.int (i : Nat), ds.getD i .none]) := by
  cases d <;> simp [seqOf] at hq
  · subst hq
    exact ⟨_, pi_enum hg hm pa_wp hs, src_enumL h hs⟩
  · subst hq
    exact ⟨_, pi_enumT hg hm pa_wp hs, src_enumT h hs⟩
end
end K8

set_option Elab.async false
set_option linter.all false
set_option maxRecDepth 100000
set_option maxHeartbeats 4000000
/-! K8st: steps of a block, lists that change. -/
namespace K8
open PySem PySem.Spec PyProof.Rows L2
/-! ### lists that change stand outside the base -/
theorem Fz.put {S : Addr → Prop} {B H B1 H1 : Hp} {L : Addr} {o : HO} (f : Fz S B H B1 H1) (hS : S L) (hB : B1 L = none) (hH : H1 L ≠ none) : Fz S B H B1 (upd H1 L o) where
  bb := f.bb
  bh := upd_out f.bh hB
  hh := fun a u n e => by
    have : a ≠ L := fun z => n (by rw [z]; exact hS)
    rw [upd_ne this]
    exact f.hh a u n e
  out := f.out
  al := fun p hp => by
    by_cases h : p = L
    · rw [h, upd_same]
      simp
    · rw [upd_ne h]
      exact f.al p hp
/-- a list that has grown joins the base -/
theorem Fz.frz {S S' : Addr → Prop} {B H B1 H1 : Hp} {L : Addr} {o o1 : HO} (hb : Same B H) (hn : H L = none) (f : Fz S' B (upd H L o) B1 H1) (hs : ∀ a, S' a → S a ∨ a = L) (hacc : H1 L = some o1) (hB : B1 L = none) : Fz S B H (upd B1 L o1) H1 where
  bb := fun a u e => by
    have : a ≠ L := ne_of_none (hb _ _ e) hn
    rw [upd_ne this]
    exact f.bb _ _ e
  bh := fun a u e => by
    by_cases h : a = L
    · rw [h, upd_same] at e
      rw [h, hacc]
      exact e
    · rw [upd_ne h] at e
      exact f.bh _ _ e
  hh := fun a u n e => by
    have h : a ≠ L := ne_of_none e hn
    refine f.hh a u (fun z => (hs a z).elim n h) ?_
    rw [upd_ne h]
    exact e
  out := fun p hp e => by
    have h : p ≠ L := fun z => hp (by rw [z]; exact hn)
    rw [upd_ne h]
    exact f.out p (by rw [upd_ne h]; exact hp) e
  al := fun p hp => by
    have h : p ≠ L := fun z => hp (by rw [z]; exact hn)
    exact f.al p (by rw [upd_ne h]; exact hp)
/-- a new object, outside the base -/
theorem Fz.laid {S : Addr → Prop} {B H : Hp} {L : Addr} {o : HO} (hb : Same B H) (hn : H L = none) : Fz S B H B (upd H L o) where
  bb := Same.refl _
  bh := upd_out hb (hb.free hn)
  hh := fun a u _ e => by
    rw [upd_ne (ne_of_none e hn)]
    exact e
  out := fun _ _ e => e
  al := fun p hp => by
    by_cases h : p = L
    · rw [h, upd_same]
      simp
    · rw [upd_ne h]
      exact hp
theorem same_frz {B H : Hp} {L : Addr} {o : HO} (hb : Same B H) (hL : H L = some o) : Same (upd B L o) H := fun a u e => by
  by_cases h : a = L
  · rw [h, upd_same] at e
    rw [h, hL]
    exact e
  · rw [upd_ne h] at e
    exact hb _ _ e
/-- the base without L again -/
theorem Fz.unfrz {B H B1 H1 : Hp} {L : Addr} {o : HO} (hB : B L = none) (hL : H L = some o) (f : F0 (upd B L o) H B1 H1) : F0 B H (del B1 L) H1 ∧ del B1 L L = none ∧ H1 L = some o ∧ upd (del B1 L) L o = B1 := by
  have h1 : B1 L = some o := f.bb _ _ upd_same
  refine ⟨⟨fun a u e => ?_, fun a u e => ?_, f.hh, fun p hp e => ?_, f.al⟩, del_same, f.hs _ _ hL, ?_⟩
  · have h : a ≠ L := fun z => by rw [z, hB] at e; cases e
    rw [del_ne h]
    exact f.bb a u (by rw [upd_ne h]; exact e)
  · by_cases h : a = L
    · rw [h, del_same] at e
      cases e
    · rw [del_ne h] at e
      exact f.bh _ _ e
  · by_cases h : p = L
    · rw [h, del_same]
    · rw [del_ne h]
      exact f.out p hp (by rw [upd_ne h]; exact e)
  · funext a
    by_cases h : a = L
    · rw [h, upd_same, h1]
    · rw [upd_ne h, del_ne h]
/-- at L: a list of data that may change -/
def MuL (K : PySem.W.Frag) (L : Addr) (ds : List PyData) (B H : Hp) : Prop := B L = none ∧ ∃ acc, H L = some (.lst acc) ∧ RAll K B acc ds
section
variable {K : PySem.W.Frag} {L : Addr} {B H B1 H1 : Hp} {ds : List PyData} {d : PyData} {v : V}
theorem MuL.fz {S : Addr → Prop} (m : MuL K L ds B H) (f : Fz S B H B1 H1) (hS : ¬ S L) : MuL K L ds B1 H1 := by
  obtain ⟨h1, acc, h2, h3⟩ := m
  exact ⟨f.out L (by rw [h2]; simp) h1, acc, f.hh _ _ hS h2, h3.mono f.bb⟩
theorem MuL.f0 (m : MuL K L ds B H) (f : F0 B H B1 H1) : MuL K L ds B1 H1 := m.fz f (fun z => z)
theorem MuL.new (hb : Same B H) (hn : H L = none) : MuL K L [] B (upd H L (.lst [])) := ⟨hb.free hn, [], upd_same, .nil⟩
theorem MuL.frz (m : MuL K L ds B H) : ∃ acc, H L = some (.lst acc) ∧ R K (upd B L (.lst acc)) (.ref L) (.list ds) := by
  obtain ⟨h1, acc, h2, h3⟩ := m
  exact ⟨acc, h2, .lst upd_same (h3.mono (upd_out (Same.refl _) h1))⟩
end
/-! ### tests at a heap -/
section
variable {X : Cx} {e a b c : Expr} {es : List Expr} {σ : L2.St} {B H B1 : Hp} {d d1 d2 : PyData} {ds : List PyData} {p q : Bool} {pos p1 p2 : Pos} {st : Stmt} {sts body : List Stmt} {D : Ends}
def TDh (X : Cx) (c : Expr) (σ : L2.St) (B H : Hp) (p : Bool) : Prop := ∀ Q : Bool → Hp → Prop, (∀ B1 H1, F0 B H B1 H1 → Q p H1) → wpT X c σ H Q
theorem TD.at (h : TD X c σ B p) (hb : Same B H) : TDh X c σ B H p := fun Q q => h H hb Q q
/-- .. where the test reads a list that may change -/
theorem TD.frz {L : Addr} (m : MuL X.K L ds B H) (hb : Same B H) (h : ∀ acc, R X.K (upd B L (.lst acc)) (.ref L) (.list ds) → TD X c σ (upd B L (.lst acc)) p) : TDh X c σ B H p := fun Q q => by
  obtain ⟨acc, hL, r⟩ := m.frz
  exact h acc r H (same_frz hb hL) Q fun B1 H1 f => q _ H1 (f.unfrz m.1 hL).1
/-! ### steps -/
theorem st_set {i : Nat} {x : Str} (hN : X.N.Nodup) (h : PD X e σ B d) (hb : Same B H) (k : ∀ v B1 H1, F0 B H B1 H1 → R X.K B1 v d → wpB X sts D (σ.set i (some v)) H1) (hi : X.N[i]? = some x := by rfl) (hx : Loc X.env.scope x := by first | exact Or.inl rfl | exact Or.inr rfl) (hs : swapsWith e (some (.Name x p2)) pos.line X.env = pure false := by rfl)
    (hf : X.fn x = true ∨ X.env.scope.names.lookup x = some .local := by first | exact .inl rfl | exact .inr rfl | assumption) : wpB X (.Assign [.Name x p2] e pos :: sts) D σ H :=
  wpB_cons (wpS_of (ps_set hN hi hx pe_wp hs hf) (h H hb _ fun v B1 H1 f1 r1 => k v B1 H1 f1 r1))
theorem st_setL {i : Nat} {x : Str} (h : LD X e σ B d) (hb : Same B H) (k : ∀ v B1 H1, F0 B H B1 H1 → R X.K B1 v d → wpB X sts D (σ.set i (some v)) H1) (hi : X.N[i]? = some x := by rfl) (hyl : X.env.scope.names.lookup x = some .local := by rfl) (hsw : swapsWith e (some (.Name x p2)) pos.line X.env = pure true := by exact sw_true rfl rfl rfl rfl) : wpB X (.Assign [.Name x p2] e pos :: sts) D σ H := by
  obtain ⟨te, hps, ev⟩ := h.set hi hyl hsw
  exact wpB_cons (wpS_of hps (ev H hb _ fun v B1 H1 f1 r1 => k v B1 H1 f1 r1))
/-- name = [] -/
theorem st_new {i : Nat} {x : Str} {pl : Pos} (hN : X.N.Nodup) (k : ∀ L, H L = none → wpB X sts D (σ.set i (some (.ref L))) (upd H L (.lst []))) (hi : X.N[i]? = some x := by rfl) (hx : Loc X.env.scope x := by first | exact Or.inl rfl | exact Or.inr rfl) (hs : swapsWith (.List [] pl) (some (.Name x p2)) pos.line X.env = pure false := by rfl)
    (hf : X.fn x = true ∨ X.env.scope.names.lookup x = some .local := by first | exact .inl rfl | exact .inr rfl | assumption) : wpB X (.Assign [.Name x p2] (.List [] pl) pos :: sts) D σ H :=
  wpB_cons (wpS_of (ps_set hN hi hx (pe_lst pa_nil) hs hf) ⟨Nat.zero_le _, fun p hp => k p hp⟩)
theorem st_ret (h : PD X e σ B d) (hb : Same B H) (k : ∀ v B1 H1, F0 B H B1 H1 → R X.K B1 v d → D.rt v H1) : wpB X (.Return (some e) pos :: sts) D σ H := wpB_cons (wpS_of (ps_ret pe_wp) (h H hb _ k))
/-- return of a name, whatever it holds -/
theorem st_retv {i : Nat} {x : Str} {v : V} (hv : σ[i]? = some (some v)) (k : D.rt v H) (hN : X.N[i]? = some x := by rfl) (hx : Vis X.env.scope x := by first | exact Or.inl rfl | exact Or.inr (Or.inl rfl) | exact Or.inr (Or.inr rfl)) (hd : (x == ("__debug__" : Str)) = false := by decide)
    (hcd : (x == ("__classdict__" : Str)) = false := by decide) : wpB X (.Return (some (.Name x p1)) pos :: sts) D σ H := wpB_cons (wpS_of (ps_ret (pe_var hN hx hd hcd)) ⟨v, hv, k⟩)
theorem st_if (h : TDh X c σ B H p) (h1 : p = true → ∀ B1 H1, F0 B H B1 H1 → wpB X body { D with nx := wpB X sts D } σ H1) (h2 : p = false → ∀ B1 H1, F0 B H B1 H1 → wpB X sts D σ H1) : wpB X (.If c body [] pos :: sts) D σ H :=
  wpB_cons (wpS_of (ps_if pt_wp pb_wp pss_nil) (h _ fun B1 H1 f1 => by
    cases p with
    | true => exact h1 rfl B1 H1 f1
    | false => exact h2 rfl B1 H1 f1))
/-- xs.append(e) -/
theorem st_app {j : Nat} {x : Str} {L : Addr} {ap cp : Pos} (hL : σ[j]? = some (some (.ref L))) (m : MuL X.K L ds B H) (hb : Same B H) (hz : ds.length ≤ 100000) (h : PD X e σ B d) (k : ∀ B1 H1, F0 B H B1 H1 → ∀ H2, Fz (· = L) B H B1 H2 → MuL X.K L (ds ++ [d]) B1 H2 → (∀ a, a ≠ L → H2 a = H1 a) → wpB X sts D σ H2)
    (hN : X.N[j]? = some x := by rfl) (hx : Vis X.env.scope x := by first | exact Or.inl rfl | exact Or.inr (Or.inl rfl) | exact Or.inr (Or.inr rfl)) (hd : (x == ("__debug__" : Str)) = false := by decide) (hcd : (x == ("__classdict__" : Str)) = false := by decide)
    (hbase : attributeBase (.Name x p1) "append" X.env (eval (.Name x p1) X.env) = eval (.Name x p1) X.env := by rfl)
    (hfew : ((backTo cp (starEach [e] X.env)).all (fun x => !x.1) && (backToKw cp (keywordEach [] X.env)).all (fun x => x.1.isSome)
      && decide ([e].length + ([] : List Keyword).length + (if ([] : List Keyword).isEmpty then 0 else 1) < 30)) = true := by rfl)
    (hline : (ap.endLine == cp.line) = true := by rfl) (hs : starEach [e] X.env = (false, eval e X.env) :: starEach [] X.env := by rfl) (hw : swapsWith (.Call (.Attribute (.Name x p1) "append" ap) [e] [] cp) none pos.line X.env = pure false := by rfl) :
    wpB X (.Expr (.Call (.Attribute (.Name x p1) "append" ap) [e] [] cp) pos :: sts) D σ H := by
  obtain ⟨hB, acc, hacc, racc⟩ := m
  refine wpB_cons (wpS_of (ps_expr (pe_bm PySem.F.plainAttrs_list PySem.F.slot_list_append PySem.F.type_list_append mt_append (pe_var hN hx hd hcd) (pa_cons pe_wp pa_nil hs) hbase hfew hline hs) hw) ?_)
  refine ⟨.ref L, hL, .inl ⟨rfl, acc, SqL.of hacc⟩, h H hb _ fun v B1 H1 f1 r1 => ⟨L, acc, v, rfl, rfl, f1.hs _ _ hacc, ?_, ?_⟩⟩
  · rw [racc.len]
    have h1 : (16777216 : Nat) = sizeLine := sizeLine_eq.symm
    omega
  · have hB1 : B1 L = none := f1.out L (by rw [hacc]; simp) hB
    have hH1 : H1 L ≠ none := by rw [f1.hs _ _ hacc]; simp
    exact k B1 H1 f1 _ ((f1.to (S := (· = L))).put rfl hB1 hH1) ⟨hB1, _, upd_same, (racc.mono f1.bb).app (.cons r1 .nil)⟩ fun a ha => upd_ne ha
/-- a loop -/
theorem st_for {iter tg : Expr} {wi : TI} {g : TG} (hp : PassesOwn (model X.prog X.w) X.A X.env X.xe) (hc : X.calm = true) (hi : PI X tg iter wi) (hg : PG X tg g) (src : Src X.K wi σ B ds) (hb : Same B H)
    (k : ∀ B1 H1, F0 B H B1 H1 → ∃ Pv : Nat → L2.St → Hp → Hp → Prop, Pv 0 σ B1 H1 ∧
      (∀ i σ' Bi Hi d x By H', i < ds.length → Same B1 Bi → Same Bi Hi → Pv i σ' Bi Hi → ds[i]? = some d → F0 Bi Hi By H' → R X.K By x d → ∃ σ2, GD g σ' By x σ2 ∧
        wpB X body { D with nx := fun σ3 H3 => ∃ B3, Same B1 B3 ∧ Same B3 H3 ∧ Pv (i + 1) σ3 B3 H3, ct := fun σ3 H3 => ∃ B3, Same B1 B3 ∧ Same B3 H3 ∧ Pv (i + 1) σ3 B3 H3, bk := wpB X sts D } σ2 H') ∧
      (∀ σ' Bi Hi, Same B1 Bi → Same Bi Hi → Pv ds.length σ' Bi Hi → wpB X sts D σ' Hi))
    (hs : ∀ x, foldedSetIterable iter X.env x = pure x := by intro _; rfl) : wpB X (.For tg iter body [] pos :: sts) D σ H := by
  refine wpB_cons (wpS_of (ps_for hp hc hi hg pb_wp hs) (src H hb _ fun J B1 H1 f1 W => ?_))
  obtain ⟨Pv, h0, hturn, hend⟩ := k B1 H1 f1
  refine for_it W (D := { D with nx := wpB X sts D }) (fun i σ1 H2 => ∃ Bi, Same B1 Bi ∧ Same Bi H2 ∧ Pv i σ1 Bi H2) ⟨B1, Same.refl _, f1.bh, h0⟩ ?_ ?_ ?_
  · rintro i σ1 H2 _ ⟨Bi, s1, s2, _⟩
    exact s1.trans s2
  · rintro i x σ1 H2 H' hi' ⟨Bi, s1, s2, pv⟩ yd
    obtain ⟨By, d, fy, hd, rd⟩ := yd Bi s1 s2
    obtain ⟨σ2, hg2, hbd⟩ := hturn i σ1 Bi H2 d x By H' hi' s1 s2 pv hd fy rd
    exact hg2 _ fy.bh _ hbd
  · rintro σ1 H2 ⟨Bi, s1, s2, pv⟩
    exact hend σ1 Bi H2 s1 s2 pv
end
end K8

set_option Elab.async false
set_option linter.all false
set_option maxRecDepth 100000
set_option maxHeartbeats 4000000
/-! K8x: own exceptions whose __init__ says super().__init__(..), over a base over ValueError. -/
namespace K8
open PySem PySem.Spec PyProof.Rows L2 PySem.W PySem.Calls
/-- what the written part says of an __init__ that says super() -/
structure ExI (prog : Program) (K : PySem.W.Frag) (mg : Str → Option Value) (f C cda cc : Addr) (fd : FuncData) (qual : Str) (scope : Scope) : Prop where
  oex : OexC K C
  fun_ : ∃ oc od osl, K.lookup f = some ⟨oc, od, .func fd, osl⟩
  clos : ∃ name params body dV kV doc pm an ct, fd = ksFn name qual params body scope dV kV doc pm an (.ref cda) ct cc
  self : ∃ ar, (fd.params.posonlyargs ++ fd.params.args).head? = some ar ∧ ar.arg = "self"
  code : ∃ ccl cdd vs ccs file tf, K.lookup cda = some ⟨ccl, cdd, .fields vs, ccs⟩ ∧ vs[2]? = some (.str file tf) ∧ ((prog.main.file : Str) == file) = true
  codeQ : codeIn K (.ref cda) qual = true
  cell : ∃ cl cld csl, K.lookup cc = some ⟨cl, cld, .cell (some (.ref C)), csl⟩
  cls : ∃ cd, clsIn K C = some cd
  mro : mroIn K C (.ref C) = some true
  sup : ks_superIn K C C "__init__" = some (some (.builtin "ValueError.__init__"))
  subV : subIn K (.ref C) (.type "ValueError") = some true
  opq : nsIn K cStatics "thirdparty.any" = some none
  noS : mg "super" = none
  topS : (prog.main.scope.names.lookup ("super" : Str)).isSome = false
section
variable {X : Cx} {pins : List (Addr × Obj)} {σ : L2.St} {H : Hp} {s : Shared} {a C u : Addr} {us : List Value}
/-- the bound __init__ called -/
theorem mw_call {Q : Value → Shared → Prop} {E : Value → Shared → Prop} {A : Around} (T : OexC X.K C) (I : Inv X pins σ H s) (e : H a = some (exo a C none)) (hu : s.heap.get? u = some (kxs_mw "ValueError.__init__" a)) (hl : us.length ≤ sizeLine) (h : ∀ s', Inv X pins σ H s' → Q .none s') :
    wpAny (model X.prog X.w) A (call (.ref u) us) Q E s := by
  obtain ⟨nm, q, N, bs, bm, sn, sub, ab, col, dd, k0, k1, k2, k3, k5, hC, hbm⟩ := T.cls
  obtain ⟨t1, ho⟩ := exo_at I.hok e
  have hCh := I.kIn _ _ hC
  have fin : ∀ h', (∀ b o, b ≠ a → s.heap.get? b = some o → h'.get? b = some o) → h'.get? a = some ({ cls := .ref C, dict := none, data := .fields #[.ref s.heap.objs.size, .none, .none, .none, .bool false, .none] } : Obj) → Q .none { s with heap := h' } := fun h' k hx => by
    have J := I.write (t' := s.toks) (x := a) (e := a) (o := exo a C none) (by rw [e]; exact True.intro) (.inl rfl) k ⟨_, hx⟩ (exo_ok hx)
    have eu : upd H a (exo a C none) = H := by
      funext b
      by_cases hb : b = a
      · rw [hb, upd_same, e]
      · rw [upd_ne hb]
    rw [eu] at J
    exact h _ J
  obtain ⟨hh, g, d, tk, os⟩ := s
  refine wpAny_call (codeAny_of_tree ?_)
  show wpAny _ A.in1 (callAny (.ref u) ⟨us, []⟩) _ _ _
  simp only [callAny]
  refine wpAny_bind (wpAny_load hu ?_)
  simp only [kxs_mw, show (Value.type "method-wrapper" == Value.type "method" || Value.type "method-wrapper" == Value.type "builtin_function_or_method" || Value.type "method-wrapper" == Value.type "method-wrapper") = true by decide, if_true]
  refine KFB.if_so (by decide) ?_
  refine wpAny_bind (check_bound_init F.excBase_ValueError.toExcCallFacts hCh ho rfl ?_)
  refine wpAny_bind (wpAny_pure (wpAny_pure ?_))
  refine ⟨plainId_quiet F.excBase_ValueError.init.plain _, codeAny_builtin F.excBase_ValueError.initEntry ?_⟩
  exact exc_init_tree (cls := .ref C) (t0 := t1) (dv := none) (c2 := .none) (c3 := .none) (b4 := .bool false) ho hl fun h' k e' _ => fin h' k e'
end
section
variable {X : Cx} {pins : List (Addr × Obj)} {σ : L2.St} {H : Hp} {s : Shared} {f C cda cc a : Addr} {fd : FuncData} {qual : Str} {scope : Scope} {p0 p1 p2 pos : Pos} {e : Expr} {es : List Expr} {ta : TA}
/-- super().__init__(..) -/
theorem super_init {bd : List Stmt} {pl : Sem Bool} {Qn : Hp → Prop} (T : ExI X.prog X.K X.mg f C cda cc fd qual scope) (hE : X.env = ksEnv qual scope X.env.locals f (.ref cda) cc) (I : Inv X pins σ H s) (hN : X.N[0]? = some ("self" : Str)) (h0 : σ[0]? = some (some (.ref a))) (eH : H a = some (exo a C none)) (ha : PA X (e :: es) ta)
    (h : ta σ H fun vs H1 => vs.length ≤ 1000 ∧ H1 a = some (exo a C none) ∧ Qn H1)
    (hks : scope.names.lookup ("super" : Str) = some .globalImplicit) (hkc : scope.names.lookup ("__class__" : Str) = some .free) (hka : scope.names.lookup ("self" : Str) = some .local) (hk : scope.kind = .function)
    (hcall : eval (.Call (.Attribute (.Call (.Name "super" p0) [] [] p1) "__init__" p2) (e :: es) [] pos) X.env = (do
      let ov ← attributeBase (.Call (.Name "super" p0) [] [] p1) "__init__" X.env (eval (.Call (.Name "super" p0) [] [] p1) X.env)
      standAt p2.atName
      let (f, first) ← holding [ov] (getMethod ov "__init__" pl)
      callWith pos f first (backTo pos (starEach (e :: es) X.env)) []))
    (he : starEach (e :: es) X.env = (false, eval e X.env) :: starEach es X.env) (hpl : (backTo pos (starEach es X.env)).any (·.1) = false) :
    _root_.PySem.wpAt (model X.prog X.w) X.A (.func bd X.env) (eval (.Call (.Attribute (.Call (.Name "super" p0) [] [] p1) "__init__" p2) (e :: es) [] pos) X.env) (fun _ s' => ∃ H', Inv X pins σ H' s' ∧ Qn H') X.xe s := by
  obtain ⟨oc, od, osl, lkf⟩ := T.fun_
  obtain ⟨ar, har, hself⟩ := T.self
  obtain ⟨ccl, cdd, vs, ccs, file, tf, lkc, hvs, hfile⟩ := T.code
  obtain ⟨cl, cld, csl, lkcell⟩ := T.cell
  obtain ⟨cd, hcl⟩ := T.cls
  have KX := I.kIn
  have kk : X.env.scope = scope := by rw [hE]
  have kind : X.env.kindOf = fun x => scope.names.lookup x := by rw [hE]; rfl
  have hkind : X.env.scope.kind = .function := I.ok.kind
  have hsz : X.env.locals < s.heap.objs.size := I.lt
  obtain ⟨t1, ho⟩ := exo_at I.hok eH
  have naL : a ≠ X.env.locals := fun z => by
    have := I.free
    rw [← z, eH] at this
    cases this
  refine ks_wpAt_MethodCall ?_ hcall
  obtain ⟨oC, hD1, hD2⟩ : ∃ oD, s.heap.get? C = some oD ∧ oD.data = .cls cd := by
    have hcl' := hcl
    unfold clsIn at hcl'
    split at hcl'
    · rename_i c d cd' sl ho
      cases hcl'
      exact ⟨_, KX _ _ ho, rfl⟩
    · cases hcl'
  obtain ⟨mb, hb1, hb2⟩ := I.mod.blt
  refine ks_wpAt_super_base (by rw [kind]; exact hks) (by rw [kind]; exact hkc) (by decide) (by rw [hE]) (KX _ _ lkf) rfl har (by rw [hE]) (KX _ _ lkc) rfl hvs hfile T.topS ?_
  refine ks_loadName_global hkind (by rw [kind]; exact hks) (loadGlobal_builtin (by rw [I.ok.glob]; exact I.mod.glob.keeps I.bk) T.noS (by rw [I.ok.blt]; exact hb1.keeps I.bk) ((hb2 _ (by decide)).trans (by first | boot_by_name | rfl | decide +kernel)) ⟨rfl, ?_⟩)
  refine wpAny_loadName_free hkind (by rw [kind]; exact hkc) (by rw [hE]; rfl) ⟨_, KX _ _ lkcell, rfl⟩ ?_
  rw [hself]
  obtain ⟨m, hn, hl⟩ := I.loc
  obtain ⟨uv, ruv, lk⟩ := hl 0 "self" _ hN h0 (by rw [kk]; exact .inl hka)
  obtain rfl : uv = Value.ref a := ruv
  have hm : m "self" = some (.ref a) := by
    rcases lk with ⟨_, hm⟩ | ⟨hk', _⟩
    · exact hm
    · rw [kind] at hk'
      rcases hk' with z | z
      · have z' : scope.names.lookup ("self" : Str) = some .cell := z
        rw [hka] at z'
        cases z'
      · have z' : scope.names.lookup ("self" : Str) = some .free := z
        rw [hka] at z'
        cases z'
  refine wpAny_loadName_local hkind (by rw [kind]; exact hka) hn hm ?_
  obtain ⟨hp, g, dr, tk, os⟩ := s
  refine ks_wpAny_isType_cls hD1 hD2 ⟨rfl, ?_⟩
  refine ks_wpAny_call_super hD1 hD2 ho rfl (fun c z => by cases z) (looks_mroIn KX T.mro) fun h1 hso k1 => ?_
  have I1 : Inv X pins σ H ⟨h1, g, dr, tk, os⟩ := I.kept (t' := tk) k1
  have KX1 := I1.kIn
  have hI : Looks (model X.prog X.w) h1 (isInstance (.ref a) (.type "ValueError")) true := by
    have J : InstAt h1 a ({ cls := .ref C, dict := none, data := .fields #[.ref t1, .none, .none, .none, .bool false, .none] } : Obj) C none := ⟨k1 _ _ ho, rfl, rfl, trivial⟩
    exact J.type.andThen (looks_subIn KX1 T.subV)
  have hne : a ≠ C := by
    intro z
    rw [z, hD1] at ho
    cases ho
    cases hD2
  have hsup := T.sup
  unfold ks_superIn at hsup
  rw [hcl] at hsup
  refine kxs_getMethod kxs_ValueError hso (looks_opaque KX1 T.opq) (l₀ := cd.mro) (fun A Q E s k q => wpAny_bind ((looks_clsIn KX1 hcl) A _ E s k (wpAny_pure q))) rfl KX1 hsup hI hne (by decide) ?_
  have hu : (h1.push (kxs_mw "ValueError.__init__" a)).get? h1.objs.size = some (kxs_mw "ValueError.__init__" a) := Heap.get?_push_at rfl rfl
  have I2 : Inv X pins σ H ⟨h1.push (kxs_mw "ValueError.__init__" a), g, dr, tk + 1, os⟩ := I1.kept (t' := tk + 1) fun b o q => Heap.get?_push_of_some _ q
  have hfree : H h1.objs.size = none := I1.hok.fresh (Nat.le_refl _)
  have fpk : FpOk X pins H h1.objs.size := I1.fpOk (Nat.le_refl _) hfree
  have I3 := I2.pinned (fp := [h1.objs.size]) (fun b hb => by
    have : b = h1.objs.size := by simpa using hb
    rw [this]
    exact fpk) (fun b hb => by
    have : b = h1.objs.size := by simpa using hb
    rw [this]
    exact ⟨_, hu, fun v z => nomatch z⟩)
  have h5 : wpAny (model X.prog X.w) X.A (spliced (backTo pos (starEach (e :: es) X.env))) (fun vs s₁ => KxsAt "ValueError.__init__" h1.objs.size a s₁.heap ∧ wpAny (model X.prog X.w) X.A (call (.ref h1.objs.size) vs) (fun _ s' => ∃ H', Inv X pins σ H' s' ∧ Qn H') X.xe s₁) X.xe ⟨h1.push (kxs_mw "ValueError.__init__" a), g, dr, tk + 1, os⟩ := by
    refine thn (ha.run pos _ _ σ H _ I3 h) fun us s2 ⟨vs, H1, I4, r1, hz, ea, q⟩ => ?_
    have hu2 : s2.heap.get? h1.objs.size = some (kxs_mw "ValueError.__init__" a) := (I4.pin (h1.objs.size, kxs_mw "ValueError.__init__" a) (List.mem_append_right _ (List.mem_append_right _ (mem_pinsAt (by simp) hu)))).1
    have hlen : us.length ≤ sizeLine := by
      rw [← Paired.length r1, sizeLine_eq]
      omega
    exact ⟨hu2, mw_call T.oex I4.unpinned ea hu2 hlen fun s' J => ⟨H1, J, q⟩⟩

  rw [he] at h5 ⊢
  refine kxs_callWith (i := "ValueError.__init__") (x := a) (by show (false || (backTo pos (starEach es X.env)).any (·.1)) = false; rw [hpl]; rfl) ?_
  exact evalArgs_plain h5
end
/-- the context of such a body -/
def cxK (CX : CXT) (P : Program) (w : World) (K : PySem.W.Frag) (mg : Str → Option Value) (base : Heap) (N : List Str) (qual : Str) (scope : Scope) (f cda cc : Addr) (A : Around) (outer : List Env) (s : Shared) (H : Hp) (E : XK) : Cx where
  prog := P
  w := w
  K := K
  mg := mg
  base := base
  A := A.deeper (ksEnv qual scope s.heap.objs.size f (.ref cda) cc)
  N := N
  s_0 := s
  H_0 := H
  env := ksEnv qual scope s.heap.objs.size f (.ref cda) cc
  outer := outer
  stack := ksEnv qual scope s.heap.objs.size f (.ref cda) cc :: outer
  ex := []
  calm := true
  fn := fun _ => false
  pn := []
  xe := fun e s' => wpAny (model P w) (A.deeper (ksEnv qual scope s.heap.objs.size f (.ref cda) cc)) (leaving (ksEnv qual scope s.heap.objs.size f (.ref cda) cc) e) (fun _ s'' => CX outer H s E e s'') (fun e' s'' => CX outer H s E e' s'') s'
/-- the scope of such a def -/
structure SuScope (N P : List Str) (sc : Scope) : Prop where
  kind : sc.kind = .function
  co : sc.isCoroutine = false
  gen : sc.isGenerator = false
  nd : N.Nodup
  pre : N.take P.length = P
  par : ∀ x ∈ P, sc.names.lookup x = some .local
  nocell : ∀ y ∈ sc.names, y.2 ≠ .cell
  free : ∀ x, sc.names.lookup x = some .free → x = "__class__"
  ks : sc.names.lookup ("super" : Str) = some .globalImplicit
  kc : sc.names.lookup ("__class__" : Str) = some .free
  ka : sc.names.lookup ("self" : Str) = some .local
  n0 : N[0]? = some ("self" : Str)
theorem fn_oinit {CX : CXT} {P : Program} {w : World} {K : PySem.W.Frag} {mg : Str → Option Value} {base : Heap} {k : Nat} {f C cda cc : Addr} {name qual : Str} {params : Arguments} {scope : Scope} {dV kV doc pm ct : Value} {an : Option Addr} {rest : List Stmt} {p0 p1 p2 pos pos' : Pos} {e : Expr} {es : List Expr} {N ps : List Str} {sp : Sp} {pl : Sem Bool}
    (T : ExI P K mg f C cda cc (ksFn name qual params (.Expr (.Call (.Attribute (.Call (.Name "super" p0) [] [] p1) "__init__" p2) (e :: es) [] pos) pos' :: rest) scope dV kV doc pm an (.ref cda) ct cc) qual scope) (S : SuScope N ps scope)
    (len : ∀ vs H Q E, sp vs H Q E → vs.length = ps.length)
    (hcall : ∀ env : Env, eval (.Call (.Attribute (.Call (.Name "super" p0) [] [] p1) "__init__" p2) (e :: es) [] pos) env = (do
      let ov ← attributeBase (.Call (.Name "super" p0) [] [] p1) "__init__" env (eval (.Call (.Name "super" p0) [] [] p1) env)
      standAt p2.atName
      let (f, first) ← holding [ov] (getMethod ov "__init__" pl)
      callWith pos f first (backTo pos (starEach (e :: es) env)) []))
    (he : ∀ env : Env, starEach (e :: es) env = (false, eval e env) :: starEach es env) (hpl : ∀ env : Env, (backTo pos (starEach es env)).any (·.1) = false)
    (hbody : ∀ (A : Around) (outer : List Env) (s : Shared) (H : Hp) (vs : List V) (Q : VK) (E : XK), sp vs H Q E → ∃ a ws, vs = .ref a :: ws ∧ H a = some (exo a C none) ∧ ∃ ta t, PA (cxK CX P w K mg base N qual scope f cda cc A outer s H E) (e :: es) ta ∧ PSs (cxK CX P w K mg base N qual scope f cda cc A outer s H E) rest t ∧
      ta (start N vs) H fun us H1 => us.length ≤ 1000 ∧ H1 a = some (exo a C none) ∧ t { nx := fun _ H' => Q .non H', rt := Q } (start N vs) H1) :
    FnOk P w K mg base CX (k + 1) f (ksFn name qual params (.Expr (.Call (.Attribute (.Call (.Name "super" p0) [] [] p1) "__init__" p2) (e :: es) [] pos) pos' :: rest) scope dV kV doc pm an (.ref cda) ct cc) ps sp := by
  refine ⟨len, fun A outer s H args us vs Q E hr e0 hb r hsp => ?_⟩
  have hl := len _ _ _ _ hsp
  have KB := e0.mod.kin
  have KX : K.In s.heap := KB.keeps fun b o e => (e0.bs b o e).1
  have lim : s.heap.NoLimit := e0.mod.nolimit.keeps fun b o e => (e0.bs b o e).1
  obtain ⟨oc, od, osl, lk⟩ := T.fun_
  obtain ⟨cl, cld, csl, lkcell⟩ := T.cell
  have hloc : ∀ y ∈ ps.zip us, scope.names.lookup y.1 = some .local := fun ⟨n, v⟩ hy => S.par n (List.of_mem_zip hy).1
  have hpl' : ps.length ≤ N.length := by have := congrArg List.length S.pre; rw [List.length_take] at this; omega
  refine ks_codeAny_call_defAt (fd := ksFn name qual params (.Expr (.Call (.Attribute (.Call (.Name "super" p0) [] [] p1) "__init__" p2) (e :: es) [] pos) pos' :: rest) scope dV kV doc pm an (.ref cda) ct cc) (binds := ps.zip us) hr.depth (KX _ _ lk) rfl lim (codeRec_of KX T.codeQ) rfl hb S.nocell hloc (fun h₁ hns hk₁ => ?_) S.co S.gen S.kind
  have hkl : ∀ y ∈ ps.zip us, (ksEnv qual scope s.heap.objs.size f (.ref cda) cc).kindOf y.1 = some .local := fun y hy => hloc y hy
  have hm : (bindL (ksEnv qual scope s.heap.objs.size f (.ref cda) cc).kindOf (ps.zip us) fun _ => none) = fun x => (ps.zip us).reverse.lookup x := by
    funext y
    rw [bindL_loc _ _ hkl y]
    cases (ps.zip us).reverse.lookup y <;> rfl
  have hcc : base.get? cc = some ⟨cl, cld, .cell (some (.ref C)), csl⟩ := KB _ _ lkcell
  have I : Inv (cxK CX P w K mg base N qual scope f cda cc A outer s H E) [] (start N vs) H { s with heap := h₁, toks := s.toks + (ps.zip us).length } := by
    have noA : ∀ b : Addr, b ∉ (cxK CX P w K mg base N qual scope f cda cc A outer s H E).ex := fun b z => absurd (show b ∈ ([] : List Addr) from z) (by simp)
    have one : ∀ {x : Str} {c : Addr}, (cxK CX P w K mg base N qual scope f cda cc A outer s H E).env.cells.lookup x = some c → x = "__class__" ∧ c = cc := fun {x c} h => by
      have h' : List.lookup x [(("__class__" : Str), cc)] = some c := h
      by_cases hx : x = "__class__"
      · subst hx
        refine ⟨rfl, ?_⟩
        have e : List.lookup ("__class__" : Str) [(("__class__" : Str), cc)] = some cc := by simp [List.lookup]
        rw [e] at h'
        exact (Option.some.inj h').symm
      · have hb2 : (x == ("__class__" : Str)) = false := by simpa using hx
        have e : List.lookup x [(("__class__" : Str), cc)] = none := by simp only [List.lookup, hb2]
        rw [e] at h'
        cases h'
    refine ⟨⟨e0.mod, S.kind, rfl, rfl, Nat.le_refl _, fun y z c h1 h2 => ?_, fun y hy => ?_, fun y c hf _ => (by cases hf), fun _ => hr.hd, Around.frames_deeper e0.frames, .inr ⟨rfl, rfl⟩, fun b z => absurd z (noA b), e0.bs, e0.bsz, fun b _ _ => noA b, fun b z => absurd z (noA b), e0.funs, e0.frf⟩,
      rfl, e0.bare, Un.kept hk₁, ⟨_, hns, fun i y v h1 h2 h3 => ?_⟩, fun y c h => ?_, e0.hok.fresh (Nat.le_refl _), fun y c h => ?_, fun p hp => absurd (show p ∈ ([] : List (Addr × Obj)) from hp) (by simp), e0.hok.kept hk₁, ?_⟩
    · rw [(one h1).1, (one h2).1]
    · have hy : scope.names.lookup y = some .cell ∨ scope.names.lookup y = some .free := hy
      rcases hy with hy | hy
      · exact absurd rfl (S.nocell _ (PySem.mem_of_lookup hy))
      · rw [S.free y hy]
        exact ⟨cc, by show List.lookup ("__class__" : Str) [(("__class__" : Str), cc)] = some cc; simp [List.lookup]⟩
    · have hi : i < vs.length := by
        unfold L2.start at h2
        by_cases hi : i < vs.length
        · exact hi
        · rw [List.getElem?_append_right (by simpa using hi)] at h2
          rw [List.getElem?_replicate] at h2
          split at h2 <;> cases h2
      have ha : vs[i]? = some v := by
        unfold L2.start at h2
        rw [List.getElem?_append_left (by simpa using hi), List.getElem?_map] at h2
        cases e : vs[i]? with
        | none => rw [e] at h2; cases h2
        | some a => rw [e] at h2; cases h2; rfl
      obtain ⟨u, hu, rv⟩ := r.get ha
      have hp : ps[i]? = some y := by
        rw [← S.pre, List.getElem?_take_of_lt (by omega)]; exact h1
      have ndP : ps.Nodup := by rw [← S.pre]; exact S.nd.sublist (List.take_sublist _ _)
      have ky := S.par y (List.mem_of_getElem? hp)
      refine ⟨u, rv, .inl ⟨ky, ?_⟩⟩
      have := bindL_get (kindOf := (ksEnv qual scope s.heap.objs.size f (.ref cda) cc).kindOf) (m := fun _ => none) ndP hp hu ky
      rw [hm] at this
      exact this
    · rw [(one h).2]
      exact ⟨_, ⟨cl, cld, .cell (some (.ref C)), csl⟩, hk₁ _ _ (e0.bs _ _ hcc).1, rfl⟩
    · rw [(one h).2]
      exact (e0.bs _ _ hcc).2
    · unfold L2.start
      show _ = N.length
      rw [List.length_append, List.length_map, List.length_replicate]
      omega
  obtain ⟨a, ws, rfl, ea, ta, t, pa, pt, hq⟩ := hbody A outer s H vs Q E hsp
  have fin : ∀ {σ' : L2.St} {H' : Hp} {s' : Shared} {v : V} {u : Value}, Inv (cxK CX P w K mg base N qual scope f cda cc A outer s H E) [] σ' H' s' → RelV v u → Q v H' → CE outer P w H s Q u s' :=
    fun {σ' H' s' v u} J rv q => ⟨v, H', J.os, J.bare, J.base, J.hok, rv, q⟩
  refine ks_wpAt_execs_cons (ks_wpAt_Expr_any (hi := by unfold interactive; rw [show (callEnv (ksFn name qual params (.Expr (.Call (.Attribute (.Call (.Name "super" p0) [] [] p1) "__init__" p2) (e :: es) [] pos) pos' :: rest) scope dV kV doc pm an (.ref cda) ct cc) s.heap.objs.size f).scope.kind = .function from S.kind]; rfl) (ks_wpAt_mono (super_init (X := cxK CX P w K mg base N qual scope f cda cc A outer s H E) (Qn := t { nx := fun _ H' => Q .non H', rt := Q } (start N (.ref a :: ws))) T rfl I S.n0 rfl ea pa hq S.ks S.kc S.ka S.kind (hcall _) (he _) (hpl _)) (fun v s' hh => ?_) fun e s' h => h))
  obtain ⟨H', J, q⟩ := hh
  refine wpAt_of_wpAny (wpAny_mono (pt.run [] s' _ H' _ J q) (fun fl s'' hs => ?_) fun e s'' h => h)
  cases fl with
  | ret u =>
    obtain ⟨v, σ', H', J, rv, q⟩ := hs
    exact fin J rv q
  | next =>
    obtain ⟨σ', H', J, q⟩ := hs
    exact fin (v := V.non) (u := Value.none) J rfl q
  | brk =>
    obtain ⟨_, _, _, q⟩ := hs
    exact False.elim q
  | cont =>
    obtain ⟨_, _, _, q⟩ := hs
    exact False.elim q
end K8

set_option Elab.async false
set_option linter.all false
set_option maxRecDepth 100000
set_option maxHeartbeats 4000000
/-! K8y: what is raised, said of data. -/
namespace K8
open PySem PySem.Spec PyProof.Rows L2
inductive Err where
  | sight (i : Nat)
  | look (d : PyData)
  | apart (i j : Nat)
def Err.nm : Err → Str
  | .sight _ => "BadSight"
  | .look _ => "BadLook"
  | .apart _ _ => "Apart"
def Err.fl : Err → List (Str × PyData)
  | .sight i => [("index", .int (i : Nat))]
  | .look d => [("look", d)]
  | .apart i j => [("first", .int (i : Nat)), ("second", .int (j : Nat))]
abbrev Out := Except Err PyData
def IsErr (K : PySem.W.Frag) (mg : Str → Option Value) (B : Hp) (cls : Value) (dd : Option Addr) (e : Err) : Prop := ∃ C a fs, mg e.nm = some (.ref C) ∧ cls = .ref C ∧ dd = some a ∧ B a = some (.xd fs) ∧ ∀ p ∈ e.fl, ∃ v, fs.lookup p.1 = some v ∧ R K B v p.2
/-- the promise of an __init__ of one field; of two -/
def sp1 (fld : Str) (C : Addr) : Sp := fun vs H Q _ => ∃ a v, vs = [.ref a, v] ∧ H a = some (exo a C none) ∧ ∀ dx, H dx = none → dx ≠ a → Q .non (upd (upd H dx (exd dx [(fld, v)])) a (exo a C (some dx)))
def sp2 (f1 f2 : Str) (C : Addr) : Sp := fun vs H Q _ => ∃ a v u, vs = [.ref a, v, u] ∧ H a = some (exo a C none) ∧ ∀ dx, H dx = none → dx ≠ a → Q .non (upd (upd (upd H dx (exd dx [(f1, v)])) a (exo a C (some dx))) dx (exd dx [(f2, u), (f1, v)]))
structure Ini (P : Program) (w : World) (K : PySem.W.Frag) (mg : Str → Option Value) (base : Heap) (x : Str) (ps : List Str) (sp : Addr → Sp) : Prop where
  ex : ∃ (C fI : Addr) (fd : FuncData), mg x = some (.ref C) ∧ OexC K C ∧ PySem.W.findIn K (.ref C) "__init__" = some (some (.ref fI)) ∧ PySem.W.typeIn K (.ref fI) = some (.type "function") ∧ Binds K fd ps [] ∧ FnOk P w K mg base CX0 1 fI fd ps (sp C)
section
variable {X : Cx} {E : XK} {e a b c : Expr} {es : List Expr} {σ : L2.St} {B H B1 : Hp} {d d1 d2 : PyData} {ds : List PyData} {p q : Bool} {pos p1 p2 : Pos} {st : Stmt} {sts body : List Stmt} {D : Ends} {k n : Nat} {o : Out}
/-- the heap behind a raise -/
theorem raise_heap {H : Hp} {a dx : Addr} {u u' w : HO} (ha : H a = none) (hd : H dx = none) (hne : dx ≠ a) (H2 : Hp) (hh : ∀ b, b ≠ a → b ≠ dx → H2 b = H b) : upd (del H2 a) dx w = upd H dx w := by
  funext b
  by_cases h1 : b = dx
  · rw [h1, upd_same, upd_same]
  · rw [upd_ne h1, upd_ne h1]
    by_cases h2 : b = a
    · rw [h2, del_same, ha]
    · rw [del_ne h2, hh b h2 h1]
theorem st_raise1 {x fld : Str} {ps : List Str} {er : Err} (I : Ini X.prog X.w X.K X.mg X.base x ps (sp1 fld)) (hx : er.nm = x) (hf : er.fl = [(fld, d)]) (hc : X.calm = true) (tk : Takes X (fun cls d _ H => E cls d H)) (hr : Room n X.A) (hk : 2 ≤ n) (hg : Gl X x) (ha : PD X e σ B d) (hb : Same B H)
    (q : ∀ cls dd B' H', F0 B H B' H' → IsErr X.K X.mg B' cls dd er → E cls dd H') (hdb : (x == ("__debug__" : Str)) = false := by decide) (he : starEach [e] X.env = (false, eval e X.env) :: starEach [] X.env := by rfl) : wpB X (.Raise (some (.Call (.Name x p1) [e] [] p2)) none pos :: sts) D σ H := by
  obtain ⟨C, fI, fd, hm, T, iC, tI, bn, F⟩ := I.ex
  refine wpB_cons (wpS_of (ps_raise hc tk (pmk_oex T iC tI F (hr.mono hk) bn .nil pass0 hg hm pa_wp hdb he)) (ad_cons ha ad_nil he H hb _ fun vs B1 H1 f1 r1 => ?_))
  obtain ⟨v, rfl, r⟩ := r1.one
  refine ⟨by show 1 ≤ 1000; decide, fun a hna => ⟨a, v, rfl, upd_same, fun dx hdx hne => ?_⟩⟩
  have hd1 : H1 dx = none := by
    rw [upd_ne hne] at hdx
    exact hdx
  refine ⟨rfl, dx, [(fld, v)], upd_same, by rw [upd_ne hne, upd_same], hd1, ?_⟩
  rw [raise_heap (u := exo a C none) (u' := exo a C none) hna hd1 hne _ fun b h1 h2 => by rw [upd_ne h1, upd_ne h2, upd_ne h1]]
  have f2 := F0.new (o := .xd [(fld, v)]) f1.bh hd1
  refine q _ _ (upd B1 dx (.xd [(fld, v)])) _ (f1.trans f2) ⟨C, dx, _, by rw [hx]; exact hm, rfl, rfl, upd_same, fun p hp => ?_⟩
  rw [hf] at hp
  have ep : p = (fld, d) := by simpa using hp
  subst ep
  exact ⟨v, by simp [List.lookup], r.mono f2.bb⟩
theorem st_raise2 {x g1 g2 : Str} {ps : List Str} {er : Err} (I : Ini X.prog X.w X.K X.mg X.base x ps (sp2 g1 g2)) (hx : er.nm = x) (hf : er.fl = [(g1, d1), (g2, d2)]) (hne12 : (g1 == g2) = false) (hc : X.calm = true) (tk : Takes X (fun cls d _ H => E cls d H)) (hr : Room n X.A) (hk : 2 ≤ n) (hg : Gl X x) (ha : PD X a σ B d1) (ha2 : PD X b σ B d2) (hb : Same B H)
    (q : ∀ cls dd B' H', F0 B H B' H' → IsErr X.K X.mg B' cls dd er → E cls dd H') (hdb : (x == ("__debug__" : Str)) = false := by decide) (he : starEach [a, b] X.env = (false, eval a X.env) :: starEach [b] X.env := by rfl) (he2 : starEach [b] X.env = (false, eval b X.env) :: starEach [] X.env := by rfl) (hpl : (backTo p2 (starEach [b] X.env)).any (·.1) = false := by rfl) :
    wpB X (.Raise (some (.Call (.Name x p1) [a, b] [] p2)) none pos :: sts) D σ H := by
  obtain ⟨C, fI, fd, hm, T, iC, tI, bn, F⟩ := I.ex
  refine wpB_cons (wpS_of (ps_raise hc tk (pmk_oex T iC tI F (hr.mono hk) bn .nil pass0 hg hm pa_wp hdb he hpl)) (ad_cons ha (ad_cons ha2 ad_nil he2) he H hb _ fun vs B1 H1 f1 r1 => ?_))
  obtain ⟨v, u, rfl, r, r'⟩ := r1.two
  refine ⟨by show 2 ≤ 1000; decide, fun a hna => ⟨a, v, u, rfl, upd_same, fun dx hdx hne => ?_⟩⟩
  have hd1 : H1 dx = none := by
    rw [upd_ne hne] at hdx
    exact hdx
  refine ⟨rfl, dx, [(g2, u), (g1, v)], by rw [upd_ne (Ne.symm hne), upd_same], upd_same, hd1, ?_⟩
  rw [raise_heap (u := exo a C none) (u' := exo a C none) hna hd1 hne _ fun b h1 h2 => by rw [upd_ne h2, upd_ne h1, upd_ne h2, upd_ne h1]]
  have f2 := F0.new (o := .xd [(g2, u), (g1, v)]) f1.bh hd1
  refine q _ _ (upd B1 dx (.xd [(g2, u), (g1, v)])) _ (f1.trans f2) ⟨C, dx, _, by rw [hx]; exact hm, rfl, rfl, upd_same, fun p hp => ?_⟩
  rw [hf] at hp
  have ep : p = (g1, d1) ∨ p = (g2, d2) := by simpa using hp
  rcases ep with ep | ep
  · subst ep
    exact ⟨v, by simp only [List.lookup, hne12, beq_self_eq_true], r.mono f2.bb⟩
  · subst ep
    exact ⟨u, by simp only [List.lookup, beq_self_eq_true], r'.mono f2.bb⟩
/-! ### outcomes -/
def PX (X : Cx) (E : XK) (e : Expr) (σ : L2.St) (B : Hp) (o : Out) : Prop := ∀ H, Same B H → ∀ Q : VK, (∀ d, o = .ok d → ∀ v B' H', F0 B H B' H' → R X.K B' v d → Q v H') → (∀ er, o = .error er → ∀ cls dd B' H', F0 B H B' H' → IsErr X.K X.mg B' cls dd er → E cls dd H') → wpE X e σ H Q
def OD (X : Cx) (E : XK) (sts : List Stmt) (σ : L2.St) (B : Hp) (o : Out) : Prop := ∀ H, Same B H → ∀ D : Ends, (∀ d, o = .ok d → ∀ v B' H', F0 B H B' H' → R X.K B' v d → D.rt v H') → (∀ er, o = .error er → ∀ cls dd B' H', F0 B H B' H' → IsErr X.K X.mg B' cls dd er → E cls dd H') → wpB X sts D σ H
theorem IsErr.mono {K : PySem.W.Frag} {mg : Str → Option Value} {B B' : Hp} {cls : Value} {dd : Option Addr} {er : Err} (h : IsErr K mg B cls dd er) (s : Same B B') : IsErr K mg B' cls dd er := by
  obtain ⟨C, a, fs, h1, h2, h3, h4, h5⟩ := h
  exact ⟨C, a, fs, h1, h2, h3, s _ _ h4, fun p hp => by
    obtain ⟨v, l, r⟩ := h5 p hp
    exact ⟨v, l, r.mono s⟩⟩
theorem OD.mono (h : OD X E sts σ B o) (s : Same B B1) : OD X E sts σ B1 o := fun H hb D q1 q2 => h H (s.trans hb) D (fun d ed v B' H' f r => by
  obtain ⟨f1, s1⟩ := uni_mono f s hb
  exact q1 d ed v _ H' f1 (r.mono s1)) fun er ee cls dd B' H' f r => by
  obtain ⟨f1, s1⟩ := uni_mono f s hb
  exact q2 er ee cls dd _ H' f1 (r.mono s1)
theorem PX.mono (h : PX X E e σ B o) (s : Same B B1) : PX X E e σ B1 o := fun H hb Q q1 q2 => h H (s.trans hb) Q (fun d ed v B' H' f r => by
  obtain ⟨f1, s1⟩ := uni_mono f s hb
  exact q1 d ed v _ H' f1 (r.mono s1)) fun er ee cls dd B' H' f r => by
  obtain ⟨f1, s1⟩ := uni_mono f s hb
  exact q2 er ee cls dd _ H' f1 (r.mono s1)
theorem PD.px (h : PD X e σ B d) : PX X E e σ B (.ok d) := fun H hb Q q _ => h H hb Q (q d rfl)
theorem RD.od (h : RD X sts σ B d) : OD X E sts σ B (.ok d) := fun H hb D q _ => h H hb D (q d rfl)
/-- a promise with what may be raised -/
def SpE (K : PySem.W.Frag) (mg : Str → Option Value) (rel : List PyData → Out → Prop) : Sp := fun vs H Q E => ∃ B ds o, Same B H ∧ RAll K B vs ds ∧ rel ds o ∧ (∀ d, o = .ok d → ∀ r B' H', F0 B H B' H' → R K B' r d → Q r H') ∧ (∀ er, o = .error er → ∀ cls dd B' H', F0 B H B' H' → IsErr K mg B' cls dd er → E cls dd H')
abbrev FnE (P : Program) (w : World) (K : PySem.W.Frag) (mg : Str → Option Value) (base : Heap) (x : Str) (k : Nat) (ps : List Str) (rel : List PyData → Out → Prop) : Prop := Fn P w K mg base (CX P w) x k ps (SpE K mg rel)
theorem px_call {x : Str} {ps : List Str} {rel : List PyData → Out → Prop} (F : FnE X.prog X.w X.K X.mg X.base x k ps rel) (hx : Passes (CX X.prog X.w) X E) (hr : Room n X.A) (hk : k ≤ n) (hg : Gl X x) (ha : AD X (e :: es) σ B ds) (h : rel ds o)
    (hdb : (x == ("__debug__" : Str)) = false := by decide) (he : starEach (e :: es) X.env = (false, eval e X.env) :: starEach es X.env := by rfl) (hpl : (backTo pos (starEach es X.env)).any (·.1) = false := by rfl) :
    PX X E (.Call (.Name x p1) (e :: es) [] pos) σ B o := by
  obtain ⟨f, fd, hm, kp, hbn, F⟩ := F.ex
  refine fun H hb Q q1 q2 => PE.wp (pe_call F (hr.mono hk) hg hm kp hbn .nil hx pa_wp hdb he hpl) (ha H hb _ fun vs B1 H1 f1 r1 => ⟨B1, ds, o, f1.bh, by rw [List.append_nil]; exact r1, h, fun d ed r B2 H2 f2 r2 => q1 d ed r B2 H2 (f1.trans f2) r2, fun er ee cls dd B2 H2 f2 r2 => q2 er ee cls dd B2 H2 (f1.trans f2) r2⟩)
/-- f(g(..)), g may raise -/
theorem px_call_px {x : Str} {ps : List Str} {rel : List PyData → PyData → Prop} (F : Fn X.prog X.w X.K X.mg X.base CX0 x k ps (SpR X.K rel)) (hr : Room n X.A) (hk : k ≤ n) (hg : Gl X x) (ha : PX X E e σ B o) (h : ∀ d1, o = .ok d1 → rel [d1] d)
    (hdb : (x == ("__debug__" : Str)) = false := by decide) (he : starEach [e] X.env = (false, eval e X.env) :: starEach [] X.env := by rfl) :
    PX X E (.Call (.Name x p1) [e] [] pos) σ B (o.map fun _ => d) := by
  obtain ⟨f, fd, hm, kp, hbn, F⟩ := F.ex
  refine fun H hb Q q1 q2 => PE.wp (pe_call F (hr.mono hk) hg hm kp hbn .nil pass0 (pa_cons pe_wp pa_nil he) hdb he rfl) (ha H hb _ (fun d1 ed v B1 H1 f1 r1 => ?_) fun er ee cls dd B2 H2 f2 r2 => q2 er (by rw [ee]; rfl) cls dd B2 H2 f2 r2)
  exact ⟨B1, [d1], d, f1.bh, .cons r1 .nil, h d1 ed, fun r B2 H2 f2 r2 => q1 d (by rw [ed]; rfl) r B2 H2 (f1.trans f2) r2⟩
theorem od_ret (h : PX X E e σ B o) : OD X E (.Return (some e) pos :: sts) σ B o := fun H hb D q1 q2 => wpB_cons (wpS_of (ps_ret pe_wp) (h H hb _ q1 q2))
theorem od_set {o1 : Out} {i : Nat} {x : Str} (hN : X.N.Nodup) (h : PX X E e σ B o1) (k1 : ∀ er, o1 = .error er → o = .error er) (k : ∀ d1, o1 = .ok d1 → ∀ v B1, Same B B1 → R X.K B1 v d1 → OD X E sts (σ.set i (some v)) B1 o) (hi : X.N[i]? = some x := by rfl) (hx : Loc X.env.scope x := by first | exact Or.inl rfl | exact Or.inr rfl) (hs : swapsWith e (some (.Name x p2)) pos.line X.env = pure false := by rfl)
    (hf : X.fn x = true ∨ X.env.scope.names.lookup x = some .local := by first | exact .inl rfl | exact .inr rfl | assumption) : OD X E (.Assign [.Name x p2] e pos :: sts) σ B o := fun H hb D q1 q2 =>
  wpB_cons (wpS_of (ps_set hN hi hx pe_wp hs hf) (h H hb _ (fun d1 ed v B1 H1 f1 r1 => k d1 ed v B1 f1.bb r1 H1 f1.bh D (fun d ed v B2 H2 f2 r2 => q1 d ed v B2 H2 (f1.trans f2) r2) fun er ee cls dd B2 H2 f2 r2 => q2 er ee cls dd B2 H2 (f1.trans f2) r2)
    fun er ee cls dd B2 H2 f2 r2 => q2 er (k1 er ee) cls dd B2 H2 f2 r2))
theorem od_expr {o1 : Out} (h : PX X E e σ B o1) (k1 : ∀ er, o1 = .error er → o = .error er) (k : ∀ d1, o1 = .ok d1 → OD X E sts σ B o) (hs : swapsWith e none pos.line X.env = pure false := by rfl) : OD X E (.Expr e pos :: sts) σ B o := fun H hb D q1 q2 =>
  wpB_cons (wpS_of (ps_expr pe_wp hs) (h H hb _ (fun d1 ed v B1 H1 f1 r1 => ((k d1 ed).mono f1.bb) H1 f1.bh D (fun d ed v B2 H2 f2 r2 => q1 d ed v B2 H2 (f1.trans f2) r2) fun er ee cls dd B2 H2 f2 r2 => q2 er ee cls dd B2 H2 (f1.trans f2) r2)
    fun er ee cls dd B2 H2 f2 r2 => q2 er (k1 er ee) cls dd B2 H2 f2 r2))
theorem od_if (h : TD X c σ B p) (h1 : p = true → OD X E body σ B o) (h2 : p = false → OD X E sts σ B o) (hs : True := trivial) : OD X E (.If c body [] pos :: sts) σ B o := fun H hb D q1 q2 =>
  wpB_cons (wpS_of (ps_if pt_wp pb_wp pss_nil) (h H hb _ fun B1 H1 f1 => by
    cases p with
    | true => exact ((h1 rfl).mono f1.bb) H1 f1.bh _ (fun d ed v B2 H2 f2 r2 => q1 d ed v B2 H2 (f1.trans f2) r2) fun er ee cls dd B2 H2 f2 r2 => q2 er ee cls dd B2 H2 (f1.trans f2) r2
    | false => exact ((h2 rfl).mono f1.bb) H1 f1.bh D (fun d ed v B2 H2 f2 r2 => q1 d ed v B2 H2 (f1.trans f2) r2) fun er ee cls dd B2 H2 f2 r2 => q2 er ee cls dd B2 H2 (f1.trans f2) r2))
theorem od_raise1 {x fld : Str} {ps : List Str} {er : Err} (I : Ini X.prog X.w X.K X.mg X.base x ps (sp1 fld)) (hx : er.nm = x) (hf : er.fl = [(fld, d)]) (hc : X.calm = true) (tk : Takes X (fun cls d _ H => E cls d H)) (hr : Room n X.A) (hk : 2 ≤ n) (hg : Gl X x) (ha : PD X e σ B d)
    (hdb : (x == ("__debug__" : Str)) = false := by decide) (he : starEach [e] X.env = (false, eval e X.env) :: starEach [] X.env := by rfl) : OD X E (.Raise (some (.Call (.Name x p1) [e] [] p2)) none pos :: sts) σ B (.error er) := fun H hb D _ q2 => st_raise1 I hx hf hc tk hr hk hg ha hb (q2 er rfl) hdb he
end
/-! ### a def that may raise -/
abbrev cxx (P : Program) (w : World) (K : PySem.W.Frag) (mg : Str → Option Value) (base : Heap) (x : Str) (st : Stmt) (N : List Str) (f : Addr) (cdv : Value) (A : Around) (outer : List Env) (s : Shared) (H : Hp) (E : XK) : Cx := cxOf (CX P w) P w K mg base N x (defScope st) f cdv A outer s H E
section
variable {P : Program} {w : World} {K : PySem.W.Frag} {mg : Str → Option Value} {base : Heap} {x : Str} {st : Stmt} {N : List Str} {f : Addr} {cdv : Value} {A : Around} {outer : List Env} {s : Shared} {H : Hp} {E : XK}
theorem tkx : Takes (cxx P w K mg base x st N f cdv A outer s H E) (fun cls d _ H => E cls d H) := takes_of rfl rfl rfl rfl
theorem ownx : PassesOwn (model (cxx P w K mg base x st N f cdv A outer s H E).prog (cxx P w K mg base x st N f cdv A outer s H E).w) (cxx P w K mg base x st N f cdv A outer s H E).A (cxx P w K mg base x st N f cdv A outer s H E).env (cxx P w K mg base x st N f cdv A outer s H E).xe := passes_of rfl
theorem pssx : Passes (CX (cxx P w K mg base x st N f cdv A outer s H E).prog (cxx P w K mg base x st N f cdv A outer s H E).w) (cxx P w K mg base x st N f cdv A outer s H E) E := passes_call tkx fun _ _ _ _ h => h
theorem fnE_data {ps : List Str} {k : Nat} {rel : List PyData → Out → Prop} (D : IsDef K mg x st) (S : FnScope N ps (defScope st)) (len : ∀ ds d, rel ds d → ds.length = ps.length)
    (bind : ∀ (kV doc pm : Value) (an : Option Addr) (cdv ct : Value) (us : List Value), us.length = ps.length → bindArgs (PySem.W.fnOf x x (defArgs st) (defBody st) (defScope st) .none kV doc pm an cdv ct) ⟨us, []⟩ = pure (ps.zip us))
    (body : ∀ (f : Addr) (cdv : Value) (A : Around) (outer : List Env) (s : Shared) (H : Hp) (E : XK) (vs : List V) (B : Hp) (ds : List PyData) (o : Out), Room k (cxx P w K mg base x st N f cdv A outer s H E).A → rel ds o → RAll K B vs ds → OD (cxx P w K mg base x st N f cdv A outer s H E) E (defBody st) (start N vs) B o) :
    FnE P w K mg base x (k + 1) ps rel := by
  obtain ⟨f, fd, hm, F⟩ := D
  have kp := F.kp
  have bn := F.binds bind
  obtain ⟨oc, od, kV, doc, pm, an, cdv, ct, osl, rfl, lk, hcd⟩ := F.ex
  refine ⟨f, _, hm, kp, bn, fn_of lk hcd S (fun vs H Q E h => ?_) fun A outer s H vs Q E hr h => ?_⟩
  · obtain ⟨B, ds, d, _, ra, hrel, _⟩ := h
    rw [ra.len]
    exact len ds d hrel
  · obtain ⟨B, ds, o, hb, ra, hrel, q1, q2⟩ := h
    exact ⟨wpB _ _, pb_wp, body f cdv A outer s H E vs B ds o hr hrel ra H hb { nx := fun _ H' => Q .non H', rt := Q } (fun d ed v B' H' f1 r1 => q1 d ed v B' H' f1 r1) q2⟩
end
end K8

set_option Elab.async false
set_option linter.all false
set_option maxRecDepth 100000
set_option maxHeartbeats 4000000
/-! K8z: sights_of, checked, follows, least, sure. -/
namespace K8
open PySem PySem.Spec PyProof.Rows L2
section
variable {X : Cx} {σ : L2.St} {B H : Hp} {ds : List PyData} {pos : Pos} {sts body : List Stmt} {D : Ends}
theorem st_forE {iter tg : Expr} {g : TG} (hp : PassesOwn (model X.prog X.w) X.A X.env X.xe) (hc : X.calm = true) (hsrc : ∃ wi, PI X tg iter wi ∧ Src X.K wi σ B ds) (hg : PG X tg g) (hb : Same B H)
    (k : ∀ B1 H1, F0 B H B1 H1 → ∃ Pv : Nat → L2.St → Hp → Hp → Prop, Pv 0 σ B1 H1 ∧
      (∀ i σ' Bi Hi d x By H', i < ds.length → Same B1 Bi → Same Bi Hi → Pv i σ' Bi Hi → ds[i]? = some d → F0 Bi Hi By H' → R X.K By x d → ∃ σ2, GD g σ' By x σ2 ∧
        wpB X body { D with nx := fun σ3 H3 => ∃ B3, Same B1 B3 ∧ Same B3 H3 ∧ Pv (i + 1) σ3 B3 H3, ct := fun σ3 H3 => ∃ B3, Same B1 B3 ∧ Same B3 H3 ∧ Pv (i + 1) σ3 B3 H3, bk := wpB X sts D } σ2 H') ∧
      (∀ σ' Bi Hi, Same B1 Bi → Same Bi Hi → Pv ds.length σ' Bi Hi → wpB X sts D σ' Hi))
    (hs : ∀ x, foldedSetIterable iter X.env x = pure x := by intro _; rfl) : wpB X (.For tg iter body [] pos :: sts) D σ H := by
  obtain ⟨wi, hi, src⟩ := hsrc
  exact st_for hp hc hi hg src hb k hs
end
abbrev sgsD (ss : List Sg) : PyData := .list (ss.map Sg.d)
def goS : Nat → List PyData → Except Err (List Sg)
  | _, [] => .ok []
  | i, x :: xs => match sightOf x with
    | none => .error (.sight i)
    | some s => (goS (i + 1) xs).map (s :: ·)
def sightsOf (x : PyData) : Except Err (List Sg) := match seqOf x with
  | none => .error (.sight 0)
  | some xs => goS 0 xs
def okSights (x : PyData) : Bool := match seqOf x with
  | none => true
  | some xs => decide (xs.length ≤ 1000) && xs.all okSight
abbrev R_sights_of : List PyData → Out → Prop := fun ds o => ∃ x, ds = [x] ∧ okSights x = true ∧ o = (sightsOf x).map sgsD
theorem drop_cons {α : Type} {xs : List α} {i : Nat} {x : α} (h : xs[i]? = some x) : xs.drop i = x :: xs.drop (i + 1) := by
  obtain ⟨hi, e⟩ := List.getElem?_eq_some_iff.mp h
  rw [List.drop_eq_getElem_cons hi, e]
section
variable {P : Program} {w : World} {K : PySem.W.Frag} {mg : Str → Option Value} {base : Heap}
theorem fn_sights_of (D : IsDef K mg "sights_of" s_sights_of) (T : Bl mg) (IS : Ini P w K mg base "BadSight" ["self", "index"] (sp1 "index")) (F1 : Fn P w K mg base CX0 "is_list" 1 ["thing"] (SpR K R_is_list)) (F2 : Fn P w K mg base CX0 "sight_of" 4 ["thing"] (SpR K R_sight_of)) : FnE P w K mg base "sights_of" 5 ["things"] R_sights_of := by
  refine fnE_data D sc_sights_of (fun ds d h => by obtain ⟨x, rfl, _⟩ := h; rfl) (fun _ _ _ _ _ _ us hl => match us, hl with | [_], _ => rfl) fun f cdv A outer s H0 E vs B ds o hr h ra => ?_
  obtain ⟨x, rfl, ok, rfl⟩ := h
  obtain ⟨v, rfl, r⟩ := ra.one
  intro H hb D q1 q2
  unfold sightsOf at q1 q2
  cases hq : seqOf x with
  | none =>
    rw [hq] at q2
    have e1 : isSeq x = false := by cases x <;> first | rfl | simp [seqOf] at hq
    refine st_if (p := true) (TD.at ((td_not (td_val (pd_call F1 hr (by decide) (by rfl) (ad_cons (pd_var 0 rfl r) ad_nil) ⟨_, rfl, rfl⟩))).cast (by rw [e1]; rfl)) hb) (fun _ B1 H1 f1 => ?_) fun z => nomatch z
    exact st_raise1 (er := .sight 0) IS rfl rfl rfl tkx hr (by decide) (by rfl) pd_int f1.bh fun cls dd B' H' f2 r2 => q2 (.sight 0) rfl cls dd B' H' (f1.trans f2) r2
  | some xs =>
    rw [hq] at q1 q2
    simp only at q1 q2
    have e1 : isSeq x = true := by cases x <;> first | rfl | simp [seqOf] at hq
    have ok2 : xs.length ≤ 1000 ∧ ∀ z ∈ xs, okSight z = true := by
      unfold okSights at ok
      rw [hq] at ok
      simp only [Bool.and_eq_true, decide_eq_true_eq, List.all_eq_true] at ok
      exact ok
    refine st_if (p := false) (TD.at ((td_not (td_val (pd_call F1 hr (by decide) (by rfl) (ad_cons (pd_var 0 rfl r) ad_nil) ⟨_, rfl, rfl⟩))).cast (by rw [e1]; rfl)) hb) (fun z => nomatch z) fun _ B1 H1 f1 => ?_
    refine st_new (i := 1) sc_sights_of.nd fun L hL => ?_
    have r1 := r.mono f1.bb
    refine st_forE ownx rfl (src_enum hq (by rfl) T.enumerate (pd_var 0 rfl r1)) (pg_tup rfl (pgs_cons (pg_name (i := 2) sc_sights_of.nd rfl (Or.inl rfl)) (pgs_cons (pg_name (i := 3) sc_sights_of.nd rfl (Or.inl rfl)) pgs_nil))) (upd_out f1.bh (f1.bh.free hL)) fun B2 H2 f2 => ?_
    refine ⟨fun i σ' Bi Hi => ∃ o1 o2 o3 ss, σ' = [some v, some (.ref L), o1, o2, o3] ∧ MuL K L (ss.map Sg.d) Bi Hi ∧ Fz (· = L) B2 H2 Bi Hi ∧ ss.length = i ∧ goS 0 xs = (goS i (xs.drop i)).map (ss ++ ·), ?_, ?_, ?_⟩
    · refine ⟨_, _, _, [], rfl, (MuL.new f1.bh hL).f0 f2, Fz.refl f2.bh, rfl, ?_⟩
      show goS 0 xs = (goS 0 xs).map ([] ++ ·)
      cases goS 0 xs <;> rfl
    · rintro i σ' Bi Hi d x' By H' hi s1 s2 ⟨o1, o2, o3, ss, rfl, m, fz, hl, hgo⟩ hd fy rd
      have hi' : i < xs.length := by rwa [List.length_map, List.length_range] at hi
      obtain ⟨z, hz⟩ : ∃ z, xs[i]? = some z := ⟨xs[i], by simp [hi']⟩
      have ed : d = .tuple [.int (i : Nat), z] := by
        rw [List.getElem?_map, List.getElem?_range hi'] at hd
        have ez : xs.getD i .none = z := by
          rw [List.getD_eq_getElem?_getD, hz]
          rfl
        rw [← Option.some.inj hd]
        show PyData.tuple [.int (i : Nat), xs.getD i .none] = _
        rw [ez]
      subst ed
      obtain ⟨v3, v4, r3, r4, gd⟩ := gd_pair rd
      refine ⟨_, gd gd_name gd_name, ?_⟩
      have okz := ok2.2 z (List.mem_of_getElem? hz)
      refine st_set (i := 4) sc_sights_of.nd (d := oD Sg.d (sightOf z)) (pd_call F2 hr (by decide) (by rfl) (ad_cons (pd_var 3 rfl r4) ad_nil) ⟨z, rfl, okz, rfl⟩) fy.bh fun v5 B3 H3 f3 r5 => ?_
      have hgi : goS i (xs.drop i) = match sightOf z with
          | none => .error (.sight i)
          | some s => (goS (i + 1) (xs.drop (i + 1))).map (s :: ·) := by
        rw [drop_cons hz]
        rfl
      have f13 : Fz (· = L) B1 (upd H1 L (.lst [])) B3 H3 := ((f2.to.trans fz).trans fy.to).trans f3.to
      cases hs : sightOf z with
      | none =>
        rw [hs] at r5 hgi
        have ego : goS 0 xs = .error (.sight i) := by
          rw [hgo, hgi]
          rfl
        rw [ego] at q2
        refine st_if (p := true) (TD.at (cd_isN (pd_var 4 rfl r5)).td f3.bh) (fun _ B4 H4 f4 => ?_) fun z => nomatch z
        refine st_raise1 (er := .sight i) IS rfl rfl rfl tkx hr (by decide) (by rfl) (pd_var 2 rfl ((r3.mono f3.bb).mono f4.bb)) f4.bh fun cls dd B' H' f5 r6 => ?_
        have m' : MuL K L (ss.map Sg.d) B' H' := (((m.f0 fy).f0 f3).f0 f4).f0 f5
        obtain ⟨acc, hacc, _⟩ := m'.frz
        have fall := Fz.frz f1.bh hL (S := NoS) ((f13.trans f4.to).trans f5.to) (fun a h => .inr h) hacc m'.1
        exact q2 (.sight i) rfl cls dd _ H' (f1.trans fall) (r6.mono (upd_out (Same.refl _) m'.1))
      | some sg =>
        rw [hs] at r5 hgi
        refine st_if (p := false) (TD.at (cd_isN (pd_var 4 rfl r5)).td f3.bh) (fun z => nomatch z) fun _ B4 H4 f4 => ?_
        have m' : MuL K L (ss.map Sg.d) B4 H4 := ((m.f0 fy).f0 f3).f0 f4
        refine st_app (j := 1) rfl m' f4.bh (by rw [List.length_map]; omega) (pd_var 4 rfl (r5.mono f4.bb)) fun B5 H5 f5 H6 f6 m6 _ => ?_
        refine wpB_nil ⟨B5, ?_, f6.bh, _, _, _, ss ++ [sg], rfl, ?_, ?_, ?_, ?_⟩
        · exact fz.bb.trans (fy.bb.trans (f3.bb.trans (f4.bb.trans f6.bb)))
        · rw [List.map_append]
          exact m6
        · exact (((fz.trans fy.to).trans f3.to).trans f4.to).trans f6
        · rw [List.length_append, hl]
          rfl
        · rw [hgo, hgi]
          show ((goS (i + 1) (xs.drop (i + 1))).map (sg :: ·)).map (ss ++ ·) = _
          cases goS (i + 1) (xs.drop (i + 1)) with
          | error e => rfl
          | ok l =>
            show Except.ok (ss ++ sg :: l) = Except.ok (ss ++ [sg] ++ l)
            rw [List.append_assoc]
            rfl
    · rintro σ' Bi Hi s1 s2 ⟨o1, o2, o3, ss, rfl, m, fz, hl, hgo⟩
      have hlen : ((List.range xs.length).map fun i => PyData.tuple [.int (i : Nat), xs.getD i .none]).length = xs.length := by rw [List.length_map, List.length_range]
      rw [hlen, List.drop_length] at hgo
      have ego : goS 0 xs = .ok ss := by
        rw [hgo]
        show Except.ok (ss ++ []) = _
        rw [List.append_nil]
      rw [ego] at q1
      refine st_retv (i := 1) rfl ?_
      obtain ⟨acc, hacc, rr⟩ := m.frz
      exact q1 _ rfl _ _ Hi (f1.trans (Fz.frz f1.bh hL (S := NoS) (f2.to.trans fz) (fun a h => .inr h) hacc m.1)) rr
/-! ### checked, follows -/
def okR (s : Sg) : Bool := okG s && (decide (sightOf s.d = some s) && okSight s.d)
def okSS (ss : List Sg) : Bool := decide (ss.length ≤ 1000) && (ss.all okR && ss.all fun s => ss.all fun t => okAp s t)
theorem okSS_n {ss : List Sg} (h : okSS ss = true) : ss.length ≤ 1000 := by
  unfold okSS at h
  simp only [Bool.and_eq_true, decide_eq_true_eq] at h
  exact h.1
theorem okSS_r {ss : List Sg} (h : okSS ss = true) : ∀ s ∈ ss, okR s = true := by
  unfold okSS at h
  simp only [Bool.and_eq_true, List.all_eq_true] at h
  exact h.2.1
theorem okSS_g {ss : List Sg} (h : okSS ss = true) : ss.all okG = true := List.all_eq_true.mpr fun s hs => (Bool.and_eq_true_iff.mp (okSS_r h s hs)).1
theorem okSS_p {ss : List Sg} (h : okSS ss = true) : (ss.all fun s => ss.all fun t => okAp s t) = true := by
  unfold okSS at h
  simp only [Bool.and_eq_true] at h
  exact h.2.2
theorem okR_s {s : Sg} (h : okR s = true) : sightOf s.d = some s ∧ okSight s.d = true := by
  unfold okR at h
  simp only [Bool.and_eq_true, decide_eq_true_eq] at h
  exact h.2
theorem goS_d : ∀ (ss : List Sg) (i : Nat), (∀ s ∈ ss, okR s = true) → goS i (ss.map Sg.d) = .ok ss
  | [], i, _ => rfl
  | s :: ss, i, h => by
    rw [List.map_cons, goS, (okR_s (h s List.mem_cons_self)).1]
    simp only
    rw [goS_d ss (i + 1) fun t ht => h t (List.mem_cons_of_mem _ ht)]
    rfl
theorem sightsOf_d {ss : List Sg} (h : okSS ss = true) : sightsOf (sgsD ss) = .ok ss := goS_d ss 0 (okSS_r h)
theorem okSights_d {ss : List Sg} (h : okSS ss = true) : okSights (sgsD ss) = true := by
  show (decide ((ss.map Sg.d).length ≤ 1000) && (ss.map Sg.d).all okSight) = true
  rw [List.length_map, decide_eq_true (okSS_n h), Bool.true_and]
  refine List.all_eq_true.mpr fun d hd => ?_
  obtain ⟨s, hs, rfl⟩ := List.mem_map.mp hd
  exact (okR_s (okSS_r h s hs)).2
def chk (ss : List Sg) : Except Err (List Sg) := match firstApart ss with
  | some p => .error (.apart p.1 p.2)
  | none => .ok ss
def chkO (x : PyData) : Except Err (List Sg) := match sightsOf x with
  | .error e => .error e
  | .ok ss => chk ss
abbrev R_checked : List PyData → Out → Prop := fun ds o => ∃ x, ds = [x] ∧ okSights x = true ∧ (∀ ss, sightsOf x = .ok ss → okSS ss = true) ∧ o = (chkO x).map sgsD
theorem fn_checked (D : IsDef K mg "checked" s_checked) (IA : Ini P w K mg base "Apart" ["self", "first", "second"] (sp2 "first" "second")) (F1 : FnE P w K mg base "sights_of" 5 ["things"] R_sights_of) (F2 : Fn P w K mg base CX0 "first_apart" 7 ["sights"] (SpR K R_first_apart)) : FnE P w K mg base "checked" 8 ["sights"] R_checked := by
  refine fnE_data D sc_checked (fun ds d h => by obtain ⟨x, rfl, _⟩ := h; rfl) (fun _ _ _ _ _ _ us hl => match us, hl with | [_], _ => rfl) fun f cdv A outer s H0 E vs B ds o hr h ra => ?_
  obtain ⟨x, rfl, ok, hss, rfl⟩ := h
  obtain ⟨v, rfl, r⟩ := ra.one
  refine od_set (i := 1) sc_checked.nd (px_call F1 pssx hr (by decide) (by rfl) (ad_cons (pd_var 0 rfl r) ad_nil) ⟨x, rfl, ok, rfl⟩) (fun er ee => ?_) fun d1 ed v1 B1 s1 r1 => ?_
  · unfold chkO
    cases hs : sightsOf x with
    | error e =>
      rw [hs] at ee
      exact ee
    | ok ss => rw [hs] at ee; cases ee
  · cases hs : sightsOf x with
    | error e => rw [hs] at ed; cases ed
    | ok ss =>
      rw [hs] at ed
      have e1 : d1 = sgsD ss := by cases ed; rfl
      subst e1
      have okss := hss ss hs
      have ec : chkO x = chk ss := by
        unfold chkO
        rw [hs]
      rw [ec]
      refine od_set (i := 2) sc_checked.nd (PD.px (pd_call F2 hr (by decide) (by rfl) (ad_cons (pd_var 1 rfl r1) ad_nil) ⟨ss, rfl, okSS_n okss, okSS_g okss, okSS_p okss, rfl⟩)) (fun er ee => nomatch ee) fun d2 ed2 v2 B2 s2 r2 => ?_
      have e2 : d2 = oD pairD (firstApart ss) := by cases ed2; rfl
      subst e2
      unfold chk
      cases hp : firstApart ss with
      | none =>
        rw [hp] at r2
        exact od_if (p := false) (cd_notN (pd_var 2 rfl r2)).td (fun z => nomatch z) fun _ => RD.od (rd_ret (pd_var 1 rfl (r1.mono s2)))
      | some p =>
        rw [hp] at r2
        refine od_if (p := true) (cd_notN (pd_var 2 rfl r2)).td (fun _ => ?_) fun z => nomatch z
        exact fun H hb D _ q2 => st_raise2 (er := .apart p.1 p.2) IA rfl rfl (by decide) rfl tkx hr (by decide) (by rfl) (pd_ixT (m := 0) (pd_var 2 rfl r2) pd_int rfl) (pd_ixT (m := 1) (pd_var 2 rfl r2) pd_int rfl) hb (q2 (.apart p.1 p.2) rfl)
theorem chkO_d {ss : List Sg} (h : okSS ss = true) : chkO (sgsD ss) = chk ss := by
  unfold chkO
  rw [sightsOf_d h]
def folO (x y : PyData) : Except Err Bool := match sightsOf x with
  | .error e => .error e
  | .ok ss => match sightOf y with
    | none => .error (.sight ss.length)
    | some t => match firstApart ss with
      | some p => .error (.apart p.1 p.2)
      | none => .ok (broughtB ss t)
abbrev R_follows : List PyData → Out → Prop := fun ds o => ∃ x y, ds = [x, y] ∧ okSights x = true ∧ okSight y = true ∧ (∀ ss, sightsOf x = .ok ss → okSS ss = true ∧ ∀ t, sightOf y = some t → okG t = true ∧ okBr ss t.k = true) ∧ o = (folO x y).map .bool
theorem fn_follows (D : IsDef K mg "follows" s_follows) (T : Bl mg) (IS : Ini P w K mg base "BadSight" ["self", "index"] (sp1 "index")) (F1 : FnE P w K mg base "sights_of" 5 ["things"] R_sights_of) (F2 : Fn P w K mg base CX0 "sight_of" 4 ["thing"] (SpR K R_sight_of)) (F3 : FnE P w K mg base "checked" 8 ["sights"] R_checked) (F4 : Fn P w K mg base CX0 "is_brought" 6 ["sights", "sight"] (SpR K R_is_brought)) : FnE P w K mg base "follows" 9 ["sights", "sight"] R_follows := by
  refine fnE_data D sc_follows (fun ds d h => by obtain ⟨x, y, rfl, _⟩ := h; rfl) (fun _ _ _ _ _ _ us hl => match us, hl with | [_, _], _ => rfl) fun f cdv A outer s H0 E vs B ds o hr h ra => ?_
  obtain ⟨x, y, rfl, ok, oky, hss, rfl⟩ := h
  obtain ⟨v, v', rfl, r, r'⟩ := ra.two
  refine od_set (i := 2) sc_follows.nd (px_call F1 pssx hr (by decide) (by rfl) (ad_cons (pd_var 0 rfl r) ad_nil) ⟨x, rfl, ok, rfl⟩) (fun er ee => ?_) fun d1 ed v1 B1 s1 r1 => ?_
  · unfold folO
    cases hs : sightsOf x with
    | error e =>
      rw [hs] at ee
      cases ee
      rfl
    | ok ss => rw [hs] at ee; cases ee
  · cases hs : sightsOf x with
    | error e => rw [hs] at ed; cases ed
    | ok ss =>
      rw [hs] at ed
      have e1 : d1 = sgsD ss := by cases ed; rfl
      subst e1
      obtain ⟨okss, hty⟩ := hss ss hs
      unfold folO
      rw [hs]
      simp only
      refine od_set (i := 3) sc_follows.nd (PD.px (pd_call F2 hr (by decide) (by rfl) (ad_cons (pd_var 1 rfl (r'.mono s1)) ad_nil) ⟨y, rfl, oky, rfl⟩)) (fun er ee => nomatch ee) fun d2 ed2 v2 B2 s2 r2 => ?_
      have e2 : d2 = oD Sg.d (sightOf y) := by cases ed2; rfl
      subst e2
      have r1' := r1.mono s2
      cases ht : sightOf y with
      | none =>
        rw [ht] at r2
        refine od_if (p := true) (cd_isN (pd_var 3 rfl r2)).td (fun _ => ?_) fun z => nomatch z
        exact od_raise1 (er := .sight ss.length) IS rfl rfl rfl tkx hr (by decide) (by rfl) (PD.cast (pd_lenL (by rfl) T.len (pd_var 2 rfl r1')) (by rw [List.length_map]))
      | some t =>
        rw [ht] at r2
        obtain ⟨okt, okb⟩ := hty t ht
        refine od_if (p := false) (cd_isN (pd_var 3 rfl r2)).td (fun z => nomatch z) fun _ => ?_
        refine od_expr (px_call F3 pssx hr (by decide) (by rfl) (ad_cons (pd_var 2 rfl r1') ad_nil) ⟨_, rfl, okSights_d okss, fun ss2 h2 => by rw [sightsOf_d okss] at h2; cases h2; exact okss, rfl⟩) (fun er ee => ?_) fun d3 ed3 => ?_
        · rw [chkO_d okss] at ee
          unfold chk at ee
          cases hp : firstApart ss with
          | none => rw [hp] at ee; cases ee
          | some p =>
            rw [hp] at ee
            cases ee
            rfl
        · rw [chkO_d okss] at ed3
          unfold chk at ed3
          cases hp : firstApart ss with
          | some p => rw [hp] at ed3; cases ed3
          | none => exact RD.od (rd_ret (pd_call F4 hr (by decide) (by rfl) (ad_cons (pd_var 2 rfl r1') (ad_cons (pd_var 3 rfl r2) ad_nil)) ⟨ss, t, rfl, okSS_n okss, okSS_g okss, okt, okb, rfl⟩))
/-! ### sure -/
def bringsJ (s : Sg) (k : Lk) : Option An := (brings s k).join
def sureB (ss : List Sg) (k : Lk) : Option An := ss.findSome? fun s => bringsJ s k
def sureO (x y : PyData) : Except Err (Option An) := match sightsOf x with
  | .error e => .error e
  | .ok ss => match lookOf y with
    | none => .error (.look y)
    | some k => match firstApart ss with
      | some p => .error (.apart p.1 p.2)
      | none => .ok (sureB ss k)
abbrev R_sure : List PyData → Out → Prop := fun ds o => ∃ x y, ds = [x, y] ∧ okSights x = true ∧ okLook y = true ∧ (∀ ss, sightsOf x = .ok ss → okSS ss = true ∧ ∀ k, lookOf y = some k → okK k = true ∧ okBr ss k = true) ∧ o = (sureO x y).map anD
def findB (ss : List Sg) (k : Lk) (d : PyData) : Option PyData := match asSg ss d with
  | some s => (bringsJ s k).map fun a => .tuple [An.d a]
  | none => none
theorem findB_map (tt : List Sg) (k : Lk) : ∀ ss : List Sg, (∀ s ∈ ss, s ∈ tt) → (ss.map Sg.d).findSome? (findB tt k) = (sureB ss k).map fun a => PyData.tuple [An.d a]
  | [], _ => rfl
  | s :: ss, h => by
    have ih := findB_map tt k ss fun t ht => h t (List.mem_cons_of_mem _ ht)
    have e1 : findB tt k s.d = (bringsJ s k).map fun a => PyData.tuple [An.d a] := by
      unfold findB
      rw [asSg_d (h s List.mem_cons_self)]
    rw [List.map_cons, List.findSome?_cons, e1, ih]
    unfold sureB
    rw [List.findSome?_cons]
    cases bringsJ s k <;> rfl
theorem fn_sure (D : IsDef K mg "sure" s_sure) (T : Bl mg) (IL : Ini P w K mg base "BadLook" ["self", "look"] (sp1 "look")) (F1 : FnE P w K mg base "sights_of" 5 ["things"] R_sights_of) (F2 : Fn P w K mg base CX0 "look_of" 3 ["thing"] (SpR K R_look_of)) (F3 : FnE P w K mg base "checked" 8 ["sights"] R_checked) (F4 : Fn P w K mg base CX0 "brings" 5 ["sight", "look"] (SpR K R_brings)) : FnE P w K mg base "sure" 9 ["sights", "look"] R_sure := by
  refine fnE_data D sc_sure (fun ds d h => by obtain ⟨x, y, rfl, _⟩ := h; rfl) (fun _ _ _ _ _ _ us hl => match us, hl with | [_, _], _ => rfl) fun f cdv A outer s H0 E vs B ds o hr h ra => ?_
  obtain ⟨x, y, rfl, ok, oky, hss, rfl⟩ := h
  obtain ⟨v, v', rfl, r, r'⟩ := ra.two
  refine od_set (i := 2) sc_sure.nd (px_call F1 pssx hr (by decide) (by rfl) (ad_cons (pd_var 0 rfl r) ad_nil) ⟨x, rfl, ok, rfl⟩) (fun er ee => ?_) fun d1 ed v1 B1 s1 r1 => ?_
  · unfold sureO
    cases hs : sightsOf x with
    | error e =>
      rw [hs] at ee
      cases ee
      rfl
    | ok ss => rw [hs] at ee; cases ee
  · cases hs : sightsOf x with
    | error e => rw [hs] at ed; cases ed
    | ok ss =>
      rw [hs] at ed
      have e1 : d1 = sgsD ss := by cases ed; rfl
      subst e1
      obtain ⟨okss, hty⟩ := hss ss hs
      unfold sureO
      rw [hs]
      simp only
      refine od_set (i := 3) sc_sure.nd (PD.px (pd_call F2 hr (by decide) (by rfl) (ad_cons (pd_var 1 rfl (r'.mono s1)) ad_nil) ⟨y, rfl, oky, rfl⟩)) (fun er ee => nomatch ee) fun d2 ed2 v2 B2 s2 r2 => ?_
      have e2 : d2 = oD Lk.d (lookOf y) := by cases ed2; rfl
      subst e2
      have r1' := r1.mono s2
      cases ht : lookOf y with
      | none =>
        rw [ht] at r2
        refine od_if (p := true) (cd_isN (pd_var 3 rfl r2)).td (fun _ => ?_) fun z => nomatch z
        exact od_raise1 (er := .look y) IL rfl rfl rfl tkx hr (by decide) (by rfl) (pd_var 1 rfl ((r'.mono s1).mono s2))
      | some k =>
        rw [ht] at r2
        obtain ⟨okk, okb⟩ := hty k ht
        refine od_if (p := false) (cd_isN (pd_var 3 rfl r2)).td (fun z => nomatch z) fun _ => ?_
        refine od_expr (px_call F3 pssx hr (by decide) (by rfl) (ad_cons (pd_var 2 rfl r1') ad_nil) ⟨_, rfl, okSights_d okss, fun ss2 h2 => by rw [sightsOf_d okss] at h2; cases h2; exact okss, rfl⟩) (fun er ee => ?_) fun d3 ed3 => ?_
        · rw [chkO_d okss] at ee
          unfold chk at ee
          cases hp : firstApart ss with
          | none => rw [hp] at ee; cases ee
          | some p =>
            rw [hp] at ee
            cases ee
            rfl
        · rw [chkO_d okss] at ed3
          unfold chk at ed3
          cases hp : firstApart ss with
          | some p => rw [hp] at ed3; cases ed3
          | none =>
            refine RD.od (rd_for (ds := ss.map Sg.d) (U := fun σ1 => ∃ o, σ1 = [some v, some v', some v1, some v2, o]) (find := findB ss k) ownx rfl (pi_list pe_wp) (pg_name (i := 4) sc_sure.nd rfl (Or.inl rfl)) (src_list (pd_var 2 rfl r1')) ⟨_, rfl⟩ (fun d' hd v3 B3 σ1 s3 r3 u1 => ?_) (fun d' hd' => ?_) fun hno σ1 B3 s3 u1 => ?_)
            · obtain ⟨sg, hm, rfl⟩ := List.mem_map.mp hd
              obtain ⟨o, rfl⟩ := u1
              obtain ⟨br, hbr⟩ := Option.isSome_iff_exists.mp (List.all_eq_true.mp okb sg hm)
              have okg := List.all_eq_true.mp (okSS_g okss) sg hm
              have ej : bringsJ sg k = br := by
                unfold bringsJ
                rw [hbr]
                rfl
              have ef : findB ss k sg.d = br.map fun a => PyData.tuple [An.d a] := by
                unfold findB
                rw [asSg_d hm]
                simp only
                rw [ej]
              rw [ef]
              refine ⟨_, gd_name, bd_if (d := anD br) (p := br.isSome) (CD.td (cd_notN (d := anD br) (pd_call F4 hr (by decide) (by rfl) (ad_cons (pd_var 4 rfl r3) (ad_cons (pd_var 3 rfl (r2.mono s3)) ad_nil)) ⟨sg, k, br, rfl, okg, okk, hbr, rfl⟩) (hp := by cases br <;> rfl))) (fun z => ?_) fun z => ?_⟩
              · refine ⟨rd_ret (pd_call F4 hr (by decide) (by rfl) (ad_cons (pd_var 4 rfl r3) (ad_cons (pd_var 3 rfl (r2.mono s3)) ad_nil)) ⟨sg, k, br, rfl, okg, okk, hbr, rfl⟩), ?_⟩
                cases br with
                | none => cases z
                | some a => rfl
              · cases br with
                | some a => cases z
                | none => exact bd_nil ⟨_, rfl⟩
            · rw [findB_map ss k ss fun s hs => hs] at hd'
              obtain ⟨a, ha, rfl⟩ := Option.map_eq_some_iff.mp hd'
              rw [ha]
            · rw [findB_map ss k ss fun s hs => hs] at hno
              rw [Option.map_eq_none_iff.mp hno]
              exact rd_ret pd_non
/-! ### least -/
def leastStep (ss : List Sg) (acc : List Sg) (s : Sg) : List Sg := if (!(acc.any fun t => decide (t = s)) && !broughtB (ss.filter fun t => !decide (t = s)) s) = true then acc ++ [s] else acc
def leastOf (ss : List Sg) : List Sg := ss.foldl (leastStep ss) []
abbrev R_least_of : List PyData → PyData → Prop := fun ds d => ∃ ss, ds = [sgsD ss] ∧ okSS ss = true ∧ d = sgsD (leastOf ss)
theorem okBr_sub {ss tt : List Sg} {k : Lk} (h : ∀ s ∈ tt, s ∈ ss) (o : okBr ss k = true) : okBr tt k = true := List.all_eq_true.mpr fun s hs => List.all_eq_true.mp o s (h s hs)
theorem okSS_br {ss : List Sg} (h : okSS ss = true) {s : Sg} (hs : s ∈ ss) : okBr ss s.k = true := List.all_eq_true.mpr fun t ht => by
  have := List.all_eq_true.mp (List.all_eq_true.mp (okSS_p h) t ht) s hs
  exact (Bool.and_eq_true_iff.mp (Bool.and_eq_true_iff.mp this).1).1
theorem lay_sgs : ∀ {ss : List Sg}, (∀ s ∈ ss, okG s = true) → PyData.canLayAll0 (ss.map Sg.d) = true
  | [], _ => by simp [PyData.canLayAll0]
  | s :: ss, h => by
    have h1 := lay_sgs fun t ht => h t (List.mem_cons_of_mem _ ht)
    have h2 := SeqAt.canLay_of_shaped (shp_sg (h s List.mem_cons_self))
    rw [List.map_cons, PyData.canLayAll0, h1, h2]
    rfl
theorem dep_sg (s : Sg) : PyData.depth s.d ≤ 3 := by
  have h1 := dep_lk s.k
  have h2 := dep_an s.a
  show PyData.depth (.tuple [Lk.d s.k, An.d s.a]) ≤ 3
  simp only [PyData.depth, PyData.depthAll] at h1 h2 ⊢
  omega
theorem dep_sgs : ∀ ss : List Sg, PyData.depthAll (ss.map Sg.d) ≤ 3
  | [] => by simp [PyData.depthAll]
  | s :: ss => by
    have h1 := dep_sgs ss
    have h2 := dep_sg s
    rw [List.map_cons, PyData.depthAll]
    omega
theorem shp_sgs {ss : List Sg} (h : ∀ s ∈ ss, okG s = true) : SeqAt.shaped (sgsD ss) = true := shaped_mk (by show PyData.canLay0 (.list (ss.map Sg.d)) = true; rw [PyData.canLay0]; exact lay_sgs h) (by
  have := dep_sgs ss
  show PyData.depth (.list (ss.map Sg.d)) ≤ 64
  rw [PyData.depth]
  omega)
theorem any_eqv (ss : List Sg) (s : Sg) : ((ss.map Sg.d).any fun z => PyData.eqv z s.d) = ss.any fun t => decide (t = s) := by
  rw [List.any_map]
  congr 1
  funext t
  exact eqv_sg t s
theorem filter_sgs (ss : List Sg) (s : Sg) : ((ss.map Sg.d).filter fun z => !PyData.eqv z s.d).map id = (ss.filter fun t => !decide (t = s)).map Sg.d := by
  rw [List.map_id, List.filter_map]
  congr 1
  congr 1
  funext t
  show (!PyData.eqv t.d s.d) = _
  rw [eqv_sg]
theorem fn_least_of (D : IsDef K mg "least_of" s_least_of) (T : Bl mg) (F1 : Fn P w K mg base CX0 "is_brought" 6 ["sights", "sight"] (SpR K R_is_brought)) : Fn P w K mg base CX0 "least_of" 7 ["sights"] (SpR K R_least_of) := by
  refine fn_data D sc_least_of (fun ds d h => by obtain ⟨x, rfl, _⟩ := h; rfl) (fun _ _ _ _ _ _ us hl => match us, hl with | [_], _ => rfl) fun f cdv A outer s H0 E vs B ds d hr h ra => ?_
  obtain ⟨ss, rfl, okss, rfl⟩ := h
  obtain ⟨v, rfl, r⟩ := ra.one
  intro H hb D q
  refine st_new (i := 1) sc_least_of.nd fun L hL => ?_
  refine st_for (ds := ss.map Sg.d) PassesOwn.never rfl (pi_list pe_wp) (pg_name (i := 2) sc_least_of.nd rfl (Or.inr rfl)) (src_list (pd_var 0 rfl r)) (upd_out hb (hb.free hL)) fun B2 H2 f2 => ?_
  refine ⟨fun i σ' Bi Hi => ∃ o1 o2 acc, σ' = [some v, some (.ref L), o1, o2] ∧ MuL K L (acc.map Sg.d) Bi Hi ∧ Fz (· = L) B2 H2 Bi Hi ∧ acc.length ≤ i ∧ (∀ s ∈ acc, s ∈ ss) ∧ (ss.take i).foldl (leastStep ss) [] = acc, ?_, ?_, ?_⟩
  · exact ⟨_, _, [], rfl, (MuL.new hb hL).f0 f2, Fz.refl f2.bh, Nat.le_refl _, (fun s hs => nomatch hs), rfl⟩
  · rintro i σ' Bi Hi d x' By H' hi s1 s2 ⟨o1, o2, acc, rfl, m, fz, hl, hmem, hfold⟩ hd fy rd
    rw [List.getElem?_map] at hd
    obtain ⟨sg, hsg, rfl⟩ := Option.map_eq_some_iff.mp hd
    have hm := List.mem_of_getElem? hsg
    have okg : ∀ t ∈ ss, okG t = true := List.all_eq_true.mp (okSS_g okss)
    have ry := ((r.mono f2.bb).mono (fz.bb)).mono fy.bb
    have my := m.f0 fy
    have hstep : (ss.take (i + 1)).foldl (leastStep ss) [] = leastStep ss acc sg := by
      rw [List.take_add_one, hsg, List.foldl_append, hfold]
      rfl
    refine ⟨_, gd_name, ?_⟩
    refine st_if (p := !(acc.any fun t => decide (t = sg)) && !broughtB (ss.filter fun t => !decide (t = sg)) sg) (TD.frz my fy.bh fun ac rac => ?_) (fun z B3 H3 f3 => ?_) fun z B3 H3 f3 => ?_
    · have sb : Same By (upd By L (.lst ac)) := upd_out (Same.refl _) my.1
      refine WD.td (wd_and (CD.td (CD.cast (cd_notInL hr (pd_var 2 rfl (rd.mono sb)) (pd_var 1 rfl rac) (shp_sg (okg sg hm)) (shp_sgs fun t ht => okg t (hmem t ht)) (by rfl)) (by rw [any_eqv]))) fun _ => wd_and1 (td_not (td_val (pd_call F1 hr (by decide) (by rfl) (ad_cons (PD.cast (LD.pd (ld_genf [("other", 3)] (pi_list pe_wp) (src_list (pd_var 0 rfl (ry.mono sb))) (g := gName 3) (f := id) (pr := fun z => !PyData.eqv z sg.d) rfl sc_least_of.nd (blkOk_by (N := N_least_of) (sc := defScope s_least_of) (by decide +kernel)) (fun _ _ _ _ _ => pg_name (i := 3) sc_least_of.nd rfl (Or.inl rfl)) (by rw [List.length_map]; have := okSS_n okss; omega) fun d2 hd2 v2 B4 s4 r4 => ?_)) (congrArg PyData.list (filter_sgs ss sg))) (ad_cons (pd_var 2 rfl (rd.mono sb)) ad_nil)) ⟨_, sg, rfl, ?_, ?_, okg sg hm, ?_, rfl⟩))))
      · obtain ⟨t, ht, rfl⟩ := List.mem_map.mp hd2
        exact ⟨_, gd_name, rfl, fun _ _ _ _ _ => CD.td (cd_ne hr (pd_var 3 rfl r4) (pd_var 2 rfl ((rd.mono sb).mono s4)) (shp_sg (okg t ht)) (shp_sg (okg sg hm))), fun _ _ _ _ _ _ => pd_var 3 rfl r4⟩
      · have h1 := List.length_filter_le (fun t => !decide (t = sg)) ss
        have h2 := okSS_n okss
        omega
      · exact List.all_eq_true.mpr fun t ht => okg t ((List.mem_filter.mp ht).1)
      · exact okBr_sub (fun t ht => (List.mem_filter.mp ht).1) (okSS_br okss hm)
    · have hstep2 : leastStep ss acc sg = acc ++ [sg] := by
        unfold leastStep
        rw [if_pos z]
      have hlen : i < ss.length := (List.getElem?_eq_some_iff.mp hsg).1
      have hn := okSS_n okss
      refine st_app (j := 1) rfl (my.f0 f3) f3.bh (by rw [List.length_map]; omega) (pd_var 2 rfl (rd.mono f3.bb)) fun B5 H5 f5 H6 f6 m6 _ => ?_
      refine wpB_nil (wpB_nil ⟨B5, fz.bb.trans (fy.bb.trans (f3.bb.trans f6.bb)), f6.bh, _, _, acc ++ [sg], rfl, ?_, ((fz.trans fy.to).trans f3.to).trans f6, ?_, ?_, ?_⟩)
      · rw [List.map_append]
        exact m6
      · rw [List.length_append]
        exact Nat.succ_le_succ hl
      · intro t ht
        rcases List.mem_append.mp ht with ht | ht
        · exact hmem t ht
        · have : t = sg := by simpa using ht
          rw [this]
          exact hm
      · rw [hstep, hstep2]
    · have hstep2 : leastStep ss acc sg = acc := by
        unfold leastStep
        rw [if_neg (by rw [z]; decide)]
      exact wpB_nil ⟨B3, fz.bb.trans (fy.bb.trans f3.bb), f3.bh, _, _, acc, rfl, my.f0 f3, (fz.trans fy.to).trans f3.to, Nat.le_succ_of_le hl, hmem, by rw [hstep, hstep2]⟩
  · rintro σ' Bi Hi s1 s2 ⟨o1, o2, acc, rfl, m, fz, hl, hmem, hfold⟩
    rw [List.length_map, List.take_length] at hfold
    refine st_retv (i := 1) rfl ?_
    obtain ⟨ac, hacc, rr⟩ := m.frz
    have e : leastOf ss = acc := hfold
    rw [e] at q
    exact q _ _ Hi (Fz.frz hb hL (S := NoS) (f2.to.trans fz) (fun a h => .inr h) hacc m.1) rr
def leastO (x : PyData) : Except Err (List Sg) := (chkO x).map leastOf
abbrev R_least : List PyData → Out → Prop := fun ds o => ∃ x, ds = [x] ∧ okSights x = true ∧ (∀ ss, sightsOf x = .ok ss → okSS ss = true) ∧ o = (leastO x).map sgsD
theorem fn_least (D : IsDef K mg "least" s_least) (F1 : FnE P w K mg base "checked" 8 ["sights"] R_checked) (F2 : Fn P w K mg base CX0 "least_of" 7 ["sights"] (SpR K R_least_of)) : FnE P w K mg base "least" 9 ["sights"] R_least := by
  refine fnE_data D sc_least (fun ds d h => by obtain ⟨x, rfl, _⟩ := h; rfl) (fun _ _ _ _ _ _ us hl => match us, hl with | [_], _ => rfl) fun f cdv A outer s H0 E vs B ds o hr h ra => ?_
  obtain ⟨x, rfl, ok, hss, rfl⟩ := h
  obtain ⟨v, rfl, r⟩ := ra.one
  have key : ∀ o1 d, o1 = (chkO x).map sgsD → (∀ d1, o1 = .ok d1 → R_least_of [d1] d) → ((leastO x).map sgsD = o1.map fun _ => d) → OD (cxx P w K mg base "least" s_least N_least f cdv A outer s H0 E) E (defBody s_least) (start N_least [v]) B ((leastO x).map sgsD) := fun o1 d e1 hd e2 => by
    subst e1
    rw [e2]
    exact od_ret (px_call_px F2 hr (by decide) (by rfl) (px_call F1 pssx hr (by decide) (by rfl) (ad_cons (pd_var 0 rfl r) ad_nil) ⟨x, rfl, ok, hss, rfl⟩) hd)
  cases hc : chkO x with
  | error e => exact key _ .none rfl (fun d1 h1 => by rw [hc] at h1; cases h1) (by unfold leastO; rw [hc]; rfl)
  | ok ss =>
    have okss : okSS ss = true := by
      unfold chkO at hc
      cases hs : sightsOf x with
      | error e => rw [hs] at hc; cases hc
      | ok s2 =>
        rw [hs] at hc
        unfold chk at hc
        simp only at hc
        cases hp : firstApart s2 with
        | some p => rw [hp] at hc; cases hc
        | none =>
          rw [hp] at hc
          cases hc
          exact hss _ hs
    refine key _ (sgsD (leastOf ss)) rfl (fun d1 h1 => ?_) (by unfold leastO; rw [hc]; rfl)
    rw [hc] at h1
    cases h1
    exact ⟨ss, rfl, okss, rfl⟩
end
end K8

set_option Elab.async false
set_option linter.all false
set_option maxRecDepth 100000
set_option maxHeartbeats 4000000
/-! K8m: draws: a list of three ints that changes; what is drawn is not told. -/
namespace K8
open PySem PySem.Spec PyProof.Rows L2
/-- at A: the draws, outside the base -/
def Drw (A : Addr) (B H : Hp) : Prop := B A = none ∧ ∃ i j k : Int, H A = some (.lst [.int i, .int j, .int k])
theorem Drw.fz {S : Addr → Prop} {A : Addr} {B H B1 H1 : Hp} (m : Drw A B H) (f : Fz S B H B1 H1) (hS : ¬ S A) : Drw A B1 H1 := by
  obtain ⟨h1, i, j, k, h2⟩ := m
  exact ⟨f.out A (by rw [h2]; simp) h1, i, j, k, f.hh _ _ hS h2⟩
theorem Drw.f0 {A : Addr} {B H B1 H1 : Hp} (m : Drw A B H) (f : F0 B H B1 H1) : Drw A B1 H1 := m.fz f (fun z => z)
theorem Drw.ne {A : Addr} {B H : Hp} (m : Drw A B H) : H A ≠ none := by
  obtain ⟨_, i, j, k, h2⟩ := m
  rw [h2]
  simp
section
variable (K : PySem.W.Frag)
/-- evaluates to some data of P, may draw -/
def EvN (te : TE) (σ : L2.St) (B : Hp) (A : Addr) (P : PyData → Prop) : Prop := ∀ H, Same B H → Drw A B H → ∀ Q : VK, (∀ v d B' H', Fz (· = A) B H B' H' → Drw A B' H' → P d → R K B' v d → Q v H') → te σ H Q
def EvNA (ta : TA) (σ : L2.St) (B : Hp) (A : Addr) (P : List PyData → Prop) : Prop := ∀ H, Same B H → Drw A B H → ∀ Q : List V → Hp → Prop, (∀ vs ds B' H', Fz (· = A) B H B' H' → Drw A B' H' → P ds → RAll K B' vs ds → Q vs H') → ta σ H Q
end
def PN (X : Cx) (e : Expr) (σ : L2.St) (B : Hp) (A : Addr) (P : PyData → Prop) : Prop := EvN X.K (wpE X e) σ B A P
def AN (X : Cx) (es : List Expr) (σ : L2.St) (B : Hp) (A : Addr) (P : List PyData → Prop) : Prop := EvNA X.K (wpA X es) σ B A P
section
variable {X : Cx} {e a b c : Expr} {es : List Expr} {σ : L2.St} {B H B1 : Hp} {d d1 d2 : PyData} {ds : List PyData} {p q : Bool} {pos p1 p2 : Pos} {st : Stmt} {sts body : List Stmt} {D : Ends} {A : Addr} {P P1 P2 : PyData → Prop} {PA PA1 : List PyData → Prop} {k n : Nat}
theorem EvN.mono {te : TE} {K : PySem.W.Frag} (h : EvN K te σ B A P) (s : Same B B1) (hA : ∀ H, Same B1 H → Drw A B1 H → Drw A B H) : EvN K te σ B1 A P := fun H hb dr Q q => h H (s.trans hb) (hA H hb dr) Q fun v d B' H' f dr' pd r => by
  have fu : Fz (· = A) B1 H (uni B1 B') H' ∧ Same B' (uni B1 B') := by
    have key : ∀ a o, B1 a = some o → uni B1 B' a = some o := fun a o e => by
      unfold uni
      cases q : B' a with
      | none => exact e
      | some u =>
        have e1 := f.bh _ _ q
        have ha : a ≠ A := fun z => by
          rw [z] at e
          rw [dr.1] at e
          cases e
        have e2 := f.hh a o ha (hb _ _ e)
        exact e1.symm.trans e2
    refine ⟨⟨key, fun a o e => ?_, f.hh, fun p n e => ?_, f.al⟩, fun a o e => ?_⟩
    · unfold uni at e
      cases q : B' a with
      | none =>
        rw [q] at e
        have ha : a ≠ A := fun z => by
          rw [z] at e
          rw [dr.1] at e
          cases e
        exact f.hh a o ha (hb _ _ e)
      | some u =>
        rw [q] at e
        cases e
        exact f.bh _ _ q
    · have e0 : B p = none := s.free e
      have e1 := f.out p n e0
      unfold uni
      rw [e1]
      exact e
    · unfold uni
      rw [e]
  refine q v d _ H' fu.1 ⟨fu.1.out A dr.ne dr.1, dr'.2⟩ pd (r.mono fu.2)
theorem drw_sub {A : Addr} (s : Same B B1) : ∀ H, Same B1 H → Drw A B1 H → Drw A B H := fun H _ dr => ⟨s.free dr.1, dr.2⟩
theorem PN.mono (h : PN X e σ B A P) (s : Same B B1) : PN X e σ B1 A P := EvN.mono h s (drw_sub s)
theorem PN.imp (h : PN X e σ B A P) (i : ∀ d, P d → P1 d) : PN X e σ B A P1 := fun H hb dr Q q => h H hb dr Q fun v d B' H' f dr' pd r => q v d B' H' f dr' (i d pd) r
theorem PD.pn (h : PD X e σ B d) (hp : P d) : PN X e σ B A P := fun H hb dr Q q => h H hb Q fun v B' H' f r => q v d B' H' f.to (dr.f0 f) hp r
theorem AD.an (h : AD X es σ B ds) (hp : PA ds) : AN X es σ B A PA := fun H hb dr Q q => h H hb Q fun vs B' H' f r => q vs ds B' H' f.to (dr.f0 f) hp r
theorem an_nil (hp : PA []) : AN X [] σ B A PA := AD.an ad_nil hp
theorem an_cons (h : PN X e σ B A P) (hr : ∀ d B1, Same B B1 → P d → AN X es σ B1 A (fun ds => PA (d :: ds))) (hs : starEach (e :: es) X.env = (false, eval e X.env) :: starEach es X.env := by rfl) : AN X (e :: es) σ B A PA := fun H hb dr Q q =>
  K8.PA.wp (pa_cons pe_wp pa_wp hs) (h H hb dr _ fun v d B1 H1 f1 dr1 pd r1 => hr d B1 f1.bb pd H1 f1.bh dr1 _ fun vs ds B2 H2 f2 dr2 pds r2 => q _ (d :: ds) B2 H2 (f1.trans f2) dr2 pds (.cons (r1.mono f2.bb) r2))
theorem pn_tup {n : Nat} (h : AN X es σ B A PA) (hl : ∀ ds, PA ds → ds.length ≤ 100000) : PN X (.Tuple es n pos) σ B A (fun d => ∃ ds, d = .tuple ds ∧ PA ds) := fun H hb dr Q q =>
  PE.wp (pe_tup pa_wp) (h H hb dr _ fun vs ds B1 H1 f1 dr1 pds r1 => ⟨by rw [r1.len]; exact Nat.le_trans (hl ds pds) (by decide), fun p hp => q _ (.tuple ds) _ _ (f1.trans (F0.new f1.bh hp).to) (dr1.f0 (F0.new f1.bh hp)) ⟨ds, rfl, pds⟩ (r_upd_t f1.bh hp r1)⟩)
theorem pn_lst (h : AN X es σ B A PA) (hl : ∀ ds, PA ds → ds.length ≤ 100000) : PN X (.List es pos) σ B A (fun d => ∃ ds, d = .list ds ∧ PA ds) := fun H hb dr Q q =>
  PE.wp (pe_lst pa_wp) (h H hb dr _ fun vs ds B1 H1 f1 dr1 pds r1 => ⟨by rw [r1.len]; exact Nat.le_trans (hl ds pds) (by decide), fun p hp => q _ (.list ds) _ _ (f1.trans (F0.new f1.bh hp).to) (dr1.f0 (F0.new f1.bh hp)) ⟨ds, rfl, pds⟩ (r_upd_l f1.bh hp r1)⟩)
/-! ### promises of defs that draw -/
def SpN (K : PySem.W.Frag) (pre : List PyData → Prop) (rel : List PyData → PyData → Prop) : Sp := fun vs H Q _ => ∃ A B ws ds, vs = .ref A :: ws ∧ Same B H ∧ Drw A B H ∧ RAll K B ws ds ∧ pre ds ∧ ∀ d r B' H', Fz (· = A) B H B' H' → Drw A B' H' → rel ds d → R K B' r d → Q r H'
abbrev FnN (P : Program) (w : World) (K : PySem.W.Frag) (mg : Str → Option Value) (base : Heap) (x : Str) (k : Nat) (ps : List Str) (pre : List PyData → Prop) (rel : List PyData → PyData → Prop) : Prop := Fn P w K mg base CX0 x k ps (SpN K pre rel)
/-- f(draws, ..) -/
theorem pn_call {x y : Str} {ps : List Str} {i : Nat} {pre : List PyData → Prop} {rel : List PyData → PyData → Prop} (F : FnN X.prog X.w X.K X.mg X.base x k ps pre rel) (hr : Room n X.A) (hk : k ≤ n) (hg : Gl X x) (hv : σ[i]? = some (some (.ref A))) (ha : AN X es σ B A PA) (hpre : ∀ ds, PA ds → pre ds) (hrel : ∀ ds d, PA ds → rel ds d → P d)
    (hN : X.N[i]? = some y := by rfl) (hvis : Vis X.env.scope y := by first | exact Or.inl rfl | exact Or.inr (Or.inl rfl) | exact Or.inr (Or.inr rfl)) (hd : (y == ("__debug__" : Str)) = false := by decide) (hcd : (y == ("__classdict__" : Str)) = false := by decide)
    (hdb : (x == ("__debug__" : Str)) = false := by decide) (he : starEach (.Name y p1 :: es) X.env = (false, eval (.Name y p1) X.env) :: starEach es X.env := by rfl) (hpl : (backTo pos (starEach es X.env)).any (·.1) = false := by rfl) :
    PN X (.Call (.Name x p2) (.Name y p1 :: es) [] pos) σ B A P := by
  obtain ⟨f, fd, hm, kp, hbn, F⟩ := F.ex
  refine fun H hb dr Q q => PE.wp (pe_call F (hr.mono hk) hg hm kp hbn .nil pass0 (pa_cons (pe_var hN hvis hd hcd) pa_wp he) hdb he hpl) ?_
  refine ⟨.ref A, hv, ha H hb dr _ fun vs ds B1 H1 f1 dr1 pds r1 => ?_⟩
  exact ⟨A, B1, vs, ds, by rw [List.append_nil], f1.bh, dr1, r1, hpre ds pds, fun d r B2 H2 f2 dr2 hrl r2 => q r d B2 H2 (f1.trans f2) dr2 (hrel ds d pds hrl) r2⟩
/-! ### steps -/
theorem stn_set {i : Nat} {x : Str} (hN : X.N.Nodup) (h : PN X e σ B A P) (hb : Same B H) (dr : Drw A B H) (k : ∀ v d B1 H1, Fz (· = A) B H B1 H1 → Drw A B1 H1 → P d → R X.K B1 v d → wpB X sts D (σ.set i (some v)) H1) (hi : X.N[i]? = some x := by rfl) (hx : Loc X.env.scope x := by first | exact Or.inl rfl | exact Or.inr rfl) (hs : swapsWith e (some (.Name x p2)) pos.line X.env = pure false := by rfl)
    (hf : X.fn x = true ∨ X.env.scope.names.lookup x = some .local := by first | exact .inl rfl | exact .inr rfl | assumption) : wpB X (.Assign [.Name x p2] e pos :: sts) D σ H :=
  wpB_cons (wpS_of (ps_set hN hi hx pe_wp hs hf) (h H hb dr _ k))
theorem stn_ret (h : PN X e σ B A P) (hb : Same B H) (dr : Drw A B H) (k : ∀ v d B1 H1, Fz (· = A) B H B1 H1 → Drw A B1 H1 → P d → R X.K B1 v d → D.rt v H1) : wpB X (.Return (some e) pos :: sts) D σ H := wpB_cons (wpS_of (ps_ret pe_wp) (h H hb dr _ k))
theorem MuL.fzn {K : PySem.W.Frag} {L : Addr} (m : MuL K L ds B H) {H1 : Hp} (f : Fz (· = A) B H B1 H1) (hne : L ≠ A) : MuL K L ds B1 H1 := m.fz f hne
/-- xs.append(e), e may draw -/
theorem stn_app {j : Nat} {x : Str} {L : Addr} {ap cp : Pos} (hL : σ[j]? = some (some (.ref L))) (hne : L ≠ A) (m : MuL X.K L ds B H) (hb : Same B H) (dr : Drw A B H) (hz : ds.length ≤ 100000) (h : PN X e σ B A P) (k : ∀ d B1 H2, P d → Fz (fun a => a = A ∨ a = L) B H B1 H2 → Drw A B1 H2 → MuL X.K L (ds ++ [d]) B1 H2 → wpB X sts D σ H2)
    (hN : X.N[j]? = some x := by rfl) (hx : Vis X.env.scope x := by first | exact Or.inl rfl | exact Or.inr (Or.inl rfl) | exact Or.inr (Or.inr rfl)) (hd : (x == ("__debug__" : Str)) = false := by decide) (hcd : (x == ("__classdict__" : Str)) = false := by decide)
    (hbase : attributeBase (.Name x p1) "append" X.env (eval (.Name x p1) X.env) = eval (.Name x p1) X.env := by rfl)
    (hfew : ((backTo cp (starEach [e] X.env)).all (fun x => !x.1) && (backToKw cp (keywordEach [] X.env)).all (fun x => x.1.isSome)
      && decide ([e].length + ([] : List Keyword).length + (if ([] : List Keyword).isEmpty then 0 else 1) < 30)) = true := by rfl)
    (hline : (ap.endLine == cp.line) = true := by rfl) (hs : starEach [e] X.env = (false, eval e X.env) :: starEach [] X.env := by rfl) (hw : swapsWith (.Call (.Attribute (.Name x p1) "append" ap) [e] [] cp) none pos.line X.env = pure false := by rfl) :
    wpB X (.Expr (.Call (.Attribute (.Name x p1) "append" ap) [e] [] cp) pos :: sts) D σ H := by
  obtain ⟨hB, acc, hacc, racc⟩ := m
  refine wpB_cons (wpS_of (ps_expr (pe_bm PySem.F.plainAttrs_list PySem.F.slot_list_append PySem.F.type_list_append mt_append (pe_var hN hx hd hcd) (pa_cons pe_wp pa_nil hs) hbase hfew hline hs) hw) ?_)
  refine ⟨.ref L, hL, .inl ⟨rfl, acc, SqL.of hacc⟩, h H hb dr _ fun v d B1 H1 f1 dr1 pd r1 => ⟨L, acc, v, rfl, rfl, f1.hh _ _ hne hacc, ?_, ?_⟩⟩
  · rw [racc.len]
    have h1 : (16777216 : Nat) = sizeLine := sizeLine_eq.symm
    omega
  · have hB1 : B1 L = none := f1.out L (by rw [hacc]; simp) hB
    have hH1 : H1 L ≠ none := by rw [f1.hh _ _ hne hacc]; simp
    have f2 : Fz (fun a => a = A ∨ a = L) B H B1 (upd H1 L (.lst (acc ++ [v]))) := (f1.sub fun _ z => .inl z).put (.inr rfl) hB1 hH1
    refine k d B1 _ pd f2 ⟨dr1.1, ?_⟩ ⟨hB1, _, upd_same, (racc.mono f1.bb).app (.cons r1 .nil)⟩
    obtain ⟨_, i, j, k, e⟩ := dr1
    exact ⟨i, j, k, by rw [upd_ne (Ne.symm hne)]; exact e⟩
end
/-! ### a def that draws -/
section
variable {P : Program} {w : World} {K : PySem.W.Frag} {mg : Str → Option Value} {base : Heap}
theorem fnN_data {x : Str} {st : Stmt} {N ps : List Str} {k : Nat} {pre : List PyData → Prop} {rel : List PyData → PyData → Prop} (D : IsDef K mg x st) (S : FnScope N ps (defScope st)) (len : ∀ ds, pre ds → ds.length + 1 = ps.length)
    (bind : ∀ (kV doc pm : Value) (an : Option Addr) (cdv ct : Value) (us : List Value), us.length = ps.length → bindArgs (PySem.W.fnOf x x (defArgs st) (defBody st) (defScope st) .none kV doc pm an cdv ct) ⟨us, []⟩ = pure (ps.zip us))
    (body : ∀ (f : Addr) (cdv : Value) (Ar : Around) (outer : List Env) (s : Shared) (H : Hp) (E : XK) (A : Addr) (vs : List V) (B : Hp) (ds : List PyData), Room k (bx P w K mg base x st N f cdv Ar outer s H E).A → pre ds → RAll K B vs ds → ∀ H, Same B H → Drw A B H → ∀ Q : VK, (∀ d r B' H', Fz (· = A) B H B' H' → Drw A B' H' → rel ds d → R K B' r d → Q r H') →
      wpB (bx P w K mg base x st N f cdv Ar outer s H E) (defBody st) { nx := fun _ H' => Q .non H', rt := Q } (start N (.ref A :: vs)) H) :
    FnN P w K mg base x (k + 1) ps pre rel := by
  obtain ⟨f, fd, hm, F⟩ := D
  refine ⟨f, fd, hm, F.kp, F.binds bind, F.ok S (fun vs H Q E h => ?_) fun cdv Ar outer s H vs Q E hr h => ?_⟩
  · obtain ⟨A, B, ws, ds, rfl, _, _, ra, hp, _⟩ := h
    rw [List.length_cons, ra.len]
    exact len ds hp
  · obtain ⟨A, B, ws, ds, rfl, hb, dr, ra, hp, q⟩ := h
    exact ⟨wpB _ _, pb_wp, body f cdv Ar outer s H E A ws B ds hr hp ra H hb dr Q fun d r B' H' f1 dr1 hrl r1 => q d r B' H' f1 dr1 hrl r1⟩
end
end K8

set_option Elab.async false
set_option linter.all false
set_option maxRecDepth 100000
set_option maxHeartbeats 400000
/-! K8n: draws, picks, the source, looks, answers, drawn and handed sights. -/
namespace K8
open PySem PySem.Spec PyProof.Rows L2
section
variable {X : Cx} {e a b c : Expr} {es : List Expr} {σ : L2.St} {B H B1 : Hp} {d d1 d2 : PyData} {ds : List PyData} {p q : Bool} {pos p1 p2 p3 p4 : Pos} {st : Stmt} {sts body : List Stmt} {D : Ends} {A L S : Addr} {P P1 P2 : PyData → Prop} {k n : Nat} {i j : Int}
/-- an int that is read off a list that may change -/
def IntH (X : Cx) (e : Expr) (σ : L2.St) (B H : Hp) (i : Int) : Prop := ∀ Q : VK, (∀ B1 H1, F0 B H B1 H1 → Q (.int i) H1) → wpE X e σ H Q
theorem PD.frzI {L : Addr} (m : MuL X.K L ds B H) (hb : Same B H) (h : ∀ acc, R X.K (upd B L (.lst acc)) (.ref L) (.list ds) → PD X e σ (upd B L (.lst acc)) (.int i)) : IntH X e σ B H i := fun Q q => by
  obtain ⟨acc, hL, r⟩ := m.frz
  refine h acc r H (same_frz hb hL) Q fun v B1 H1 f r1 => ?_
  rw [r1.int_inv]
  exact q _ H1 (f.unfrz m.1 hL).1
theorem st_setI {t : Nat} {x : Str} (hN : X.N.Nodup) (h : IntH X e σ B H i) (k : ∀ B1 H1, F0 B H B1 H1 → wpB X sts D (σ.set t (some (.int i))) H1) (hi : X.N[t]? = some x := by rfl) (hx : Loc X.env.scope x := by first | exact Or.inl rfl | exact Or.inr rfl) (hs : swapsWith e (some (.Name x p2)) pos.line X.env = pure false := by rfl)
    (hf : X.fn x = true ∨ X.env.scope.names.lookup x = some .local := by first | exact .inl rfl | exact .inr rfl | assumption) : wpB X (.Assign [.Name x p2] e pos :: sts) D σ H :=
  wpB_cons (wpS_of (ps_set hN hi hx pe_wp hs hf) (h _ k))
theorem st_retI (h : IntH X e σ B H i) (k : ∀ B1 H1, F0 B H B1 H1 → D.rt (.int i) H1) : wpB X (.Return (some e) pos :: sts) D σ H := wpB_cons (wpS_of (ps_ret pe_wp) (h _ k))
/-- draws[m] = e -/
theorem st_put {t m : Nat} {x : Str} {u v w : Int} (hL : σ[t]? = some (some (.ref L))) (hB : B L = none) (hacc : H L = some (.lst [.int u, .int v, .int w])) (hm : m < 3) (h : IntH X e σ B H i) (k : ∀ B1 H1, F0 B H B1 H1 → ∀ u' v' w' : Int, [V.int u, .int v, .int w].set m (.int i) = [.int u', .int v', .int w'] → Fz (· = L) B H B1 (upd H1 L (.lst [.int u', .int v', .int w'])) → B1 L = none → wpB X sts D σ (upd H1 L (.lst [.int u', .int v', .int w'])))
    (hN : X.N[t]? = some x := by rfl) (hx : Vis X.env.scope x := by first | exact Or.inl rfl | exact Or.inr (Or.inl rfl) | exact Or.inr (Or.inr rfl)) (hd : (x == ("__debug__" : Str)) = false := by decide) (hcd : (x == ("__classdict__" : Str)) = false := by decide)
    (ha : ∀ v, assign (.Subscript (.Name x p1) (.Constant (.int (m : Int)) 0 p3) p2) X.env v = (do
      let ov ← holding [v] (eval (.Name x p1) X.env)
      let iv ← holding [v, ov] (eval (.Constant (.int (m : Int)) 0 p3) X.env)
      standAt p2
      holding [v, ov, iv] (setItem ov iv v)
      release [v, ov, iv] []) := by intro _; rfl)
    (hs : swapsWithSole [.Subscript (.Name x p1) (.Constant (.int (m : Int)) 0 p3) p2] e pos.line X.env = pure false := by rfl) (hw : swappedStores [.Subscript (.Name x p1) (.Constant (.int (m : Int)) 0 p3) p2] e X.env = pure none := by rfl)
    (h1 : (assignEach [.Subscript (.Name x p1) (.Constant (.int (m : Int)) 0 p3) p2] X.env).map (·.2) = [assign (.Subscript (.Name x p1) (.Constant (.int (m : Int)) 0 p3) p2) X.env] := by rfl) :
    wpB X (.Assign [.Subscript (.Name x p1) (.Constant (.int (m : Int)) 0 p3) p2] e pos :: sts) D σ H := by
  refine wpB_cons (wpS_of (ps_asg pe_wp (pg_sub (pe_var hN hx hd hcd) pe_int set_list ha) hs hw h1) (h _ fun B1 H1 f1 => ?_))
  have hacc1 := f1.hs _ _ hacc
  have hB1 : B1 L = none := f1.out L (by rw [hacc]; simp) hB
  refine ⟨.ref L, hL, L, _, _, m, rfl, rfl, hacc1, ?_, ?_⟩
  · show ixN 3 (m : Int) = some m
    unfold ixN
    rw [if_pos (by omega), if_pos (by omega)]
    simp
  · obtain ⟨u', v', w', e'⟩ : ∃ u' v' w' : Int, [V.int u, .int v, .int w].set m (.int i) = [.int u', .int v', .int w'] := by
      match m, hm with
      | 0, _ => exact ⟨_, _, _, rfl⟩
      | 1, _ => exact ⟨_, _, _, rfl⟩
      | 2, _ => exact ⟨_, _, _, rfl⟩
    rw [e']
    exact k B1 H1 f1 u' v' w' e' ((f1.to (S := (· = L))).put rfl hB1 (by rw [hacc1]; simp)) hB1
/-! ### tests and choices that draw -/
def TN (X : Cx) (c : Expr) (σ : L2.St) (B : Hp) (A : Addr) : Prop := ∀ H, Same B H → Drw A B H → ∀ Q : Bool → Hp → Prop, (∀ b B' H', Fz (· = A) B H B' H' → Drw A B' H' → Q b H') → wpT X c σ H Q
theorem tn_eqI {n : Nat} (h : PN X a σ B A (fun d => ∃ i : Int, d = .int i)) : TN X (.Compare a [.Eq] [.Constant (.int j) n p1] pos) σ B A := fun H hb dr Q q =>
  PT.wp (pt_cmpR op_eq pe_wp pe_int (nomark _)) (h H hb dr _ fun v d B1 H1 f1 dr1 pd r1 => by
    obtain ⟨i, rfl⟩ := pd
    rw [r1.int_inv]
    exact ⟨rfl, _, rfl, q _ B1 H1 f1 dr1⟩)
/-- x if (t and draw(..) == 0) else y: t known to be true -/
theorem pn_ifAnd {t : Expr} {pos2 : Pos} (h0 : TD X t σ B true) (h1 : ∀ B1, Same B B1 → TN X c σ B1 A) (h2 : ∀ B1, Same B B1 → PN X a σ B1 A P) (h3 : ∀ B1, Same B B1 → PN X b σ B1 A P) : PN X (.IfExp (.BoolOp .And [t, c] pos2) a b pos) σ B A P := fun H hb dr Q q =>
  PE.wp (pe_ifExp (PW.pt (pw_and pt_wp (pw_and1 pt_wp))) pe_wp pe_wp) (h0 H hb _ fun B1 H1 f1 => h1 B1 f1.bb H1 f1.bh (dr.f0 f1) _ fun r B2 H2 f2 dr2 => by
    cases r with
    | true => exact h2 B2 (f1.bb.trans f2.bb) H2 f2.bh dr2 Q fun v d B3 H3 f3 dr3 pd r3 => q v d B3 H3 ((f1.to.trans f2).trans f3) dr3 pd r3
    | false => exact h3 B2 (f1.bb.trans f2.bb) H2 f2.bh dr2 Q fun v d B3 H3 f3 dr3 pd r3 => q v d B3 H3 ((f1.to.trans f2).trans f3) dr3 pd r3)
theorem pn_ifAndF {t : Expr} {pos2 : Pos} (h0 : TD X t σ B false) (h3 : PN X b σ B A P) : PN X (.IfExp (.BoolOp .And [t, c] pos2) a b pos) σ B A P := fun H hb dr Q q =>
  PE.wp (pe_ifExp (PW.pt (pw_and pt_wp (pw_and1 (pt_wp (X := X) (e := c))))) (pe_wp (X := X) (e := a)) pe_wp) (h0 H hb _ fun B1 H1 f1 => h3.mono f1.bb H1 f1.bh (dr.f0 f1) Q fun v d B3 H3 f3 dr3 pd r3 => q v d B3 H3 (f1.to.trans f3) dr3 pd r3)
/-- things[draw(..)] -/
theorem pn_ixQ (hq : seqOf d1 = some ds) (ha : PD X a σ B d1) (hb : ∀ B1, Same B B1 → PN X b σ B1 A (fun d => ∃ n : Nat, d = .int (n : Int) ∧ n < ds.length)) (hs : PlainIx b := by intro _ _; rfl) : PN X (.Subscript a b pos) σ B A (· ∈ ds) := fun H hbs dr Q q => by
  cases d1 <;> simp [seqOf] at hq
  · subst hq
    refine PE.wp (pe_ix ix_list pe_wp pe_wp hs) (ha H hbs _ fun v B1 H1 f1 r1 => hb B1 f1.bb H1 f1.bh (dr.f0 f1) _ fun u d B2 H2 f2 dr2 pd r2 => ?_)
    obtain ⟨n, rfl, hn⟩ := pd
    obtain ⟨a0, xs, rfl, hs, ra⟩ := (r1.mono f2.bb).lst_inv
    obtain ⟨w, hw, rw'⟩ := ra.get (i := n) (List.getElem?_eq_getElem hn)
    rw [r2.int_inv]
    exact ⟨a0, xs, _, w, rfl, rfl, f2.bh.seq hs, atI_nat hw, q _ _ B2 H2 (f1.to.trans f2) dr2 (List.getElem_mem hn) rw'⟩
  · subst hq
    refine PE.wp (pe_ix ix_tup pe_wp pe_wp hs) (ha H hbs _ fun v B1 H1 f1 r1 => hb B1 f1.bb H1 f1.bh (dr.f0 f1) _ fun u d B2 H2 f2 dr2 pd r2 => ?_)
    obtain ⟨n, rfl, hn⟩ := pd
    obtain ⟨a0, xs, rfl, hs, ra⟩ := (r1.mono f2.bb).tup_inv
    obtain ⟨w, hw, rw'⟩ := ra.get (i := n) (List.getElem?_eq_getElem hn)
    rw [r2.int_inv]
    exact ⟨a0, xs, _, w, rfl, rfl, sqt_mono f2.bh hs, atI_nat hw, q _ _ B2 H2 (f1.to.trans f2) dr2 (List.getElem_mem hn) rw'⟩
/-! ### the script -/
theorem pd_len_sql {t : Nat} {y : Str} {xs : List V} (hv : σ[t]? = some (some (.ref S))) (hs : SqL X.K B S xs) (hg : Gl X "len") (hm : X.mg "len" = none) (hN : X.N[t]? = some y := by rfl) (hx : Vis X.env.scope y := by first | exact Or.inl rfl | exact Or.inr (Or.inl rfl) | exact Or.inr (Or.inr rfl)) (hd : (y == ("__debug__" : Str)) = false := by decide) (hcd : (y == ("__classdict__" : Str)) = false := by decide)
    (he : starEach [.Name y p2] X.env = (false, eval (.Name y p2) X.env) :: starEach [] X.env := by rfl) : PD X (.Call (.Name "len" p1) [.Name y p2] [] pos) σ B (.int (xs.length : Nat)) :=
  .of (pe_callB call_len_seq hg hm PySem.boot_len (pa_cons (pe_var hN hx hd hcd) pa_nil he) (he := he)) fun H hb Q q => ⟨_, hv, S, xs, rfl, .inl (hb.seq hs), q _ B H (Fz.refl hb) (.int _)⟩
theorem pd_ix_sql {t m : Nat} {y : Str} {xs : List V} (hv : σ[t]? = some (some (.ref S))) (hs : SqL X.K B S xs) (hb : PD X b σ B (.int (m : Int))) (hx' : xs[m]? = some (.int i)) (hpl : PlainIx b := by intro _ _; rfl) (hN : X.N[t]? = some y := by rfl) (hx : Vis X.env.scope y := by first | exact Or.inl rfl | exact Or.inr (Or.inl rfl) | exact Or.inr (Or.inr rfl)) (hd : (y == ("__debug__" : Str)) = false := by decide) (hcd : (y == ("__classdict__" : Str)) = false := by decide) :
    PD X (.Subscript (.Name y p1) b pos) σ B (.int i) :=
  .of (pe_ix ix_list (pe_var hN hx hd hcd) pe_wp hpl) fun H h Q q => ⟨_, hv, hb H h _ fun u B1 H1 f1 r1 => by
    rw [r1.int_inv]
    exact ⟨S, xs, _, _, rfl, rfl, f1.hs.seq (h.seq hs), atI_nat hx', q _ B1 H1 f1 (.int _)⟩⟩
end
abbrev R_l_source (K : PySem.W.Frag) : Sp := fun vs H Q _ => ∃ (S : Addr) (t : Nat) (ns : List Int) (B : Hp), vs = [.ref S, .int (t : Nat)] ∧ Same B H ∧ SqL K B S (ns.map V.int) ∧ t ≤ 100 ∧ ns.length ≤ 100 ∧ ∀ p B' H' i j k, F0 B H B' H' → H' p = none → Q (.ref p) (upd H' p (.lst [.int i, .int j, .int k]))
def preDraw : List PyData → Prop := fun ds => ∃ m : Nat, ds = [.int (m : Int)] ∧ 1 ≤ m ∧ m ≤ 100
def relDraw : List PyData → PyData → Prop := fun ds d => ∃ m n : Nat, ds = [.int (m : Int)] ∧ d = .int (n : Int) ∧ n < m
def prePick : List PyData → Prop := fun ds => ∃ x xs, ds = [x] ∧ seqOf x = some xs ∧ 1 ≤ xs.length ∧ xs.length ≤ 100
def relPick : List PyData → PyData → Prop := fun ds d => ∃ x xs, ds = [x] ∧ seqOf x = some xs ∧ d ∈ xs
def lawBen (p o : Str) : Bool := decide (cutS p none (some ((o.length : Int) + 1)) = o ++ "/")
def okBen (p o : Str) : Bool := decide (p.length ≤ 1000) && (decide (o.length ≤ 1000) && (PyData.strOk (cutS p none (some ((o.length : Int) + 1))) && PyData.strOk (o ++ "/")))
abbrev R_l_is_beneath : List PyData → PyData → Prop := fun ds d => ∃ p o : Str, ds = [.str p, .str o] ∧ okBen p o = true ∧ d = .bool (lawBen p o)
def looksL : List Lk := [⟨false, "a"⟩, ⟨true, "a"⟩, ⟨false, "a/b"⟩, ⟨true, "a/b"⟩, ⟨false, "a/b/k"⟩, ⟨false, "a/z"⟩, ⟨false, "d"⟩]
abbrev R_l_looks : List PyData → PyData → Prop := fun ds d => ds = [] ∧ d = .list (looksL.map Lk.d)
def ansL (k : Lk) : List An := if k = ⟨true, "a"⟩ then [.no, .nm ["b"], .nm ["b/"], .nm ["b", "z"], .nm ["b/", "z"], .nm ["z"]] else if k = ⟨false, "d"⟩ then [.no, .tx "", .tx "x"] else if k.l = true then [.no, .nm ["k"]] else [.no, .tx ""]
abbrev R_l_answers : List PyData → PyData → Prop := fun ds d => ∃ k : Lk, ds = [k.d] ∧ okK k = true ∧ d = .list ((ansL k).map An.d)
section
variable {X : Cx} {a b : Expr} {σ : L2.St} {B : Hp} {xs ys : List PyData} {pos : Pos}
theorem pd_addL (ha : PD X a σ B (.list xs)) (hb : PD X b σ B (.list ys)) (hz : xs.length + ys.length ≤ 100000) : PD X (.BinOp a .Add b pos) σ B (.list (xs ++ ys)) := pd_op op_cat ha hb fun u v B1 H1 _ s1 r1 r2 Q q => by
  obtain ⟨l, vs, rfl, hl, rl⟩ := r1.lst_at
  obtain ⟨m, ws, rfl, hm, rm⟩ := r2.lst_at
  refine ⟨l, m, vs, ws, rfl, rfl, s1 _ _ hl, s1 _ _ hm, ?_, fun p hp => q _ _ _ (F0.new s1 hp) (r_upd_l s1 hp (rl.app rm))⟩
  rw [rl.len, rm.len]
  have h1 : (16777216 : Nat) = sizeLine := sizeLine_eq.symm
  omega
end
section
variable {P : Program} {w : World} {K : PySem.W.Frag} {mg : Str → Option Value} {base : Heap}
theorem fn_l_draw (D : IsDef K mg "_law_draw" s_l_draw) (T : Bl mg) : FnN P w K mg base "_law_draw" 1 ["_law_draws", "_law_many"] preDraw relDraw := by
  refine fnN_data D sc_l_draw (fun ds h => by obtain ⟨m, rfl, _⟩ := h; rfl) (fun _ _ _ _ _ _ us hl => match us, hl with | [_, _], _ => rfl) fun f cdv Ar outer s H0 E A vs B ds hr h ra => ?_
  obtain ⟨m, rfl, h1, h2⟩ := h
  obtain ⟨v, rfl, r⟩ := ra.one
  intro H hb dr Q q
  have hm0 : (0 : Int) < (m : Int) := by omega
  have fin : ∀ (x : Int), ∃ n : Nat, x % (m : Int) = (n : Int) ∧ n < m := fun x => by
    have e1 := Int.emod_nonneg x (Int.ne_of_gt hm0)
    have e2 := Int.emod_lt_of_pos x hm0
    exact ⟨(x % (m : Int)).toNat, by omega, by omega⟩
  obtain ⟨hA, u, y, z, hacc⟩ := dr
  have mu : ∀ {B H : Hp} {u y z : Int}, B A = none → H A = some (.lst [.int u, .int y, .int z]) → MuL K A [.int u, .int y, .int z] B H := fun h1 h2 => ⟨h1, _, h2, .cons (.int _) (.cons (.int _) (.cons (.int _) .nil))⟩
  have up : ∀ {B : Hp} {acc : List V}, B A = none → R K B v (.int (m : Int)) → R K (upd B A (.lst acc)) v (.int (m : Int)) := fun h r => r.mono (upd_out (Same.refl _) h)
  refine st_if (TD.frz (mu hA hacc) hb fun acc ra => CD.td (cd_gt (pd_ixL (m := 0) (pd_var 0 rfl ra) pd_int rfl) pd_int)) (fun _ B1 H1 f1 => ?_) fun _ B1 H1 f1 => ?_
  · have hA1 := f1.out A (by rw [hacc]; simp) hA
    have hacc1 := f1.hs _ _ hacc
    have r1 := r.mono f1.bb
    refine st_setI (t := 2) sc_l_draw.nd (PD.frzI (mu hA1 hacc1) f1.bh fun acc ra => pd_mod (pd_intI (by rfl) T.int (pd_ixL (m := 0) (pd_var 0 rfl ra) pd_int rfl)) (pd_var 1 rfl (up hA1 r1)) hm0) fun B2 H2 f2 => ?_
    have hA2 := f2.out A (by rw [hacc1]; simp) hA1
    have hacc2 := f2.hs _ _ hacc1
    have r2 := r1.mono f2.bb
    refine st_put (t := 0) (m := 0) (L := A) rfl hA2 hacc2 (by decide) (PD.frzI (mu hA2 hacc2) f2.bh fun acc ra => pd_fdiv (pd_ixL (m := 0) (pd_var 0 rfl ra) pd_int rfl) (pd_var 1 rfl (up hA2 r2)) ⟨hm0, by omega⟩) fun B3 H3 f3 u' v' w' _ fz hA3 => ?_
    refine st_retv (i := 2) rfl ?_
    obtain ⟨n, e, hn⟩ := fin u
    rw [e]
    exact q (.int (n : Int)) _ B3 _ ((f1.to.trans f2.to).trans fz) ⟨hA3, _, _, _, upd_same⟩ ⟨m, n, rfl, rfl, hn⟩ (.int _)
  · have hA1 := f1.out A (by rw [hacc]; simp) hA
    have hacc1 := f1.hs _ _ hacc
    have r1 := r.mono f1.bb
    refine st_put (t := 0) (m := 2) (L := A) rfl hA1 hacc1 (by decide) (PD.frzI (mu hA1 hacc1) f1.bh fun acc ra => pd_add (pd_ixL (m := 2) (pd_var 0 rfl ra) pd_int rfl) pd_int) fun B2 H2 f2 u2 y2 z2 _ fz2 hA2 => ?_
    have r2 := r1.mono fz2.bb
    refine st_put (t := 0) (m := 1) (L := A) rfl hA2 upd_same (by decide) (PD.frzI (mu hA2 upd_same) fz2.bh fun acc ra => pd_mod (pd_intI (by rfl) T.int (pd_add (pd_add (pd_mul (pd_ixL (m := 1) (pd_var 0 rfl ra) pd_int rfl) pd_int (.inr (by decide))) (pd_mul (pd_ixL (m := 2) (pd_var 0 rfl ra) pd_int rfl) pd_int (.inr (by decide)))) pd_int)) pd_int (by decide)) fun B3 H3 f3 u3 y3 z3 _ fz3 hA3 => ?_
    have r3 := r2.mono fz3.bb
    refine st_retI (PD.frzI (mu hA3 upd_same) fz3.bh fun acc ra => pd_mod (pd_intI (by rfl) T.int (pd_add (pd_fdiv (pd_ixL (m := 1) (pd_var 0 rfl ra) pd_int rfl) pd_int ⟨by decide, by decide⟩) (pd_ixL (m := 1) (pd_var 0 rfl ra) pd_int rfl))) (pd_var 1 rfl (up hA3 r3)) hm0) fun B4 H4 f4 => ?_
    obtain ⟨n, e, hn⟩ := fin (y3 / 8192 + y3)
    rw [e]
    exact q (.int (n : Int)) _ B4 H4 (((f1.to.trans fz2).trans fz3).trans f4.to) (Drw.f0 ⟨hA3, _, _, _, upd_same⟩ f4) ⟨m, n, rfl, rfl, hn⟩ (.int _)
theorem fn_l_pick (D : IsDef K mg "_law_pick" s_l_pick) (T : Bl mg) (F1 : FnN P w K mg base "_law_draw" 1 ["_law_draws", "_law_many"] preDraw relDraw) : FnN P w K mg base "_law_pick" 2 ["_law_draws", "_law_things"] prePick relPick := by
  refine fnN_data D sc_l_pick (fun ds h => by obtain ⟨x, xs, rfl, _⟩ := h; rfl) (fun _ _ _ _ _ _ us hl => match us, hl with | [_, _], _ => rfl) fun f cdv Ar outer s H0 E A vs B ds hr h ra => ?_
  obtain ⟨x, xs, rfl, hq, h1, h2⟩ := h
  obtain ⟨v, rfl, r⟩ := ra.one
  intro H hb dr Q q
  refine stn_ret (PN.imp (P1 := fun d => d ∈ xs) (pn_ixQ hq (pd_var 1 rfl r) fun B1 s1 => pn_call (i := 0) (PA := fun ds => ds = [.int (xs.length : Nat)]) F1 hr (by decide) (by rfl) rfl (AD.an (ad_cons (pd_lenQ hq (by rfl) T.len (pd_var 1 rfl (r.mono s1))) ad_nil) rfl) (fun ds e => ⟨xs.length, e, h1, h2⟩) fun ds d e hrl => ?_) fun d hd => hd) hb dr fun v d B1 H1 f1 dr1 hd r1 => q d v B1 H1 f1 dr1 ⟨x, xs, rfl, hq, hd⟩ r1
  obtain ⟨m, n, e2, rfl, hn⟩ := hrl
  rw [e] at e2
  have e3 : xs.length = m := by
    have := List.cons.inj e2
    have h3 := this.1
    injection h3 with h4
    exact Int.ofNat.inj h4
  exact ⟨n, rfl, by omega⟩
theorem fn_l_source (D : IsDef K mg "_law_source" s_l_source) (T : Bl mg) : Fn P w K mg base CX0 "_law_source" 1 ["_law_script", "_law_turn"] (R_l_source K) := by
  obtain ⟨f, fd, hm, F⟩ := D
  refine ⟨f, fd, hm, F.kp, F.binds (fun _ _ _ _ _ _ us hl => match us, hl with | [_, _], _ => rfl), F.ok sc_l_source (fun vs H Q E h => ?_) fun cdv Ar outer s H vs Q E hr h => ?_⟩
  · obtain ⟨S, t, ns, B, rfl, _⟩ := h
    rfl
  · obtain ⟨S, t, ns, B, rfl, hb, hs, ht, hl, q⟩ := h
    refine ⟨wpB _ _, pb_wp, ?_⟩
    have vS : (start N_l_source [V.ref S, V.int (t : Int)])[0]? = some (some (.ref S)) := rfl
    refine st_set (i := 2) (d := .int (if t < ns.length then ns.getD t 0 else 11 * (t : Int) + 3)) sc_l_source.nd (pd_if (CD.td (cd_lt (pd_var 1 rfl (.int _)) (pd_len_sql vS hs (by rfl) T.len))) (fun z => ?_) fun z => ?_) hb fun v B1 H1 f1 r1 => ?_
    · have z' : (t : Int) < ((ns.map V.int).length : Int) := of_decide_eq_true z
      rw [List.length_map] at z'
      have z2 : t < ns.length := by omega
      rw [if_pos z2]
      refine pd_ix_sql (m := t) vS hs (pd_var 1 rfl (.int _)) ?_
      rw [List.getElem?_map, List.getD_eq_getElem?_getD, List.getElem?_eq_getElem z2]
      rfl
    · have z' : ¬ (t : Int) < ((ns.map V.int).length : Int) := of_decide_eq_false z
      rw [List.length_map] at z'
      have z2 : ¬ t < ns.length := by omega
      rw [if_neg z2]
      exact pd_add (pd_mul pd_int (pd_var 1 rfl (.int _)) (.inl (by decide))) pd_int
    · generalize (if t < ns.length then ns.getD t 0 else 11 * (t : Int) + 3) = c at r1
      refine wpB_cons (wpS_of (ps_ret (pe_lst pa_wp)) ((ad_cons (d := .int (if decide ((10 : Int) ^ (18 : Int).toNat ≤ c) = true then c else 0)) (pd_if (CD.td (cd_ge (pd_var 2 rfl r1) (pd_pow pd_int pd_int ⟨by decide, by decide, by decide⟩))) (fun z => by rw [if_pos z]; exact pd_var 2 rfl r1) fun z => by rw [if_neg (by rw [z]; decide)]; exact pd_int) (ad_cons (pd_mod (pd_intI (by rfl) T.int (pd_var 2 rfl r1)) pd_int (by decide)) (ad_cons pd_int ad_nil))) H1 f1.bh _ fun vs B2 H2 f2 r2 => ?_))
      obtain ⟨u1, u2, u3, rfl, q1, q2, q3⟩ := r2.three
      rw [q1.int_inv, q2.int_inv, q3.int_inv]
      exact ⟨by show 3 ≤ sizeLine; decide, fun p hp => q p B2 H2 _ _ _ (f1.trans f2) hp⟩
theorem fn_l_is_beneath (D : IsDef K mg "_law_is_beneath" s_l_is_beneath) (T : Bl mg) : Fn P w K mg base CX0 "_law_is_beneath" 1 ["_law_path", "_law_other"] (SpR K R_l_is_beneath) := by
  refine fn_data D sc_l_is_beneath (fun ds d h => by obtain ⟨x, y, rfl, _⟩ := h; rfl) (fun _ _ _ _ _ _ us hl => match us, hl with | [_, _], _ => rfl) fun f cdv A outer s H E vs B ds d hr h ra => ?_
  obtain ⟨p, o, rfl, ok, rfl⟩ := h
  obtain ⟨v, v', rfl, r, r'⟩ := ra.two
  unfold okBen at ok
  simp only [Bool.and_eq_true, decide_eq_true_eq] at ok
  obtain ⟨h1, h2, h3, h4⟩ := ok
  exact rd_ret (CD.pd (cd_eqS hr (pd_cutS (pd_var 0 rfl r) po_none (po_some pe_wp) eo_none (eo_some (pd_add (pd_lenS (by rfl) T.len (pd_var 1 rfl r') (by omega)) pd_int)) (by omega)) (pd_adds (pd_var 1 rfl r') pd_str (by rw [len_sl]; omega)) h3 h4))
end
end K8

set_option Elab.async false
set_option linter.all false
set_option maxRecDepth 100000
set_option maxHeartbeats 400000
/-! K8o: looks, answers, drawn and handed sights. -/
namespace K8
open PySem PySem.Spec PyProof.Rows L2
theorem looksL_d : PyData.list (looksL.map Lk.d) = .list ([.tuple [.str "read", .str "a"], .tuple [.str "list", .str "a"], .tuple [.str "read", .str "a/b"], .tuple [.str "list", .str "a/b"], .tuple [.str "read", .str "a/b/k"]] ++ [.tuple [.str "read", .str "a/z"], .tuple [.str "read", .str "d"]]) := by simp [looksL]
section
variable {X : Cx} {σ : L2.St} {B : Hp} {u p x1 x2 x3 : Str} {n n1 n2 n3 : Nat} {p1 p2 p3 p4 : Pos}
theorem pd_tk (h1 : starEach [.Constant (.str u) n1 p1, .Constant (.str p) n2 p2] X.env = (false, eval (.Constant (.str u) n1 p1) X.env) :: starEach [.Constant (.str p) n2 p2] X.env := by rfl) (h2 : starEach [.Constant (.str p) n2 p2] X.env = (false, eval (.Constant (.str p) n2 p2) X.env) :: starEach [] X.env := by rfl) : PD X (.Tuple [.Constant (.str u) n1 p1, .Constant (.str p) n2 p2] n p3) σ B (.tuple [.str u, .str p]) :=
  pd_tup (ad_cons pd_str (ad_cons pd_str ad_nil h2) h1) (show 2 ≤ 100000 by decide)
theorem pd_t1 (h2 : starEach [.Constant (.str p) n2 p2] X.env = (false, eval (.Constant (.str p) n2 p2) X.env) :: starEach [] X.env := by rfl) : PD X (.Tuple [.Constant (.str p) n2 p2] n p3) σ B (.tuple [.str p]) :=
  pd_tup (ad_cons pd_str ad_nil h2) (show 1 ≤ 100000 by decide)
end
section
variable {P : Program} {w : World} {K : PySem.W.Frag} {mg : Str → Option Value} {base : Heap}
theorem fn_l_looks (D : IsDef K mg "_law_looks" s_l_looks) : Fn P w K mg base CX0 "_law_looks" 1 [] (SpR K R_l_looks) := by
  refine fn_data D sc_l_looks (fun ds d h => by rw [h.1]; rfl) (fun _ _ _ _ _ _ us hl => match us, hl with | [], _ => rfl) fun f cdv A outer s H E vs B ds d hr h ra => ?_
  obtain ⟨rfl, rfl⟩ := h
  cases ra
  rw [looksL_d]
  refine rd_set (i := 0) (d1 := .list [.tuple [.str "read", .str "a"], .tuple [.str "list", .str "a"], .tuple [.str "read", .str "a/b"], .tuple [.str "list", .str "a/b"], .tuple [.str "read", .str "a/b/k"]]) sc_l_looks.nd (pd_lst (ad_cons pd_tk (ad_cons pd_tk (ad_cons pd_tk (ad_cons pd_tk (ad_cons pd_tk ad_nil))))) (show 5 ≤ 100000 by decide)) fun v B1 s1 r1 => ?_
  exact rd_ret (pd_addL (pd_var 0 rfl r1) (pd_lst (ad_cons pd_tk (ad_cons pd_tk ad_nil)) (show 2 ≤ 100000 by decide)) (show 5 + 2 ≤ 100000 by decide))
theorem fn_l_answers (D : IsDef K mg "_law_answers" s_l_answers) : Fn P w K mg base CX0 "_law_answers" 1 ["_law_look"] (SpR K R_l_answers) := by
  refine fn_data D sc_l_answers (fun ds d h => by obtain ⟨x, rfl, _⟩ := h; rfl) (fun _ _ _ _ _ _ us hl => match us, hl with | [_], _ => rfl) fun f cdv A outer s H E vs B ds d hr h ra => ?_
  obtain ⟨k, rfl, ok, rfl⟩ := h
  obtain ⟨v, rfl, r⟩ := ra.one
  have eqk : ∀ (l : Bool) (p : Str), PyData.eqv k.d (.tuple [.str (wd l), .str p]) = decide (k = ⟨l, p⟩) := fun l p => eqv_lk k ⟨l, p⟩
  unfold ansL
  refine rd_if (p := decide (k = ⟨true, "a"⟩)) (CD.td (CD.cast (cd_eq hr (pd_var 0 rfl r) pd_tk (shp_lk ok) (by decide +kernel)) (eqk true "a"))) (fun z => ?_) fun z => ?_
  · rw [if_pos (of_decide_eq_true z)]
    exact rd_ret (pd_lst (ad_cons pd_non (ad_cons pd_t1 (ad_cons pd_t1 (ad_cons pd_tk (ad_cons pd_tk (ad_cons pd_t1 ad_nil)))))) (show 6 ≤ 100000 by decide))
  · rw [if_neg (of_decide_eq_false z)]
    refine rd_if (p := decide (k = ⟨false, "d"⟩)) (CD.td (CD.cast (cd_eq hr (pd_var 0 rfl r) pd_tk (shp_lk ok) (by decide +kernel)) (eqk false "d"))) (fun z => ?_) fun z => ?_
    · rw [if_pos (of_decide_eq_true z)]
      exact rd_ret (pd_lst (ad_cons pd_non (ad_cons pd_str (ad_cons pd_str ad_nil))) (show 3 ≤ 100000 by decide))
    · rw [if_neg (of_decide_eq_false z)]
      refine rd_ret (pd_if (p := k.l) (CD.td (cd_wordL hr (pd_ixT (m := 0) (pd_var 0 rfl r) pd_int rfl) pd_str)) (fun z => ?_) fun z => ?_)
      · rw [if_pos z]
        exact pd_lst (ad_cons pd_non (ad_cons pd_t1 ad_nil)) (show 2 ≤ 100000 by decide)
      · rw [if_neg (by rw [z]; decide)]
        exact pd_lst (ad_cons pd_non (ad_cons pd_str ad_nil)) (show 2 ≤ 100000 by decide)
end
section
variable {X : Cx} {a b : Expr} {σ : L2.St} {B H : Hp} {d d1 d2 : PyData} {sts : List Stmt} {pos : Pos} {D : Ends} {A : Addr} {P1 P2 : PyData → Prop}
/-- x, y = (e, []) -/
theorem st_parNew {i j : Nat} {x y : Str} {px py pt pl : Pos} {kt k2 : Nat} {pt2 : Pos} (hc : X.calm = true) (hN : X.N.Nodup) (h : PD X a σ B d) (hb : Same B H) (k : ∀ v B1 H1, F0 B H B1 H1 → R X.K B1 v d → ∀ L, H1 L = none → wpB X sts D ((σ.set i (some v)).set j (some (.ref L))) (upd H1 L (.lst []))) (hi : X.N[i]? = some x := by rfl) (hj : X.N[j]? = some y := by rfl) (hij : i ≠ j := by decide)
    (hx : X.env.scope.names.lookup x = some .local := by rfl) (hy : X.env.scope.names.lookup y = some .local := by rfl) (hw : swappedStores [.Tuple [.Name x px, .Name y py] kt pt] (.Tuple [a, .List [] pl] k2 pt2) X.env = pure (some [x, y]) := by rfl)
    (hs : swapsWithSole [.Tuple [.Name x px, .Name y py] kt pt] (.Tuple [a, .List [] pl] k2 pt2) pos.line X.env = pure false := by rfl) (he : starEach [a, .List [] pl] X.env = (false, eval a X.env) :: starEach [.List [] pl] X.env := by rfl) (he2 : starEach [.List [] pl] X.env = (false, eval (.List [] pl) X.env) :: starEach [] X.env := by rfl) :
    wpB X (.Assign [.Tuple [.Name x px, .Name y py] kt pt] (.Tuple [a, .List [] pl] k2 pt2) pos :: sts) D σ H := by
  refine wpB_cons (wpS_of (ps_par hc hN hi hj hij hx hy (pa_cons pe_wp (pa_cons (pe_lst pa_nil) pa_nil he2) he) hw hs) ?_)
  show wpE X a σ H _
  exact h H hb _ fun v B1 H1 f1 r1 => ⟨Nat.zero_le _, fun L hL => ⟨v, .ref L, rfl, k v B1 H1 f1 r1 L hL⟩⟩
/-- x, y = (e, f), both may draw -/
theorem stn_par {i j : Nat} {x y : Str} {px py pt : Pos} {kt k2 : Nat} {pt2 : Pos} (hc : X.calm = true) (hN : X.N.Nodup) (h : PN X a σ B A P1) (h2 : ∀ B1, Same B B1 → PN X b σ B1 A P2) (hb : Same B H) (dr : Drw A B H) (k : ∀ v1 v2 d1 d2 B1 H1, Fz (· = A) B H B1 H1 → Drw A B1 H1 → P1 d1 → P2 d2 → R X.K B1 v1 d1 → R X.K B1 v2 d2 → wpB X sts D ((σ.set i (some v1)).set j (some v2)) H1) (hi : X.N[i]? = some x := by rfl) (hj : X.N[j]? = some y := by rfl) (hij : i ≠ j := by decide)
    (hx : X.env.scope.names.lookup x = some .local := by rfl) (hy : X.env.scope.names.lookup y = some .local := by rfl) (hw : swappedStores [.Tuple [.Name x px, .Name y py] kt pt] (.Tuple [a, b] k2 pt2) X.env = pure (some [x, y]) := by rfl)
    (hs : swapsWithSole [.Tuple [.Name x px, .Name y py] kt pt] (.Tuple [a, b] k2 pt2) pos.line X.env = pure false := by rfl) (he : starEach [a, b] X.env = (false, eval a X.env) :: starEach [b] X.env := by rfl) (he2 : starEach [b] X.env = (false, eval b X.env) :: starEach [] X.env := by rfl) :
    wpB X (.Assign [.Tuple [.Name x px, .Name y py] kt pt] (.Tuple [a, b] k2 pt2) pos :: sts) D σ H := by
  refine wpB_cons (wpS_of (ps_par hc hN hi hj hij hx hy (pa_cons pe_wp (pa_cons pe_wp pa_nil he2) he) hw hs) ?_)
  show wpE X a σ H _
  refine h H hb dr _ fun v1 d1 B1 H1 f1 dr1 p1 r1 => ?_
  exact h2 B1 f1.bb H1 f1.bh dr1 _ fun v2 d2 B2 H2 f2 dr2 p2 r2 => ⟨v1, v2, rfl, k v1 v2 d1 d2 B2 H2 (f1.trans f2) dr2 p1 p2 (r1.mono f2.bb) r2⟩
end
/-! ### drawn sights -/
def S19 : List Sg := looksL.flatMap fun k => (ansL k).map (Sg.mk k)
def preSome : List PyData → Prop := fun ds => ∃ m : Nat, ds = [.int (m : Int)] ∧ m ≤ 50
def relSome : List PyData → PyData → Prop := fun ds d => ∃ (m : Nat) (ss : List Sg), ds = [.int (m : Int)] ∧ d = sgsD ss ∧ ss.length = m ∧ ∀ s ∈ ss, s ∈ S19
theorem looks_ok : ∀ k ∈ looksL, okK k = true := by decide +kernel
theorem ans_len : ∀ k ∈ looksL, 1 ≤ (ansL k).length ∧ (ansL k).length ≤ 100 := by decide +kernel
section
variable {P : Program} {w : World} {K : PySem.W.Frag} {mg : Str → Option Value} {base : Heap}
theorem fn_l_some_sights (D : IsDef K mg "_law_some_sights" s_l_some_sights) (T : Bl mg) (F1 : Fn P w K mg base CX0 "_law_looks" 1 [] (SpR K R_l_looks)) (F2 : Fn P w K mg base CX0 "_law_answers" 1 ["_law_look"] (SpR K R_l_answers)) (F3 : FnN P w K mg base "_law_pick" 2 ["_law_draws", "_law_things"] prePick relPick) : FnN P w K mg base "_law_some_sights" 3 ["_law_draws", "_law_many"] preSome relSome := by
  refine fnN_data D sc_l_some_sights (fun ds h => by obtain ⟨m, rfl, _⟩ := h; rfl) (fun _ _ _ _ _ _ us hl => match us, hl with | [_, _], _ => rfl) fun f cdv Ar outer s H0 E A vs B ds hr h ra => ?_
  obtain ⟨m, rfl, hm⟩ := h
  obtain ⟨v, rfl, r⟩ := ra.one
  intro H hb dr Q q
  -- looks, found = (looks(), [])
  refine st_parNew (i := 2) (j := 3) rfl sc_l_some_sights.nd (pd_call0 (d := .list (looksL.map Lk.d)) F1 hr (by decide) (by rfl) ⟨rfl, rfl⟩) hb fun vl B1 H1 f1 r1 L hL => ?_
  have hLA : L ≠ A := fun z => (dr.f0 f1).ne (by rw [← z]; exact hL)
  have dr1 : Drw A B1 (upd H1 L (.lst [])) := by
    obtain ⟨h1, i, j, k, h2⟩ := dr.f0 f1
    exact ⟨h1, i, j, k, by rw [upd_ne (Ne.symm hLA)]; exact h2⟩
  have hb1 : Same B1 (upd H1 L (.lst [])) := upd_out f1.bh (f1.bh.free hL)
  refine st_for (ds := (List.range m).map fun i => PyData.int (i : Nat)) PassesOwn.never rfl (pi_range1 (by rfl) T.range pa_wp) (pg_name (i := 4) sc_l_some_sights.nd rfl (Or.inl rfl)) (src_range1 (pd_var 1 rfl (r.mono f1.bb)) (by omega)) hb1 fun B2 H2 f2 => ?_
  refine ⟨fun i σ' Bi Hi => ∃ (o1 o2 : Option V) (ss : List Sg), σ' = [some (.ref A), some v, some vl, some (.ref L), o1, o2] ∧ MuL K L (ss.map Sg.d) Bi Hi ∧ Drw A Bi Hi ∧ Fz (fun a => a = A ∨ a = L) B2 H2 Bi Hi ∧ ss.length = i ∧ ∀ s ∈ ss, s ∈ S19, ?_, ?_, ?_⟩
  · exact ⟨_, _, [], rfl, (MuL.new f1.bh hL).f0 f2, dr1.f0 f2, Fz.refl f2.bh, rfl, fun s hs => nomatch hs⟩
  · rintro i σ' Bi Hi d x' By H' hi s1 s2 ⟨o1, o2, ss, rfl, mu, drw, fz, hl, hmem⟩ hd fy rd
    rw [List.length_map, List.length_range] at hi
    have muy := mu.f0 fy
    have dry := drw.f0 fy
    have rl := (r1.mono f2.bb).mono (fz.bb.trans fy.bb)
    refine ⟨_, gd_name, ?_⟩
    refine stn_set (i := 5) (P := fun d => d ∈ looksL.map Lk.d) sc_l_some_sights.nd (pn_call (i := 0) (PA := fun ds => ds = [.list (looksL.map Lk.d)]) F3 hr (by decide) (by rfl) rfl (AD.an (ad_cons (pd_var 2 rfl rl) ad_nil) rfl) (fun ds e => ⟨_, _, e, rfl, by decide, by decide⟩) fun ds d e hrl => ?_) fy.bh dry fun vk dk B3 H3 f3 dr3 pk r3 => ?_
    · obtain ⟨x, xs, e2, hq, hm⟩ := hrl
      rw [e] at e2
      cases e2
      cases hq
      exact hm
    · obtain ⟨k, hk, rfl⟩ := List.mem_map.mp pk
      have mu3 := muy.fzn f3 hLA
      refine stn_app (j := 3) (P := fun d => ∃ s ∈ S19, d = s.d) rfl hLA mu3 f3.bh dr3 (by rw [List.length_map]; omega) (PN.imp (pn_tup (PA := fun ds => ∃ a ∈ ansL k, ds = [k.d, An.d a]) (an_cons (PD.pn (P := fun d => d = k.d) (pd_var 5 rfl r3) rfl) fun d1 B4 s4 e1 => an_cons (P := fun d => d ∈ (ansL k).map An.d) (pn_call (i := 0) (PA := fun ds => ds = [.list ((ansL k).map An.d)]) F3 hr (by decide) (by rfl) rfl (AD.an (ad_cons (pd_call F2 hr (by decide) (by rfl) (ad_cons (pd_var 5 rfl (r3.mono s4)) ad_nil) ⟨k, rfl, looks_ok k hk, rfl⟩) ad_nil) rfl) (fun ds e => ⟨_, _, e, rfl, by rw [List.length_map]; exact (ans_len k hk).1, by rw [List.length_map]; exact (ans_len k hk).2⟩) fun ds d e hrl => ?_) fun d2 B5 s5 e2 => an_nil ?_) fun ds h => ?_) fun d h => ?_) fun d5 B5 H5 pd5 f5 dr5 mu5 => ?_
      · obtain ⟨x, xs, e2, hq, hm⟩ := hrl
        rw [e] at e2
        cases e2
        cases hq
        exact hm
      · obtain ⟨a, ha, rfl⟩ := List.mem_map.mp e2
        exact ⟨a, ha, by rw [e1]⟩
      · obtain ⟨a, _, rfl⟩ := h
        exact (show 2 ≤ 100000 by decide)
      · obtain ⟨ds, rfl, a, ha, rfl⟩ := h
        exact ⟨⟨k, a⟩, List.mem_flatMap.mpr ⟨k, hk, List.mem_map.mpr ⟨a, ha, rfl⟩⟩, rfl⟩
      · obtain ⟨sg, hsg, rfl⟩ := pd5
        refine wpB_nil ⟨B5, fz.bb.trans (fy.bb.trans (f3.bb.trans f5.bb)), f5.bh, _, _, ss ++ [sg], rfl, ?_, dr5, ((fz.trans fy.to).trans (f3.sub fun _ z => .inl z)).trans f5, ?_, ?_⟩
        · rw [List.map_append]
          exact mu5
        · rw [List.length_append, hl]
          rfl
        · intro s hs
          rcases List.mem_append.mp hs with hs | hs
          · exact hmem s hs
          · have : s = sg := by simpa using hs
            rw [this]
            exact hsg
  · rintro σ' Bi Hi s1 s2 ⟨o1, o2, ss, rfl, mu, drw, fz, hl, hmem⟩
    rw [List.length_map, List.length_range] at hl
    refine st_retv (i := 3) rfl ?_
    obtain ⟨acc, hacc, rr⟩ := mu.frz
    have fall := Fz.frz (S := (· = A)) f1.bh hL (f2.to.trans fz) (fun a h => h) hacc mu.1
    refine q (sgsD ss) _ _ Hi (f1.to.trans fall) ⟨?_, drw.2⟩ ⟨m, ss, rfl, rfl, hl, hmem⟩ rr
    rw [upd_ne (Ne.symm hLA)]
    exact drw.1
end
end K8

set_option Elab.async false
set_option linter.all false
set_option maxRecDepth 100000
set_option maxHeartbeats 400000
/-! K8h: handed sights. -/
namespace K8
open PySem PySem.Spec PyProof.Rows L2
def hLk (k : Lk) : List PyData := [k.d, .list [.str (wd k.l), .str k.p]]
def hAn : An → List PyData
  | .nm es => [.list (es.map .str), .tuple (es.map .str)]
  | a => [a.d]
def hSg (s : Sg) : List PyData := (hLk s.k).flatMap fun x => (hAn s.a).flatMap fun y => [.tuple [x, y], .list [x, y]]
inductive HAll : List PyData → List Sg → Prop
  | nil : HAll [] []
  | cons {x : PyData} {xs : List PyData} {s : Sg} {ss : List Sg} : x ∈ hSg s → HAll xs ss → HAll (x :: xs) (s :: ss)
theorem HAll.snoc : ∀ {xs : List PyData} {ss : List Sg} {x : PyData} {s : Sg}, HAll xs ss → x ∈ hSg s → HAll (xs ++ [x]) (ss ++ [s])
  | _, _, _, _, .nil, h => .cons h .nil
  | _, _, _, _, .cons h r, h2 => .cons h (HAll.snoc r h2)
theorem HAll.len : ∀ {xs : List PyData} {ss : List Sg}, HAll xs ss → xs.length = ss.length
  | _, _, .nil => rfl
  | _, _, .cons _ r => by rw [List.length_cons, List.length_cons, HAll.len r]
def preHand : List PyData → Prop := fun ds => ∃ ss, ds = [sgsD ss] ∧ ss.length ≤ 50
def relHand : List PyData → PyData → Prop := fun ds d => ∃ ss xs, ds = [sgsD ss] ∧ seqOf d = some xs ∧ HAll xs ss
section
variable {P : Program} {w : World} {K : PySem.W.Frag} {mg : Str → Option Value} {base : Heap}
theorem fn_l_handed_sights (D : IsDef K mg "_law_handed_sights" s_l_handed_sights) (T : Bl mg) (F1 : FnN P w K mg base "_law_draw" 1 ["_law_draws", "_law_many"] preDraw relDraw) (F3 : FnN P w K mg base "_law_pick" 2 ["_law_draws", "_law_things"] prePick relPick) : FnN P w K mg base "_law_handed_sights" 3 ["_law_draws", "_law_sights"] preHand relHand := by
  refine fnN_data D sc_l_handed_sights (fun ds h => by obtain ⟨m, rfl, _⟩ := h; rfl) (fun _ _ _ _ _ _ us hl => match us, hl with | [_, _], _ => rfl) fun f cdv Ar outer s H0 E A vs B ds hr h ra => ?_
  obtain ⟨ss, rfl, hz⟩ := h
  obtain ⟨v, rfl, r⟩ := ra.one
  intro H hb dr Q q
  refine st_new (i := 2) sc_l_handed_sights.nd fun L hL => ?_
  have hLA : L ≠ A := fun z => dr.ne (by rw [← z]; exact hL)
  have dr1 : Drw A B (upd H L (.lst [])) := by
    obtain ⟨h1, i, j, k, h2⟩ := dr
    exact ⟨h1, i, j, k, by rw [upd_ne (Ne.symm hLA)]; exact h2⟩
  refine st_for (ds := ss.map Sg.d) PassesOwn.never rfl (pi_list pe_wp) (pg_tup rfl (pgs_cons (pg_name (i := 3) sc_l_handed_sights.nd rfl (Or.inl rfl)) (pgs_cons (pg_name (i := 4) sc_l_handed_sights.nd rfl (Or.inl rfl)) pgs_nil))) (src_list (pd_var 1 rfl r)) (upd_out hb (hb.free hL)) fun B2 H2 f2 => ?_
  refine ⟨fun i σ' Bi Hi => ∃ (o1 o2 o3 o4 : Option V) (xs : List PyData), σ' = [some (.ref A), some v, some (.ref L), o1, o2, o3, o4] ∧ MuL K L xs Bi Hi ∧ Drw A Bi Hi ∧ Fz (fun a => a = A ∨ a = L) B2 H2 Bi Hi ∧ HAll xs (ss.take i), ?_, ?_, ?_⟩
  · exact ⟨_, _, _, _, [], rfl, (MuL.new hb hL).f0 f2, dr1.f0 f2, Fz.refl f2.bh, .nil⟩
  · rintro i σ' Bi Hi d x' By H' hi s1 s2 ⟨o1, o2, o3, o4, xs, rfl, mu, drw, fz, hall⟩ hd fy rd
    rw [List.getElem?_map] at hd
    obtain ⟨⟨k, a⟩, hsg, rfl⟩ := Option.map_eq_some_iff.mp hd
    have muy := mu.f0 fy
    have dry := drw.f0 fy
    obtain ⟨v3, v4, r3, r4, gd⟩ := gd_pair rd
    refine ⟨_, gd gd_name gd_name, ?_⟩
    refine stn_set (i := 5) (P := fun d => d ∈ hLk k) sc_l_handed_sights.nd (pn_call (i := 0) (PA := fun ds => ds = [.list (hLk k)]) F3 hr (by decide) (by rfl) rfl (AD.an (ad_cons (pd_lst (ad_cons (pd_var 3 rfl r3) (ad_cons (pd_listT (by rfl) T.list (pd_var 3 rfl r3)) ad_nil)) (show 2 ≤ 100000 by decide)) ad_nil) rfl) (fun ds e => ⟨_, _, e, rfl, (show 1 ≤ 2 by decide), (show 2 ≤ 100 by decide)⟩) fun ds d e hrl => ?_) fy.bh dry fun v5 d5 B3 H3 f3 dr3 p5 r5 => ?_
    · obtain ⟨x, xs, e2, hq, hm⟩ := hrl
      rw [e] at e2
      cases e2
      cases hq
      exact hm
    have r4' := r4.mono f3.bb
    have mu3 := muy.fzn f3 hLA
    refine stn_set (i := 6) (P := fun d => d ∈ hAn a) sc_l_handed_sights.nd ?_ f3.bh dr3 fun v6 d6 B4 H4 f4 dr4 p6 r6 => ?_
    · cases a with
      | nm es =>
        refine pn_ifAnd (td_val (pd_isi (d := .tuple (es.map .str)) .tuple (by rfl) T.isinstance (by rfl) T.tuple (by decide +kernel) (pd_var 4 rfl r4'))) (fun B1 s1 => tn_eqI (pn_call (i := 0) (PA := fun ds => ds = [.int ((2 : Nat) : Int)]) F1 hr (by decide) (by rfl) rfl (AD.an (ad_cons pd_int ad_nil) rfl) (fun ds e => ⟨2, e, by decide, by decide⟩) fun ds d e hrl => ?_)) (fun B1 s1 => PD.pn (pd_listT (by rfl) T.list (pd_var 4 rfl (r4'.mono s1))) (by simp [hAn])) fun B1 s1 => PD.pn (pd_var 4 rfl (r4'.mono s1)) (by simp [hAn])
        obtain ⟨m, n, _, rfl, _⟩ := hrl
        exact ⟨_, rfl⟩
      | no => exact pn_ifAndF (td_val (pd_isi (d := .none) .tuple (by rfl) T.isinstance (by rfl) T.tuple (by decide +kernel) (pd_var 4 rfl r4'))) (PD.pn (pd_var 4 rfl r4') (by simp [hAn]))
      | tx z => exact pn_ifAndF (td_val (pd_isi (d := .str z) .tuple (by rfl) T.isinstance (by rfl) T.tuple (by decide +kernel) (pd_var 4 rfl r4'))) (PD.pn (pd_var 4 rfl r4') (by simp [hAn]))
    have mu4 := mu3.fzn f4 hLA
    have hlen : xs.length ≤ 50 := by
      rw [hall.len, List.length_take]
      omega
    refine stn_app (j := 2) (P := fun d => d ∈ [PyData.tuple [d5, d6], .list [d5, d6]]) rfl hLA mu4 f4.bh dr4 (by omega) (pn_call (i := 0) (PA := fun ds => ds = [.list [.tuple [d5, d6], .list [d5, d6]]]) F3 hr (by decide) (by rfl) rfl (AD.an (ad_cons (pd_lst (ad_cons (pd_tup (ad_cons (pd_var 5 rfl (r5.mono f4.bb)) (ad_cons (pd_var 6 rfl r6) ad_nil)) (show 2 ≤ 100000 by decide)) (ad_cons (pd_lst (ad_cons (pd_var 5 rfl (r5.mono f4.bb)) (ad_cons (pd_var 6 rfl r6) ad_nil)) (show 2 ≤ 100000 by decide)) ad_nil)) (show 2 ≤ 100000 by decide)) ad_nil) rfl) (fun ds e => ⟨_, _, e, rfl, (show 1 ≤ 2 by decide), (show 2 ≤ 100 by decide)⟩) fun ds d e hrl => ?_) fun d7 B5 H5 p7 f5 dr5 mu5 => ?_
    · obtain ⟨x, xs, e2, hq, hm⟩ := hrl
      rw [e] at e2
      cases e2
      cases hq
      exact hm
    · have etake : ss.take (i + 1) = ss.take i ++ [⟨k, a⟩] := by rw [List.take_add_one, hsg]; rfl
      refine wpB_nil ⟨B5, fz.bb.trans (fy.bb.trans (f3.bb.trans (f4.bb.trans f5.bb))), f5.bh, _, _, _, _, xs ++ [d7], rfl, mu5, dr5, (((fz.trans fy.to).trans (f3.sub fun _ z => .inl z)).trans (f4.sub fun _ z => .inl z)).trans f5, ?_⟩
      rw [etake]
      exact hall.snoc (List.mem_flatMap.mpr ⟨d5, p5, List.mem_flatMap.mpr ⟨d6, p6, p7⟩⟩)
  · rintro σ' Bi Hi s1 s2 ⟨o1, o2, o3, o4, xs, rfl, mu, drw, fz, hall⟩
    rw [List.length_map, List.take_length] at hall
    obtain ⟨acc, hacc, rr⟩ := mu.frz
    have fall := Fz.frz (S := (· = A)) hb hL (f2.to.trans fz) (fun a h => h) hacc mu.1
    have drf : Drw A (upd Bi L (.lst acc)) Hi := ⟨by rw [upd_ne (Ne.symm hLA)]; exact drw.1, drw.2⟩
    have hlen : xs.length ≤ 50 := by
      rw [hall.len]
      exact hz
    refine stn_ret (P := fun d => d ∈ [PyData.list xs, .tuple xs]) (pn_call (i := 0) (PA := fun ds => ds = [.list [.list xs, .tuple xs]]) F3 hr (by decide) (by rfl) rfl (AD.an (ad_cons (pd_lst (ad_cons (pd_var 2 rfl rr) (ad_cons (pd_tupleL (by rfl) T.tuple (pd_var 2 rfl rr)) ad_nil)) (show 2 ≤ 100000 by decide)) ad_nil) rfl) (fun ds e => ⟨_, _, e, rfl, (show 1 ≤ 2 by decide), (show 2 ≤ 100 by decide)⟩) fun ds d e hrl => ?_) fall.bh drf fun v9 d9 B9 H9 f9 dr9 p9 r9 => ?_
    · obtain ⟨x, xs, e2, hq, hm⟩ := hrl
      rw [e] at e2
      cases e2
      cases hq
      exact hm
    · refine q d9 v9 B9 H9 (fall.trans f9) dr9 ⟨ss, xs, rfl, ?_, hall⟩ r9
      have e9 : d9 = .list xs ∨ d9 = .tuple xs := by simpa using p9
      rcases e9 with rfl | rfl <;> rfl
end
end K8

set_option Elab.async false
set_option linter.all false
set_option maxRecDepth 100000
set_option maxHeartbeats 400000
/-! K8w: dicts of texts; dicts whose keys are pairs of texts. -/
namespace K8
open PySem PySem.Spec PyProof.Rows L2
/-! ### dicts of texts -/
abbrev Wd := List (Str × Str)
def wD (w : Wd) : PyData := .dict (w.map fun p => (PyData.str p.1, PyData.str p.2))
def wK (w : Wd) : List (Key × V) := w.map fun p => (Sum.inr p.1, V.str p.2)
def wGet (w : Wd) (k : Str) : Option Str := (w.find? fun p => decide (p.1 = k)).map (·.2)
def wPut (w : Wd) (k z : Str) : Wd := if (w.any fun p => decide (p.1 = k)) = true then w.map (fun p => if p.1 = k then (p.1, z) else p) else w ++ [(k, z)]
def wMerge (w more : Wd) : Wd := more.foldl (fun acc p => wPut acc p.1 p.2) w
theorem wK_len (w : Wd) : (wK w).length = w.length := by simp [wK]
theorem valV_wK (k : Str) : ∀ w : Wd, valV (wK w) (.inr k) = (wGet w k).map V.str
  | [] => rfl
  | p :: w => by
    have ih := valV_wK k w
    by_cases h : p.1 = k
    · have h2 : (Sum.inr p.1 : Key) = .inr k := by rw [h]
      have e : wGet (p :: w) k = some p.2 := by simp [wGet, List.find?_cons, h]
      rw [e]
      exact valV_pos h2
    · have h2 : ¬ (Sum.inr p.1 : Key) = .inr k := fun z => h (by injection z)
      have e : wGet (p :: w) k = wGet w k := by simp [wGet, List.find?_cons, h]
      rw [e, ← ih]
      exact valV_neg h2
theorem putK_wK (k z : Str) (w : Wd) : putK (wK w) (.inr k) (.str z) = wK (wPut w k z) := by
  have e : ((wK w).any fun kv => decide (kv.1 = (.inr k : Key))) = w.any fun p => decide (p.1 = k) := by
    unfold wK
    rw [List.any_map]
    congr 1
    funext p
    simp
  unfold putK wPut
  rw [e]
  by_cases h : (w.any fun p => decide (p.1 = k)) = true
  · rw [if_pos h, if_pos h]
    unfold wK
    rw [List.map_map, List.map_map]
    refine List.map_congr_left fun p _ => ?_
    show (if (Sum.inr p.1 : Key) = .inr k then ((Sum.inr p.1 : Key), V.str z) else (Sum.inr p.1, V.str p.2)) = _
    by_cases h : p.1 = k
    · rw [if_pos (by rw [h])]
      show _ = (Sum.inr (if p.1 = k then (p.1, z) else p).1, V.str (if p.1 = k then (p.1, z) else p).2)
      rw [if_pos h]
    · rw [if_neg (fun z => h (by injection z))]
      show _ = (Sum.inr (if p.1 = k then (p.1, z) else p).1, V.str (if p.1 = k then (p.1, z) else p).2)
      rw [if_neg h]
  · rw [if_neg h, if_neg h]
    simp [wK]
theorem mergeK_wK : ∀ (more w : Wd), mergeK (wK w) (wK more) = wK (wMerge w more)
  | [], w => rfl
  | p :: more, w => by
    have ih := mergeK_wK more (wPut w p.1 p.2)
    show mergeK (putK (wK w) (.inr p.1) (.str p.2)) (wK more) = _
    rw [putK_wK, ih]
    rfl
section
variable {K : PySem.W.Frag} {H : Hp} {v : V}
theorem keyD_str {k : Key} {x : Str} (h : keyD k = .str x) : k = .inr x := by
  cases k with
  | inl i => cases h
  | inr y => cases h; rfl
theorem rks_w : ∀ {kvs : List (Key × V)} {es : List (PyData × PyData)}, RKs K H kvs es → ∀ w : Wd, es = (w.map fun p => (PyData.str p.1, PyData.str p.2)) → kvs = wK w
  | _, _, .nil, [], _ => rfl
  | _, _, .nil, _ :: _, e => by cases e
  | _, _, .cons h r, [], e => by cases e
  | _, _, .cons (k := k) (v := v) h r, p :: w, e => by
    rw [List.map_cons] at e
    have e1 := List.cons.inj e
    have e2 := Prod.mk.inj e1.1
    have e3 := rks_w r w e1.2
    have e4 := e2.2
    subst e4
    rw [e3, keyD_str e2.1, h.str_inv]
    rfl
theorem rks_of : ∀ w : Wd, RKs K H (wK w) (w.map fun p => (PyData.str p.1, PyData.str p.2))
  | [] => .nil
  | p :: w => .cons (k := .inr p.1) (.str p.2) (rks_of w)
theorem rts_w : ∀ {kvs : List (List Key × V)} {w : Wd}, RTs K H kvs (w.map fun p => (PyData.str p.1, PyData.str p.2)) → kvs = []
  | [], _, _ => rfl
  | kv :: kvs, [], h => by cases h
  | kv :: kvs, p :: w, h => by
    rw [List.map_cons] at h
    generalize hx : (PyData.str p.1, PyData.str p.2) = x at h
    cases h
    cases hx
theorem R.w_at {w : Wd} (r : R K H v (wD w)) : ∃ a, v = .ref a ∧ H a = some (.dK (wK w)) := by
  unfold wD at r
  generalize he : (w.map fun p => (PyData.str p.1, PyData.str p.2)) = es at r
  cases r with
  | dk h r => exact ⟨_, rfl, by rw [h, rks_w r w he.symm]⟩
  | dt h n r =>
    subst he
    exact (n (rts_w r)).elim
theorem R.of_w {a : Addr} {w : Wd} (h : H a = some (.dK (wK w))) : R K H (.ref a) (wD w) := .dk h (rks_of w)
end
section
variable {X : Cx} {e a b c : Expr} {es : List Expr} {σ : L2.St} {B H B1 : Hp} {d d1 d2 : PyData} {ds : List PyData} {p q : Bool} {pos p1 p2 p3 p4 apos cpos : Pos} {st : Stmt} {sts body : List Stmt} {D : Ends} {k n n1 n2 n3 n4 : Nat} {w w2 : Wd} {x y z : Str}
theorem r_upd_w {p : Addr} : R X.K (upd B p (.dK (wK w))) (.ref p) (wD w) := R.of_w upd_same
/-- {} -/
theorem pd_wnil : PD X (.Dict [] [] pos) σ B (wD []) := .of pe_dnewK fun H hb Q q p hp => q _ _ _ (F0.new hb hp) (R.of_w (w := []) upd_same)
theorem pd_w1 : PD X (.Dict [some (.Constant (.str x) n1 p1)] [.Constant (.str y) n2 p2] pos) σ B (wD [(x, y)]) :=
  .of (pe_disp (pps_cons pe_str pe_str pps_nil) rfl rfl (by simp) (show 1 ≤ 15 by decide)) fun H hb Q q p hp => by
    refine ⟨upd_same, [(.inr x, .str y)], rfl, (show 1 ≤ 15 by decide), ?_⟩
    rw [upd_upd]
    exact q _ _ _ (F0.new hb hp) (R.of_w (w := [(x, y)]) upd_same)
theorem pd_w2 {x2 y2 : Str} (h : x ≠ x2) : PD X (.Dict [some (.Constant (.str x) n1 p1), some (.Constant (.str x2) n2 p2)] [.Constant (.str y) n3 p3, .Constant (.str y2) n4 p4] pos) σ B (wD [(x, y), (x2, y2)]) :=
  .of (pe_disp (pps_cons pe_str pe_str (pps_cons pe_str pe_str pps_nil)) rfl rfl (by simp) (show 2 ≤ 15 by decide)) fun H hb Q q p hp => by
    refine ⟨upd_same, wK [(x, y), (x2, y2)], rfl, (show 2 ≤ 15 by decide), ?_⟩
    rw [upd_upd]
    have e : mergeK [] (wK [(x, y), (x2, y2)]) = wK [(x, y), (x2, y2)] := by
      have e1 := mergeK_wK [(x, y), (x2, y2)] []
      rw [show wK [] = [] from rfl] at e1
      rw [e1]
      congr 1
      simp [wMerge, wPut, h]
    rw [e]
    exact q _ _ _ (F0.new hb hp) r_upd_w
/-- d.get(k) -/
def wO : Option Str → PyData
  | none => .none
  | some z => .str z
theorem pd_wget (hr : Room n X.A) (ha : PD X a σ B (wD w)) (hb : PD X b σ B (.str x)) (m : M1 X a "get" apos b cpos) : PD X (.Call (.Attribute a "get" apos) [b] [] cpos) σ B (wO (wGet w x)) :=
  .of (pe_dget1 (by have := hr.un; omega) pe_wp pe_wp m) fun H h Q q => ha H h _ fun v B1 H1 f1 r1 => by
    obtain ⟨d, rfl, hd⟩ := r1.w_at
    refine ⟨d, rfl, .inl ⟨_, .inl (f1.bh _ _ hd)⟩, hb.mono f1.bb H1 f1.bh _ fun u B2 H2 f2 r2 => ?_⟩
    rw [r2.str_inv]
    have hd2 := f2.bb _ _ hd
    refine ⟨_, DGet.k (k := .inr x) (f2.bh _ _ hd2), ?_⟩
    rw [valV_wK]
    revert q
    cases wGet w x with
    | none => exact fun q => q _ B2 H2 (f1.trans f2) .non
    | some z => exact fun q => q _ B2 H2 (f1.trans f2) (.str z)
/-- d[k] -/
theorem pd_wix (hr : Room n X.A) (ha : PD X a σ B (wD w)) (hb : PD X b σ B (.str x)) (h : wGet w x = some z) (hs : NoSl b := by intro _ _; rfl) : PD X (.Subscript a b pos) σ B (.str z) :=
  .of (pe_dget (by have := hr.un; omega) pe_wp pe_wp hs) fun H hh Q q => ha H hh _ fun v B1 H1 f1 r1 => by
    obtain ⟨d, rfl, hd⟩ := r1.w_at
    refine hb.mono f1.bb H1 f1.bh _ fun u B2 H2 f2 r2 => ?_
    rw [r2.str_inv]
    have hd2 := f2.bb _ _ hd
    refine ⟨d, .str z, rfl, ?_, q _ B2 H2 (f1.trans f2) (.str z)⟩
    have g := DGet.k (k := .inr x) (f2.bh _ _ hd2)
    rw [valV_wK, h] at g
    exact g
/-- k in d, k not in d -/
theorem td_win (hr : Room n X.A) (ha : PD X a σ B (.str x)) (hb : PD X b σ B (wD w)) (hm : behindInMarks .In b = false := by rfl) : TD X (.Compare a [.In] [b] pos) σ B (wGet w x).isSome :=
  .of (pt_cmp (pc_din (by have := hr.un; omega) pe_wp pe_wp) hm) fun H hh Q q => ha H hh _ fun u B1 H1 f1 r1 => (hb.mono f1.bb) H1 f1.bh _ fun v B2 H2 f2 r2 => by
    obtain ⟨d, rfl, hd⟩ := r2.w_at
    rw [r1.str_inv]
    have g := DGet.k (k := .inr x) (f2.bh _ _ hd)
    refine ⟨d, _, rfl, g, (wGet w x).isSome, ?_, q B2 H2 (f1.trans f2)⟩
    rw [valV_wK]
    cases wGet w x <;> rfl
theorem td_wnot (hr : Room n X.A) (ha : PD X a σ B (.str x)) (hb : PD X b σ B (wD w)) (hm : behindInMarks .NotIn b = false := by rfl) : TD X (.Compare a [.NotIn] [b] pos) σ B (!(wGet w x).isSome) :=
  .of (pt_cmp (pc_dnotin (by have := hr.un; omega) pe_wp pe_wp) hm) fun H hh Q q => ha H hh _ fun u B1 H1 f1 r1 => (hb.mono f1.bb) H1 f1.bh _ fun v B2 H2 f2 r2 => by
    obtain ⟨d, rfl, hd⟩ := r2.w_at
    rw [r1.str_inv]
    have g := DGet.k (k := .inr x) (f2.bh _ _ hd)
    refine ⟨d, _, rfl, g, !(wGet w x).isSome, ?_, q B2 H2 (f1.trans f2)⟩
    rw [valV_wK]
    cases wGet w x <;> rfl
end
end K8

set_option Elab.async false
set_option linter.all false
set_option maxRecDepth 100000
set_option maxHeartbeats 400000
/-! K8v: dict(pairs) whose keys are tuples. -/
namespace K8
open PySem PySem.Spec PyProof.Rows L2
/-- the pair at x -/
def PairV (H : Hp) (x : V) (kv : List Key × V) : Prop := ∃ p b, x = .ref p ∧ H p = some (.tup [.ref b, kv.2]) ∧ H b = some (.tup (kv.1.map kV))
theorem storedAll_new {K : Type} [DecidableEq K] : ∀ (ps acc : List (K × Addr × Value)), ((acc ++ ps).map (·.1)).Nodup → PySem.storedAllH acc ps = acc ++ ps
  | [], acc, _ => by rw [List.append_nil]; rfl
  | p :: ps, acc, h => by
    have hn : atKey acc p.1 = none := by
      unfold atKey
      rw [List.find?_eq_none.mpr]
      · rfl
      · intro x hx
        rw [List.map_append, List.map_cons, List.nodup_append] at h
        have := h.2.2 x.1 (List.mem_map.mpr ⟨x, hx, rfl⟩) p.1 List.mem_cons_self
        simp [this]
    have e : acc ++ p :: ps = (acc ++ [p]) ++ ps := by simp
    show PySem.storedAllH (storedH acc p.1 p.2.1 p.2.2) ps = _
    rw [storedH_new hn, e]
    rw [e] at h
    exact storedAll_new ps _ h
section
variable {X : Cx}
theorem tpairs_of {pins : List (Addr × Obj)} {σ : L2.St} {H : Hp} {s : Shared} (I : Inv X pins σ H s) : ∀ {xs : List V} {kvs : List (List Key × V)}, Paired (PairV H) xs kvs →
    ∃ (prs : List (List Key × Addr × Value)) (Ts : List Addr), xs = Ts.map V.ref ∧ KT H kvs prs ∧ prs.length = Ts.length ∧ ∀ (j : Nat) (q : List Key × Addr × Value), prs[j]? = some q → ∃ p : Addr, Ts[j]? = some p ∧ IsTup s.heap p #[.ref q.2.1, q.2.2] ∧ (tupleKind (mixKind X.prog X.w)).is s.heap q.1 q.2.1
  | _, _, .nil => ⟨[], [], rfl, .nil, rfl, fun j q e => by simp at e⟩
  | _, _, .cons (b := kv) h t => by
    obtain ⟨prs, Ts, e, r, hl, hp⟩ := tpairs_of I t
    obtain ⟨p, b, rfl, hpt, hbt⟩ := h
    obtain ⟨_, its, rv, ht⟩ := (show ObjOk X.prog X.w H s.heap p (.tup [.ref b, kv.2]) from I.hok p _ hpt)
    obtain ⟨u, y, ei, ru, ry⟩ := vals2 rv
    subst ei
    cases (show u = Value.ref b from ru)
    refine ⟨(kv.1, b, y) :: prs, p :: Ts, by rw [e]; rfl, .cons ⟨rfl, hbt, ry⟩ r, by rw [List.length_cons, List.length_cons, hl], fun j q e => ?_⟩
    cases j with
    | zero =>
      have e' : (kv.1, b, y) = q := Option.some.inj e
      subst e'
      exact ⟨p, rfl, ht, key_of I.hok hbt⟩
    | succ j =>
      obtain ⟨p', e1, e2⟩ := hp j q (by simpa using e)
      exact ⟨p', by simpa using e1, e2⟩
theorem kt_keys {H : Hp} : ∀ {kvs : List (List Key × V)} {prs : List (List Key × Addr × Value)}, KT H kvs prs → kvs.map (·.1) = prs.map (·.1)
  | _, _, .nil => rfl
  | _, _, .cons h t => by rw [List.map_cons, List.map_cons, kt_keys t, h.1]
/-- dict(xs) of pairs whose first is a tuple of ints and texts, each another -/
theorem call_dictTP (hcalm : X.calm = true) (hu : X.A.units + 2 < cLine) : CallR X (.type "dict") (fun xs H Q => ∃ (a : Addr) (vs : List V) (kvs : List (List Key × V)), xs = [.ref a] ∧ H a = some (.lst vs) ∧ Paired (PairV H) vs kvs ∧ (kvs.map (·.1)).Nodup ∧
    ∀ p, H p = none → Q (.ref p) (upd H p (.dT kvs))) := by
  intro pins s σ H xs us Q I r q
  obtain ⟨a, vs, kvs, ex, hq, hp, hnd, q⟩ := q
  subst ex
  obtain ⟨u, eu, rx⟩ := vals1 r
  subst eu
  cases rx
  obtain ⟨prs, Ts, e, rel, hl, hpr⟩ := tpairs_of I hp
  subst e
  obtain ⟨hz, its, n, rv, _, hob⟩ := I.lstM hq
  have ei := refs_at rv
  subst ei
  rw [List.length_map] at hz
  have ok : PlainSeq "list" s.heap a (Ts.map Value.ref).toArray ∧ PairItems s.heap (Ts.map Value.ref).toArray (fun j => Ts.getD j 0) (prs.map fun q => (Value.ref q.2.1, q.2.2)) := by
    refine ⟨⟨_, n, hob, rfl, rfl, rfl⟩, by simp [hl], fun j k v e => ?_⟩
    rw [List.getElem?_map] at e
    obtain ⟨q, hq', e'⟩ := Option.map_eq_some_iff.mp e
    obtain ⟨p, e1, e2, _⟩ := hpr j q hq'
    cases e'
    refine ⟨by simp [List.getElem?_map, e1], .inl ?_⟩
    have e3 : Ts.getD j 0 = p := by rw [List.getD_eq_getElem?_getD, e1]; rfl
    show s.heap.IsTuple (Ts.getD j 0) _
    rw [e3]
    exact e2
  have P := PairArg.list (prog := X.prog) (w := X.w) a (Ts.map Value.ref).toArray (fun j => Ts.getD j 0) (prs.map fun q => (Value.ref q.2.1, q.2.2))
  have hkk : kvs.map (·.1) = prs.map (·.1) := kt_keys rel
  refine PySem.call_dict_pairsH (knd := tupleKind (mixKind X.prog X.w)) (ps := prs) P (I.ok.hd hcalm) (by exact hu) ok ⟨by simp, fun i key v e => ?_⟩ (fun h' hk x hx => ?_) (by simp [hl]; exact hz) fun h' tk hd' k => ?_
  · have e' : (prs.map fun q => (Value.ref q.2.1, q.2.2))[i]? = some (key, v) := e
    rw [List.getElem?_map] at e'
    obtain ⟨q, hq', e2⟩ := Option.map_eq_some_iff.mp e'
    cases e2
    exact ⟨q.1, q.2.1, hq', rfl⟩
  · obtain ⟨j, hj, e⟩ := List.mem_iff_getElem.mp hx
    obtain ⟨p, _, _, hi⟩ := hpr j x (by rw [List.getElem?_eq_getElem hj, e])
    obtain ⟨o, its, n, h1, h2⟩ := hi
    exact ⟨o, its, n, hk x.2.1 o (Nat.ne_of_lt (Heap.lt_size h1)) (by simp) h1, h2⟩
  · have hm : (s.heap.objs.size == sysModules) = false := beq_eq_false_iff_ne.mpr (Nat.ne_of_gt I.big)
    have hlen : kvs.length ≤ sizeLine := by
      rw [rel.length, hl]
      exact hz
    rw [storedAll_new prs [] (by rw [List.nil_append, ← hkk]; exact hnd), List.nil_append] at hd'
    obtain ⟨o, es, ep, h1, h2, h3, h4, _, h5⟩ := hd'
    have hn := I.hok.fresh (Nat.le_refl s.heap.objs.size)
    exact ⟨.ref s.heap.objs.size, upd H s.heap.objs.size (.dT kvs), I.laid (t' := tk) (fun b o e => k b o (by simp) e) (Nat.le_refl _) (show ObjOk X.prog X.w _ _ _ (.dT kvs) from ⟨hlen, hm, prs, rel.keeps (fun b ys e => by rw [upd_ne (ne_of_none e hn)]; exact e), o, es, ep, h1, h2, h3, h4, h5⟩), rfl, q _ hn⟩
end
end K8

set_option Elab.async false
set_option linter.all false
set_option maxRecDepth 100000
set_option maxHeartbeats 400000
/-! K8v2: rules for dicts. -/
namespace K8
open PySem PySem.Spec PyProof.Rows L2
open Classical in
noncomputable def newB (N : Addr → Prop) (B H' : Hp) : Hp := fun a => if N a then H' a else B a
open Classical in
theorem F0.news {B H H' : Hp} (hb : Same B H) (k : Same H H') (N : Addr → Prop) (hn : ∀ a, N a → H a = none) : F0 B H (newB N B H') H' where
  bb := fun a u e => by
    have : ¬ N a := fun z => by
      have := hb _ _ e
      rw [hn a z] at this
      cases this
    show (if N a then H' a else B a) = _
    rw [if_neg this]
    exact e
  bh := fun a u e => by
    have e' : (if N a then H' a else B a) = some u := e
    by_cases h : N a
    · rw [if_pos h] at e'
      exact e'
    · rw [if_neg h] at e'
      exact k _ _ (hb _ _ e')
  hh := fun a u _ e => k _ _ e
  out := fun a ha e => by
    show (if N a then H' a else B a) = _
    rw [if_neg (fun z => ha (hn a z))]
    exact e
  al := fun a ha => by
    cases e : H a with
    | none => exact absurd e ha
    | some u =>
      rw [k _ _ e]
      simp
open Classical in
theorem newB_at {B H' : Hp} {N : Addr → Prop} {a : Addr} (h : N a) : newB N B H' a = H' a := if_pos h
theorem ralls_of {K : PySem.W.Frag} {B : Hp} : ∀ {ts : List Addr} {w : Wd}, Paired (fun (t : Addr) (q : Key × V) => B t = some (.tup [kV q.1, q.2])) ts (wK w) → RAll K B (ts.map V.ref) (w.map fun p => .tuple [.str p.1, .str p.2])
  | [], [], _ => .nil
  | _ :: _, [], h => by cases h
  | [], _ :: _, h => by cases h
  | t :: ts, p :: w, h => by
    have h' : Paired (fun (t : Addr) (q : Key × V) => B t = some (.tup [kV q.1, q.2])) (t :: ts) ((.inr p.1, .str p.2) :: wK w) := h
    cases h' with
    | cons h r => exact .cons (.tup h (.cons (.str _) (.cons (.str _) .nil))) (ralls_of r)
theorem paired_at {B H : Hp} {ks : List (Key × V)} : ∀ {ts : List Addr}, Paired (fun (t : Addr) (q : Key × V) => H t = some (.tup [kV q.1, q.2])) ts ks → (∀ t ∈ ts, B t = H t) → Paired (fun (t : Addr) (q : Key × V) => B t = some (.tup [kV q.1, q.2])) ts ks := by
  intro ts h
  induction h with
  | nil => exact fun _ => .nil
  | cons h r ih => exact fun hb => .cons (by rw [hb _ List.mem_cons_self]; exact h) (ih fun t ht => hb t (List.mem_cons_of_mem _ ht))
section
variable {X : Cx} {e a b c : Expr} {es : List Expr} {σ : L2.St} {B H B1 : Hp} {d d1 d2 : PyData} {ds : List PyData} {p q : Bool} {pos p1 p2 p3 p4 apos cpos : Pos} {st : Stmt} {sts body : List Stmt} {D : Ends} {k n n1 n2 n3 n4 : Nat} {w w2 : Wd} {x y z : Str}
/-! ### d != {} -/
def rNeD0 : R2 := fun x y H Q => ∃ (a b : Addr) (ks : List (Key × V)), x = .ref a ∧ y = .ref b ∧ H a = some (.dK ks) ∧ H b = some (.dK []) ∧ Q (.bl (decide (ks ≠ []))) H
theorem op_neD0 (hu : X.A.units < cLine) : OpR X (compareOp .NotEq) rNeD0 := by
  intro pins s σ H x y v u Q I rx ry h
  obtain ⟨a, b, ks, rfl, rfl, ea, eb, q⟩ := h
  obtain rfl : v = Value.ref a := rx
  obtain rfl : u = Value.ref b := ry
  obtain ⟨_, ya, va, ra, da⟩ := (show ObjOk X.prog X.w H s.heap a (.dK ks) from I.hok a _ ea)
  obtain ⟨_, yb, vb, rb, db⟩ := (show ObjOk X.prog X.w H s.heap b (.dK []) from I.hok b _ eb)
  have ha : va.length = ks.length := ra.length.symm
  have hb : vb.length = 0 := rb.length.symm
  refine PySem.W.keq_ne (knd := mixKind X.prog X.w) (r := true) ya yb da db hu (fun he => ?_) (fin_bl I q ?_)
  · rw [hb] at he
    have : va = [] := List.eq_nil_of_length_eq_zero he
    subst this
    exact .nil
  · rw [ha, hb]
    cases ks <;> simp
theorem td_wne0 (hr : Room n X.A) (ha : PD X a σ B (wD w)) : TD X (.Compare a [.NotEq] [.Dict [] [] p1] pos) σ B (decide (w ≠ [])) :=
  .of (pt_cmpR (op_neD0 (by have := hr.un; omega)) pe_wp pe_dnewK (nomark _)) fun H h Q q => ha H h _ fun v B1 H1 f1 r1 p hp => by
    obtain ⟨d, rfl, hd⟩ := r1.w_at
    have f2 := F0.new (o := .dK []) f1.bh hp
    have hdp : d ≠ p := ne_of_none (f1.bh _ _ hd) hp
    refine ⟨d, p, wK w, rfl, rfl, by rw [upd_ne hdp]; exact f1.bh _ _ hd, upd_same, decide (w ≠ []), ?_, q _ _ (f1.trans f2)⟩
    cases w <;> rfl
/-! ### dict(pairs) -/
theorem pairs_w {K : PySem.W.Frag} : ∀ {w : Wd} {xs : List V}, RAll K B xs (w.map fun p => .tuple [.str p.1, .str p.2]) → ∃ ps : List Addr, xs = ps.map V.ref ∧ ∀ H, Same B H → Paired (fun (p : Addr) (kv : Key × V) => SqT K H p [kV kv.1, kv.2]) ps (wK w)
  | [], _, .nil => ⟨[], rfl, fun _ _ => .nil⟩
  | p :: w, _, .cons h r => by
    obtain ⟨ps, rfl, hp⟩ := pairs_w r
    obtain ⟨a, xs, rfl, ha, ra⟩ := h.tup_at
    obtain ⟨v1, v2, rfl, r1, r2⟩ := ra.two
    rw [r1.str_inv, r2.str_inv] at ha
    exact ⟨a :: ps, rfl, fun H hb => .cons (.inl (.inl (hb _ _ ha))) (hp H hb)⟩
def wOf (w : Wd) : Wd := wMerge [] w
theorem pd_dictW (hc : X.calm = true) (hg : Gl X "dict") (hm : X.mg "dict" = none) (ha : PD X a σ B (.list (w.map fun p => .tuple [.str p.1, .str p.2]))) (he : starEach [a] X.env = (false, eval a X.env) :: starEach [] X.env := by rfl) : PD X (.Call (.Name "dict" p1) [a] [] pos) σ B (wD (wOf w)) :=
  .of (pe_callTy (call_dictP hc) hg hm (by decide +kernel) (pa_cons pe_wp pa_nil he) (he := he)) (ev_cb (ea_cons ha ea_nil) fun vs B1 H1 _ s1 r1 Q q => by
    obtain ⟨v, rfl, r⟩ := r1.one
    obtain ⟨a0, xs, rfl, hs, ra⟩ := r.lst_at
    obtain ⟨ps, rfl, hp⟩ := pairs_w ra
    refine ⟨a0, ps, wK w, rfl, .inl (.inl (s1 _ _ hs)), hp _ s1, fun l hl => ?_⟩
    rw [show mergeK [] (wK w) = wK (wOf w) from mergeK_wK w []]
    exact q _ _ _ (F0.new s1 hl) r_upd_w)
/-! ### list(d.items()) -/
theorem pd_itemsW (hc : X.calm = true) (hg : Gl X "list") (hm : X.mg "list" = none) (ha : PD X a σ B (wD w)) (hbase : attributeBase a "items" X.env (eval a X.env) = eval a X.env := by rfl) (hline : (apos.endLine == cpos.line) = true := by rfl)
    (hs : starEach [.Call (.Attribute a "items" apos) [] [] cpos] X.env = (false, eval (.Call (.Attribute a "items" apos) [] [] cpos) X.env) :: starEach [] X.env := by rfl) :
    PD X (.Call (.Name "list" p1) [.Call (.Attribute a "items" apos) [] [] cpos] [] pos) σ B (.list (w.map fun p => .tuple [.str p.1, .str p.2])) :=
  .of (LiI.pe_listItems hc pe_wp hg hm (by decide +kernel) hbase hline hs) fun H hb Q q => ha H hb _ fun v B1 H1 f1 r1 => by
    obtain ⟨d, rfl, hd⟩ := r1.w_at
    refine ⟨d, wK w, rfl, f1.bh _ _ hd, fun H' p ts k1 hp hts hpt hp' hall => ?_⟩
    have fn := F0.news f1.bh k1 (fun a => a = p ∨ a ∈ ts) fun a ha => by
      rcases ha with rfl | ha
      · exact hp
      · exact hts a ha
    refine q _ _ H' (f1.trans fn) (.lst (xs := ts.map V.ref) ((newB_at (.inl rfl)).trans hp') (ralls_of (paired_at hall fun t ht => newB_at (.inr ht))))
/-! ### sorted(d) -/
def keyed (w : Wd) : List Str := w.map (·.1)
theorem pd_sortedW {ys : List Str} (hc : X.calm = true) (hg : Gl X "sorted") (hm : X.mg "sorted" = none) (ha : PD X a σ B (wD w)) (h64 : w.length < 64) (hy : ∀ zs : List Str, zs.Perm (keyed w) → sortedS zs = true → zs = ys) (he : starEach [a] X.env = (false, eval a X.env) :: starEach [] X.env := by rfl) : PD X (.Call (.Name "sorted" p1) [a] [] pos) σ B (.list (ys.map .str)) :=
  .of (pe_callB (call_sortedD hc) hg hm (by decide +kernel) (pa_cons pe_wp pa_nil he) (he := he)) (ev_cb (ea_cons ha ea_nil) fun vs B1 H1 _ s1 r1 Q q => by
    obtain ⟨v, rfl, r⟩ := r1.one
    obtain ⟨d, rfl, hd⟩ := r.w_at
    refine ⟨d, wK w, keyed w, rfl, .inl (s1 _ _ hd), by unfold wK keyed; rw [List.map_map, List.map_map]; rfl, by unfold keyed; rw [List.length_map]; exact h64, fun zs l hz hs hl => ?_⟩
    rw [hy zs hz hs]
    exact q _ _ _ (F0.new s1 hl) (r_upd_l s1 hl (RAll.of_strs _)))
end
end K8

set_option Elab.async false
set_option linter.all false
set_option maxRecDepth 100000
set_option maxHeartbeats 400000
/-! K8v3: rows: dicts of looks. -/
namespace K8
open PySem PySem.Spec PyProof.Rows L2
abbrev Rw := List (Lk × An)
def rwD (r : Rw) : PyData := .dict (r.map fun p => (p.1.d, p.2.d))
def lkK (k : Lk) : List Key := [.inr (wd k.l), .inr k.p]
def rGet (r : Rw) (k : Lk) : Option An := (r.find? fun p => decide (p.1 = k)).map (·.2)
theorem lkK_inj {a b : Lk} (h : lkK a = lkK b) : a = b := by
  unfold lkK at h
  injection h with h1 h2
  injection h2 with h2 h3
  injection h1 with h1
  injection h2 with h2
  cases a
  cases b
  have e1 := wd_inj.mp h1
  have e2 := h2
  simp only at e1 e2
  rw [e1, e2]
theorem keys_lk {ks : List Key} {k : Lk} (h : PyData.tuple (ks.map keyD) = k.d) : ks = lkK k := by
  injection h with h
  cases ks with
  | nil => cases h
  | cons a ks =>
    cases ks with
    | nil =>
      injection h with h1 h2
      cases h2
    | cons b ks =>
      cases ks with
      | nil =>
        injection h with h1 h2
        injection h2 with h2 _
        rw [keyD_str h1, keyD_str h2]
        rfl
      | cons c ks =>
        injection h with h1 h2
        injection h2 with h2 h3
        cases h3
section
variable {K : PySem.W.Frag} {H : Hp} {v : V}
theorem rts_keys : ∀ {kvs : List (List Key × V)} {es : List (PyData × PyData)}, RTs K H kvs es → ∀ r : Rw, es = (r.map fun p => (p.1.d, p.2.d)) → kvs.map (·.1) = r.map fun p => lkK p.1
  | _, _, .nil, [], _ => rfl
  | _, _, .nil, _ :: _, e => by cases e
  | _, _, .cons h t, [], e => by cases e
  | _, _, .cons (k := k) (v := v) h t, p :: r, e => by
    rw [List.map_cons] at e
    have e1 := List.cons.inj e
    have e2 := Prod.mk.inj e1.1
    rw [List.map_cons, List.map_cons, rts_keys t r e1.2, keys_lk e2.1]
theorem rts_get {k : Lk} {a : An} : ∀ {kvs : List (List Key × V)} {es : List (PyData × PyData)}, RTs K H kvs es → ∀ r : Rw, es = (r.map fun p => (p.1.d, p.2.d)) → rGet r k = some a → ∃ v, valV kvs (lkK k) = some v ∧ R K H v a.d
  | _, _, .nil, [], _, h => by cases h
  | _, _, .nil, _ :: _, e, _ => by cases e
  | _, _, .cons h t, [], e, _ => by cases e
  | _, _, .cons (k := ks) (v := v) h t, p :: r, e, g => by
    rw [List.map_cons] at e
    have e1 := List.cons.inj e
    have e2 := Prod.mk.inj e1.1
    have e3 := keys_lk e2.1
    have e4 := e2.2
    subst e4
    by_cases hk : p.1 = k
    · have e5 : rGet (p :: r) k = some p.2 := by simp [rGet, List.find?_cons, hk]
      rw [e5] at g
      cases g
      exact ⟨v, valV_pos (by rw [e3, hk]), h⟩
    · have e5 : rGet (p :: r) k = rGet r k := by simp [rGet, List.find?_cons, hk]
      rw [e5] at g
      obtain ⟨u, e6, e7⟩ := rts_get t r e1.2 g
      refine ⟨u, ?_, e7⟩
      rw [← e6]
      exact valV_neg fun z => hk (lkK_inj (by rw [← e3]; exact z))
theorem rks_rw {kvs : List (Key × V)} {r : Rw} (h : RKs K H kvs (r.map fun p => (p.1.d, p.2.d))) : r = [] := by
  cases r with
  | nil => rfl
  | cons p r =>
    rw [List.map_cons] at h
    generalize hx : (p.1.d, p.2.d) = x at h
    cases h with
    | cons h t =>
      rename_i k _ _ _
      have := (Prod.mk.inj hx).1
      cases k <;> cases this
theorem R.rw_at {r : Rw} (h : R K H v (rwD r)) (hn : r ≠ []) : ∃ a kvs, v = .ref a ∧ H a = some (.dT kvs) ∧ RTs K H kvs (r.map fun p => (p.1.d, p.2.d)) := by
  unfold rwD at h
  generalize he : (r.map fun p => (p.1.d, p.2.d)) = es at h
  cases h with
  | dk h t =>
    subst he
    exact (hn (rks_rw t)).elim
  | dt h n t => exact ⟨_, _, rfl, h, t⟩
theorem R.lk_at {k : Lk} (h : R K H v k.d) : ∃ b, v = .ref b ∧ H b = some (.tup ((lkK k).map kV)) := by
  obtain ⟨b, xs, rfl, hb, ra⟩ := h.tup_at
  obtain ⟨v1, v2, rfl, r1, r2⟩ := ra.two
  rw [r1.str_inv, r2.str_inv] at hb
  exact ⟨b, rfl, hb⟩
theorem pairs_rw {B : Hp} : ∀ {r : Rw} {xs : List V}, RAll K B xs (r.map fun p => .tuple [p.1.d, p.2.d]) → ∃ kvs : List (List Key × V), kvs.map (·.1) = (r.map fun p => lkK p.1) ∧ RTs K B kvs (r.map fun p => (p.1.d, p.2.d)) ∧ ∀ H, Same B H → Paired (PairV H) xs kvs
  | [], _, .nil => ⟨[], rfl, .nil, fun _ _ => .nil⟩
  | p :: r, _, .cons h t => by
    obtain ⟨kvs, e1, e2, e3⟩ := pairs_rw t
    obtain ⟨a, xs, rfl, ha, ra⟩ := h.tup_at
    obtain ⟨v1, v2, rfl, r1, r2⟩ := ra.two
    obtain ⟨b, rfl, hb⟩ := r1.lk_at
    refine ⟨(lkK p.1, v2) :: kvs, by rw [List.map_cons, List.map_cons, e1], ?_, fun H s => .cons ⟨a, b, rfl, s _ _ ha, s _ _ hb⟩ (e3 H s)⟩
    exact .cons (k := lkK p.1) r2 e2
end
theorem nodup_lk : ∀ {r : Rw}, (r.map (·.1)).Nodup → (r.map fun p => lkK p.1).Nodup
  | [], _ => List.nodup_nil
  | p :: r, h => by
    rw [List.map_cons] at h
    obtain ⟨h1, h2⟩ := List.nodup_cons.mp h
    rw [List.map_cons]
    refine List.nodup_cons.mpr ⟨fun z => ?_, nodup_lk h2⟩
    obtain ⟨q, hq, e⟩ := List.mem_map.mp z
    exact h1 (List.mem_map.mpr ⟨q, hq, lkK_inj e⟩)
section
variable {X : Cx} {e a b c : Expr} {σ : L2.St} {B H B1 : Hp} {pos p1 : Pos} {n : Nat} {r : Rw} {k : Lk} {z : An}
theorem pd_dictT (hc : X.calm = true) (hr : Room n X.A) (hg : Gl X "dict") (hm : X.mg "dict" = none) (hn : r ≠ []) (hd : (r.map (·.1)).Nodup) (ha : PD X a σ B (.list (r.map fun p => .tuple [p.1.d, p.2.d]))) (he : starEach [a] X.env = (false, eval a X.env) :: starEach [] X.env := by rfl) : PD X (.Call (.Name "dict" p1) [a] [] pos) σ B (rwD r) :=
  .of (pe_callTy (call_dictTP hc (by have := hr.un; omega)) hg hm (by decide +kernel) (pa_cons pe_wp pa_nil he) (he := he)) (ev_cb (ea_cons ha ea_nil) fun vs B1 H1 _ s1 r1 Q q => by
    obtain ⟨v, rfl, r0⟩ := r1.one
    obtain ⟨a0, xs, rfl, hs, ra⟩ := r0.lst_at
    obtain ⟨kvs, e1, e2, e3⟩ := pairs_rw ra
    refine ⟨a0, xs, kvs, rfl, s1 _ _ hs, e3 _ s1, by rw [e1]; exact nodup_lk hd, fun l hl => q _ _ _ (F0.new (o := .dT kvs) s1 hl) (.dt upd_same (fun z => ?_) (e2.mono (F0.new (o := .dT kvs) s1 hl).bb))⟩
    rw [z] at e1
    cases r with
    | nil => exact hn rfl
    | cons p r => cases e1)
theorem pd_tix (hr : Room n X.A) (ha : PD X a σ B (rwD r)) (hb : PD X b σ B k.d) (hn : r ≠ []) (h : rGet r k = some z) (hs : NoSl b := by intro _ _; rfl) : PD X (.Subscript a b pos) σ B z.d :=
  .of (pe_dget (by have := hr.un; omega) pe_wp pe_wp hs) fun H hh Q q => ha H hh _ fun v B1 H1 f1 r1 => by
    obtain ⟨d, kvs, rfl, hd, rt⟩ := r1.rw_at hn
    refine hb.mono f1.bb H1 f1.bh _ fun u B2 H2 f2 r2 => ?_
    obtain ⟨b0, rfl, hb0⟩ := r2.lk_at
    obtain ⟨u, e1, e2⟩ := rts_get (rt.mono f2.bb) r rfl h
    have hd2 := f2.bb _ _ hd
    refine ⟨d, u, rfl, ?_, q _ B2 H2 (f1.trans f2) e2⟩
    have g := DGet.t (k := lkK k) (f2.bh _ _ hd2) (f2.bh _ _ hb0)
    rw [e1] at g
    exact g
end
end K8

set_option Elab.async false
set_option linter.all false
set_option maxRecDepth 100000
set_option maxHeartbeats 400000
/-! K8v4: dicts walked (locked), dicts that change, lists that are extended, defs that hand back a new list. -/
namespace K8
open PySem PySem.Spec PyProof.Rows L2
/-! ### a dict locked -/
def NoF (o : HO) : Prop := ∀ o' u', o ≠ .frz o' u'
def SameU (H H' : Hp) : Prop := ∀ a o, H a = some o → NoF o → H' a = some o
mutual
theorem R.unf {K : PySem.W.Frag} {H H' : Hp} (e : SameU H H') : ∀ {v : V} {d : PyData}, R K H v d → R K H' v d
  | _, _, .non => .non
  | _, _, .bl b => .bl b
  | _, _, .int i => .int i
  | _, _, .str x => .str x
  | _, _, .lst h r => .lst (e _ _ h (fun _ _ z => nomatch z)) (RAll.unf e r)
  | _, _, .tup h r => .tup (e _ _ h (fun _ _ z => nomatch z)) (RAll.unf e r)
  | _, _, .dk h r => .dk (e _ _ h (fun _ _ z => nomatch z)) (RKs.unf e r)
  | _, _, .dt h n r => .dt (e _ _ h (fun _ _ z => nomatch z)) n (RTs.unf e r)
theorem RAll.unf {K : PySem.W.Frag} {H H' : Hp} (e : SameU H H') : ∀ {v : List V} {d : List PyData}, RAll K H v d → RAll K H' v d
  | _, _, .nil => .nil
  | _, _, .cons h r => .cons (R.unf e h) (RAll.unf e r)
theorem RKs.unf {K : PySem.W.Frag} {H H' : Hp} (e : SameU H H') : ∀ {v : List (Key × V)} {d : List (PyData × PyData)}, RKs K H v d → RKs K H' v d
  | _, _, .nil => .nil
  | _, _, .cons h r => .cons (R.unf e h) (RKs.unf e r)
theorem RTs.unf {K : PySem.W.Frag} {H H' : Hp} (e : SameU H H') : ∀ {v : List (List Key × V)} {d : List (PyData × PyData)}, RTs K H v d → RTs K H' v d
  | _, _, .nil => .nil
  | _, _, .cons h r => .cons (R.unf e h) (RTs.unf e r)
end
theorem sameU_unlock {B : Hp} {d : Addr} {od : Obj} {u v : HO} (h : B d = some (.frz od u)) : SameU B (upd B d v) := fun a o e n => by
  have : a ≠ d := fun z => by
    rw [z, h] at e
    cases e
    exact n _ _ rfl
  rw [upd_ne this]
  exact e
theorem same_lock {B H : Hp} {d : Addr} {f : HO} (h : Same B H) : Same (upd B d f) (upd H d f) := fun a o e => by
  by_cases ha : a = d
  · rw [ha, upd_same] at e
    rw [ha, upd_same]
    exact e
  · rw [upd_ne ha] at e
    rw [upd_ne ha]
    exact h _ _ e
theorem Fz.unlock {S : Addr → Prop} {B H B1 H1 : Hp} {d : Addr} {u f : HO} (hb : Same B H) (hd : B d = some u) (hS : ¬ S d) (z : Fz S (upd B d f) (upd H d f) B1 H1) : Fz S B H (upd B1 d u) (upd H1 d u) ∧ B1 d = some f ∧ H1 d = some f := by
  have e1 : B1 d = some f := z.bb _ _ upd_same
  refine ⟨⟨fun a o e => ?_, same_lock z.bh, fun a o n e => ?_, fun p hp e => ?_, fun p hp => ?_⟩, e1, z.bh _ _ e1⟩
  · by_cases ha : a = d
    · rw [ha, hd] at e
      rw [ha, upd_same]
      exact e
    · rw [upd_ne ha]
      exact z.bb _ _ (by rw [upd_ne ha]; exact e)
  · by_cases ha : a = d
    · rw [ha, hb _ _ hd] at e
      rw [ha, upd_same]
      exact e
    · rw [upd_ne ha]
      exact z.hh _ _ n (by rw [upd_ne ha]; exact e)
  · have ha : p ≠ d := fun y => by
      rw [y, hd] at e
      cases e
    rw [upd_ne ha]
    exact z.out p (by rw [upd_ne ha]; exact hp) (by rw [upd_ne ha]; exact e)
  · by_cases ha : p = d
    · rw [ha, upd_same]
      simp
    · rw [upd_ne ha]
      exact z.al p (by rw [upd_ne ha]; exact hp)
section
variable {X : Cx} {e a b c : Expr} {es : List Expr} {σ : L2.St} {B H B1 : Hp} {dt d1 d2 : PyData} {ds : List PyData} {p q : Bool} {pos p1 p2 p3 p4 apos cpos : Pos} {st : Stmt} {sts body : List Stmt} {D : Ends} {k n n1 n2 n3 n4 : Nat} {w w2 : Wd} {x y z : Str} {d L : Addr}
theorem pd_lock (hd : B d = some (.dK (wK w))) (h : ∀ od, PD X e σ (upd B d (.frz od (.dK (wK w)))) dt) : PD X e σ B dt :=
  .of (pe_lock pe_wp) fun H hb Q q => ⟨d, .dK (wK w), hb _ _ hd, True.intro, fun od => h od _ (same_lock hb) _ fun v B1 H1 f1 r1 => by
    obtain ⟨f, e1, e2⟩ := Fz.unlock hb hd (fun z => z) f1
    exact ⟨e2, q v _ _ f (r1.unf (sameU_unlock e1))⟩⟩
def RefD (X : Cx) (iter : Expr) (σ : L2.St) (B : Hp) (d : Addr) : Prop := ∀ H, Same B H → ∀ Q : VK, (∀ B' H', F0 B H B' H' → Q (.ref d) H') → wpE X iter σ H Q
theorem src_keysW {iter : Expr} {od : Obj} (h : RefD X iter σ B d) (hd : B d = some (.frz od (.dK (wK w)))) : Src X.K (iKeys (wpE X iter)) σ B (w.map fun p => .str p.1) := fun H hb Rr q =>
  h H hb _ fun B1 H1 f1 => by
    have hd1 := f1.bb _ _ hd
    refine ⟨d, od, rfl, .inl ⟨wK w, f1.bh _ _ hd1, q _ B1 H1 f1 ?_⟩⟩
    rw [List.length_map, ← wK_len]
    refine walk_keys.mono (fun H' h' => h' _ _ hd1) fun i H x H' hi _ ⟨e, k, u, h1, h2⟩ B b1 b2 => ?_
    subst e h2
    unfold wK at h1
    rw [List.getElem?_map] at h1
    obtain ⟨p, hp, e⟩ := Option.map_eq_some_iff.mp h1
    cases e
    exact ⟨B, _, Fz.refl b2, by rw [List.getElem?_map, hp]; rfl, .str _⟩
theorem ev_ref {i : Nat} {x : Str} (hv : σ[i]? = some (some (.ref d))) (hN : X.N[i]? = some x := by rfl) (hvis : Vis X.env.scope x := by first | exact Or.inl rfl | exact Or.inr (Or.inl rfl) | exact Or.inr (Or.inr rfl)) (hdb : (x == ("__debug__" : Str)) = false := by decide)
    (hcd : (x == ("__classdict__" : Str)) = false := by decide) : RefD X (.Name x pos) σ B d := fun H hb Q q => PE.wp (pe_var hN hvis hdb hcd) ⟨.ref d, hv, q B H (Fz.refl hb)⟩
/-- for k in d -/
theorem st_forW {iter tg : Expr} {g : TG} (hp : PassesOwn (model X.prog X.w) X.A X.env X.xe) (hc : X.calm = true) (hi : PI X tg iter (iKeys (wpE X iter))) (hg : PG X tg g) (hit : ∀ B, RefD X iter σ B d) (hd : B d = some (.dK (wK w))) (hb : Same B H)
    (k : ∀ od B1 H1, F0 (upd B d (.frz od (.dK (wK w)))) (upd H d (.frz od (.dK (wK w)))) B1 H1 → ∃ Pv : Nat → L2.St → Hp → Hp → Prop, Pv 0 σ B1 H1 ∧
      (∀ i σ' Bi Hi p By H', Same B1 Bi → Same Bi Hi → Pv i σ' Bi Hi → w[i]? = some p → F0 Bi Hi By H' → ∃ σ2, GD g σ' By (.str p.1) σ2 ∧
        ∀ rt bk, wpB X body { nx := fun σ3 H3 => ∃ B3, Same B1 B3 ∧ Same B3 H3 ∧ Pv (i + 1) σ3 B3 H3, rt := rt, ct := fun σ3 H3 => ∃ B3, Same B1 B3 ∧ Same B3 H3 ∧ Pv (i + 1) σ3 B3 H3, bk := bk } σ2 H') ∧
      (∀ σ' Bi Hi, Same B1 Bi → Same Bi Hi → Pv w.length σ' Bi Hi → wpB X sts D σ' (upd Hi d (.dK (wK w)))))
    (hs : ∀ x, foldedSetIterable iter X.env x = pure x := by intro _; rfl) : wpB X (.For tg iter body [] pos :: sts) D σ H := by
  refine wpB_cons (wpS_of (ps_lock (ps_for hp hc hi hg pb_wp hs)) ⟨d, .dK (wK w), hb _ _ hd, True.intro, fun od => ?_⟩)
  refine src_keysW (hit _) upd_same _ (same_lock hb) _ fun J B1 H1 f1 W => ?_
  obtain ⟨Pv, h0, hturn, hend⟩ := k od B1 H1 f1
  have e1 : B1 d = some (.frz od (.dK (wK w))) := f1.bb _ _ upd_same
  refine for_it W (fun i σ1 H2 => ∃ Bi, Same B1 Bi ∧ Same Bi H2 ∧ Pv i σ1 Bi H2) ⟨B1, Same.refl _, f1.bh, h0⟩ ?_ ?_ ?_
  · rintro i σ1 H2 _ ⟨Bi, s1, s2, _⟩
    exact s1.trans s2
  · rintro i x σ1 H2 H' hi' ⟨Bi, s1, s2, pv⟩ yd
    obtain ⟨By, d', fy, hdd, rd⟩ := yd Bi s1 s2
    rw [List.getElem?_map] at hdd
    obtain ⟨p, hpp, rfl⟩ := Option.map_eq_some_iff.mp hdd
    obtain ⟨σ2, hg2, hbd⟩ := hturn i σ1 Bi H2 p By H' s1 s2 pv hpp fy
    rw [rd.str_inv]
    refine hg2 _ fy.bh _ (hbd _ _)
  · rintro σ1 H2 ⟨Bi, s1, s2, pv⟩
    rw [List.length_map] at pv
    exact ⟨s2 _ _ (s1 _ _ e1), hend σ1 Bi H2 s1 s2 pv⟩
/-! ### dicts that change -/
def MuD (L : Addr) (w : Wd) (B H : Hp) : Prop := B L = none ∧ H L = some (.dK (wK w))
theorem MuD.fz {S : Addr → Prop} (m : MuD L w B H) {H1 : Hp} (f : Fz S B H B1 H1) (hS : ¬ S L) : MuD L w B1 H1 := ⟨f.out L (by rw [m.2]; simp) m.1, f.hh _ _ hS m.2⟩
theorem MuD.f0 (m : MuD L w B H) {H1 : Hp} (f : F0 B H B1 H1) : MuD L w B1 H1 := m.fz f (fun z => z)
theorem MuD.frz (m : MuD L w B H) : R X.K (upd B L (.dK (wK w))) (.ref L) (wD w) := R.of_w upd_same
/-- name = {} -/
theorem st_newD {i : Nat} {x : Str} {pl : Pos} (hN : X.N.Nodup) (k : ∀ L, H L = none → wpB X sts D (σ.set i (some (.ref L))) (upd H L (.dK (wK [])))) (hi : X.N[i]? = some x := by rfl) (hx : Loc X.env.scope x := by first | exact Or.inl rfl | exact Or.inr rfl) (hs : swapsWith (.Dict [] [] pl) (some (.Name x p2)) pos.line X.env = pure false := by rfl)
    (hf : X.fn x = true ∨ X.env.scope.names.lookup x = some .local := by first | exact .inl rfl | exact .inr rfl | assumption) : wpB X (.Assign [.Name x p2] (.Dict [] [] pl) pos :: sts) D σ H :=
  wpB_cons (wpS_of (ps_set hN hi hx pe_dnewK hs hf) fun p hp => k p hp)
/-- name = dict(pairs): to be changed -/
theorem st_newDW {i : Nat} {x : Str} {p3 p4 : Pos} (hN : X.N.Nodup) (hc : X.calm = true) (hg : Gl X "dict") (hm : X.mg "dict" = none) (ha : PD X a σ B (.list (w.map fun p => .tuple [.str p.1, .str p.2]))) (hb : Same B H) (k : ∀ B1 H1 L, F0 B H B1 H1 → H1 L = none → wpB X sts D (σ.set i (some (.ref L))) (upd H1 L (.dK (wK (wOf w)))))
    (he : starEach [a] X.env = (false, eval a X.env) :: starEach [] X.env := by rfl) (hi : X.N[i]? = some x := by rfl) (hx : Loc X.env.scope x := by first | exact Or.inl rfl | exact Or.inr rfl) (hs : swapsWith (.Call (.Name "dict" p3) [a] [] p4) (some (.Name x p2)) pos.line X.env = pure false := by rfl)
    (hf : X.fn x = true ∨ X.env.scope.names.lookup x = some .local := by first | exact .inl rfl | exact .inr rfl | assumption) : wpB X (.Assign [.Name x p2] (.Call (.Name "dict" p3) [a] [] p4) pos :: sts) D σ H :=
  wpB_cons (wpS_of (ps_set hN hi hx (pe_callTy (call_dictP hc) hg hm (by decide +kernel) (pa_cons pe_wp pa_nil he) (he := he)) hs hf) (ha H hb _ fun v B1 H1 f1 r1 => by
    obtain ⟨a0, xs, rfl, hs, ra⟩ := r1.lst_at
    obtain ⟨ps, rfl, hp⟩ := pairs_w ra
    refine ⟨a0, ps, wK w, rfl, .inl (.inl (f1.bh _ _ hs)), hp _ f1.bh, fun l hl => ?_⟩
    rw [show mergeK [] (wK w) = wK (wOf w) from mergeK_wK w []]
    exact k B1 H1 l f1 hl))
theorem wPut_len (w : Wd) (k z : Str) : (wPut w k z).length ≤ w.length + 1 := by
  unfold wPut
  split <;> simp
/-- d[k] = e -/
theorem st_putW {j : Nat} {x kx : Str} {i : Expr} {pos' : Pos} (hr : Room n X.A) (hL : σ[j]? = some (some (.ref L))) (m : MuD L w B H) (hb : Same B H) (hz : w.length ≤ 100000) (hi : PD X i σ B (.str kx)) (hv : PD X e σ B (.str z)) (k : ∀ B1 H1, F0 B H B1 H1 → ∀ H2, Fz (· = L) B H B1 H2 → MuD L (wPut w kx z) B1 H2 → wpB X sts D σ H2)
    (hN : X.N[j]? = some x := by rfl) (hx : Vis X.env.scope x := by first | exact Or.inl rfl | exact Or.inr (Or.inl rfl) | exact Or.inr (Or.inr rfl)) (hd : (x == ("__debug__" : Str)) = false := by decide) (hcd : (x == ("__classdict__" : Str)) = false := by decide)
    (hs : swapsWith e (some (.Subscript (.Name x p1) i pos')) pos.line X.env = pure false := by rfl) : wpB X (.Assign [.Subscript (.Name x p1) i pos'] e pos :: sts) D σ H := by
  refine wpB_cons (wpS_of (ps_dput (by have := hr.un; omega) (pe_var hN hx hd hcd) pe_wp pe_wp hs) (hv H hb _ fun v B1 H1 f1 r1 => ⟨.ref L, hL, hi.mono f1.bb H1 f1.bh _ fun u B2 H2 f2 r2 => ?_⟩))
  rw [r2.str_inv, r1.str_inv]
  have m2 := (m.f0 f1).f0 f2
  have g := DPut.k (k := .inr kx) (v := .str z) m2.2 (by rw [wK_len, sizeLine_eq]; omega)
  rw [putK_wK] at g
  refine ⟨L, _, rfl, g, k B2 H2 (f1.trans f2) _ (((f1.trans f2).to (S := (· = L))).put rfl m2.1 (by rw [m2.2]; simp)) ⟨m2.1, upd_same⟩⟩
/-! ### xs.extend(ys) -/
theorem st_ext {j : Nat} {x : Str} {ap cp : Pos} {es : List PyData} (hL : σ[j]? = some (some (.ref L))) (m : MuL X.K L ds B H) (hb : Same B H) (hz : ds.length + es.length ≤ 100000) (h : PD X e σ B (.list es)) (k : ∀ B1 H1, F0 B H B1 H1 → ∀ H2, Fz (· = L) B H B1 H2 → MuL X.K L (ds ++ es) B1 H2 → wpB X sts D σ H2)
    (hN : X.N[j]? = some x := by rfl) (hx : Vis X.env.scope x := by first | exact Or.inl rfl | exact Or.inr (Or.inl rfl) | exact Or.inr (Or.inr rfl)) (hd : (x == ("__debug__" : Str)) = false := by decide) (hcd : (x == ("__classdict__" : Str)) = false := by decide)
    (hbase : attributeBase (.Name x p1) "extend" X.env (eval (.Name x p1) X.env) = eval (.Name x p1) X.env := by rfl)
    (hfew : ((backTo cp (starEach [e] X.env)).all (fun x => !x.1) && (backToKw cp (keywordEach [] X.env)).all (fun x => x.1.isSome)
      && decide ([e].length + ([] : List Keyword).length + (if ([] : List Keyword).isEmpty then 0 else 1) < 30)) = true := by rfl)
    (hline : (ap.endLine == cp.line) = true := by rfl) (hs : starEach [e] X.env = (false, eval e X.env) :: starEach [] X.env := by rfl) (hw : swapsWith (.Call (.Attribute (.Name x p1) "extend" ap) [e] [] cp) none pos.line X.env = pure false := by rfl) :
    wpB X (.Expr (.Call (.Attribute (.Name x p1) "extend" ap) [e] [] cp) pos :: sts) D σ H := by
  obtain ⟨hB, acc, hacc, racc⟩ := m
  refine wpB_cons (wpS_of (ps_expr (pe_bm PySem.F.plainAttrs_list PySem.F.slot_list_extend PySem.F.type_list_extend mt_extend (pe_var hN hx hd hcd) (pa_cons pe_wp pa_nil hs) hbase hfew hline hs) hw) ?_)
  refine ⟨.ref L, hL, .inl ⟨rfl, acc, SqL.of hacc⟩, h H hb _ fun v B1 H1 f1 r1 => ?_⟩
  obtain ⟨b, zs, rfl, hbz, rz⟩ := r1.lst_at
  refine ⟨L, b, acc, zs, rfl, rfl, f1.hs _ _ hacc, f1.bh _ _ hbz, ?_, ?_⟩
  · rw [racc.len, rz.len]
    have h1 : (16777216 : Nat) = sizeLine := sizeLine_eq.symm
    omega
  · have hB1 : B1 L = none := f1.out L (by rw [hacc]; simp) hB
    have hH1 : H1 L ≠ none := by rw [f1.hs _ _ hacc]; simp
    exact k B1 H1 f1 _ ((f1.to (S := (· = L))).put rfl hB1 hH1) ⟨hB1, _, upd_same, (racc.mono f1.bb).app rz⟩
end
/-! ### defs that hand back a new list, to be changed -/
def SpM (K : PySem.W.Frag) (ds : List PyData) : Sp := fun vs H Q _ => vs = [] ∧ ∃ B, Same B H ∧ ∀ L B' H', F0 B H B' H' → H L = none → MuL K L ds B' H' → Q (.ref L) H'
section
variable {X : Cx} {σ : L2.St} {B H : Hp} {ds : List PyData} {pos pos2 p2 cp : Pos} {sts : List Stmt} {D : Ends} {k n : Nat}
theorem pd_callM {x : Str} (F : Fn X.prog X.w X.K X.mg X.base CX0 x k [] (SpM X.K ds)) (hr : Room n X.A) (hk : k ≤ n) (hg : Gl X x) (hdb : (x == ("__debug__" : Str)) = false := by decide) : PD X (.Call (.Name x p2) [] [] pos) σ B (.list ds) := by
  obtain ⟨f, fd, hm, kp, hb, F⟩ := F.ex
  refine .of (pe_call0 F (hr.mono hk) hg hm kp hb .nil pass0 hdb) fun H hb Q q => ⟨rfl, B, hb, fun L B1 H1 f1 hL m => ?_⟩
  obtain ⟨acc, hacc, r⟩ := m.frz
  refine q _ _ H1 ⟨f1.bb.trans (upd_out (Same.refl _) m.1), same_frz f1.bh hacc, f1.hh, fun p hp e => ?_, f1.al⟩ r
  have : p ≠ L := fun z => hp (by rw [z]; exact hL)
  rw [upd_ne this]
  exact f1.out p hp e
theorem st_setM {x y : Str} {i : Nat} (hN : X.N.Nodup) (F : Fn X.prog X.w X.K X.mg X.base CX0 x k [] (SpM X.K ds)) (hr : Room n X.A) (hk : k ≤ n) (hg : Gl X x) (hb : Same B H) (kk : ∀ L B1 H1, F0 B H B1 H1 → H L = none → MuL X.K L ds B1 H1 → wpB X sts D (σ.set i (some (.ref L))) H1) (hdb : (x == ("__debug__" : Str)) = false := by decide)
    (hi : X.N[i]? = some y := by rfl) (hx : Loc X.env.scope y := by first | exact Or.inl rfl | exact Or.inr rfl) (hs : swapsWith (.Call (.Name x cp) [] [] pos2) (some (.Name y p2)) pos.line X.env = pure false := by rfl)
    (hf : X.fn y = true ∨ X.env.scope.names.lookup y = some .local := by first | exact .inl rfl | exact .inr rfl | assumption) : wpB X (.Assign [.Name y p2] (.Call (.Name x cp) [] [] pos2) pos :: sts) D σ H := by
  obtain ⟨f, fd, hm, kp, hbn, F⟩ := F.ex
  exact wpB_cons (wpS_of (ps_set hN hi hx (pe_call0 F (hr.mono hk) hg hm kp hbn .nil pass0 hdb) hs hf) ⟨rfl, B, hb, fun L B1 H1 f1 hL m => kk L B1 H1 f1 hL m⟩)
end
end K8

set_option Elab.async false
set_option linter.all false
set_option maxRecDepth 100000
set_option maxHeartbeats 400000
/-! K8sh: _law_shown. -/
namespace K8
open PySem PySem.Spec PyProof.Rows L2
def restOf (o p : Str) : List Str := Txt.split (cutS o (some ((p.length : Int) + 1)) none) "/"
def entOf (o p : Str) : Option (Str × Str) := match restOf o p with
  | [] => none
  | h :: t => if decide (o.length ≤ 1000) && (decide ((cutS o (some ((p.length : Int) + 1)) none).length ≤ 1000) && decide (h.length ≤ 1000)) then some (h, h ++ (if t = [] then "" else "/")) else none
def shStep (p : Str) (acc : Option Wd) (q : Str × Str) : Option Wd := acc.bind fun a => if okBen q.1 p = true then (if lawBen q.1 p = true then (entOf q.1 p).map fun e => wPut a e.1 e.2 else some a) else none
def foundOf (w : Wd) (p : Str) : Option Wd := w.foldl (shStep p) (some [])
def insS (x : Str) : List Str → List Str
  | [] => [x]
  | y :: r => if ltCps x.cps.toList y.cps.toList then x :: y :: r else y :: insS x r
def isrt (xs : List Str) : List Str := xs.foldr insS []
def okSrt (f : Wd) : Bool := decide (f.length < 64) && (decide ((isrt (keyed f)).length ≤ 1000) && (ascB (isrt (keyed f)) && (decide ((keyed f).Perm (metK (isrt (keyed f)))) && (isrt (keyed f)).all fun n => (wGet f n).isSome)))
def shownA (w : Wd) (k : Lk) : Option An := if k.l = false then some (match wGet w k.p with
    | none => .no
    | some z => .tx z)
  else if decide (k.p.length ≤ 1000) && decide (w.length ≤ 1000) then match foundOf w k.p with
    | none => none
    | some f => if f = [] then some .no else if okSrt f = true then some (.nm ((isrt (keyed f)).map fun n => (wGet f n).getD "")) else none
  else none
abbrev R_l_shown : List PyData → PyData → Prop := fun ds d => ∃ (w : Wd) (k : Lk) (a : An), ds = [wD w, k.d] ∧ shownA w k = some a ∧ d = a.d
theorem fold_none {p : Str} : ∀ w : Wd, w.foldl (shStep p) none = none
  | [] => rfl
  | q :: w => fold_none w
theorem found_step {w : Wd} {p : Str} {i : Nat} {q : Str × Str} {f : Wd} (h : foundOf w p = some f) (hq : w[i]? = some q) : ∃ a b, foundOf (w.take i) p = some a ∧ foundOf (w.take (i + 1)) p = some b ∧ shStep p (some a) q = some b := by
  have e1 : foundOf (w.take (i + 1)) p = shStep p (foundOf (w.take i) p) q := by
    unfold foundOf
    rw [List.take_add_one, hq, List.foldl_append]
    rfl
  have e2 : (w.drop (i + 1)).foldl (shStep p) (foundOf (w.take (i + 1)) p) = some f := by
    rw [← h]
    unfold foundOf
    rw [← List.foldl_append, List.take_append_drop]
  cases hb : foundOf (w.take (i + 1)) p with
  | none =>
    rw [hb, fold_none] at e2
    cases e2
  | some b =>
    rw [hb] at e1
    cases ha : foundOf (w.take i) p with
    | none =>
      rw [ha] at e1
      cases e1
    | some a =>
      rw [ha] at e1
      exact ⟨a, b, rfl, rfl, e1.symm⟩
theorem wput_len2 {w : Wd} {p : Str} : ∀ {f : Wd}, foundOf w p = some f → f.length ≤ w.length := by
  have key : ∀ (w acc f : Wd), w.foldl (shStep p) (some acc) = some f → f.length ≤ acc.length + w.length := by
    intro w
    induction w with
    | nil =>
      intro acc f h
      cases h
      exact Nat.le_refl _
    | cons q w ih =>
      intro acc f h
      rw [List.foldl_cons] at h
      cases hs : shStep p (some acc) q with
      | none =>
        rw [hs, fold_none] at h
        cases h
      | some b =>
        rw [hs] at h
        have h1 := ih b f h
        have h2 : b.length ≤ acc.length + 1 := by
          unfold shStep at hs
          simp only [Option.bind_some] at hs
          split at hs
          · split at hs
            · obtain ⟨e, _, rfl⟩ := Option.map_eq_some_iff.mp hs
              exact wPut_len _ _ _
            · cases hs
              omega
          · cases hs
        rw [List.length_cons]
        omega
  intro f h
  have := key w [] f h
  simpa using this
section
variable {P : Program} {w : World} {K : PySem.W.Frag} {mg : Str → Option Value} {base : Heap}
theorem fn_l_shown (D : IsDef K mg "_law_shown" s_l_shown) (T : Bl mg) (F1 : Fn P w K mg base CX0 "_law_is_beneath" 1 ["_law_path", "_law_other"] (SpR K R_l_is_beneath)) : Fn P w K mg base CX0 "_law_shown" 2 ["_law_files", "_law_look"] (SpR K R_l_shown) := by
  refine fn_data D sc_l_shown (fun ds d h => by obtain ⟨_, _, _, rfl, _⟩ := h; rfl) (fun _ _ _ _ _ _ us hl => match us, hl with | [_, _], _ => rfl) fun f cdv A outer s H E vs B ds d hr h ra => ?_
  obtain ⟨wd0, k, an, rfl, hsh, rfl⟩ := h
  obtain ⟨v1, v2, rfl, r1, r2⟩ := ra.two
  refine rd_asg (g := gPair K k.d (gName 2) (gName 3)) (pg_pair (pgs_cons (pg_name (i := 2) sc_l_shown.nd rfl (Or.inl rfl)) (pgs_cons (pg_name (i := 3) sc_l_shown.nd rfl (Or.inl rfl)) pgs_nil)) rfl) (pd_var 1 rfl r2) fun v B1 s1 q => ?_
  obtain ⟨u1, u2, q1, q2, gd⟩ := gd_pairQ (d1 := .str (wd k.l)) (d2 := .str k.p) rfl q
  refine ⟨_, gd gd_name gd_name, ?_⟩
  have r1' := r1.mono s1
  unfold shownA at hsh
  refine rd_if (p := !k.l) (CD.td (cd_word hr (pd_var 2 rfl q1) pd_str)) (fun z => ?_) fun z => ?_
  · have hl : k.l = false := by simpa using z
    rw [if_pos hl] at hsh
    refine rd_ret (PD.cast (pd_wget hr (pd_var 0 rfl r1') (pd_var 3 rfl q2) ⟨rfl, rfl, rfl, rfl⟩) ?_)
    cases hg : wGet wd0 k.p with
    | none =>
      rw [hg] at hsh
      cases hsh
      rfl
    | some z =>
      rw [hg] at hsh
      cases hsh
      rfl
  · have hl : k.l = true := by simpa using z
    rw [if_neg (by rw [hl]; decide)] at hsh
    by_cases hln : (decide (k.p.length ≤ 1000) && decide (wd0.length ≤ 1000)) = true
    · rw [if_pos hln] at hsh
      simp only [Bool.and_eq_true, decide_eq_true_eq] at hln
      cases hfo : foundOf wd0 k.p with
      | none =>
        rw [hfo] at hsh
        cases hsh
      | some fw =>
        rw [hfo] at hsh
        simp only at hsh
        obtain ⟨df, rfl, hdf⟩ := r1'.w_at
        have eu2 := q2.str_inv
        subst eu2
        intro H hb D q
        refine st_newD (i := 4) sc_l_shown.nd fun L hL => ?_
        have hLd : L ≠ df := fun z => by
          have := hb _ _ hdf
          rw [← z, hL] at this
          cases this
        have hb2 : Same B1 (upd H L (.dK (wK []))) := upd_out hb (hb.free hL)
        refine st_forW (d := df) (w := wd0) PassesOwn.never rfl (pi_keys pe_wp) (pg_name (i := 5) sc_l_shown.nd rfl (Or.inl rfl)) (fun B => ev_ref (i := 0) rfl) hdf hb2 fun od B2 H2 f2 => ?_
        have mu0 : MuD L [] (upd B1 df (.frz od (.dK (wK wd0)))) (upd (upd H L (.dK (wK []))) df (.frz od (.dK (wK wd0)))) := ⟨by rw [upd_ne hLd]; exact hb.free hL, by rw [upd_ne hLd, upd_same]⟩
        refine ⟨fun i σ' Bi Hi => ∃ (o1 o2 o3 : Option V) (acc : Wd), σ' = [some (.ref df), some v2, some u1, some (.str k.p), some (.ref L), o1, o2, o3] ∧ MuD L acc Bi Hi ∧ Fz (· = L) B2 H2 Bi Hi ∧ foundOf (wd0.take i) k.p = some acc, ?_, ?_, ?_⟩
        · exact ⟨_, _, _, [], rfl, mu0.f0 f2, Fz.refl f2.bh, rfl⟩
        · rintro i σ' Bi Hi p By H' s3 s4 ⟨o1, o2, o3, acc, rfl, mu, fz, hacc⟩ hp fy
          refine ⟨_, gd_name, fun rt bk => ?_⟩
          obtain ⟨a, b, ha, hbb, hst⟩ := found_step hfo hp
          rw [hacc] at ha
          cases ha
          have muy := mu.f0 fy
          unfold shStep at hst
          simp only [Option.bind_some] at hst
          by_cases hok : okBen p.1 k.p = true
          · rw [if_pos hok] at hst
            refine st_if (p := lawBen p.1 k.p) (TD.at (td_val (pd_call F1 hr (by decide) (by rfl) (ad_cons (pd_var 5 rfl (.str _)) (ad_cons (pd_var 3 rfl (.str _)) ad_nil)) ⟨_, _, rfl, hok, rfl⟩)) fy.bh) (fun z B3 H3 f3 => ?_) fun z B3 H3 f3 => ?_
            · rw [if_pos z] at hst
              obtain ⟨⟨h0, e0⟩, hent, hput⟩ := Option.map_eq_some_iff.mp hst
              simp only at hput
              unfold entOf at hent
              cases hrest : restOf p.1 k.p with
              | nil =>
                rw [hrest] at hent
                cases hent
              | cons hh tt =>
                rw [hrest] at hent
                simp only at hent
                split at hent
                · rename_i hlens
                  simp only [Bool.and_eq_true, decide_eq_true_eq] at hlens
                  obtain ⟨l1, l2, l3⟩ := hlens
                  have eh := Option.some.inj hent
                  have eh1 := (Prod.mk.inj eh).1
                  have eh2 := (Prod.mk.inj eh).2
                  have mu3 := muy.f0 f3
                  have hal : acc.length ≤ 1000 := by
                    have := wput_len2 hacc
                    rw [List.length_take] at this
                    omega
                  refine st_set (i := 6) (d := .list ((hh :: tt).map .str)) sc_l_shown.nd (PD.cast (pd_split (pd_cutS (pd_var 5 rfl (.str _)) (po_some pe_wp) po_none (eo_some (pd_add (pd_lenS (by rfl) T.len (pd_var 3 rfl (.str _)) (by omega)) pd_int)) eo_none (by omega)) pd_str rfl (by omega)) ?_) f3.bh fun v6 B4 H4 f4 r4 => ?_
                  · show PyData.list ((restOf p.1 k.p).map .str) = _
                    rw [hrest]
                  · have mu4 := mu3.f0 f4
                    refine st_putW (j := 4) (kx := hh) (z := hh ++ (if tt = [] then "" else "/")) hr rfl mu4 f4.bh (by omega) (pd_ixL (m := 0) (pd_var 6 rfl r4) pd_int rfl) (pd_adds (pd_ixL (m := 0) (pd_var 6 rfl r4) pd_int rfl) (pd_if (CD.td (cd_gt (pd_lenL (by rfl) T.len (pd_var 6 rfl r4)) pd_int)) (fun z => ?_) fun z => ?_) ?_) fun B5 H5 f5 H6 fz6 mu6 => ?_
                    · have : ¬ tt = [] := fun z2 => by
                        rw [z2] at z
                        have z' := of_decide_eq_true z
                        rw [List.length_map, List.length_singleton] at z'
                        omega
                      rw [if_neg this]
                      exact pd_str
                    · have : tt = [] := by
                        cases tt with
                        | nil => rfl
                        | cons a b =>
                          exfalso
                          have z' := of_decide_eq_false z
                          rw [List.length_map, List.length_cons, List.length_cons] at z'
                          omega
                      rw [if_pos this]
                      exact pd_str
                    · split
                      · show hh.length + 0 ≤ _
                        omega
                      · show hh.length + 1 ≤ _
                        omega
                    · refine wpB_nil (wpB_nil ⟨B5, ((fz.bb.trans fy.bb).trans f3.bb).trans (f4.bb.trans f5.bb), fz6.bh, _, _, _, _, rfl, mu6, ((((fz.trans fy.to).trans f3.to).trans f4.to).trans fz6), ?_⟩)
                      rw [hbb, ← hput, ← eh1, ← eh2]
                · cases hent
            · rw [if_neg (by rw [z]; decide)] at hst
              cases hst
              refine wpB_nil ⟨B3, (fz.bb.trans fy.bb).trans f3.bb, f3.bh, _, _, _, acc, rfl, muy.f0 f3, (fz.trans fy.to).trans f3.to, hbb⟩
          · rw [if_neg hok] at hst
            cases hst
        · rintro σ' Bi Hi s3 s4 ⟨o1, o2, o3, acc, rfl, mu, fz, hacc⟩
          rw [List.take_length, hfo] at hacc
          cases hacc
          obtain ⟨fu, e1, e2⟩ := Fz.unlock (S := (· = L)) hb2 hdf (fun z => hLd z.symm) (f2.to.trans fz)
          have mu2 : MuD L fw (upd Bi df (.dK (wK wd0))) (upd Hi df (.dK (wK wd0))) := ⟨by rw [upd_ne hLd]; exact mu.1, by rw [upd_ne hLd]; exact mu.2⟩
          have fall := Fz.frz (S := NoS) hb hL fu (fun a h => .inr h) mu2.2 mu2.1
          have rf := mu2.frz (X := bx P w K mg base "_law_shown" s_l_shown N_l_shown f cdv A outer s H E)
          refine rd_ret (pd_if (p := decide (fw ≠ [])) (td_wne0 hr (pd_var 4 rfl rf)) (fun z => ?_) fun z => ?_) _ fall.bh D fun v B4 H4 f4 r4 => q v B4 H4 (fall.trans f4) r4
          · have hne : fw ≠ [] := of_decide_eq_true z
            rw [if_neg hne] at hsh
            by_cases hos : okSrt fw = true
            · rw [if_pos hos] at hsh
              cases hsh
              unfold okSrt at hos
              simp only [Bool.and_eq_true, decide_eq_true_eq] at hos
              obtain ⟨h64, h1000, hasc, hperm, hall⟩ := hos
              refine pd_tupleL (by rfl) T.tuple (PD.cast (LD.pd (ld_gen [("_law_name", 7)] (pi_list pe_wp) (src_list (pd_sortedW (ys := isrt (keyed fw)) rfl (by rfl) T.sorted (pd_var 4 rfl rf) h64 fun zs hz hs => ?_)) (g := gName 7) (f := fun d => match d with
                | .str n => .str ((wGet fw n).getD "")
                | _ => .none) rfl sc_l_shown.nd (blkOk_by (N := N_l_shown) (sc := defScope s_l_shown) (by decide +kernel)) (fun _ _ _ _ _ => pg_name (i := 7) sc_l_shown.nd rfl (Or.inl rfl)) ?_ fun c hc v B2 s2 q => ⟨_, gd_name, rfl, fun _ _ _ _ _ => ?_⟩)) ?_)
              · have e := asc_eq (xs := isrt (keyed fw)) (ys := zs) (hz.trans hperm) hs
                rw [hasc] at e
                exact (of_decide_eq_true e).symm
              · rw [List.length_map]
                omega
              · obtain ⟨n, hn, rfl⟩ := List.mem_map.mp hc
                obtain ⟨z, hz⟩ := Option.isSome_iff_exists.mp (List.all_eq_true.mp hall n hn)
                refine PD.cast (pd_wix hr (pd_var 4 rfl (rf.mono s2)) (pd_var 7 rfl q) hz) ?_
                show _ = PyData.str _
                rw [hz]
                rfl
              · rw [List.map_map]
                show PyData.list _ = .list (List.map .str (List.map _ _))
                rw [List.map_map]
                rfl
            · rw [if_neg hos] at hsh
              cases hsh
          · have he : fw = [] := by
              have := of_decide_eq_false z
              simpa using this
            rw [if_pos he] at hsh
            cases hsh
            exact pd_non
    · rw [if_neg hln] at hsh
      cases hsh
end
end K8

set_option Elab.async false
set_option linter.all false
set_option maxRecDepth 100000
set_option maxHeartbeats 400000
/-! K8wo: _law_worlds. -/
namespace K8
open PySem PySem.Spec PyProof.Rows L2
def inner1W : List Wd := [[("b", "")], [("b", "new")], []]
def inner2W : List Wd := [[("b/k", "")], [("b/k", "new")], [("b/w", "")], [("b/k", ""), ("b/w", "")], [("b/k", "new"), ("b/w", "")]]
def innerW : List Wd := inner1W ++ inner2W
def tailW : List Wd := [[("a", "")], [("a", "new")]]
def more1W : List Wd := [[], [("z", "")], [("z", "new")], [("w", "")], [("z", ""), ("w", "")], [("z", "new"), ("w", "")]]
def more2W : List Wd := [[], [("d", "")], [("d", "x")], [("d", "new")]]
def preA (w : Wd) : Wd := w.map fun p => ("a/" ++ p.1, p.2)
def foldW (b : Wd) (ms : List Wd) : List Wd := (ms.filter fun m => decide (b ≠ []) || decide (m ≠ [])).map fun m => wOf (preA (b ++ m))
def acc1 (i j : Nat) : List Wd := [[]] ++ (innerW.take i).flatMap (fun b => foldW b more1W) ++ foldW (innerW.getD i []) (more1W.take j)
def foldersW : List Wd := acc1 8 0 ++ tailW
def acc2 (i j : Nat) : List Wd := (foldersW.take i).flatMap (fun f => more2W.map fun m => wOf (f ++ m)) ++ (more2W.take j).map fun m => wOf (foldersW.getD i [] ++ m)
def worldsW : List Wd := acc2 50 0
theorem acc1_end : ∀ i, i < 8 → acc1 i 6 = acc1 (i + 1) 0 := by decide +kernel
theorem acc1_step : ∀ i, i < 8 → ∀ j, j < 6 → acc1 i (j + 1) = if (decide (innerW.getD i [] ≠ []) || decide (more1W.getD j [] ≠ [])) = true then acc1 i j ++ [wOf (preA (innerW.getD i [] ++ more1W.getD j []))] else acc1 i j := by decide +kernel
theorem acc1_len : ∀ i, i < 9 → ∀ j, j < 7 → (acc1 i j).length ≤ 1000 := by decide +kernel
theorem acc2_end : ∀ i, i < 50 → acc2 i 4 = acc2 (i + 1) 0 := by decide +kernel
theorem acc2_step : ∀ i, i < 50 → ∀ j, j < 4 → acc2 i (j + 1) = acc2 i j ++ [wOf (foldersW.getD i [] ++ more2W.getD j [])] := by decide +kernel
theorem acc2_len : ∀ i, i < 51 → ∀ j, j < 5 → (acc2 i j).length ≤ 1000 := by decide +kernel
theorem folders_len : foldersW.length = 50 := by decide +kernel
theorem short1 : ∀ b ∈ innerW, ∀ m ∈ more1W, (b ++ m).length ≤ 100 ∧ ∀ p ∈ b ++ m, p.1.length ≤ 100 := by decide +kernel
theorem short2 : ∀ b ∈ foldersW, ∀ m ∈ more2W, (b ++ m).length ≤ 100 := by decide +kernel
theorem Fz.frz0 {S S' : Addr → Prop} {B H B1 H1 : Hp} {L : Addr} {o1 : HO} (hb : Same B H) (hn : H L = none) (f : Fz S' B H B1 H1) (hs : ∀ a, S' a → S a ∨ a = L) (hacc : H1 L = some o1) : Fz S B H (upd B1 L o1) H1 where
  bb := fun a u e => by
    have : a ≠ L := ne_of_none (hb _ _ e) hn
    rw [upd_ne this]
    exact f.bb _ _ e
  bh := fun a u e => by
    by_cases h : a = L
    · rw [h, upd_same] at e
      rw [h, hacc]
      exact e
    · rw [upd_ne h] at e
      exact f.bh _ _ e
  hh := fun a u n e => f.hh a u (fun z => (hs a z).elim n (ne_of_none e hn)) e
  out := fun p hp e => by
    have h : p ≠ L := fun z => hp (by rw [z]; exact hn)
    rw [upd_ne h]
    exact f.out p hp e
  al := f.al
theorem Fz.free {S : Addr → Prop} {B H B1 H1 : Hp} (f : Fz S B H B1 H1) {L : Addr} (h : H1 L = none) : H L = none := by
  cases e : H L with
  | none => rfl
  | some u => exact absurd h (f.al L (by rw [e]; simp))
theorem Fz.drop {S : Addr → Prop} {B H B1 H1 : Hp} (f : Fz S B H B1 H1) (h : ∀ a, S a → H a = none) : F0 B H B1 H1 :=
  ⟨f.bb, f.bh, fun a o _ e => f.hh a o (fun z => by rw [h a z] at e; cases e) e, f.out, f.al⟩
/-- (k, v) for (k, v) in pairs -/
def cpPair : PyData → PyData
  | .tuple [.str p, .str t] => .tuple [.str ("a/" ++ p), .str t]
  | _ => .none
section
variable {X : Cx} {es : List Expr} {σ : L2.St} {B H : Hp} {ds : List PyData} {pos p2 pl : Pos} {sts : List Stmt} {D : Ends}
/-- name = [..]: to be changed -/
theorem st_newL {i : Nat} {x : Str} (hN : X.N.Nodup) (ha : AD X es σ B ds) (hl : ds.length ≤ 100000) (hb : Same B H) (k : ∀ B1 H1 L, F0 B H B1 H1 → H L = none → MuL X.K L ds B1 H1 → wpB X sts D (σ.set i (some (.ref L))) H1) (hi : X.N[i]? = some x := by rfl) (hx : Loc X.env.scope x := by first | exact Or.inl rfl | exact Or.inr rfl) (hs : swapsWith (.List es pl) (some (.Name x p2)) pos.line X.env = pure false := by rfl)
    (hf : X.fn x = true ∨ X.env.scope.names.lookup x = some .local := by first | exact .inl rfl | exact .inr rfl | assumption) : wpB X (.Assign [.Name x p2] (.List es pl) pos :: sts) D σ H :=
  wpB_cons (wpS_of (ps_set hN hi hx (pe_lst pa_wp) hs hf) (ha H hb _ fun vs B1 H1 f1 r1 => ⟨by rw [r1.len]; exact Nat.le_trans hl (by decide), fun p hp => by
    have hn : H p = none := by
      cases e : H p with
      | none => rfl
      | some u => exact absurd hp (f1.al p (by rw [e]; simp))
    exact k B1 _ p (f1.trans (Fz.laid f1.bh hp)) hn ⟨f1.bh.free hp, vs, upd_same, r1⟩⟩))
end
section
variable {P : Program} {w : World} {K : PySem.W.Frag} {mg : Str → Option Value} {base : Heap}
theorem fn_l_worlds (D : IsDef K mg "_law_worlds" s_l_worlds) (T : Bl mg) : Fn P w K mg base CX0 "_law_worlds" 1 [] (SpM K (worldsW.map wD)) := by
  obtain ⟨f, fd, hm, F⟩ := D
  refine ⟨f, fd, hm, F.kp, F.binds (fun _ _ _ _ _ _ us hl => match us, hl with | [], _ => rfl), F.ok sc_l_worlds (fun vs H Q E h => by rw [h.1]; rfl) fun cdv Ar outer s H0 vs Q E hr h => ?_⟩
  obtain ⟨rfl, B, hb, q⟩ := h
  refine ⟨wpB _ _, pb_wp, ?_⟩
  refine st_newL (i := 0) (ds := [wD [("b", "")], wD [("b", "new")], wD []]) sc_l_worlds.nd (ad_cons pd_w1 (ad_cons pd_w1 (ad_cons pd_wnil ad_nil))) (show 3 ≤ 100000 by decide) hb fun B1 H1 L0 f1 hL0 m0 => ?_
  refine st_ext (j := 0) (es := [wD [("b/k", "")], wD [("b/k", "new")], wD [("b/w", "")], wD [("b/k", ""), ("b/w", "")], wD [("b/k", "new"), ("b/w", "")]]) rfl m0 f1.bh (show 3 + 5 ≤ 100000 by decide) (pd_lst (ad_cons pd_w1 (ad_cons pd_w1 (ad_cons pd_w1 (ad_cons (pd_w2 (by decide)) (ad_cons (pd_w2 (by decide)) ad_nil))))) (show 5 ≤ 100000 by decide)) fun B2 H2 f2 H3 f3 m3 => ?_
  -- the list is done
  obtain ⟨acc0, hacc0, r0⟩ := m3.frz
  have f4 : F0 B H0 (upd B2 L0 (.lst acc0)) H3 := (f1.to.trans f3).frz0 hb hL0 (fun a h => .inr h) hacc0
  generalize upd B2 L0 (.lst acc0) = B4 at f4 r0
  have hr0 : R K B4 (.ref L0) (.list (innerW.map wD)) := r0
  refine st_newL (i := 1) (ds := [wD []]) sc_l_worlds.nd (ad_cons pd_wnil ad_nil) (show 1 ≤ 100000 by decide) f4.bh fun B5 H5 L1 f5 hL1 m5 => ?_
  have hr5 := hr0.mono f5.bb
  refine st_for (ds := innerW.map wD) PassesOwn.never rfl (pi_list pe_wp) (pg_name (i := 2) sc_l_worlds.nd rfl (Or.inl rfl)) (src_list (pd_var 0 rfl hr5)) f5.bh fun B6 H6 f6 => ?_
  refine ⟨fun i σ' Bi Hi => ∃ (o2 o3 : Option V), σ' = [some (.ref L0), some (.ref L1), o2, o3, none, none, none, none] ∧ MuL K L1 ((acc1 i 0).map wD) Bi Hi ∧ Fz (· = L1) B6 H6 Bi Hi, ?_, ?_, ?_⟩
  · exact ⟨_, _, rfl, m5.f0 f6, Fz.refl f6.bh⟩
  · rintro i σ' Bi Hi d x By H' hi s1 s2 ⟨o2, o3, rfl, mu, fz⟩ hd fy rd
    rw [List.length_map] at hi
    have hi8 : i < 8 := hi
    rw [List.getElem?_map] at hd
    obtain ⟨b, hbi, rfl⟩ := Option.map_eq_some_iff.mp hd
    have hbd : innerW.getD i [] = b := by rw [List.getD_eq_getElem?_getD, hbi]; rfl
    have hbm : b ∈ innerW := List.mem_of_getElem? hbi
    have muy := mu.f0 fy
    refine ⟨_, gd_name, ?_⟩
    refine st_for (ds := more1W.map wD) PassesOwn.never rfl (pi_tup pe_wp) (pg_name (i := 3) sc_l_worlds.nd rfl (Or.inl rfl)) (src_tup (pd_tup (ad_cons pd_wnil (ad_cons pd_w1 (ad_cons pd_w1 (ad_cons pd_w1 (ad_cons (pd_w2 (by decide)) (ad_cons (pd_w2 (by decide)) ad_nil)))))) (show 6 ≤ 100000 by decide))) fy.bh fun B7 H7 f7 => ?_
    refine ⟨fun j σ' Bj Hj => ∃ (o3 : Option V), σ' = [some (.ref L0), some (.ref L1), some x, o3, none, none, none, none] ∧ MuL K L1 ((acc1 i j).map wD) Bj Hj ∧ Fz (· = L1) B7 H7 Bj Hj, ?_, ?_, ?_⟩
    · exact ⟨_, rfl, muy.f0 f7, Fz.refl f7.bh⟩
    · rintro j σ' Bj Hj d y Bk Hk hj s3 s4 ⟨o3, rfl, muj, fzj⟩ hd2 fk rd2
      rw [List.length_map] at hj
      have hj6 : j < 6 := hj
      rw [List.getElem?_map] at hd2
      obtain ⟨m, hmj, rfl⟩ := Option.map_eq_some_iff.mp hd2
      have hmd : more1W.getD j [] = m := by rw [List.getD_eq_getElem?_getD, hmj]; rfl
      have hmm : m ∈ more1W := List.mem_of_getElem? hmj
      have rb := ((rd.mono f7.bb).mono fzj.bb).mono fk.bb
      have muk := muj.f0 fk
      have hst := acc1_step i hi8 j hj6
      rw [hbd, hmd] at hst
      refine ⟨_, gd_name, ?_⟩
      refine st_if (p := decide (b ≠ []) || decide (m ≠ [])) (TD.at (WD.td (wd_or (td_wne0 hr (pd_var 2 rfl rb)) fun _ => wd_or1 (td_wne0 hr (pd_var 3 rfl rd2)))) fk.bh) (fun z B8 H8 f8 => ?_) fun z B8 H8 f8 => ?_
      · rw [if_pos z] at hst
        have hlen := acc1_len i (by omega) j (by omega)
        obtain ⟨sh1, sh2⟩ := short1 b hbm m hmm
        refine st_app (j := 1) (d := wD (wOf (preA (b ++ m)))) rfl (muk.f0 f8) f8.bh (by rw [List.length_map]; omega) (pd_dictW rfl (by rfl) T.dict (PD.cast (LD.pd (ld_gen [("_law_path", 4), ("_law_text", 5)] (pi_list pe_wp) (src_list (PD.cast (pd_addL (pd_itemsW rfl (by rfl) T.list (pd_var 2 rfl (rb.mono f8.bb))) (pd_itemsW rfl (by rfl) T.list (pd_var 3 rfl (rd2.mono f8.bb))) ?_) ?_)) (ds := (b ++ m).map fun p => .tuple [.str p.1, .str p.2]) (f := cpPair) (g := gTup K 2 (gCons (gName 4) (gCons (gName 5) gNil))) rfl sc_l_worlds.nd (blkOk_by (N := N_l_worlds) (sc := defScope s_l_worlds) (by decide +kernel)) (fun _ _ _ _ _ => by exact pg_tup rfl (pgs_cons (pg_name (i := 4) sc_l_worlds.nd rfl (Or.inl rfl)) (pgs_cons (pg_name (i := 5) sc_l_worlds.nd rfl (Or.inl rfl)) pgs_nil))) ?_ fun c hc v B2 s2 q => ?_)) ?_)) fun B9 H9 f9 H10 f10 m10 _ => ?_
        · rw [List.length_map, List.length_map]
          rw [List.length_append] at sh1
          omega
        · rw [List.map_append]
        · rw [List.length_map]
          omega
        · obtain ⟨p, hp, rfl⟩ := List.mem_map.mp hc
          obtain ⟨v1, v2, r1, r2, gd⟩ := gd_pair q
          refine ⟨_, gd gd_name gd_name, rfl, fun _ _ _ _ _ => ?_⟩
          have hpl := sh2 p hp
          exact pd_tup (ad_cons (pd_adds pd_str (pd_var 4 rfl r1) (by show 2 + _ ≤ _; omega)) (ad_cons (pd_var 5 rfl r2) ad_nil)) (show 2 ≤ 100000 by decide)
        · unfold preA
          rw [List.map_map, List.map_map]
          rfl
        · refine wpB_nil (wpB_nil ⟨B9, (fzj.bb.trans fk.bb).trans (f8.bb.trans f9.bb), f10.bh, _, rfl, ?_, ((fzj.trans fk.to).trans f8.to).trans f10⟩)
          rw [hst, List.map_append]
          exact m10
      · rw [if_neg (by rw [z]; decide)] at hst
        refine wpB_nil ⟨B8, (fzj.bb.trans fk.bb).trans f8.bb, f8.bh, _, rfl, ?_, (fzj.trans fk.to).trans f8.to⟩
        rw [hst]
        exact muk.f0 f8
    · rintro σ' Bj Hj s3 s4 ⟨o3, rfl, muj, fzj⟩
      refine wpB_nil ⟨Bj, fz.bb.trans (fy.bb.trans (f7.bb.trans fzj.bb)), s4, _, _, rfl, ?_, ((fz.trans fy.to).trans f7.to).trans fzj⟩
      rw [← acc1_end i hi8]
      exact muj
  · rintro σ' Bi Hi s1 s2 ⟨o2, o3, rfl, mu, fz⟩
    have muF : MuL K L1 ((acc1 8 0).map wD) Bi Hi := mu
    refine st_ext (j := 1) (es := tailW.map wD) rfl muF s2 (by rw [List.length_map]; have := acc1_len 8 (by omega) 0 (by omega); show _ + 2 ≤ _; omega) (pd_lst (ad_cons pd_w1 (ad_cons pd_w1 ad_nil)) (show 2 ≤ 100000 by decide)) fun B7 H7 f7 H8 f8 m8 => ?_
    rw [← List.map_append] at m8
    obtain ⟨acc1v, hacc1, r1⟩ := m8.frz
    have hL1n : H3 L1 = none := hL1
    have f9 : F0 B4 H3 (upd B7 L1 (.lst acc1v)) H8 := (((f5.trans f6).to.trans fz).trans f8).frz0 f4.bh hL1n (fun a h => .inr h) hacc1
    generalize upd B7 L1 (.lst acc1v) = B9 at f9 r1
    have hr1 : R K B9 (.ref L1) (.list (foldersW.map wD)) := r1
    refine st_newL (i := 6) (ds := []) sc_l_worlds.nd ad_nil (Nat.zero_le _) f9.bh fun B10 H10 L2 f10 hL2 m10 => ?_
    refine st_for (ds := foldersW.map wD) PassesOwn.never rfl (pi_list pe_wp) (pg_name (i := 7) sc_l_worlds.nd rfl (Or.inl rfl)) (src_list (pd_var 1 rfl (hr1.mono f10.bb))) f10.bh fun B11 H11 f11 => ?_
    refine ⟨fun i σ' Bi Hi => ∃ (o3 o7 : Option V), σ' = [some (.ref L0), some (.ref L1), o2, o3, none, none, some (.ref L2), o7] ∧ MuL K L2 ((acc2 i 0).map wD) Bi Hi ∧ Fz (· = L2) B11 H11 Bi Hi, ?_, ?_, ?_⟩
    · exact ⟨_, _, rfl, m10.f0 f11, Fz.refl f11.bh⟩
    · rintro i σ' Bi Hi d x By H' hi s1 s2 ⟨o3, o7, rfl, mu, fz⟩ hd fy rd
      rw [List.length_map, folders_len] at hi
      rw [List.getElem?_map] at hd
      obtain ⟨b, hbi, rfl⟩ := Option.map_eq_some_iff.mp hd
      have hbd : foldersW.getD i [] = b := by rw [List.getD_eq_getElem?_getD, hbi]; rfl
      have hbm : b ∈ foldersW := List.mem_of_getElem? hbi
      have muy := mu.f0 fy
      refine ⟨_, gd_name, ?_⟩
      refine st_for (ds := more2W.map wD) PassesOwn.never rfl (pi_tup pe_wp) (pg_name (i := 3) sc_l_worlds.nd rfl (Or.inl rfl)) (src_tup (pd_tup (ad_cons pd_wnil (ad_cons pd_w1 (ad_cons pd_w1 (ad_cons pd_w1 ad_nil)))) (show 4 ≤ 100000 by decide))) fy.bh fun B12 H12 f12 => ?_
      refine ⟨fun j σ' Bj Hj => ∃ (o3 : Option V), σ' = [some (.ref L0), some (.ref L1), o2, o3, none, none, some (.ref L2), some x] ∧ MuL K L2 ((acc2 i j).map wD) Bj Hj ∧ Fz (· = L2) B12 H12 Bj Hj, ?_, ?_, ?_⟩
      · exact ⟨_, rfl, muy.f0 f12, Fz.refl f12.bh⟩
      · rintro j σ' Bj Hj d y Bk Hk hj s3 s4 ⟨o3, rfl, muj, fzj⟩ hd2 fk rd2
        rw [List.length_map] at hj
        have hj4 : j < 4 := hj
        rw [List.getElem?_map] at hd2
        obtain ⟨m, hmj, rfl⟩ := Option.map_eq_some_iff.mp hd2
        have hmd : more2W.getD j [] = m := by rw [List.getD_eq_getElem?_getD, hmj]; rfl
        have hmm : m ∈ more2W := List.mem_of_getElem? hmj
        have rb := ((rd.mono f12.bb).mono fzj.bb).mono fk.bb
        have muk := muj.f0 fk
        have hst := acc2_step i hi j hj4
        rw [hbd, hmd] at hst
        have hlen := acc2_len i (by omega) j (by omega)
        have sh1 := short2 b hbm m hmm
        refine ⟨_, gd_name, ?_⟩
        refine st_app (j := 6) (d := wD (wOf (b ++ m))) rfl muk fk.bh (by rw [List.length_map]; omega) (pd_dictW rfl (by rfl) T.dict (PD.cast (pd_addL (pd_itemsW rfl (by rfl) T.list (pd_var 7 rfl rb)) (pd_itemsW rfl (by rfl) T.list (pd_var 3 rfl rd2)) ?_) ?_)) fun B9 H9 f9 H10 f10 m10 _ => ?_
        · rw [List.length_map, List.length_map]
          rw [List.length_append] at sh1
          omega
        · rw [List.map_append]
        · refine wpB_nil ⟨B9, (fzj.bb.trans fk.bb).trans f9.bb, f10.bh, _, rfl, ?_, (fzj.trans fk.to).trans f10⟩
          rw [hst, List.map_append]
          exact m10
      · rintro σ' Bj Hj s3 s4 ⟨o3, rfl, muj, fzj⟩
        refine wpB_nil ⟨Bj, fz.bb.trans (fy.bb.trans (f12.bb.trans fzj.bb)), s4, _, _, rfl, ?_, ((fz.trans fy.to).trans f12.to).trans fzj⟩
        rw [← acc2_end i hi]
        exact muj
    · rintro σ' Bi Hi s1 s2 ⟨o3, o7, rfl, mu, fz⟩
      rw [List.length_map, folders_len] at mu
      refine st_retv (i := 6) rfl ?_
      have f04 := f4.trans f9
      have hn2 : H0 L2 = none := f04.free hL2
      exact q L2 Bi Hi (((f04.trans (f10.trans f11)).to.trans fz).drop fun a e => by rw [e]; exact hn2) hn2 mu
end
end K8

set_option Elab.async false
set_option linter.all false
set_option maxRecDepth 100000
set_option maxHeartbeats 400000
/-! K8aw: _law_all_worlds. -/
namespace K8
open PySem PySem.Spec PyProof.Rows L2
theorem filt_step {α β : Type} {xs : List α} {p : α → Bool} {f : α → β} {i : Nat} {x : α} (h : xs[i]? = some x) : ((xs.take (i + 1)).filter p).map f = ((xs.take i).filter p).map f ++ (if p x = true then [f x] else []) := by
  rw [List.take_add_one, h, List.filter_append, List.map_append]
  congr 1
  show (List.filter p [x]).map f = _
  rw [List.filter_cons]
  cases p x <;> rfl
def condW (w : Wd) : Bool := (wGet w "a/b/w").isSome && !(wGet w "a/b/k").isSome
def keepW (w : Wd) : Wd := List.map (β := Str × Str) (fun p => (p.1, (wGet w p.1).getD "")) (w.filter fun p => !decide (p.1 = ("a/b/w" : Str)))
def moreW (w : Wd) : Wd := wPut (wOf (keepW w)) "a/b/v" ""
def acc3 (i : Nat) : List Wd := worldsW ++ ((worldsW.take i).filter condW).map moreW
def allW : List Wd := acc3 200
theorem worlds_len : worldsW.length = 200 := by decide +kernel
def okWd (w : Wd) : Bool := decide (w.length ≤ 100) && w.all fun p => PyData.strOk p.1 && (wGet w p.1).isSome
theorem worlds_ok : ∀ w ∈ worldsW, okWd w = true := by decide +kernel
theorem strOk_w : PyData.strOk "a/b/w" = true := by decide +kernel
theorem acc3_step {i : Nat} {b : Wd} (h : worldsW[i]? = some b) : acc3 (i + 1) = if condW b = true then acc3 i ++ [moreW b] else acc3 i := by
  unfold acc3
  rw [filt_step h]
  split
  · rw [List.append_assoc]
  · rw [List.append_nil]
theorem acc3_len (i : Nat) (hi : i ≤ 200) : (acc3 i).length ≤ 400 := by
  unfold acc3
  rw [List.length_append, worlds_len, List.length_map]
  have h1 := List.length_filter_le condW (worldsW.take i)
  rw [List.length_take] at h1
  omega
theorem wOf_len (w : Wd) : (wOf w).length ≤ w.length := by
  have key : ∀ (more acc : Wd), (wMerge acc more).length ≤ acc.length + more.length := by
    intro more
    induction more with
    | nil => exact fun acc => Nat.le_refl _
    | cons p more ih =>
      intro acc
      have h1 := ih (wPut acc p.1 p.2)
      have h2 := wPut_len acc p.1 p.2
      show (wMerge (wPut acc p.1 p.2) more).length ≤ _
      rw [List.length_cons]
      omega
  have := key w []
  rw [List.length_nil, Nat.zero_add] at this
  exact this
section
variable {X : Cx} {a b : Expr} {σ : L2.St} {B : Hp} {pos : Pos} {n : Nat} {w : Wd} {x z : Str} {d : Addr} {od : Obj}
/-- d[k], d locked -/
theorem pd_wixL (hr : Room n X.A) (ha : RefD X a σ B d) (hd : B d = some (.frz od (.dK (wK w)))) (hb : PD X b σ B (.str x)) (h : wGet w x = some z) (hs : NoSl b := by intro _ _; rfl) : PD X (.Subscript a b pos) σ B (.str z) :=
  .of (pe_dget (by have := hr.un; omega) pe_wp pe_wp hs) fun H hh Q q => ha H hh _ fun B1 H1 f1 => by
    refine hb.mono f1.bb H1 f1.bh _ fun u B2 H2 f2 r2 => ?_
    rw [r2.str_inv]
    refine ⟨d, .str z, rfl, .inl ⟨wK w, .inr x, .inr ⟨od, f2.bh _ _ (f2.bb _ _ (f1.bb _ _ hd))⟩, rfl, ?_⟩, q _ B2 H2 (f1.trans f2) (.str z)⟩
    rw [valV_wK, h]
    rfl
end
section
variable {P : Program} {w : World} {K : PySem.W.Frag} {mg : Str → Option Value} {base : Heap}
theorem fn_l_all_worlds (D : IsDef K mg "_law_all_worlds" s_l_all_worlds) (T : Bl mg) (F1 : Fn P w K mg base CX0 "_law_worlds" 1 [] (SpM K (worldsW.map wD))) : Fn P w K mg base CX0 "_law_all_worlds" 2 [] (SpM K (allW.map wD)) := by
  obtain ⟨f, fd, hm, F⟩ := D
  refine ⟨f, fd, hm, F.kp, F.binds (fun _ _ _ _ _ _ us hl => match us, hl with | [], _ => rfl), F.ok sc_l_all_worlds (fun vs H Q E h => by rw [h.1]; rfl) fun cdv Ar outer s H0 vs Q E hr h => ?_⟩
  obtain ⟨rfl, B, hb, q⟩ := h
  refine ⟨wpB _ _, pb_wp, ?_⟩
  refine st_setM (i := 0) sc_l_all_worlds.nd F1 hr (by decide) (by rfl) hb fun L B1 H1 f1 hL m1 => ?_
  refine st_for (ds := worldsW.map wD) PassesOwn.never rfl (pi_list pe_wp) (pg_name (i := 1) sc_l_all_worlds.nd rfl (Or.inr rfl)) (src_list (pd_callM F1 hr (by decide) (by rfl))) f1.bh fun B2 H2 f2 => ?_
  refine ⟨fun i σ' Bi Hi => ∃ (o1 o2 : Option V), σ' = [some (.ref L), o1, o2, none] ∧ MuL K L ((acc3 i).map wD) Bi Hi ∧ Fz (· = L) B2 H2 Bi Hi, ?_, ?_, ?_⟩
  · refine ⟨_, _, rfl, ?_, Fz.refl f2.bh⟩
    have e : acc3 0 = worldsW := by simp [acc3]
    rw [e]
    exact m1.f0 f2
  · rintro i σ' Bi Hi d x By H' hi s1 s2 ⟨o1, o2, rfl, mu, fz⟩ hd fy rd
    rw [List.length_map, worlds_len] at hi
    rw [List.getElem?_map] at hd
    obtain ⟨b, hbi, rfl⟩ := Option.map_eq_some_iff.mp hd
    have hbm : b ∈ worldsW := List.mem_of_getElem? hbi
    have hok := worlds_ok b hbm
    unfold okWd at hok
    simp only [Bool.and_eq_true, decide_eq_true_eq] at hok
    obtain ⟨hbl, hball⟩ := hok
    have hst := acc3_step hbi
    have hlen := acc3_len i (by omega)
    have muy := mu.f0 fy
    obtain ⟨df, rfl, hdf⟩ := rd.w_at
    refine ⟨_, gd_name, ?_⟩
    refine st_if (p := condW b) (TD.at (WD.td (wd_and (td_win hr pd_str (pd_var 1 rfl rd)) fun _ => wd_and1 (td_wnot hr pd_str (pd_var 1 rfl rd)))) fy.bh) (fun z B3 H3 f3 => ?_) fun z B3 H3 f3 => ?_
    · rw [if_pos z] at hst
      have hdf3 := f3.bb _ _ hdf
      have mu3 := muy.f0 f3
      refine st_newDW (i := 2) (w := keepW b) sc_l_all_worlds.nd rfl (by rfl) T.dict (pd_lock hdf3 fun od => PD.cast (LD.pd (ld_genf [("_law_path", 3)] (pi_keys pe_wp) (src_keysW (ev_ref (i := 1) rfl) upd_same) (g := gName 3) (f := fun d => match d with
        | .str n => .tuple [.str n, .str ((wGet b n).getD "")]
        | _ => .none) (pr := fun d => match d with
        | .str n => !decide (n = ("a/b/w" : Str))
        | _ => false) rfl sc_l_all_worlds.nd (blkOk_by (N := N_l_all_worlds) (sc := defScope s_l_all_worlds) (by decide +kernel)) (fun _ _ _ _ _ => pg_name (i := 3) sc_l_all_worlds.nd rfl (Or.inl rfl)) ?_ fun c hc v B2 s2 q => ⟨_, gd_name, rfl, fun _ _ _ _ _ => ?_, fun hp _ _ _ _ _ => ?_⟩)) ?_) f3.bh fun B4 H4 L2 f4 hL2 => ?_
      · rw [List.length_map]
        omega
      · obtain ⟨p, hp, rfl⟩ := List.mem_map.mp hc
        have hpo := List.all_eq_true.mp hball p hp
        rw [Bool.and_eq_true] at hpo
        exact CD.td (cd_neS hr (pd_var 3 rfl q) pd_str hpo.1 strOk_w)
      · obtain ⟨p, hpm, rfl⟩ := List.mem_map.mp hc
        have hpo := List.all_eq_true.mp hball p hpm
        rw [Bool.and_eq_true] at hpo
        obtain ⟨z, hz⟩ := Option.isSome_iff_exists.mp hpo.2
        refine PD.cast (pd_tup (ad_cons (pd_var 3 rfl q) (ad_cons (pd_wixL hr (ev_ref (i := 1) rfl) (s2 _ _ upd_same) (pd_var 3 rfl q) hz) ad_nil)) (show 2 ≤ 100000 by decide)) ?_
        show _ = PyData.tuple [.str p.1, .str ((wGet b p.1).getD "")]
        rw [hz]
        rfl
      · unfold keepW
        rw [List.map_map, List.filter_map, List.map_map]
        rfl
      · have mu4 := mu3.f0 f4
        have hLn : L2 ≠ L := fun z => by
          obtain ⟨_, acc, e, _⟩ := mu4
          rw [← z, hL2] at e
          cases e
        have hb4 : Same B4 (upd H4 L2 (.dK (wK (wOf (keepW b))))) := upd_out f4.bh (f4.bh.free hL2)
        have md : MuD L2 (wOf (keepW b)) B4 (upd H4 L2 (.dK (wK (wOf (keepW b))))) := ⟨f4.bh.free hL2, upd_same⟩
        have fl : F0 B4 H4 B4 (upd H4 L2 (.dK (wK (wOf (keepW b))))) := Fz.laid f4.bh hL2
        have hkl : (wOf (keepW b)).length ≤ 100000 := by
          have h1 := wOf_len (keepW b)
          have h2 : (keepW b).length ≤ b.length := by
            unfold keepW
            rw [List.length_map]
            exact List.length_filter_le _ _
          omega
        refine st_putW (j := 2) (kx := "a/b/v") (z := "") hr rfl md hb4 hkl pd_str pd_str fun B5 H5 f5 H6 f6 m6 => ?_
        have hmW : wPut (wOf (keepW b)) "a/b/v" "" = moreW b := rfl
        rw [hmW] at m6
        have f46 : F0 B4 H4 (upd B5 L2 (.dK (wK (moreW b)))) H6 := (fl.to.trans f6).frz0 f4.bh hL2 (fun a h => .inr h) m6.2
        have r6 := m6.frz (X := bx P w K mg base "_law_all_worlds" s_l_all_worlds N_l_all_worlds f cdv Ar outer s H0 E)
        generalize upd B5 L2 (.dK (wK (moreW b))) = B6 at f46 r6
        refine st_app (j := 0) (d := wD (moreW b)) rfl (mu4.f0 f46) f46.bh (by rw [List.length_map]; omega) (pd_var 2 rfl r6) fun B7 H7 f7 H8 f8 m8 _ => ?_
        refine wpB_nil (wpB_nil ⟨B7, fz.bb.trans (fy.bb.trans (f3.bb.trans (f4.bb.trans (f46.bb.trans f7.bb)))), f8.bh, _, _, rfl, ?_, ((((fz.trans fy.to).trans f3.to).trans f4.to).trans f46.to).trans f8⟩)
        rw [hst, List.map_append]
        exact m8
    · rw [if_neg (by rw [z]; decide)] at hst
      refine wpB_nil ⟨B3, fz.bb.trans (fy.bb.trans f3.bb), f3.bh, _, _, rfl, ?_, (fz.trans fy.to).trans f3.to⟩
      rw [hst]
      exact muy.f0 f3
  · rintro σ' Bi Hi s1 s2 ⟨o1, o2, rfl, mu, fz⟩
    rw [List.length_map, worlds_len] at mu
    refine st_retv (i := 0) rfl ?_
    exact q L Bi Hi (((f1.trans f2).to.trans fz).drop fun a e => by rw [e]; exact hL) hL mu
end
end K8

set_option Elab.async false
set_option linter.all false
set_option maxRecDepth 100000
set_option maxHeartbeats 400000
/-! K8tb: _law_table. -/
namespace K8
open PySem PySem.Spec PyProof.Rows L2
def rowW (w : Wd) : Rw := looksL.map fun k => (k, (shownA w k).getD .no)
def gridW : List Rw := allW.map rowW
def gridD : PyData := .list (gridW.map rwD)
theorem all_len : allW.length = 224 := by decide +kernel
theorem rows_ok : (allW.all fun w => looksL.all fun k => (shownA w k).isSome) = true := by decide +kernel
abbrev R_l_table : List PyData → PyData → Prop := fun ds d => ds = [.list (allW.map wD)] ∧ d = gridD
theorem looks_nd : looksL.Nodup := by decide +kernel
theorem row_keys (w : Wd) : (rowW w).map (·.1) = looksL := by
  unfold rowW
  rw [List.map_map]
  exact List.map_id _
theorem row_ne (w : Wd) : rowW w ≠ [] := fun z => by
  have := congrArg List.length z
  unfold rowW at this
  rw [List.length_map] at this
  revert this
  decide
def asStr : PyData → Str
  | .str x => x
  | _ => ""
def asWd : PyData → Wd
  | .dict es => es.map fun p => (asStr p.1, asStr p.2)
  | _ => []
theorem asWd_d (w : Wd) : asWd (wD w) = w := by
  unfold wD asWd
  simp only
  rw [List.map_map]
  exact List.map_id _
abbrev scTb : Scope := { kind := .function, names := [(".0", .local), ("_law_files", .cell), ("dict", .globalImplicit), ("_law_looks_here", .cell)], isGenerator := false, isCoroutine := false }
def asLk : PyData → Lk
  | .tuple [.str u, .str p] => ⟨(wordOf u).getD false, p⟩
  | _ => ⟨false, ""⟩
theorem asLk_d (k : Lk) : asLk k.d = k := by
  show (⟨(wordOf (wd k.l)).getD false, k.p⟩ : Lk) = k
  have e : ∀ l : Bool, (wordOf (wd l)).getD false = l := by decide +kernel
  rw [e]
section
variable {P : Program} {w : World} {K : PySem.W.Frag} {mg : Str → Option Value} {base : Heap}
theorem fn_l_table (D : IsDef K mg "_law_table" s_l_table) (T : Bl mg) (F1 : Fn P w K mg base CX0 "_law_looks" 1 [] (SpR K R_l_looks)) (F2 : Fn P w K mg base CX0 "_law_shown" 2 ["_law_files", "_law_look"] (SpR K R_l_shown)) : Fn P w K mg base CX0 "_law_table" 3 ["_law_worlds_here"] (SpR K R_l_table) := by
  refine fn_data D sc_l_table (fun ds d h => by rw [h.1]; rfl) (fun _ _ _ _ _ _ us hl => match us, hl with | [_], _ => rfl) fun f cdv A outer s H E vs B ds d hr h ra => ?_
  obtain ⟨rfl, rfl⟩ := h
  obtain ⟨v, rfl, r⟩ := ra.one
  refine rd_set (i := 1) (d1 := .list (looksL.map Lk.d)) sc_l_table.nd (pd_call0 F1 hr (by decide) (by rfl) ⟨rfl, rfl⟩) (fun v1 B1 s1 r1 => ?_) (hx := Or.inr rfl)
  refine rd_ret (PD.cast (LD.pd (ld_gen [("_law_files", 3)] (pi_list pe_wp) (src_list (pd_var 0 rfl (r.mono s1))) (g := gName 3) (f := fun d => rwD (rowW (asWd d))) rfl sc_l_table.nd (blkOk_by (N := N_l_table) (sc := defScope s_l_table) (by decide +kernel)) (fun _ _ _ _ _ => by exact pg_name (i := 3) sc_l_table.nd rfl (Or.inr rfl)) ?_ fun c hc v B2 s2 q => ⟨_, gd_name, rfl, fun _ _ _ _ _ => ?_⟩)) ?_)
  · rw [List.length_map, all_len]
    decide
  · obtain ⟨w, hw, rfl⟩ := List.mem_map.mp hc
    rw [asWd_d]
    have hrow := List.all_eq_true.mp rows_ok w hw
    refine pd_dictT rfl hr (by rfl) T.dict (row_ne w) (by rw [row_keys]; exact looks_nd) (PD.cast (LD.pd (ld_gen [("_law_look", 2)] (pi_list pe_wp) (src_list (pd_var 1 rfl (r1.mono s2))) (g := gName 2) (f := fun d => .tuple [d, ((shownA w (asLk d)).getD .no).d]) rfl sc_l_table.nd (blkOk_by (N := N_l_table) (sc := scTb) (by decide +kernel)) (fun _ _ _ _ _ => by exact pg_name (i := 2) sc_l_table.nd rfl (Or.inl rfl)) (by decide) fun c hc v B3 s3 q3 => ⟨_, gd_name, rfl, fun _ _ _ _ _ => ?_⟩)) ?_)
    · obtain ⟨k, hk, rfl⟩ := List.mem_map.mp hc
      rw [asLk_d]
      obtain ⟨an, han⟩ := Option.isSome_iff_exists.mp (List.all_eq_true.mp hrow k hk)
      rw [han]
      exact pd_tup (ad_cons (pd_var 2 rfl q3) (ad_cons (pd_call F2 hr (by decide) (by rfl) (ad_cons (pd_var 3 rfl (q.mono s3)) (ad_cons (pd_var 2 rfl q3) ad_nil)) ⟨w, k, an, rfl, han, rfl⟩) ad_nil)) (show 2 ≤ 100000 by decide)
    · unfold rowW
      rw [List.map_map, List.map_map]
      refine congrArg PyData.list (List.map_congr_left fun k _ => ?_)
      show PyData.tuple [k.d, ((shownA w (asLk k.d)).getD .no).d] = _
      rw [asLk_d]
      rfl
  · unfold gridD gridW
    rw [List.map_map, List.map_map]
    refine congrArg PyData.list (List.map_congr_left fun w _ => ?_)
    show rwD (rowW (asWd (wD w))) = _
    rw [asWd_d]
    rfl
end
end K8

set_option Elab.async false
set_option linter.all false
set_option maxRecDepth 100000
set_option maxHeartbeats 400000
/-! K8hv: _law_have, _law_brought, _law_least. -/
namespace K8
open PySem PySem.Spec PyProof.Rows L2
def asAn : PyData → An
  | .none => .no
  | .str x => .tx x
  | .tuple xs => .nm (xs.map asStr)
  | _ => .no
theorem asAn_d (a : An) : asAn a.d = a := by
  cases a with
  | no => rfl
  | tx s => rfl
  | nm es =>
    show An.nm ((es.map PyData.str).map asStr) = _
    rw [List.map_map]
    exact congrArg An.nm (List.map_id _)
def asRw : PyData → Rw
  | .dict es => es.map fun p => (asLk p.1, asAn p.2)
  | _ => []
theorem asRw_d (r : Rw) : asRw (rwD r) = r := by
  unfold rwD asRw
  simp only
  rw [List.map_map]
  refine (List.map_congr_left fun p _ => ?_).trans (List.map_id _)
  show (asLk p.1.d, asAn p.2.d) = p
  rw [asLk_d, asAn_d]
def asSg1 : PyData → Sg
  | .tuple [k, a] => ⟨asLk k, asAn a⟩
  | _ => ⟨⟨false, ""⟩, .no⟩
theorem asSg1_d (s : Sg) : asSg1 s.d = s := by
  show (⟨asLk s.k.d, asAn s.a.d⟩ : Sg) = s
  rw [asLk_d, asAn_d]
def hasB (r : Rw) (s : Sg) : Bool := decide (rGet r s.k = some s.a)
def haveG (ss : List Sg) : List Rw := gridW.filter fun r => ss.all fun s => hasB r s
def okRw (r : Rw) : Bool := decide (r ≠ []) && looksL.all fun k => match rGet r k with
  | some a => SeqAt.shaped a.d
  | none => false
theorem grid_ok : (gridW.all okRw) = true := by decide +kernel
theorem s19_k : ∀ s ∈ S19, s.k ∈ looksL ∧ SeqAt.shaped s.a.d = true ∧ SeqAt.shaped s.d = true := by decide +kernel
theorem grid_len : gridW.length = 224 := by decide +kernel
abbrev R_l_have : List PyData → PyData → Prop := fun ds d => ∃ ss : List Sg, ds = [gridD, sgsD ss] ∧ (∀ s ∈ ss, s ∈ S19) ∧ ss.length ≤ 50 ∧ d = .list ((haveG ss).map rwD)
theorem okRw_get {r : Rw} (h : okRw r = true) {k : Lk} (hk : k ∈ looksL) : r ≠ [] ∧ ∃ a, rGet r k = some a ∧ SeqAt.shaped a.d = true := by
  unfold okRw at h
  rw [Bool.and_eq_true] at h
  refine ⟨of_decide_eq_true h.1, ?_⟩
  have := List.all_eq_true.mp h.2 k hk
  cases e : rGet r k with
  | none =>
    rw [e] at this
    cases this
  | some a =>
    rw [e] at this
    exact ⟨a, rfl, this⟩
abbrev scHv : Scope := { kind := .function, names := [(".0", .local), ("_law_row", .cell), ("all", .globalImplicit), ("_law_sights", .cell)], isGenerator := false, isCoroutine := false }
section
variable {P : Program} {w : World} {K : PySem.W.Frag} {mg : Str → Option Value} {base : Heap}
theorem fn_l_have (D : IsDef K mg "_law_have" s_l_have) (T : Bl mg) : Fn P w K mg base CX0 "_law_have" 1 ["_law_grid", "_law_sights"] (SpR K R_l_have) := by
  refine fn_data D sc_l_have (fun ds d h => by obtain ⟨_, rfl, _⟩ := h; rfl) (fun _ _ _ _ _ _ us hl => match us, hl with | [_, _], _ => rfl) fun f cdv A outer s H E vs B ds d hr h ra => ?_
  obtain ⟨ss, rfl, hss, hsl, rfl⟩ := h
  obtain ⟨v1, v2, rfl, r1, r2⟩ := ra.two
  refine rd_ret (PD.cast (LD.pd (ld_genf [("_law_row", 2)] (pi_list pe_wp) (src_list (ds := gridW.map rwD) (pd_var 0 rfl r1)) (g := gName 2) (f := fun d => d) (pr := fun d => ss.all fun s => hasB (asRw d) s) rfl sc_l_have.nd (blkOk_by (N := N_l_have) (sc := defScope s_l_have) (by decide +kernel)) (fun _ _ _ _ _ => by exact pg_name (i := 2) sc_l_have.nd rfl (Or.inr rfl)) ?_ fun c hc v B2 s2 q => ⟨_, gd_name, rfl, fun _ _ _ _ _ => ?_, fun hp _ _ _ _ _ => ?_⟩)) ?_)
  · rw [List.length_map, grid_len]
    decide
  · obtain ⟨r, hrm, rfl⟩ := List.mem_map.mp hc
    rw [asRw_d]
    have hrk := List.all_eq_true.mp grid_ok r hrm
    refine td_val (PD.cast (pd_all (bs := ss.map fun s => hasB r s) rfl (by rfl) T.all (PD.cast (LD.pd (ld_gen [("_law_look", 3), ("_law_answer", 4)] (pi_list pe_wp) (src_list (ds := ss.map Sg.d) (pd_var 1 rfl (r2.mono s2))) (f := fun d => .bool (hasB r (asSg1 d))) (g := gTup K 2 (gCons (gName 3) (gCons (gName 4) gNil))) rfl sc_l_have.nd (blkOk_by (N := N_l_have) (sc := scHv) (by decide +kernel)) (fun _ _ _ _ _ => by exact pg_tup rfl (pgs_cons (pg_name (i := 3) sc_l_have.nd rfl (Or.inl rfl)) (pgs_cons (pg_name (i := 4) sc_l_have.nd rfl (Or.inl rfl)) pgs_nil))) (by rw [List.length_map]; omega) fun c hc v B3 s3 q3 => ?_)) ?_)) ?_)
    · obtain ⟨t, ht, rfl⟩ := List.mem_map.mp hc
      obtain ⟨v3, v4, r3, r4, gd⟩ := gd_pair q3
      refine ⟨_, gd gd_name gd_name, rfl, fun _ _ _ _ _ => ?_⟩
      rw [asSg1_d]
      obtain ⟨hk, hsa, _⟩ := s19_k t (hss t ht)
      obtain ⟨hne, a, hg, hsh⟩ := okRw_get hrk hk
      refine PD.cast (CD.pd (cd_eq hr (pd_tix hr (pd_var 2 rfl (q.mono s3)) (pd_var 3 rfl r3) hne hg) (pd_var 4 rfl r4) hsh hsa)) ?_
      rw [eqv_an]
      unfold hasB
      rw [hg]
      simp
    · rw [List.map_map, List.map_map]
      refine congrArg PyData.list (List.map_congr_left fun t _ => ?_)
      show PyData.bool (hasB r (asSg1 t.d)) = _
      rw [asSg1_d]
      rfl
    · rw [List.all_map]
      rfl
  · exact pd_var 2 rfl q
  · unfold haveG
    rw [List.filter_map, List.map_map]
    refine congrArg PyData.list ?_
    congr 1
    refine List.filter_congr fun r _ => ?_
    show (ss.all fun s => hasB (asRw (rwD r)) s) = _
    rw [asRw_d]
end
end K8

set_option Elab.async false
set_option linter.all false
set_option maxRecDepth 100000
set_option maxHeartbeats 400000
/-! K8hv2: _law_brought, _law_least. -/
namespace K8
open PySem PySem.Spec PyProof.Rows L2
def brG (ss : List Sg) (t : Sg) : Bool := (haveG ss).all fun r => hasB r t
abbrev R_l_brought : List PyData → PyData → Prop := fun ds d => ∃ (ss : List Sg) (t : Sg), ds = [gridD, sgsD ss, t.d] ∧ (∀ s ∈ ss, s ∈ S19) ∧ t ∈ S19 ∧ ss.length ≤ 50 ∧ d = .bool (brG ss t)
def stepG (ss acc : List Sg) (t : Sg) : List Sg := if (!(acc.any fun s => decide (s = t)) && !((ss.filter fun s => !decide (s = t)).any fun o => brG [o] t)) = true then acc ++ [t] else acc
def leastG (ss : List Sg) : List Sg := ss.foldl (stepG ss) []
abbrev R_l_least : List PyData → PyData → Prop := fun ds d => ∃ ss : List Sg, ds = [gridD, sgsD ss] ∧ (∀ s ∈ ss, s ∈ S19) ∧ ss.length ≤ 50 ∧ d = sgsD (leastG ss)
theorem have_sub {ss : List Sg} {r : Rw} (h : r ∈ haveG ss) : r ∈ gridW := (List.mem_filter.mp h).1
theorem have_len (ss : List Sg) : (haveG ss).length ≤ 224 := by
  have := List.length_filter_le (fun r => ss.all fun s => hasB r s) gridW
  rw [grid_len] at this
  exact this
theorem s19_g : ∀ s ∈ S19, okG s = true := by decide +kernel
section
variable {P : Program} {w : World} {K : PySem.W.Frag} {mg : Str → Option Value} {base : Heap}
theorem fn_l_brought (D : IsDef K mg "_law_brought" s_l_brought) (T : Bl mg) (F1 : Fn P w K mg base CX0 "_law_have" 1 ["_law_grid", "_law_sights"] (SpR K R_l_have)) : Fn P w K mg base CX0 "_law_brought" 2 ["_law_grid", "_law_sights", "_law_sight"] (SpR K R_l_brought) := by
  refine fn_data D sc_l_brought (fun ds d h => by obtain ⟨_, _, rfl, _⟩ := h; rfl) (fun _ _ _ _ _ _ us hl => match us, hl with | [_, _, _], _ => rfl) fun f cdv A outer s H E vs B ds d hr h ra => ?_
  obtain ⟨ss, t, rfl, hss, ht, hsl, rfl⟩ := h
  obtain ⟨v1, v2, v3, rfl, r1, r2, r3⟩ := ra.three
  obtain ⟨hk, hsa, _⟩ := s19_k t ht
  refine rd_ret (PD.cast (pd_all (bs := (haveG ss).map fun r => hasB r t) rfl (by rfl) T.all (PD.cast (LD.pd (ld_gen [("_law_row", 3)] (pi_list pe_wp) (src_list (ds := (haveG ss).map rwD) (pd_call F1 hr (by decide) (by rfl) (ad_cons (pd_var 0 rfl r1) (ad_cons (pd_var 1 rfl r2) ad_nil)) ⟨ss, rfl, hss, hsl, rfl⟩)) (g := gName 3) (f := fun d => .bool (hasB (asRw d) t)) rfl sc_l_brought.nd (blkOk_by (N := N_l_brought) (sc := defScope s_l_brought) (by decide +kernel)) (fun _ _ _ _ _ => by exact pg_name (i := 3) sc_l_brought.nd rfl (Or.inl rfl)) ?_ fun c hc v B2 s2 q => ⟨_, gd_name, rfl, fun _ _ _ _ _ => ?_⟩)) ?_)) ?_)
  · rw [List.length_map]
    have := have_len ss
    omega
  · obtain ⟨r, hrm, rfl⟩ := List.mem_map.mp hc
    rw [asRw_d]
    obtain ⟨hne, a, hg, hsh⟩ := okRw_get (List.all_eq_true.mp grid_ok r (have_sub hrm)) hk
    refine PD.cast (CD.pd (cd_eq hr (pd_tix hr (pd_var 3 rfl q) (pd_ixT (m := 0) (pd_var 2 rfl (r3.mono s2)) pd_int rfl) hne hg) (pd_ixT (m := 1) (pd_var 2 rfl (r3.mono s2)) pd_int rfl) hsh hsa)) ?_
    rw [eqv_an]
    unfold hasB
    rw [hg]
    simp
  · rw [List.map_map, List.map_map]
    refine congrArg PyData.list (List.map_congr_left fun r _ => ?_)
    show PyData.bool (hasB (asRw (rwD r)) t) = _
    rw [asRw_d]
    rfl
  · rw [List.all_map]
    rfl
theorem fn_l_least (D : IsDef K mg "_law_least" s_l_least) (T : Bl mg) (F1 : Fn P w K mg base CX0 "_law_brought" 2 ["_law_grid", "_law_sights", "_law_sight"] (SpR K R_l_brought)) : Fn P w K mg base CX0 "_law_least" 3 ["_law_grid", "_law_sights"] (SpR K R_l_least) := by
  refine fn_data D sc_l_least (fun ds d h => by obtain ⟨x, rfl, _⟩ := h; rfl) (fun _ _ _ _ _ _ us hl => match us, hl with | [_, _], _ => rfl) fun f cdv A outer s H0 E vs B ds d hr h ra => ?_
  obtain ⟨ss, rfl, hss, hsl, rfl⟩ := h
  obtain ⟨vg, v, rfl, rg, r⟩ := ra.two
  have okg : ∀ t ∈ ss, okG t = true := fun t ht => s19_g t (hss t ht)
  intro H hb D q
  refine st_new (i := 2) sc_l_least.nd fun L hL => ?_
  refine st_for (ds := ss.map Sg.d) PassesOwn.never rfl (pi_list pe_wp) (pg_name (i := 3) sc_l_least.nd rfl (Or.inr rfl)) (src_list (pd_var 1 rfl r)) (upd_out hb (hb.free hL)) fun B2 H2 f2 => ?_
  refine ⟨fun i σ' Bi Hi => ∃ (o1 o2 : Option V) (acc : List Sg), σ' = [some vg, some v, some (.ref L), o1, o2, none] ∧ MuL K L (acc.map Sg.d) Bi Hi ∧ Fz (· = L) B2 H2 Bi Hi ∧ acc.length ≤ i ∧ (∀ s ∈ acc, s ∈ ss) ∧ (ss.take i).foldl (stepG ss) [] = acc, ?_, ?_, ?_⟩
  · exact ⟨_, _, [], rfl, (MuL.new hb hL).f0 f2, Fz.refl f2.bh, Nat.le_refl _, (fun s hs => nomatch hs), rfl⟩
  · rintro i σ' Bi Hi d x' By H' hi s1 s2 ⟨o1, o2, acc, rfl, m, fz, hl, hmem, hfold⟩ hd fy rd
    rw [List.getElem?_map] at hd
    obtain ⟨sg, hsg, rfl⟩ := Option.map_eq_some_iff.mp hd
    have hm := List.mem_of_getElem? hsg
    have rgy := ((rg.mono f2.bb).mono fz.bb).mono fy.bb
    have ry := ((r.mono f2.bb).mono fz.bb).mono fy.bb
    have my := m.f0 fy
    have hstep : (ss.take (i + 1)).foldl (stepG ss) [] = stepG ss acc sg := by
      rw [List.take_add_one, hsg, List.foldl_append, hfold]
      rfl
    refine ⟨_, gd_name, ?_⟩
    refine st_setL (i := 4) (d := sgsD (ss.filter fun t => !decide (t = sg))) (LD.cast (ld_genf [("_law_other", 5)] (pi_list pe_wp) (src_list (ds := ss.map Sg.d) (pd_var 1 rfl ry)) (g := gName 5) (f := id) (pr := fun z => !PyData.eqv z sg.d) rfl sc_l_least.nd (blkOk_by (N := N_l_least) (sc := defScope s_l_least) (by decide +kernel)) (fun _ _ _ _ _ => by exact pg_name (i := 5) sc_l_least.nd rfl (Or.inl rfl)) (by rw [List.length_map]; omega) fun d2 hd2 v4 B4 s4 r4 => ?_) (congrArg PyData.list (filter_sgs ss sg))) fy.bh fun v4 B4 H4 f4 r4 => ?_
    · obtain ⟨t, ht, rfl⟩ := List.mem_map.mp hd2
      exact ⟨_, gd_name, rfl, fun _ _ _ _ _ => CD.td (cd_ne hr (pd_var 5 rfl r4) (pd_var 3 rfl (rd.mono s4)) (shp_sg (okg t ht)) (shp_sg (okg sg hm))), fun _ _ _ _ _ _ => pd_var 5 rfl r4⟩
    have m4 := my.f0 f4
    refine st_if (p := !(acc.any fun t => decide (t = sg)) && !((ss.filter fun s => !decide (s = sg)).any fun o => brG [o] sg)) (TD.frz m4 f4.bh fun ac rac => ?_) (fun z B3 H3 f3 => ?_) fun z B3 H3 f3 => ?_
    · have sb : Same B4 (upd B4 L (.lst ac)) := upd_out (Same.refl _) m4.1
      have rd4 := (rd.mono f4.bb).mono sb
      refine WD.td (wd_and (CD.td (CD.cast (cd_notInL hr (pd_var 3 rfl rd4) (pd_var 2 rfl rac) (shp_sg (okg sg hm)) (shp_sgs fun t ht => okg t (hmem t ht)) (by rfl)) (by rw [any_eqv]))) fun _ => wd_and1 (td_not (td_val (PD.cast (pd_any (bs := (ss.filter fun s => !decide (s = sg)).map fun o => brG [o] sg) rfl (by rfl) T.any (PD.cast (LD.pd (ld_gen [("_law_other", 5)] (pi_list pe_wp) (src_list (ds := (ss.filter fun s => !decide (s = sg)).map Sg.d) (pd_var 4 rfl (r4.mono sb))) (g := gName 5) (f := fun d => .bool (brG [asSg1 d] sg)) rfl sc_l_least.nd (blkOk_by (N := N_l_least) (sc := defScope s_l_least) (by decide +kernel)) (fun _ _ _ _ _ => by exact pg_name (i := 5) sc_l_least.nd rfl (Or.inl rfl)) ?_ fun c hc v5 B5 s5 q5 => ⟨_, gd_name, rfl, fun _ _ _ _ _ => ?_⟩)) ?_)) ?_))))
      · rw [List.length_map]
        have := List.length_filter_le (fun s => !decide (s = sg)) ss
        omega
      · obtain ⟨t, ht, rfl⟩ := List.mem_map.mp hc
        have htm := (List.mem_filter.mp ht).1
        rw [asSg1_d]
        exact pd_call F1 hr (by decide) (by rfl) (ad_cons (pd_var 0 rfl (((rgy.mono f4.bb).mono sb).mono s5)) (ad_cons (pd_lst (ad_cons (pd_var 5 rfl q5) ad_nil) (show 1 ≤ 100000 by decide)) (ad_cons (pd_var 3 rfl (rd4.mono s5)) ad_nil))) ⟨[t], sg, rfl, fun u hu => by
          have : u = t := by simpa using hu
          rw [this]
          exact hss t htm, hss sg hm, (show 1 ≤ 50 by decide), rfl⟩
      · rw [List.map_map, List.map_map]
        refine congrArg PyData.list (List.map_congr_left fun t _ => ?_)
        show PyData.bool (brG [asSg1 t.d] sg) = _
        rw [asSg1_d]
        rfl
      · rw [List.any_map]
        rfl
    · have hstep2 : stepG ss acc sg = acc ++ [sg] := by
        unfold stepG
        rw [if_pos z]
      have hlen : i < ss.length := (List.getElem?_eq_some_iff.mp hsg).1
      refine st_app (j := 2) rfl (m4.f0 f3) f3.bh (by rw [List.length_map]; omega) (pd_var 3 rfl ((rd.mono f4.bb).mono f3.bb)) fun B5 H5 f5 H6 f6 m6 _ => ?_
      refine wpB_nil (wpB_nil ⟨B5, fz.bb.trans (fy.bb.trans (f4.bb.trans (f3.bb.trans f6.bb))), f6.bh, _, _, acc ++ [sg], rfl, ?_, (((fz.trans fy.to).trans f4.to).trans f3.to).trans f6, ?_, ?_, ?_⟩)
      · rw [List.map_append]
        exact m6
      · rw [List.length_append]
        exact Nat.succ_le_succ hl
      · intro t ht
        rcases List.mem_append.mp ht with ht | ht
        · exact hmem t ht
        · have : t = sg := by simpa using ht
          rw [this]
          exact hm
      · rw [hstep, hstep2]
    · have hstep2 : stepG ss acc sg = acc := by
        unfold stepG
        rw [if_neg (by rw [z]; decide)]
      exact wpB_nil ⟨B3, fz.bb.trans (fy.bb.trans (f4.bb.trans f3.bb)), f3.bh, _, _, acc, rfl, m4.f0 f3, ((fz.trans fy.to).trans f4.to).trans f3.to, Nat.le_succ_of_le hl, hmem, by rw [hstep, hstep2]⟩
  · rintro σ' Bi Hi s1 s2 ⟨o1, o2, acc, rfl, m, fz, hl, hmem, hfold⟩
    rw [List.length_map, List.take_length] at hfold
    refine st_retv (i := 2) rfl ?_
    obtain ⟨ac, hacc, rr⟩ := m.frz
    have e : leastG ss = acc := hfold
    rw [e] at q
    exact q _ _ Hi (Fz.frz hb hL (S := NoS) (f2.to.trans fz) (fun a h => .inr h) hacc m.1) rr
end
end K8

set_option Elab.async false
set_option linter.all false
set_option maxRecDepth 100000
set_option maxHeartbeats 400000
/-! K8sm: _law_same, of two equal data. -/
namespace K8
open PySem PySem.Spec PyProof.Rows L2
section
variable {X : Cx} {a b : Expr} {σ : L2.St} {B : Hp} {d : PyData} {ds : List PyData} {p q : Bool} {pos p1 p2 p3 p4 p5 tpos : Pos} {n kk : Nat} {elts : List Expr}
/-- isinstance(x, (T, U, Z)) -/
theorem pd_isi3 {T U Z : Str} (S S' S2 : Ty) (hg : Gl X "isinstance") (hm : X.mg "isinstance" = none)
    (hgT : Gl X T) (hmT : X.mg T = none) (hv : bootBuiltins T = some (.type S.nm)) (hgU : Gl X U) (hmU : X.mg U = none) (hu : bootBuiltins U = some (.type S'.nm)) (hgZ : Gl X Z) (hmZ : X.mg Z = none) (hz : bootBuiltins Z = some (.type S2.nm)) (ha : PD X a σ B d)
    (hn : T ≠ "__name__" := by decide) (hd : (T == ("__debug__" : Str)) = false := by decide) (hn' : U ≠ "__name__" := by decide) (hd' : (U == ("__debug__" : Str)) = false := by decide) (hn2 : Z ≠ "__name__" := by decide) (hd2 : (Z == ("__debug__" : Str)) = false := by decide)
    (he : starEach [a, .Tuple [.Name T p2, .Name U p3, .Name Z p5] n p4] X.env = (false, eval a X.env) :: starEach [.Tuple [.Name T p2, .Name U p3, .Name Z p5] n p4] X.env := by rfl) (hpl : (backTo pos (starEach [.Tuple [.Name T p2, .Name U p3, .Name Z p5] n p4] X.env)).any (·.1) = false := by rfl)
    (he2 : starEach [.Tuple [.Name T p2, .Name U p3, .Name Z p5] n p4] X.env = (false, eval (.Tuple [.Name T p2, .Name U p3, .Name Z p5] n p4) X.env) :: starEach [] X.env := by rfl)
    (he3 : starEach [.Name T p2, .Name U p3, .Name Z p5] X.env = (false, eval (.Name T p2) X.env) :: starEach [.Name U p3, .Name Z p5] X.env := by rfl) (he4 : starEach [.Name U p3, .Name Z p5] X.env = (false, eval (.Name U p3) X.env) :: starEach [.Name Z p5] X.env := by rfl) (he5 : starEach [.Name Z p5] X.env = (false, eval (.Name Z p5) X.env) :: starEach [] X.env := by rfl)
    (hp : (isT S d || (isT S' d || isT S2 d)) = p := by rfl) :
    PD X (.Call (.Name "isinstance" p1) [a, .Tuple [.Name T p2, .Name U p3, .Name Z p5] n p4] [] pos) σ B (.bool p) := hp ▸
  .of (pe_callB call_isiT hg hm (by decide +kernel) (pa_cons pe_wp (pa_cons (pe_tup (pa_cons (pe_bltn (v := .ty S.nm) hgT hmT hv rfl hn hd) (pa_cons (pe_bltn (v := .ty S'.nm) hgU hmU hu rfl hn' hd') (pa_cons (pe_bltn (v := .ty S2.nm) hgZ hmZ hz rfl hn2 hd2) pa_nil he5) he4) he3)) pa_nil he2) he) (he := he) (hpl := hpl)) fun H hb Q q => ha H hb _ fun v B1 H1 f1 r1 =>
    ⟨by show 3 ≤ sizeLine; decide, fun tp hp => ⟨v, tp, _, _, [.type S.nm, .type S'.nm, .type S2.nm], (isT S d || (isT S' d || isT S2 d)), rfl, upd_same, .cons (.ty S.nm) (.cons (.ty S'.nm) (.cons (.ty S2.nm) .nil)), (r1.mono (F0.new (o := .tup [.ty S.nm, .ty S'.nm, .ty S2.nm]) f1.bh hp).bb).ty (F0.new f1.bh hp).bh, by
      refine kitAny_cons (kit_ty (kit_all S d)) (fun z => ?_) fun z => by rw [z]; rfl
      rw [z]
      show PySem.W.kitAny X.K (.type (tyName d)) [.type S'.nm, .type S2.nm] = some (isT S' d || isT S2 d)
      refine kitAny_cons (kit_ty (kit_all S' d)) (fun z' => ?_) fun z' => by rw [z']; rfl
      rw [z']
      show PySem.W.kitAny X.K (.type (tyName d)) [.type S2.nm] = some (isT S2 d)
      refine kitAny_cons (kit_ty (kit_all S2 d)) (fun z2 => ?_) fun z2 => by rw [z2]
      rw [z2]
      exact kitAny_nil, q _ _ _ (f1.trans (F0.new f1.bh hp)) (.bl _)⟩⟩
/-- zip of two lists, of two tuples -/
theorem walk_zipT {K : PySem.W.Frag} {a b : Addr} {xs ys : List V} {n : Nat} (hn : n = min xs.length ys.length) : Walk (RZ.ItzT K a b) n (fun H => SqT K H a xs ∧ SqT K H b ys) (YPair (fun i => xs[i]?) (fun i => ys[i]?)) := by
  subst hn
  refine ⟨fun i _ hi q => ?_, fun _ q => ⟨xs, ys, q.1, q.2, by omega⟩, fun i H v H' _ q y => ?_⟩
  · have h1 : i < xs.length := by omega
    have h2 : i < ys.length := by omega
    exact ⟨xs, ys, xs[i], ys[i], q.1, q.2, by simp [h1], by simp [h2]⟩
  · obtain ⟨T, x, z, h1, h2, h3, h4, h5⟩ := y
    exact ⟨T, x, z, h1, h2, h3, h4 xs q.1, h5 ys q.2⟩
theorem src_zip (hq : seqOf d = some ds) (ha : PD X a σ B d) (hb' : PD X b σ B d) (hs : starEach [a, b] X.env = (false, eval a X.env) :: starEach [b] X.env := by rfl) (hs2 : starEach [b] X.env = (false, eval b X.env) :: starEach [] X.env := by rfl) :
    Src X.K (RZ.iZipA X.K (wpA X [a, b])) σ B ((List.range ds.length).map fun i => PyData.tuple [ds.getD i .none, ds.getD i .none]) := fun H hb Rr q =>
  ad_cons ha (ad_cons hb' ad_nil hs2) hs H hb _ fun vs B1 H1 f1 r1 => by
    obtain ⟨v, v2, rfl, r, r'⟩ := r1.two
    have key : ∀ {xs : List V}, RAll X.K B1 xs ds → ∀ i x, xs[i]? = some x → R X.K B1 x (ds.getD i .none) := fun ra i x e => by
      obtain ⟨d, hd, rd⟩ := ra.get' e
      rw [List.getD_eq_getElem?_getD, hd]
      exact rd
    cases d <;> simp [seqOf] at hq
    · subst hq
      obtain ⟨a, xs, rfl, hs, ra⟩ := r.lst_inv
      obtain ⟨b, ys, rfl, hs', ra'⟩ := r'.lst_inv
      exact ⟨a, b, xs, ys, rfl, .inl ⟨f1.bh.seq hs, f1.bh.seq hs', q _ B1 H1 f1 (yd_pair (walk_zip (xs := xs) (ys := ys) (by rw [ra.len, ra'.len]; omega)) (fun H' h' => ⟨h'.seq hs, h'.seq hs'⟩) (key ra) (key ra'))⟩⟩
    · subst hq
      obtain ⟨a, xs, rfl, hs, ra⟩ := r.tup_inv
      obtain ⟨b, ys, rfl, hs', ra'⟩ := r'.tup_inv
      exact ⟨a, b, xs, ys, rfl, .inr ⟨sqt_mono f1.bh hs, sqt_mono f1.bh hs', q _ B1 H1 f1 (yd_pair (walk_zipT (xs := xs) (ys := ys) (by rw [ra.len, ra'.len]; omega)) (fun H' h' => ⟨sqt_mono h' hs, sqt_mono h' hs'⟩) (key ra) (key ra'))⟩⟩
end
end K8

set_option Elab.async false
set_option linter.all false
set_option maxRecDepth 100000
set_option maxHeartbeats 400000
namespace K8
open PySem PySem.Spec PyProof.Rows L2
def okSame : Nat → PyData → Bool
  | _, .none => true
  | _, .bool _ => true
  | _, .int i => true
  | _, .str x => PyData.strOk x
  | n + 1, .list xs => decide (xs.length ≤ 1000) && xs.all (okSame n)
  | n + 1, .tuple xs => decide (xs.length ≤ 1000) && xs.all (okSame n)
  | _, _ => false
def R_l_same (n : Nat) : List PyData → PyData → Prop := fun ds d => ∃ x, ds = [x, x] ∧ okSame n x = true ∧ d = .bool true
theorem shp_bl (b : Bool) : SeqAt.shaped (.bool b) = true := by cases b <;> decide +kernel
theorem eqv_bl (a b : Bool) : PyData.eqv (.bool a) (.bool b) = decide (a = b) := by cases a <;> cases b <;> decide +kernel
theorem eqv_int (i j : Int) : PyData.eqv (.int i) (.int j) = decide (i = j) := by
  rw [PyData.eqv]
  by_cases h : i = j <;> simp [h]
theorem shp_int (i : Int) : SeqAt.shaped (.int i) = true := shaped_mk (by simp [PyData.canLay0]) (by simp [PyData.depth])
theorem eqv_non : PyData.eqv .none .none = true := by decide +kernel
theorem shp_non : SeqAt.shaped .none = true := by decide +kernel
section
variable {P : Program} {w : World} {K : PySem.W.Frag} {mg : Str → Option Value} {base : Heap}
theorem rd_same_seq {n : Nat} (T : Bl mg) (F1 : Fn P w K mg base CX0 "_law_same" (n + 1) ["_law_found", "_law_due"] (SpR K (R_l_same n))) {f : Addr} {cdv : Value} {A : Around} {outer : List Env} {s : Shared} {H : Hp} {E : XK} {B : Hp} {v1 v2 : V} {x : PyData} {xs : List PyData} (hr : Room (n + 1) (bx P w K mg base "_law_same" s_l_same N_l_same f cdv A outer s H E).A) (hq : seqOf x = some xs) (hl : xs.length ≤ 1000) (hall : xs.all (okSame n) = true) (r1 : R K B v1 x) (r2 : R K B v2 x) :
    RD (bx P w K mg base "_law_same" s_l_same N_l_same f cdv A outer s H E) (defBody s_l_same) (start N_l_same [v1, v2]) B (.bool true) := by
  refine rd_if (p := true) (td_val (pd_isi2 .list .tuple (by rfl) T.isinstance (by rfl) T.list (by decide +kernel) (by rfl) T.tuple (by decide +kernel) (pd_var 1 rfl r2) (hp := by cases x <;> first | rfl | cases hq))) (fun _ => ?_) fun z => nomatch z
  refine rd_if (p := false || false) (WD.td (wd_or (p := false) (q := false) (CD.td (CD.cast (cd_ne hr (pd_isi .list (by rfl) T.isinstance (by rfl) T.list (by decide +kernel) (pd_var 0 rfl r1)) (pd_isi .list (by rfl) T.isinstance (by rfl) T.list (by decide +kernel) (pd_var 1 rfl r2)) (shp_bl _) (shp_bl _)) (by rw [eqv_bl]; simp))) fun _ => wd_or1 (p := false) (CD.td (CD.cast (cd_ne hr (pd_isi .tuple (by rfl) T.isinstance (by rfl) T.tuple (by decide +kernel) (pd_var 0 rfl r1)) (pd_isi .tuple (by rfl) T.isinstance (by rfl) T.tuple (by decide +kernel) (pd_var 1 rfl r2)) (shp_bl _) (shp_bl _)) (by rw [eqv_bl]; simp))))) (fun z => by cases z) fun _ => ?_
  refine rd_ret (PD.cast (pd_and (p := true) (q := true) (PD.cast (CD.pd (cd_eq hr (pd_lenQ hq (by rfl) T.len (pd_var 0 rfl r1)) (pd_lenQ hq (by rfl) T.len (pd_var 1 rfl r2)) (shp_int _) (shp_int _))) (by rw [eqv_int]; simp)) fun _ => pd_one (PD.cast (pd_all (bs := (List.range xs.length).map fun _ => true) rfl (by rfl) T.all (PD.cast (LD.pd (ld_gen [("_law_one", 2), ("_law_other", 3)] (RZ.pi_zipA (by rfl) T.zip pa_wp) (src_zip hq (pd_var 0 rfl r1) (pd_var 1 rfl r2)) (f := fun _ => .bool true) (g := gTup K 2 (gCons (gName 2) (gCons (gName 3) gNil))) rfl sc_l_same.nd (blkOk_by (N := N_l_same) (sc := defScope s_l_same) (by decide +kernel)) (fun _ _ _ _ _ => by exact pg_tup rfl (pgs_cons (pg_name (i := 2) sc_l_same.nd rfl (Or.inl rfl)) (pgs_cons (pg_name (i := 3) sc_l_same.nd rfl (Or.inl rfl)) pgs_nil))) ?_ fun c hc v B3 s3 q3 => ?_)) ?_)) ?_)) rfl)
  · rw [List.length_map, List.length_range]
    omega
  · obtain ⟨i, hi, rfl⟩ := List.mem_map.mp hc
    have hi' := List.mem_range.mp hi
    obtain ⟨v3, v4, r3, r4, gd⟩ := gd_pair q3
    refine ⟨_, gd gd_name gd_name, rfl, fun _ _ _ _ _ => ?_⟩
    refine pd_call F1 hr (by omega) (by rfl) (ad_cons (pd_var 2 rfl r3) (ad_cons (pd_var 3 rfl r4) ad_nil)) ⟨xs.getD i .none, rfl, ?_, rfl⟩
    have : xs.getD i .none ∈ xs := by
      rw [List.getD_eq_getElem?_getD, List.getElem?_eq_getElem hi']
      exact List.getElem_mem hi'
    exact List.all_eq_true.mp hall _ this
  · rw [List.map_map, List.map_map]
    rfl
  · rw [List.all_map]
    simp
theorem rd_same_leaf {n : Nat} (T : Bl mg) {f : Addr} {cdv : Value} {A : Around} {outer : List Env} {s : Shared} {H : Hp} {E : XK} {B : Hp} {v1 v2 : V} {x : PyData} (hr : Room n (bx P w K mg base "_law_same" s_l_same N_l_same f cdv A outer s H E).A) (hok : okSame 0 x = true) (r1 : R K B v1 x) (r2 : R K B v2 x) :
    RD (bx P w K mg base "_law_same" s_l_same N_l_same f cdv A outer s H E) (defBody s_l_same) (start N_l_same [v1, v2]) B (.bool true) := by
  have hns : (isT .list x || isT .tuple x) = false := by cases x <;> first | rfl | cases hok
  have hnl : isT .list x = false := by cases x <;> first | rfl | cases hok
  have hnt : isT .tuple x = false := by cases x <;> first | rfl | cases hok
  refine rd_if (p := false) (td_val (pd_isi2 .list .tuple (by rfl) T.isinstance (by rfl) T.list (by decide +kernel) (by rfl) T.tuple (by decide +kernel) (pd_var 1 rfl r2) (hp := hns))) (fun z => nomatch z) fun _ => ?_
  have hsh : SeqAt.shaped x = true := by
    cases x with
    | none => exact shp_non
    | bool b => exact shp_bl b
    | int i => exact shp_int i
    | str z => exact shp_str hok
    | list xs => cases hok
    | tuple xs => cases hok
    | dict es => cases hok
  have heq : PyData.eqv x x = true := by
    cases x with
    | none => exact eqv_non
    | bool b => rw [eqv_bl]; simp
    | int i => rw [eqv_int]; simp
    | str z => rw [eqv_str]; simp
    | list xs => cases hok
    | tuple xs => cases hok
    | dict es => cases hok
  refine rd_if (p := isT .int x) (td_val (pd_isi .int (by rfl) T.isinstance (by rfl) T.int (by decide +kernel) (pd_var 1 rfl r2))) (fun z => ?_) fun z => ?_
  · exact rd_ret (PD.cast (pd_and (p := true) (q := true) (pd_isi .int (by rfl) T.isinstance (by rfl) T.int (by decide +kernel) (pd_var 0 rfl r1) (hp := z)) fun _ => pd_and (p := true) (q := true) (PD.cast (CD.pd (cd_eq hr (pd_isi .bool (by rfl) T.isinstance (by rfl) T.bool (by decide +kernel) (pd_var 0 rfl r1)) (pd_isi .bool (by rfl) T.isinstance (by rfl) T.bool (by decide +kernel) (pd_var 1 rfl r2)) (shp_bl _) (shp_bl _))) (by rw [eqv_bl]; simp)) fun _ => pd_one (PD.cast (CD.pd (cd_eq hr (pd_var 0 rfl r1) (pd_var 1 rfl r2) hsh hsh)) (by rw [heq]))) rfl)
  · refine rd_ret (PD.cast (pd_and (p := true) (q := true) (PD.cast (pd_not (pd_isi3 .int .list .tuple (by rfl) T.isinstance (by rfl) T.int (by decide +kernel) (by rfl) T.list (by decide +kernel) (by rfl) T.tuple (by decide +kernel) (pd_var 0 rfl r1))) (by rw [z, hnl, hnt]; rfl)) fun _ => pd_one (PD.cast (CD.pd (cd_eq hr (pd_var 0 rfl r1) (pd_var 1 rfl r2) hsh hsh)) (by rw [heq]))) rfl)
theorem fn_l_same (D : IsDef K mg "_law_same" s_l_same) (T : Bl mg) : ∀ n, Fn P w K mg base CX0 "_law_same" (n + 1) ["_law_found", "_law_due"] (SpR K (R_l_same n))
  | 0 => by
    refine fn_data D sc_l_same (fun ds d h => by obtain ⟨_, rfl, _⟩ := h; rfl) (fun _ _ _ _ _ _ us hl => match us, hl with | [_, _], _ => rfl) fun f cdv A outer s H E vs B ds d hr h ra => ?_
    obtain ⟨x, rfl, hok, rfl⟩ := h
    obtain ⟨v1, v2, rfl, r1, r2⟩ := ra.two
    exact rd_same_leaf T hr hok r1 r2
  | n + 1 => by
    have F1 := fn_l_same D T n
    refine fn_data D sc_l_same (fun ds d h => by obtain ⟨_, rfl, _⟩ := h; rfl) (fun _ _ _ _ _ _ us hl => match us, hl with | [_, _], _ => rfl) fun f cdv A outer s H E vs B ds d hr h ra => ?_
    obtain ⟨x, rfl, hok, rfl⟩ := h
    obtain ⟨v1, v2, rfl, r1, r2⟩ := ra.two
    have seq : ∀ xs, (decide (xs.length ≤ 1000) && xs.all (okSame n)) = true → seqOf x = some xs → RD (bx P w K mg base "_law_same" s_l_same N_l_same f cdv A outer s H E) (defBody s_l_same) (start N_l_same [v1, v2]) B (.bool true) := fun xs h hq => by
      rw [Bool.and_eq_true] at h
      exact rd_same_seq T F1 hr hq (of_decide_eq_true h.1) h.2 r1 r2
    cases x with
    | none => exact rd_same_leaf T hr rfl r1 r2
    | bool b => exact rd_same_leaf T hr rfl r1 r2
    | int i => exact rd_same_leaf T hr rfl r1 r2
    | str z => exact rd_same_leaf T hr (show okSame 0 (.str z) = true from hok) r1 r2
    | list xs => exact seq xs hok rfl
    | tuple xs => exact seq xs hok rfl
    | dict es => cases hok
end
end K8

set_option Elab.async false
set_option linter.all false
set_option maxRecDepth 100000
set_option maxHeartbeats 2000000
/-! K8tr: several clauses 'except X as n' of the one name n. -/
namespace K8
open PySem PySem.Spec PyProof.Rows L2
/-- what the clauses wish of an exception of the body, one after the other -/
def wManyA (K : PySem.W.Frag) (i : Nat) (Wout : WX) (D : Ends) : List (Value × (Addr → Value → Option Addr → TS)) → WX
  | [] => Wout
  | (c, ts) :: r => fun cls d σ H => ∃ b, PySem.W.exmOne K cls c = some b ∧ (b = true → ∀ a, H a = none → ts a cls d { nx := fun σ' H' => D.nx (σ'.set i none) H', rt := D.rt, bk := fun σ' H' => D.bk (σ'.set i none) H', ct := fun σ' H' => D.ct (σ'.set i none) H' } (σ.set i (some (.ref a))) H) ∧ (b = false → wManyA K i Wout D r cls d σ H)
inductive HdsA (X : Cx) (n : Str) : List ExceptHandler → List (Value × (Addr → Value → Option Addr → TS)) → Prop
  | nil : HdsA X n [] []
  | cons {x : Str} {c : Value} {ts : Addr → Value → Option Addr → TS} {b₀ : Stmt} {suite : List Stmt} {np pos' : Pos} {hds : List ExceptHandler} {l : List (Value × (Addr → Value → Option Addr → TS))} (hc : Names X x c)
      (hsu : ∀ (a : Addr) (oe : Obj) (cls : Value) (d : Option Addr) (pn : List (Addr × Obj)), Zc cls d oe → (∃ vs, oe.data = .fields vs) → PSs (X.suite a ((a, oe) :: pn)) (b₀ :: suite) (ts a cls d)) (r : HdsA X n hds l) :
      HdsA X n (.ExceptHandler (some (.Name x np)) (some n) (b₀ :: suite) pos' :: hds) ((c, ts) :: l)
section
variable {X : Cx} {n : Str} {i : Nat} {body : List Stmt} {h₀ : ExceptHandler} {hds : List ExceptHandler} {l : List (Value × (Addr → Value → Option Addr → TS))} {pos : Pos} {tb : WX → TS} {Wout : WX}
theorem ps_try_manyA (hN : X.N.Nodup) (hi : X.N[i]? = some n) (hln : X.env.kindOf n = some .local) (hs : X.stack = X.env :: X.outer) (hf : X.env.frame = some X.env.locals) (tk : Takes X Wout)
    (hb : ∀ (W : WX) (pn : List (Addr × Obj)) (xe : Value → Shared → Prop), Takes (X.tr pn xe) W → PassesOwn (model X.prog X.w) X.A X.env xe → PSs (X.tr pn xe) body (tb W))
    (hh : HdsA X n (h₀ :: hds) l) : PS X (.Try body (h₀ :: hds) [] [] pos) (fun D σ H => tb (wManyA X.K i Wout D l) D σ H) := by
  refine ⟨fun pins s σ H D I h => ?_⟩
  have ok := I.ok
  have hloc : Loc X.env.scope n := .inl hln
  have hfr : X.A.frames = some (X.env :: X.outer) := by rw [ok.frames, hs]
  refine wpAny_Try_except ?_
  refine wpAny_mono ((hb (wManyA X.K i Wout D l) (X.pn ++ pins) (fun e s₁ => wpAny (model X.prog X.w) X.A (noteFrame e X.env) (fun _ s₂ => wpAny (model X.prog X.w) X.A (setFlight e none) (fun _ s₃ =>
    wpAny (model X.prog X.w) X.A (handleBy e X.env (h₀ :: hds)) (SP X pins D) X.xe s₃) X.xe s₂) X.xe s₁) (fun u s' xx => ?_) PassesOwn.looking).run [] s σ H D (I.toTry _) h) (fun f s1 hsp => ?_) (fun e s1 he => he)
  · -- the catch
    obtain ⟨a, B, sI, pins', σ', H', cls, d, rfl, J', nb, up, sky, na, os, ag, w⟩ := xx
    have J : Inv X pins σ' H' sI := J'.ofTry ok
    have sky' : Sky B (X.env :: X.outer) a (Zc cls d) X.env.locals s'.heap := by rw [← hs]; exact sky
    show wpAny (model X.prog X.w) X.A (noteFrame (.ref a) X.env) _ _ _
    refine Sky.land Zc.steady hfr hf sky' fun h3 fl3 up3 => ?_
    have J3 : Inv X pins σ' H' { s' with heap := h3 } := J.landed nb fl3.1 (up.trans up3) os ag
    obtain ⟨oe3, vs3, he3, hz3, hd3⟩ := fl3.there
    have notFr : ∀ {h : Heap} {o : Obj} {vs : Array Value}, h.FunFrames B (X.env :: X.outer) → h.get? a = some o → o.data = .fields vs → a ∉ frs (X.env :: X.outer) := fun {h o vs} ff e dd hm => by
      obtain ⟨_, o', e', hnf⟩ := ff.mem hm
      rw [e] at e'; cases e'
      exact hnf _ dd
    have nfr := notFr fl3.2.2.1 he3 hd3
    have nL : a ≠ X.env.locals := fun z => nfr (List.mem_filterMap.mpr ⟨X.env, List.mem_cons_self, by rw [hf, z]⟩)
    have nF : a ∉ X.fs := fun hm => by
      obtain ⟨e, he, q⟩ := List.mem_filterMap.mp hm
      exact nfr (List.mem_filterMap.mpr ⟨e, List.mem_cons_of_mem _ he, q⟩)
    have S3 := J3.suite he3 hd3 na nL nF
    have go : ∀ {hds' : List ExceptHandler} {l' : List (Value × (Addr → Value → Option Addr → TS))}, HdsA X n hds' l' → wManyA X.K i Wout D l' cls d σ' H' →
        wpAny (model X.prog X.w) X.A (handleBy (.ref a) X.env hds') (SP X pins D) X.xe { s' with heap := h3 } := by
      intro hds' l' hk
      induction hk with
      | nil =>
        intro w
        refine wpAny_handleBy_nil ?_
        obtain ⟨k1, k2, k3, oe, vs, T, oT, ts', he, hz, hd, h1, hr⟩ := id fl3
        unfold PySem.passOn
        refine wpAny_bind (wpAny_field he hd h1 ?_)
        rw [if_neg (show ¬ ((Value.ref T == Value.none) = true) from by simp)]
        have fin : wpAny (model X.prog X.w) X.A (setFlight (.ref a) X.env.frame) (fun _ s4 => wpAny (model X.prog X.w) X.A (throw (.ref a) : Sem Flow) (SP X pins D) X.xe s4) X.xe { s' with heap := h3 } := by
          rw [hf]
          refine HandSPX.setFlight_upZ fl3 fun h4 hh4 up4 => wpAny_throw (tk _ _ ?_)
          exact ⟨a, B, sI, pins, σ', H', cls, d, rfl, J, nb, (up.trans up3).trans up4, .inr (.inr (by rw [hs]; exact hh4)), na, os, ag, w⟩
        first
          | exact wpAny_bind (wpAny_pure (wpAny_bind fin))
          | exact wpAny_bind fin
      | @cons x c ts b₀ suite np pos' hds2 l2 hc hsu r ih =>
        intro w
        obtain ⟨b, hb1, hyes, hno⟩ := w
        refine wpAny_handleBy_cons (codeAny_handlers_test ?_) (by intro q; cases q)
        have LT : PySem.W.Looks (model X.prog X.w) h3 (typeOf (.ref a)) cls := fun A Q E s k q => wpAny_typeOf_ref (k _ _ he3) (by rw [hz3.1]; exact q)
        have LM := PySem.W.exm_one (M := model X.prog X.w) (J3.kIn) LT hb1
        have test : ∀ {Q : Value → Shared → Prop} {E : Value → Shared → Prop}, Q c { s' with heap := h3 } → wpAny (model X.prog X.w) (X.A.mark (some (.ref a))) (eval (.Name x np) X.env) Q E { s' with heap := h3 } := fun {Q E} q => by
          obtain ⟨hg, hdbg, hm | ⟨hm, hv, hnn⟩⟩ := hc
          · exact ld_glob (X := X.suite a ((a, oe3) :: (X.pn ++ pins))) S3 hg hm q hdbg
          · exact ld_blt (X := X.suite a ((a, oe3) :: (X.pn ++ pins))) S3 hg hm hv q hnn hdbg
        refine test (LM.here ?_)
        cases b with
        | true =>
          refine codeAny_handlers_suite_as ?_
          refine HandSPX.lands_againZ fl3 fun h4 fl4 up4 => ?_
          have J4 : Inv X pins σ' H' { s' with heap := h4 } := J.landed nb fl4.1 ((up.trans up3).trans up4) os ag
          obtain ⟨oe4, vs4, he4, hz4, hd4⟩ := fl4.there
          have S4 := J4.suite he4 hd4 na nL nF
          refine store_ok (X := X.suite a ((a, oe4) :: (X.pn ++ pins))) (v := .ref a) S4 hN hi hloc rfl (fun s5 S5 => ?_) (.inr hln)
          refine wpAny_mono ((hsu a oe4 cls d (X.pn ++ pins) hz4 ⟨_, hd4⟩).run [] s5 _ H' _ S5 (hyes rfl a na)) (fun f s6 hsp => ?_) (fun _ _ z => False.elim z)
          have end_ : ∀ {σ6 : L2.St} {H6 : Hp} {Q : Shared → Prop}, Inv (X.suite a ((a, oe4) :: (X.pn ++ pins))) [] σ6 H6 s6 → (∀ s7, Inv X pins (σ6.set i none) H6 s7 → Q s7) →
              wpAny (model X.prog X.w) X.A (do bindName X.env n .none; unbindBehindTheSuite X.env n pos') (fun _ s7 => Q s7) X.xe s6 := fun {σ6 H6 Q} S6 hq => gone_ok (S6.unsuite ok) hN hi hln hq
          cases f with
          | next =>
            obtain ⟨σ6, H6, S6, q6⟩ := hsp
            exact end_ S6 fun s7 J7 => ⟨_, _, J7, q6⟩
          | brk =>
            obtain ⟨σ6, H6, S6, q6⟩ := hsp
            exact end_ S6 fun s7 J7 => ⟨_, _, J7, q6⟩
          | cont =>
            obtain ⟨σ6, H6, S6, q6⟩ := hsp
            exact end_ S6 fun s7 J7 => ⟨_, _, J7, q6⟩
          | ret u =>
            obtain ⟨v6, σ6, H6, S6, r6, q6⟩ := hsp
            exact end_ S6 fun s7 J7 => ⟨_, _, _, J7, r6, q6⟩
        | false =>
          show wpAny _ X.A (handleBy (.ref a) X.env hds2) _ _ _
          exact ih (hno rfl)
    exact go hh w
  · cases f with
    | next =>
      obtain ⟨σ', H', J', q⟩ := hsp
      exact wpAny_execs_nil ⟨σ', H', J'.ofTry ok, q⟩
    | brk =>
      obtain ⟨σ', H', J', q⟩ := hsp
      exact ⟨σ', H', J'.ofTry ok, q⟩
    | cont =>
      obtain ⟨σ', H', J', q⟩ := hsp
      exact ⟨σ', H', J'.ofTry ok, q⟩
    | ret u =>
      obtain ⟨v, σ', H', J', r, q⟩ := hsp
      exact ⟨v, σ', H', J'.ofTry ok, r, q⟩
end

/-! ### tried -/
def trD : Out → PyData
  | .ok d => .tuple [.str "told", d]
  | .error (.sight i) => .tuple [.str "sight", .int (i : Nat)]
  | .error (.look d) => .tuple [.str "look", d]
  | .error (.apart i j) => .tuple [.str "apart", .tuple [.int (i : Nat), .int (j : Nat)]]
structure Cls3 (K : PySem.W.Frag) (mg : Str → Option Value) (CS CL CA : Addr) : Prop where
  mS : mg "BadSight" = some (.ref CS)
  mL : mg "BadLook" = some (.ref CL)
  mA : mg "Apart" = some (.ref CA)
  xS : XfC K CS
  xL : XfC K CL
  xA : XfC K CA
  nS : PySem.W.findIn K (.ref CS) "index" = some none
  nL : PySem.W.findIn K (.ref CL) "look" = some none
  nA1 : PySem.W.findIn K (.ref CA) "first" = some none
  nA2 : PySem.W.findIn K (.ref CA) "second" = some none
  ss : PySem.W.exmOne K (.ref CS) (.ref CS) = some true
  ls : PySem.W.exmOne K (.ref CL) (.ref CS) = some false
  ll : PySem.W.exmOne K (.ref CL) (.ref CL) = some true
  as : PySem.W.exmOne K (.ref CA) (.ref CS) = some false
  al : PySem.W.exmOne K (.ref CA) (.ref CL) = some false
  aa : PySem.W.exmOne K (.ref CA) (.ref CA) = some true
/-- what tried makes of the lambda's reading -/
def TTr (K : PySem.W.Frag) (mg : Str → Option Value) : (XK → Hp → VK → Prop) → Hp → VK → Prop := fun tl H Q => ∃ (o : Out) (B : Hp), Same B H ∧
  (∀ (E' : XK) (Q' : VK), (∀ d, o = .ok d → ∀ v B' H', F0 B H B' H' → R K B' v d → Q' v H') → (∀ er, o = .error er → ∀ cls dd B' H', F0 B H B' H' → IsErr K mg B' cls dd er → E' cls dd H') → tl E' H Q') ∧
  (∀ v B' H', F0 B H B' H' → R K B' v (trD o) → Q v H')
theorem r_tup {K : PySem.W.Frag} {B H : Hp} {p : Addr} {vs : List V} {ds : List PyData} (hb : Same B H) (n : H p = none) (r : RAll K B vs ds) : F0 B H (upd B p (.tup vs)) (upd H p (.tup vs)) ∧ R K (upd B p (.tup vs)) (.ref p) (.tuple ds) := ⟨F0.new hb n, r_upd_t hb n r⟩
theorem takes_len {X : Cx} {W : WX} (t : Takes X W) : Takes X (fun cls d σ H => σ.length = X.N.length → W cls d σ H) := fun u s' ⟨a, B, sI, pins, σ, H, cls, d, e, I, nb, up, sky, na, os, ag, w⟩ =>
  t u s' ⟨a, B, sI, pins, σ, H, cls, d, e, I, nb, up, sky, na, os, ag, w I.len⟩
abbrev teAsk (f c' : Addr) (q : Str) (tl : XK → Hp → VK → Prop) (Ech : XK) : TE := fun σZ HZ Q => σZ[0]? = some (some (.ref f)) ∧ HZ c' = some (LamX.CodeO c' q) ∧ tl Ech HZ Q
theorem tried_gives {X : Cx} {g CS CL CA : Addr} {cdg : Value} {q : Str} (C : Cls3 X.K X.mg CS CL CA) : LamX.GivesTo X N_l_tried "_law_tried" (defScope s_l_tried) g cdg (defBody s_l_tried) "_law_ask" q (TTr X.K X.mg) := by
  intro f c' s H Q tl act hc h
  obtain ⟨o, B, hb, htl, hq⟩ := h
  refine ⟨_, pss_one (ps_try_manyA (X := (cxOf C8.CX0 X.prog X.w X.K X.mg X.base N_l_tried "_law_tried" (defScope s_l_tried) g cdg X.A X.stack s H C8.E0).nox) (i := 1)
      (tb := fun W D σ H => ∃ Ech : XK, (∀ cls d σ' H', Ech cls d H' → σ'.length = 2 → W cls d σ' H') ∧ tTup (tCons (tC (.str "told")) (tCons (teAsk f c' q tl Ech) tNil)) σ H D.rt)
      sc_l_tried.nd rfl (by rfl) rfl rfl LamX.takes0 (fun W pn xe tk _ => ?_)
      (.cons (c := .ref CS) ⟨by rfl, by decide, .inl C.mS⟩ (fun a oe cls d pn hz hf => pss_one (ps_ret (pe_tup (pa_cons pe_str (pa_cons (pe_xf C.xS C.nS hz hf (pe_var (i := 1) rfl (Or.inl rfl) (by decide) (by decide))) pa_nil)))))
        (.cons (c := .ref CL) ⟨by rfl, by decide, .inl C.mL⟩ (fun a oe cls d pn hz hf => pss_one (ps_ret (pe_tup (pa_cons pe_str (pa_cons (pe_xf C.xL C.nL hz hf (pe_var (i := 1) rfl (Or.inl rfl) (by decide) (by decide))) pa_nil)))))
          (.cons (c := .ref CA) ⟨by rfl, by decide, .inl C.mA⟩ (fun a oe cls d pn hz hf => pss_one (ps_ret (pe_tup (pa_cons pe_str (pa_cons (pe_tup (pa_cons (pe_xf C.xA C.nA1 hz hf (pe_var (i := 1) rfl (Or.inl rfl) (by decide) (by decide))) (pa_cons (pe_xf C.xA C.nA2 hz hf (pe_var (i := 1) rfl (Or.inl rfl) (by decide) (by decide))) pa_nil))) pa_nil)))))
            .nil)))), ?_⟩
  · refine ⟨fun pins s' σ H' D I h' => ?_⟩
    obtain ⟨Ech, hW, h1⟩ := h'
    have hp := act (fun cls d σ H => σ.length = 2 → W cls d σ H) pn xe Ech ⟨0, 0, 0, 0⟩ ⟨0, 0, 0, 0⟩ (takes_len tk) hW
    exact (pss_one (ps_ret (pe_tup (pa_cons pe_str (pa_cons (act (fun cls d σ H => σ.length = 2 → W cls d σ H) pn xe Ech _ _ (takes_len tk) hW) pa_nil))))).run pins s' σ H' D I h1
  · refine ⟨fun cls d H' => ∃ er B', o = .error er ∧ F0 B H B' H' ∧ IsErr X.K X.mg B' cls d er, ?_, ?_⟩
    · rintro cls d σ' H' ⟨er, B', eo, f1, C1, dx, fs, hm, rfl, rfl, hB, hfl⟩ hl
      have h1 : ∀ a : Addr, (σ'.set 1 (some (V.ref a)))[1]? = some (some (V.ref a)) := fun a => List.getElem?_set_self (by omega)
      have hH := f1.bh _ _ hB
      subst eo
      cases er with
      | sight i =>
        obtain rfl : C1 = CS := by
          have := hm.symm.trans C.mS
          cases this
          rfl
        obtain ⟨v, hv, r⟩ := hfl ("index", .int (i : Nat)) (by simp [Err.fl])
        exact ⟨true, C.ss, fun _ a ha => ⟨.ref a, h1 a, rfl, rfl, dx, fs, v, rfl, hH, hv, (show 2 ≤ 16777216 by decide), fun p hp => hq _ _ _ (f1.trans (r_tup f1.bh hp (.cons (.str "sight") (.cons r .nil))).1) (r_tup f1.bh hp (.cons (.str "sight") (.cons r .nil))).2⟩, fun z => nomatch z⟩
      | look d1 =>
        obtain rfl : C1 = CL := by
          have := hm.symm.trans C.mL
          cases this
          rfl
        obtain ⟨v, hv, r⟩ := hfl ("look", d1) (by simp [Err.fl])
        exact ⟨false, C.ls, (fun z => nomatch z), fun _ => ⟨true, C.ll, fun _ a ha => ⟨.ref a, h1 a, rfl, rfl, dx, fs, v, rfl, hH, hv, (show 2 ≤ 16777216 by decide), fun p hp => hq _ _ _ (f1.trans (r_tup f1.bh hp (.cons (.str "look") (.cons r .nil))).1) (r_tup f1.bh hp (.cons (.str "look") (.cons r .nil))).2⟩, fun z => nomatch z⟩⟩
      | apart i j =>
        obtain rfl : C1 = CA := by
          have := hm.symm.trans C.mA
          cases this
          rfl
        obtain ⟨v, hv, r⟩ := hfl ("first", .int (i : Nat)) (by simp [Err.fl])
        obtain ⟨u, hu, r'⟩ := hfl ("second", .int (j : Nat)) (by simp [Err.fl])
        refine ⟨false, C.as, (fun z => nomatch z), fun _ => ⟨false, C.al, (fun z => nomatch z), fun _ => ⟨true, C.aa, fun _ a ha => ⟨.ref a, h1 a, rfl, rfl, dx, fs, v, rfl, hH, hv, .ref a, h1 a, rfl, rfl, dx, fs, u, rfl, hH, hu, (show 2 ≤ 16777216 by decide), fun p hp => ?_⟩, fun z => nomatch z⟩⟩⟩
        have t1 := r_tup f1.bh hp (.cons r (.cons r' .nil))
        refine ⟨(show 2 ≤ 16777216 by decide), fun p2 hp2 => ?_⟩
        have t2 := r_tup t1.1.bh hp2 (.cons (.str "apart") (.cons t1.2 .nil))
        exact hq _ _ _ ((f1.trans t1.1).trans t2.1) t2.2
    · refine ⟨rfl, hc, htl _ _ (fun d ed v B' H' f1 r => ⟨(show 2 ≤ 16777216 by decide), fun p hp => ?_⟩) fun er ee cls dd B' H' f1 ie => ⟨er, B', ee, f1, ie⟩⟩
      have t1 := r_tup f1.bh hp (.cons (.str "told") (.cons r .nil))
      subst ed
      exact hq _ _ _ (f1.trans t1.1) t1.2
end K8

set_option Elab.async false
set_option linter.all false
set_option maxRecDepth 100000
set_option maxHeartbeats 400000
/-! K8pl: the plain law: rows as masks. -/
namespace K8
open PySem PySem.Spec PyProof.Rows L2
def mskL (p : Rw → Bool) : List Rw → Nat
  | [] => 0
  | r :: rs => 2 * mskL p rs + (p r).toNat
theorem mskL_bit (p : Rw → Bool) : ∀ (l : List Rw) (i : Nat), (mskL p l).testBit i = match l[i]? with
    | some r => p r
    | none => false
  | [], i => by simp [mskL]
  | r :: rs, 0 => by
    rw [mskL, Nat.testBit_zero]
    show decide ((2 * mskL p rs + (p r).toNat) % 2 = 1) = p r
    cases p r
    · exact decide_eq_false (by show ¬ ((2 * mskL p rs + 0) % 2 = 1); omega)
    · exact decide_eq_true (by show (2 * mskL p rs + 1) % 2 = 1; omega)
  | r :: rs, i + 1 => by
    rw [mskL, Nat.testBit_succ, show (2 * mskL p rs + (p r).toNat) / 2 = mskL p rs by cases p r <;> (first | (show (2 * mskL p rs + 0) / 2 = mskL p rs; omega) | (show (2 * mskL p rs + 1) / 2 = mskL p rs; omega)), mskL_bit p rs i]
    simp
theorem mskL_and (p q : Rw → Bool) (l : List Rw) : mskL p l &&& mskL q l = mskL (fun r => p r && q r) l := by
  refine Nat.eq_of_testBit_eq fun i => ?_
  rw [Nat.testBit_and, mskL_bit, mskL_bit, mskL_bit]
  cases l[i]? <;> rfl
theorem mskL_zero (p : Rw → Bool) (l : List Rw) : mskL p l = 0 ↔ ∀ r ∈ l, p r = false := by
  constructor
  · intro h r hr
    obtain ⟨i, hi, e⟩ := List.mem_iff_getElem.mp hr
    have hb := mskL_bit p l i
    rw [h, List.getElem?_eq_getElem hi, e] at hb
    simpa using hb.symm
  · intro h
    refine Nat.eq_of_testBit_eq fun i => ?_
    rw [mskL_bit]
    cases e : l[i]? with
    | none => simp
    | some r => simpa using h r (List.mem_of_getElem? e)
theorem mskL_sub (p q : Rw → Bool) (l : List Rw) : mskL p l &&& mskL q l = mskL p l ↔ ∀ r ∈ l, p r = true → q r = true := by
  rw [mskL_and]
  constructor
  · intro h r hr hp
    obtain ⟨i, hi, e⟩ := List.mem_iff_getElem.mp hr
    have hb := congrArg (fun n => n.testBit i) h
    simp only [mskL_bit, List.getElem?_eq_getElem hi, e] at hb
    rw [hp] at hb
    simpa using hb
  · intro h
    refine Nat.eq_of_testBit_eq fun i => ?_
    rw [mskL_bit, mskL_bit]
    cases e : l[i]? with
    | none => rfl
    | some r =>
      have := h r (List.mem_of_getElem? e)
      show (p r && q r) = p r
      cases hp : p r
      · rfl
      · rw [this hp]; rfl
def msk (s : Sg) : Nat := mskL (fun r => hasB r s) gridW
def mskS (ss : List Sg) : Nat := mskL (fun r => ss.all fun s => hasB r s) gridW
theorem have_nil (ss : List Sg) : haveG ss = [] ↔ mskS ss = 0 := by
  unfold haveG mskS
  rw [mskL_zero, List.filter_eq_nil_iff]
  simp
theorem br_sub (ss : List Sg) (t : Sg) : brG ss t = true ↔ mskS ss &&& msk t = mskS ss := by
  unfold brG haveG mskS msk
  rw [mskL_sub, List.all_eq_true]
  constructor
  · intro h r hr hp
    exact h r (List.mem_filter.mpr ⟨hr, hp⟩)
  · intro h r hr
    exact h r (List.mem_filter.mp hr).1 (List.mem_filter.mp hr).2
theorem msk_one (s : Sg) : mskS [s] = msk s := by
  unfold mskS msk
  congr 1
  funext r
  simp
theorem msk_two (s t : Sg) : mskS [s, t] = msk s &&& msk t := by
  unfold mskS msk
  rw [mskL_and]
  congr 1
  funext r
  simp
/-! ### the table -/
/- what stands in rows beyond the asked answers -/
def exT : List Sg := [⟨⟨false, "a"⟩, .tx "new"⟩, ⟨⟨true, "a"⟩, .nm ["b", "w"]⟩, ⟨⟨true, "a"⟩, .nm ["b", "w", "z"]⟩, ⟨⟨true, "a"⟩, .nm ["w"]⟩, ⟨⟨true, "a"⟩, .nm ["w", "z"]⟩, ⟨⟨true, "a"⟩, .nm ["b/", "w"]⟩, ⟨⟨true, "a"⟩, .nm ["b/", "w", "z"]⟩, ⟨⟨false, "a/b"⟩, .tx "new"⟩, ⟨⟨true, "a/b"⟩, .nm ["w"]⟩, ⟨⟨true, "a/b"⟩, .nm ["k", "w"]⟩, ⟨⟨true, "a/b"⟩, .nm ["v"]⟩, ⟨⟨false, "a/b/k"⟩, .tx "new"⟩, ⟨⟨false, "a/z"⟩, .tx "new"⟩, ⟨⟨false, "d"⟩, .tx "new"⟩]
def mkS : List Nat := [0xffffff00ffffffffffffffffffffffffffffffffffffffffffffffff, 0xf000000000000000000000000000000000000000000000000, 0xff00000000000000000000000000000000000000000000000f, 0xf00000f0, 0xf0000000f00000f00000f00000f00000f000000000000000000, 0xff0000ff00, 0xff000000ff0000ff0000ff0000ff0000ff0000000000000000000, 0xff0000000000000, 0xfffffffffffffffffffffffffffffffffffffffffff000000000000f, 0xffffff0, 0xff000000000000000000000000000000ffffffffffffffffff, 0xffffffffffff000000000000000000, 0xffffffff000000000000ffffff000000000000ffffffffffffffffff, 0xffffff000000000000ffffff000000000000000000, 0xf00fff00f00f00f00f00f00f00f00f00f00f00f0000f00f00f00ff, 0xf00f0000f00f00f00f00f00f00f00f00f00f00f00f0f00f00f00f00, 0x11111111111111111111111111111111111111111111111111111111, 0x22222222222222222222222222222222222222222222222222222222, 0x44444444444444444444444444444444444444444444444444444444]
def mkX : List Nat := [0xf0000000000000000000000000000000000000000000000000, 0xf00000f0000, 0xff0000ff00000, 0xf000000000000000, 0xff0000000000000000, 0xf0000000f00000f00000f00000f00000f000000000000000000000, 0xff000000ff0000ff0000ff0000ff0000ff0000000000000000000000, 0xffffff0000000, 0xffffff000000000000000000000000000000, 0xffffffffffff000000000000000000000000000000000000, 0xffffff00000000000000000000000000000000000000000000000000, 0xffffff000000000000ffffff000000000000000000000000, 0xf00f0000f00f00f00f00f00f00f00f00f00f00f00f0f00f00f00f000, 0x88888888888888888888888888888888888888888888888888888888]
def TT9 : List Sg := S19 ++ exT
def mkT : List Nat := mkS ++ mkX
def fullM : Nat := 2 ^ 224 - 1
theorem mkS_ok : S19.map msk = mkS := by decide +kernel
theorem mkX_ok : exT.map msk = mkX := by decide +kernel
theorem mkT_ok : TT9.map msk = mkT := by
  unfold TT9 mkT
  rw [List.map_append, mkS_ok, mkX_ok]
theorem full_ok : mskL (fun _ => true) gridW = fullM := by decide +kernel
theorem tt_tab : (gridW.all fun r => looksL.all fun k => match rGet r k with
    | some a => decide ((⟨k, a⟩ : Sg) ∈ TT9)
    | none => false) = true := by decide +kernel
theorem row_at {r : Rw} (hr : r ∈ gridW) {k : Lk} (hk : k ∈ looksL) : ∃ a, rGet r k = some a ∧ (⟨k, a⟩ : Sg) ∈ TT9 := by
  have := List.all_eq_true.mp (List.all_eq_true.mp tt_tab r hr) k hk
  cases e : rGet r k with
  | none =>
    rw [e] at this
    cases this
  | some a =>
    rw [e] at this
    exact ⟨a, rfl, of_decide_eq_true this⟩
theorem zip_mk (l : List Sg) {s : Sg} (h : s ∈ l) : (s, msk s) ∈ l.zip (l.map msk) := by
  induction l with
  | nil => cases h
  | cons a l ih =>
    rw [List.map_cons, List.zip_cons_cons]
    rcases List.mem_cons.mp h with h | h
    · rw [h]
      exact List.mem_cons_self
    · exact List.mem_cons_of_mem _ (ih h)
theorem zipS {s : Sg} (h : s ∈ S19) : (s, msk s) ∈ S19.zip mkS := by
  rw [← mkS_ok]
  exact zip_mk S19 h
theorem zipT {s : Sg} (h : s ∈ TT9) : (s, msk s) ∈ TT9.zip mkT := by
  rw [← mkT_ok]
  exact zip_mk TT9 h
theorem ap_tab : ((S19.zip mkS).all fun p => (S19.zip mkS).all fun q => apartB p.1 q.1 == Nat.beq (Nat.land p.2 q.2) 0) = true := by decide +kernel
theorem br_tab : ((S19.zip mkS).all fun p => (TT9.zip mkT).all fun q => decide (brings p.1 q.1.k = some (some q.1.a)) == Nat.beq (Nat.land p.2 q.2) p.2) = true := by decide +kernel
theorem bj_tab : (S19.all fun s => looksL.all fun k => match brings s k with
    | some (some a) => decide ((⟨k, a⟩ : Sg) ∈ TT9)
    | some none => true
    | none => false) = true := by decide +kernel
theorem beq_iff (a b : Nat) : Nat.beq a b = true ↔ a = b := ⟨Nat.eq_of_beq_eq_true, fun h => by rw [h]; exact Nat.beq_refl b⟩
theorem apart_have {s t : Sg} (hs : s ∈ S19) (ht : t ∈ S19) : apartB s t = decide (haveG [s, t] = []) := by
  have h := List.all_eq_true.mp (List.all_eq_true.mp ap_tab _ (zipS hs)) _ (zipS ht)
  have e : apartB s t = Nat.beq (Nat.land (msk s) (msk t)) 0 := beq_iff_eq.mp h
  rw [e, Bool.eq_iff_iff, beq_iff, decide_eq_true_eq, have_nil, msk_two]
  exact Iff.rfl
theorem brings_br {s t : Sg} (hs : s ∈ S19) (ht : t ∈ TT9) : brings s t.k = some (some t.a) ↔ brG [s] t = true := by
  have h := List.all_eq_true.mp (List.all_eq_true.mp br_tab _ (zipS hs)) _ (zipT ht)
  have e : decide (brings s t.k = some (some t.a)) = Nat.beq (Nat.land (msk s) (msk t)) (msk s) := beq_iff_eq.mp h
  rw [br_sub, msk_one, ← decide_eq_true_eq (p := brings s t.k = some (some t.a)), e, beq_iff]
  exact Iff.rfl
/-! ### sights of which no two are apart -/
def goC : List Nat → Nat → List Nat → List Nat → Bool
  | [], M, _, rem => !(Nat.beq M 0) && rem.all fun t => !Nat.beq (Nat.land M t) M
  | s :: r, M, ch, rem => goC r M ch rem && (ch.any (fun c => Nat.beq (Nat.land c s) 0) || goC r (Nat.land M s) (s :: ch) (rem.filter fun t => !Nat.beq (Nat.land s t) s))
theorem goC_tab : goC mkS fullM [] mkT = true := by decide +kernel
theorem goC_ok : ∀ (rest : List Nat) (M : Nat) (ch rem : List Nat), goC rest M ch rem = true → ∀ sub : List Nat, sub.Sublist rest → (∀ c ∈ ch, ∀ s ∈ sub, Nat.land c s ≠ 0) → sub.Pairwise (fun c s => Nat.land c s ≠ 0) →
    sub.foldl Nat.land M ≠ 0 ∧ ∀ t ∈ rem, Nat.land (sub.foldl Nat.land M) t = sub.foldl Nat.land M → ∃ s ∈ sub, Nat.land s t = s
  | [], M, ch, rem, h, sub, hs, hc, hp => by
    have e : sub = [] := List.sublist_nil.mp hs
    subst e
    rw [goC, Bool.and_eq_true] at h
    obtain ⟨h1, h2⟩ := h
    refine ⟨fun z => ?_, fun t ht e => ?_⟩
    · rw [Bool.not_eq_true', ← Bool.not_eq_true, beq_iff] at h1
      exact h1 z
    · have := List.all_eq_true.mp h2 t ht
      rw [Bool.not_eq_true', ← Bool.not_eq_true, beq_iff] at this
      exact absurd e this
  | s :: r, M, ch, rem, h, sub, hs, hc, hp => by
    rw [goC, Bool.and_eq_true] at h
    obtain ⟨h1, h2⟩ := h
    cases hs with
    | cons _ hs => exact goC_ok r M ch rem h1 sub hs hc hp
    | @cons_cons l1 _ _ hs =>
      have hn : ch.any (fun c => Nat.beq (Nat.land c s) 0) = false := by
        rw [List.any_eq_false]
        intro c hcc
        rw [beq_iff]
        exact hc c hcc s List.mem_cons_self
      rw [hn, Bool.false_or] at h2
      rw [List.pairwise_cons] at hp
      obtain ⟨g1, g2⟩ := goC_ok r (Nat.land M s) (s :: ch) _ h2 l1 hs (fun c hcc t ht => by
        rcases List.mem_cons.mp hcc with e | e
        · rw [e]
          exact hp.1 t ht
        · exact hc c e t (List.mem_cons_of_mem _ ht)) hp.2
      rw [List.foldl_cons]
      refine ⟨g1, fun t ht e => ?_⟩
      by_cases hb : Nat.land s t = s
      · exact ⟨s, List.mem_cons_self, hb⟩
      · obtain ⟨s2, h3, h4⟩ := g2 t (List.mem_filter.mpr ⟨ht, by rw [Bool.not_eq_true', ← Bool.not_eq_true, beq_iff]; exact hb⟩) e
        exact ⟨s2, List.mem_cons_of_mem _ h3, h4⟩
theorem foldl_bit (i : Nat) : ∀ (l : List Sg) (M : Nat), ((l.map msk).foldl Nat.land M).testBit i = (M.testBit i && l.all fun s => (msk s).testBit i)
  | [], M => by simp
  | s :: l, M => by
    rw [List.map_cons, List.foldl_cons, foldl_bit i l, List.all_cons, ← Bool.and_assoc]
    congr 1
    exact Nat.testBit_and M (msk s) i
theorem clique {ss : List Sg} (hs : ∀ s ∈ ss, s ∈ S19) (hp : ∀ a ∈ ss, ∀ b ∈ ss, haveG [a, b] ≠ []) : haveG ss ≠ [] ∧ ∀ t ∈ TT9, brG ss t = true → ∃ s ∈ ss, brG [s] t = true := by
  have nz : ∀ a ∈ ss, ∀ b ∈ ss, Nat.land (msk a) (msk b) ≠ 0 := fun a ha b hb z => hp a ha b hb ((have_nil _).mpr ((msk_two a b).trans z))
  have hM : mskS ss = (((S19.filter fun s => decide (s ∈ ss)).map msk).foldl Nat.land fullM) := by
    refine Nat.eq_of_testBit_eq fun i => ?_
    rw [foldl_bit, ← full_ok, mskL_bit]
    unfold mskS
    rw [mskL_bit]
    cases e : gridW[i]? with
    | none => rfl
    | some r =>
      show (ss.all fun s => hasB r s) = _
      rw [Bool.true_and, Bool.eq_iff_iff, List.all_eq_true, List.all_eq_true]
      have hb : ∀ s, (msk s).testBit i = hasB r s := fun s => by
        unfold msk
        rw [mskL_bit, e]
      constructor
      · intro h s hm
        rw [hb]
        exact h s (of_decide_eq_true (List.mem_filter.mp hm).2)
      · intro h s hm
        have := h s (List.mem_filter.mpr ⟨hs s hm, decide_eq_true hm⟩)
        rwa [hb] at this
  obtain ⟨g1, g2⟩ := goC_ok mkS fullM [] mkT goC_tab _ (by rw [← mkS_ok]; exact (List.filter_sublist (p := fun s => decide (s ∈ ss)) (l := S19)).map msk) (fun c hc => nomatch hc) (by
    rw [List.pairwise_map]
    refine List.Pairwise.imp_of_mem (R := fun _ _ => True) (fun {a b} ha hb _ => nz a (of_decide_eq_true (List.mem_filter.mp ha).2) b (of_decide_eq_true (List.mem_filter.mp hb).2)) ?_
    exact List.pairwise_of_forall fun _ _ => True.intro)
  rw [← hM] at g1 g2
  refine ⟨fun z => g1 ((have_nil ss).mp z), fun t ht hbr => ?_⟩
  obtain ⟨m, hm, e⟩ := g2 (msk t) (by rw [← mkT_ok]; exact List.mem_map_of_mem ht) ((br_sub ss t).mp hbr)
  obtain ⟨s, hsm, rfl⟩ := List.mem_map.mp hm
  exact ⟨s, of_decide_eq_true (List.mem_filter.mp hsm).2, (br_sub [s] t).mpr (by rw [msk_one]; exact e)⟩
end K8

set_option Elab.async false
set_option linter.all false
set_option maxRecDepth 100000
set_option maxHeartbeats 400000
/-! K8ez: heaps in which tables of code objects grow; steps that hand a lambda to tried. -/
namespace K8
open PySem PySem.Spec PyProof.Rows L2
/-! ### but for the tables -/
def NoT (o : HO) : Prop := ∀ ps, o ≠ .tbl ps
def NT (B : Hp) : Prop := ∀ a o, B a = some o → NoT o
def nt (B : Hp) : Hp := fun a => match B a with
  | some (.tbl _) => none
  | o => o
theorem nt_inv {B : Hp} {a : Addr} {o : HO} (h : nt B a = some o) : B a = some o ∧ NoT o := by
  unfold nt at h
  cases e : B a with
  | none =>
    rw [e] at h
    cases h
  | some u =>
    rw [e] at h
    cases u with
    | tbl ps => cases h
    | _ =>
      cases h
      exact ⟨rfl, fun ps z => nomatch z⟩
theorem nt_of {B : Hp} {a : Addr} {o : HO} (h : B a = some o) (n : NoT o) : nt B a = some o := by
  unfold nt
  rw [h]
  cases o with
  | tbl ps => exact absurd rfl (n ps)
  | _ => rfl
theorem nt_none {B : Hp} {a : Addr} (h : B a = none) : nt B a = none := by
  unfold nt
  rw [h]
theorem nt_NT (B : Hp) : NT (nt B) := fun a o h => (nt_inv h).2
theorem nt_sub {B H : Hp} (h : Same B H) : Same (nt B) H := fun a o e => h a o (nt_inv e).1
theorem nt_sup {B B1 : Hp} (h : Same B B1) (n : NT B) : Same B (nt B1) := fun a o e => nt_of (h a o e) (n a o e)
def SameN (H H' : Hp) : Prop := ∀ a o, H a = some o → NoT o → H' a = some o
mutual
theorem R.unt {K : PySem.W.Frag} {H H' : Hp} (e : SameN H H') : ∀ {v : V} {d : PyData}, R K H v d → R K H' v d
  | _, _, .non => .non
  | _, _, .bl b => .bl b
  | _, _, .int i => .int i
  | _, _, .str x => .str x
  | _, _, .lst h r => .lst (e _ _ h (fun _ z => nomatch z)) (RAll.unt e r)
  | _, _, .tup h r => .tup (e _ _ h (fun _ z => nomatch z)) (RAll.unt e r)
  | _, _, .dk h r => .dk (e _ _ h (fun _ z => nomatch z)) (RKs.unt e r)
  | _, _, .dt h n r => .dt (e _ _ h (fun _ z => nomatch z)) n (RTs.unt e r)
theorem RAll.unt {K : PySem.W.Frag} {H H' : Hp} (e : SameN H H') : ∀ {v : List V} {d : List PyData}, RAll K H v d → RAll K H' v d
  | _, _, .nil => .nil
  | _, _, .cons h r => .cons (R.unt e h) (RAll.unt e r)
theorem RKs.unt {K : PySem.W.Frag} {H H' : Hp} (e : SameN H H') : ∀ {v : List (Key × V)} {d : List (PyData × PyData)}, RKs K H v d → RKs K H' v d
  | _, _, .nil => .nil
  | _, _, .cons h r => .cons (R.unt e h) (RKs.unt e r)
theorem RTs.unt {K : PySem.W.Frag} {H H' : Hp} (e : SameN H H') : ∀ {v : List (List Key × V)} {d : List (PyData × PyData)}, RTs K H v d → RTs K H' v d
  | _, _, .nil => .nil
  | _, _, .cons h r => .cons (R.unt e h) (RTs.unt e r)
end
theorem sameN_nt (B : Hp) : SameN B (nt B) := fun _ _ h n => nt_of h n
theorem R.nt {K : PySem.W.Frag} {B : Hp} {v : V} {d : PyData} (r : R K B v d) : R K (nt B) v d := r.unt (sameN_nt B)
theorem RAll.nt {K : PySem.W.Frag} {B : Hp} {v : List V} {d : List PyData} (r : RAll K B v d) : RAll K (K8.nt B) v d := r.unt (sameN_nt B)
theorem Drw.nt {A : Addr} {B H : Hp} (d : Drw A B H) : Drw A (nt B) H := ⟨nt_none d.1, d.2⟩
theorem MuL.nt {K : PySem.W.Frag} {L : Addr} {ds : List PyData} {B H : Hp} (m : MuL K L ds B H) : MuL K L ds (nt B) H := by
  obtain ⟨h1, acc, h2, h3⟩ := m
  exact ⟨nt_none h1, acc, h2, h3.nt⟩
/-- from (B, H) to (B', H'), the tables left out -/
structure Ez (S : Addr → Prop) (B H B' H' : Hp) : Prop where
  bb : Same B B'
  bh : Same B' H'
  nt : NT B'
  hh : ∀ a o, ¬ S a → NoT o → H a = some o → H' a = some o
  out : ∀ p o, H p = some o → NoT o → B p = none → B' p = none
  al : ∀ p o, H p = some o → NoT o → ∃ o', H' p = some o' ∧ NoT o'
abbrev E0z := Ez NoS
section
variable {S S' : Addr → Prop} {B H B1 H1 B2 H2 : Hp} {A L : Addr} {o o1 : HO} {K : PySem.W.Frag} {ds : List PyData}
theorem Ez.refl (h : Same B H) (n : NT B) : Ez S B H B H := ⟨Same.refl _, h, n, fun _ _ _ _ e => e, fun _ _ _ _ e => e, fun p o e n => ⟨o, e, n⟩⟩
theorem Ez.trans (a : Ez S B H B1 H1) (b : Ez S B1 H1 B2 H2) : Ez S B H B2 H2 :=
  ⟨a.bb.trans b.bb, b.bh, b.nt, fun p o n nt e => b.hh p o n nt (a.hh p o n nt e), fun p o e n z => by
    obtain ⟨o', e', n'⟩ := a.al p o e n
    exact b.out p o' e' n' (a.out p o e n z), fun p o e n => by
    obtain ⟨o', e', n'⟩ := a.al p o e n
    exact b.al p o' e' n'⟩
theorem Ez.sub (a : Ez S B H B1 H1) (h : ∀ p, S p → S' p) : Ez S' B H B1 H1 := ⟨a.bb, a.bh, a.nt, fun p o n nt e => a.hh p o (fun z => n (h p z)) nt e, a.out, a.al⟩
theorem Ez.to (a : Ez NoS B H B1 H1) : Ez S B H B1 H1 := a.sub fun _ z => z.elim
theorem Ez.of (f : Fz S B H B1 H1) (n : NT B) (hS : ∀ p o, S p → H1 p = some o → NoT o) : Ez S B H (K8.nt B1) H1 :=
  ⟨nt_sup f.bb n, nt_sub f.bh, nt_NT B1, fun p o ns nt e => f.hh p o ns e, fun p o e nt z => nt_none (f.out p (by rw [e]; simp) z), fun p o e nt => by
    by_cases hp : S p
    · cases q : H1 p with
      | none => exact absurd q (f.al p (by rw [e]; simp))
      | some u => exact ⟨u, rfl, hS p u hp q⟩
    · exact ⟨o, f.hh p o hp e, nt⟩⟩
theorem Ez.f0 (f : F0 B H B1 H1) (n : NT B) : Ez S B H (K8.nt B1) H1 := (Ez.of f n fun _ _ z => z.elim).to
theorem Ez.ext (hb : Same B H) (n : NT B) (e : LamX.ExtN H H1) : Same B H1 ∧ Ez S B H B H1 := by
  have h1 : Same B H1 := fun a o q => e a o (hb a o q) (n a o q)
  exact ⟨h1, Same.refl _, h1, n, fun a o _ nt q => e a o q nt, fun _ _ _ _ z => z, fun p o q nt => ⟨o, e p o q nt, nt⟩⟩
theorem Drw.ez (m : Drw A B H) (f : Ez S B H B1 H1) (hS : ¬ S A) : Drw A B1 H1 := by
  obtain ⟨h1, i, j, k, h2⟩ := m
  exact ⟨f.out A _ h2 (fun _ z => nomatch z) h1, i, j, k, f.hh _ _ hS (fun _ z => nomatch z) h2⟩
theorem MuL.ez (m : MuL K L ds B H) (f : Ez S B H B1 H1) (hS : ¬ S L) : MuL K L ds B1 H1 := by
  obtain ⟨h1, acc, h2, h3⟩ := m
  exact ⟨f.out L _ h2 (fun _ z => nomatch z) h1, acc, f.hh _ _ hS (fun _ z => nomatch z) h2, h3.mono f.bb⟩
/-- L is free, or a table -/
def FreeT (H : Hp) (L : Addr) : Prop := ∀ o, H L = some o → ¬ NoT o
theorem FreeT.back (f : Ez S B H B1 H1) (h : FreeT H1 L) : FreeT H L := fun o e n => by
  obtain ⟨o', e', n'⟩ := f.al L o e n
  exact h o' e' n'
theorem FreeT.of (h : H L = none) : FreeT H L := fun o e => by
  rw [h] at e
  cases e
theorem Ez.laid (hb : Same B H) (n : NT B) (hn : H L = none) : Ez S B H B (upd H L o) :=
  ⟨Same.refl _, upd_out hb (hb.free hn), n, fun a u _ _ e => by rw [upd_ne (ne_of_none e hn)]; exact e, fun _ _ _ _ z => z, fun p u e nt => ⟨u, by rw [upd_ne (ne_of_none e hn)]; exact e, nt⟩⟩
theorem Ez.put (f : Ez S B H B1 H1) (hS : S L) (hB : B1 L = none) (no : NoT o) : Ez S B H B1 (upd H1 L o) where
  bb := f.bb
  bh := upd_out f.bh hB
  nt := f.nt
  hh := fun a u n nt e => by
    have : a ≠ L := fun z => n (by rw [z]; exact hS)
    rw [upd_ne this]
    exact f.hh a u n nt e
  out := f.out
  al := fun p u e nt => by
    by_cases h : p = L
    · rw [h, upd_same]
      exact ⟨o, rfl, no⟩
    · rw [upd_ne h]
      exact f.al p u e nt
/-- a list that has grown joins the base -/
theorem Ez.frz (hb : Same B H) (n : NT B) (hn : FreeT H L) (f : Ez S' B H B1 H1) (hs : ∀ a, S' a → S a ∨ a = L) (hacc : H1 L = some o1) (no : NoT o1) : Ez S B H (upd B1 L o1) H1 where
  bb := fun a u e => by
    have : a ≠ L := fun z => by
      rw [z] at e
      exact hn u (hb _ _ e) (n _ _ e)
    rw [upd_ne this]
    exact f.bb _ _ e
  bh := same_frz f.bh hacc
  nt := fun a u e => by
    by_cases h : a = L
    · rw [h, upd_same] at e
      cases e
      exact no
    · rw [upd_ne h] at e
      exact f.nt a u e
  hh := fun a u ns nt e => f.hh a u (fun z => (hs a z).elim ns fun q => by
    rw [q] at e
    exact hn u e nt) nt e
  out := fun p u e nt z => by
    have h : p ≠ L := fun q => by
      rw [q] at e
      exact hn u e nt
    rw [upd_ne h]
    exact f.out p u e nt z
  al := f.al
end
/-! ### the tables -/
def NoC (o : HO) : Prop := NoT o ∧ ∀ c q, o ≠ LamX.CodeO c q
theorem noC_lst {xs : List V} : NoC (.lst xs) := ⟨(fun _ z => nomatch z), fun c q z => by
  unfold LamX.CodeO at z
  cases z⟩
section
variable {T : List (Addr × Str)} {S : Addr → Prop} {B H B1 H1 : Hp} {L : Addr} {o o1 : HO}
theorem tabs_keep (t : LamX.Tabs T H) (k : ∀ a o, ¬ NoC o → H a = some o → H1 a = some o) : LamX.Tabs T H1 := fun p hp => by
  obtain ⟨ps, h1, h2, h3⟩ := t p hp
  refine ⟨ps, k _ _ (fun z => z.1 ps rfl) h1, h2, fun pos cv hc => ?_⟩
  obtain ⟨c, e1, e2⟩ := h3 pos cv hc
  exact ⟨c, e1, k _ _ (fun z => z.2 c _ rfl) e2⟩
theorem tabs_fz (t : LamX.Tabs T H) (f : Fz S B H B1 H1) (hS : ∀ p o, S p → H p = some o → NoC o) : LamX.Tabs T H1 := tabs_keep t fun a o n e => f.hh a o (fun z => n (hS a o z e)) e
theorem tabs_f0 (t : LamX.Tabs T H) (f : F0 B H B1 H1) : LamX.Tabs T H1 := tabs_fz t f fun _ _ z => z.elim
theorem tabs_put (t : LamX.Tabs T H) (h : ∀ o, H L = some o → NoC o) : LamX.Tabs T (upd H L o1) := tabs_keep t fun a u n e => by
  have : a ≠ L := fun z => by
    rw [z] at e
    exact n (h u e)
  rw [upd_ne this]
  exact e
theorem drw_noC {A : Addr} (d : Drw A B H) : ∀ p o, p = A → H p = some o → NoC o := fun p o e h => by
  obtain ⟨_, i, j, k, z⟩ := d
  rw [e, z] at h
  cases h
  exact noC_lst
theorem mul_noC {K : PySem.W.Frag} {ds : List PyData} (m : MuL K L ds B H) : ∀ p o, p = L → H p = some o → NoC o := fun p o e h => by
  obtain ⟨_, acc, z, _⟩ := m
  rw [e, z] at h
  cases h
  exact noC_lst
end
/-! ### steps -/
def ZD (T : List (Addr × Str)) (X : Cx) (e : Expr) (σ : L2.St) (B : Hp) (d : PyData) : Prop := ∀ H, Same B H → NT B → LamX.Tabs T H → ∀ Q : VK, (∀ v B' H', E0z B H B' H' → LamX.Tabs T H' → R X.K B' v d → Q v H') → wpE X e σ H Q
section
variable {T : List (Addr × Str)} {X : Cx} {e a b : Expr} {es : List Expr} {σ : L2.St} {B H B1 : Hp} {d : PyData} {ds xs ys : List PyData} {pos p1 p2 pl : Pos} {sts : List Stmt} {D : Ends} {L : Addr} {k n : Nat}
theorem PD.zd (h : PD X e σ B d) : ZD T X e σ B d := fun H hb nb t Q q => h H hb Q fun v B1 H1 f1 r1 => q v (nt B1) H1 (Ez.f0 f1 nb) (tabs_f0 t f1) r1.nt
/-- name = [e]: to be changed -/
theorem stz_newL {i : Nat} {x : Str} (hN : X.N.Nodup) (ha : ZD T X e σ B d) (hb : Same B H) (nb : NT B) (t : LamX.Tabs T H) (k : ∀ L B1 H1, E0z B H B1 H1 → FreeT H L → LamX.Tabs T H1 → MuL X.K L [d] B1 H1 → wpB X sts D (σ.set i (some (.ref L))) H1) (hi : X.N[i]? = some x := by rfl) (hx : Loc X.env.scope x := by first | exact Or.inl rfl | exact Or.inr rfl) (hs : swapsWith (.List [e] pl) (some (.Name x p2)) pos.line X.env = pure false := by rfl)
    (hf : X.fn x = true ∨ X.env.scope.names.lookup x = some .local := by first | exact .inl rfl | exact .inr rfl | assumption) (he : starEach [e] X.env = (false, eval e X.env) :: starEach [] X.env := by rfl) : wpB X (.Assign [.Name x p2] (.List [e] pl) pos :: sts) D σ H :=
  wpB_cons (wpS_of (ps_set hN hi hx (pe_lst (pa_cons pe_wp pa_nil he)) hs hf) (ha H hb nb t _ fun v B1 H1 f1 t1 r1 => ⟨(show 1 ≤ 16777216 by decide), fun p hp =>
    k p B1 _ (f1.trans (Ez.laid f1.bh f1.nt hp)) ((FreeT.of hp).back f1) (tabs_put t1 fun o e => by rw [hp] at e; cases e) ⟨f1.bh.free hp, [v], upd_same, .cons r1 .nil⟩⟩))
/-- xs.append(e) -/
theorem stz_app {j : Nat} {x : Str} {ap cp : Pos} (hL : σ[j]? = some (some (.ref L))) (m : MuL X.K L ds B H) (hb : Same B H) (nb : NT B) (t : LamX.Tabs T H) (hz : ds.length ≤ 100000) (h : ZD T X e σ B d) (k : ∀ B1 H2, Ez (· = L) B H B1 H2 → LamX.Tabs T H2 → MuL X.K L (ds ++ [d]) B1 H2 → wpB X sts D σ H2)
    (hN : X.N[j]? = some x := by rfl) (hx : Vis X.env.scope x := by first | exact Or.inl rfl | exact Or.inr (Or.inl rfl) | exact Or.inr (Or.inr rfl)) (hd : (x == ("__debug__" : Str)) = false := by decide) (hcd : (x == ("__classdict__" : Str)) = false := by decide)
    (hbase : attributeBase (.Name x p1) "append" X.env (eval (.Name x p1) X.env) = eval (.Name x p1) X.env := by rfl)
    (hfew : ((backTo cp (starEach [e] X.env)).all (fun x => !x.1) && (backToKw cp (keywordEach [] X.env)).all (fun x => x.1.isSome)
      && decide ([e].length + ([] : List Keyword).length + (if ([] : List Keyword).isEmpty then 0 else 1) < 30)) = true := by rfl)
    (hline : (ap.endLine == cp.line) = true := by rfl) (hs : starEach [e] X.env = (false, eval e X.env) :: starEach [] X.env := by rfl) (hw : swapsWith (.Call (.Attribute (.Name x p1) "append" ap) [e] [] cp) none pos.line X.env = pure false := by rfl) :
    wpB X (.Expr (.Call (.Attribute (.Name x p1) "append" ap) [e] [] cp) pos :: sts) D σ H := by
  have m0 := m
  obtain ⟨hB, acc, hacc, racc⟩ := m
  refine wpB_cons (wpS_of (ps_expr (pe_bm PySem.F.plainAttrs_list PySem.F.slot_list_append PySem.F.type_list_append mt_append (pe_var hN hx hd hcd) (pa_cons pe_wp pa_nil hs) hbase hfew hline hs) hw) ?_)
  refine ⟨.ref L, hL, .inl ⟨rfl, acc, SqL.of hacc⟩, h H hb nb t _ fun v B1 H1 f1 t1 r1 => ⟨L, acc, v, rfl, rfl, f1.hh _ _ (fun z => z) (fun _ z => nomatch z) hacc, ?_, ?_⟩⟩
  · rw [racc.len]
    have h1 : (16777216 : Nat) = sizeLine := sizeLine_eq.symm
    omega
  · have m1 := m0.ez f1 (fun z => z)
    exact k B1 _ ((f1.to (S := (· = L))).put rfl m1.1 fun _ z => nomatch z) (tabs_put t1 fun o e => mul_noC m1 L o rfl e) ⟨m1.1, _, upd_same, (racc.mono f1.bb).app (.cons r1 .nil)⟩
/-- name = a + b, lists: to be changed -/
theorem st_newCat {i : Nat} {x : Str} (hN : X.N.Nodup) (ha : PD X a σ B (.list xs)) (hb' : PD X b σ B (.list ys)) (hz : xs.length + ys.length ≤ 100000) (hb : Same B H) (k : ∀ L B1 H1, F0 B H B1 H1 → H L = none → MuL X.K L (xs ++ ys) B1 H1 → wpB X sts D (σ.set i (some (.ref L))) H1) (hi : X.N[i]? = some x := by rfl) (hx : Loc X.env.scope x := by first | exact Or.inl rfl | exact Or.inr rfl) (hs : swapsWith (.BinOp a .Add b p1) (some (.Name x p2)) pos.line X.env = pure false := by rfl)
    (hf : X.fn x = true ∨ X.env.scope.names.lookup x = some .local := by first | exact .inl rfl | exact .inr rfl | assumption) : wpB X (.Assign [.Name x p2] (.BinOp a .Add b p1) pos :: sts) D σ H :=
  wpB_cons (wpS_of (ps_set hN hi hx (pe_op op_cat pe_wp pe_wp) hs hf) (ha H hb _ fun u B1 H1 f1 r1 => (hb'.mono f1.bb) H1 f1.bh _ fun v B2 H2 f2 r2 => by
    obtain ⟨l, vs, rfl, hl, rl⟩ := (r1.mono f2.bb).lst_at
    obtain ⟨m, ws, rfl, hm, rm⟩ := r2.lst_at
    refine ⟨l, m, vs, ws, rfl, rfl, f2.bh _ _ hl, f2.bh _ _ hm, ?_, fun p hp => ?_⟩
    · rw [rl.len, rm.len]
      have h1 : (16777216 : Nat) = sizeLine := sizeLine_eq.symm
      omega
    · have f12 := f1.trans f2
      exact k p B2 _ (f12.trans (Fz.laid f2.bh hp)) (f12.free hp) ⟨f2.bh.free hp, _, upd_same, rl.app rm⟩))
end
end K8

set_option Elab.async false
set_option linter.all false
set_option maxRecDepth 100000
set_option maxHeartbeats 400000
/-! K8rf1: what is refused: the plain part; a lambda handed to tried. -/
namespace K8
open PySem PySem.Spec PyProof.Rows L2
/-! ### plain -/
def oddL : List PyData := [.none, .int 5, .tuple [], .tuple [.tuple [.str "read", .str "A"], .str ""], .str "read", .tuple [.tuple [.str "list", .str "a"], .tuple []]]
def lookL : List PyData := [.none, .tuple [.str "read"], .tuple [.str "look", .str "a"], .str "read", .tuple [.str "list", .str "A"], .int 5]
theorem odd_tab : (oddL.all fun d => (sightOf d).isNone && okSight d) = true := by decide +kernel
theorem look_tab : (lookL.all fun d => (lookOf d).isNone && (okLook d && okSame 2 d)) = true := by decide +kernel
theorem odd_ok {d : PyData} (h : d ∈ oddL) : sightOf d = none ∧ okSight d = true := by
  have := Bool.and_eq_true_iff.mp (List.all_eq_true.mp odd_tab d h)
  exact ⟨Option.isNone_iff_eq_none.mp this.1, this.2⟩
theorem look_ok {d : PyData} (h : d ∈ lookL) : lookOf d = none ∧ okLook d = true ∧ okSame 2 d = true := by
  have := Bool.and_eq_true_iff.mp (List.all_eq_true.mp look_tab d h)
  exact ⟨Option.isNone_iff_eq_none.mp this.1, Bool.and_eq_true_iff.mp this.2⟩
theorem s19_R : ∀ s ∈ S19, okR s = true := by decide +kernel
theorem s19_P : (S19.all fun s => S19.all fun t => okAp s t) = true := by decide +kernel
theorem s19_SS {ss : List Sg} (h : ∀ s ∈ ss, s ∈ S19) (hl : ss.length ≤ 50) : okSS ss = true := by
  unfold okSS
  rw [Bool.and_eq_true, Bool.and_eq_true]
  exact ⟨decide_eq_true (by omega), List.all_eq_true.mpr fun s hs => s19_R s (h s hs), List.all_eq_true.mpr fun s hs => List.all_eq_true.mpr fun t ht => List.all_eq_true.mp (List.all_eq_true.mp s19_P s (h s hs)) t (h t ht)⟩
theorem s19_lk : (looksL.all fun k => decide (lookOf k.d = some k) && (okLook k.d && okK k)) = true := by decide +kernel
theorem s19_br : (S19.all fun s => looksL.all fun k => (brings s k).isSome) = true := by decide +kernel
theorem okBr_of {ss : List Sg} (h : ∀ s ∈ ss, s ∈ S19) {k : Lk} (hk : k ∈ looksL) : okBr ss k = true := List.all_eq_true.mpr fun s hs => List.all_eq_true.mp (List.all_eq_true.mp s19_br s (h s hs)) k hk
theorem goS_odd {d : PyData} (hd : sightOf d = none) : ∀ (ss : List Sg) (i : Nat), (∀ s ∈ ss, okR s = true) → goS i (ss.map Sg.d ++ [d]) = .error (.sight (i + ss.length))
  | [], i, _ => by
    show goS i [d] = _
    rw [goS, hd]
    rfl
  | s :: ss, i, h => by
    rw [List.map_cons, List.cons_append, goS, (okR_s (h s List.mem_cons_self)).1]
    simp only
    rw [goS_odd hd ss (i + 1) fun t ht => h t (List.mem_cons_of_mem _ ht)]
    show Except.error (Err.sight (i + 1 + ss.length)) = Except.error (Err.sight (i + (ss.length + 1)))
    rw [Nat.add_right_comm, Nat.add_assoc]
section
variable {ss : List Sg} {d l : PyData}
theorem sgs_odd (hs : ∀ s ∈ ss, s ∈ S19) (hd : sightOf d = none) : sightsOf (.list (ss.map Sg.d ++ [d])) = .error (.sight ss.length) := by
  show goS 0 (ss.map Sg.d ++ [d]) = _
  rw [goS_odd hd ss 0 fun s h => s19_R s (hs s h), Nat.zero_add]
theorem ok_odd (hs : ∀ s ∈ ss, s ∈ S19) (hl : ss.length ≤ 50) (hd : okSight d = true) : okSights (.list (ss.map Sg.d ++ [d])) = true := by
  show (decide ((ss.map Sg.d ++ [d]).length ≤ 1000) && (ss.map Sg.d ++ [d]).all okSight) = true
  rw [Bool.and_eq_true, List.all_eq_true]
  refine ⟨decide_eq_true (by rw [List.length_append, List.length_map]; show ss.length + 1 ≤ 1000; omega), fun z hz => ?_⟩
  rcases List.mem_append.mp hz with h | h
  · obtain ⟨s, hm, rfl⟩ := List.mem_map.mp h
    exact (okR_s (s19_R s (hs s hm))).2
  · have : z = d := by simpa using h
    rw [this]
    exact hd
theorem fol_odd (hs : ∀ s ∈ ss, s ∈ S19) (hd : sightOf d = none) : folO (.list (ss.map Sg.d ++ [d])) l = .error (.sight ss.length) := by
  unfold folO
  rw [sgs_odd hs hd]
theorem fol_last (hs : ∀ s ∈ ss, s ∈ S19) (hl : ss.length ≤ 50) (hd : sightOf d = none) : folO (sgsD ss) d = .error (.sight ss.length) := by
  unfold folO
  rw [sightsOf_d (s19_SS hs hl), hd]
theorem sure_odd (hs : ∀ s ∈ ss, s ∈ S19) (hd : sightOf d = none) : sureO (.list (ss.map Sg.d ++ [d])) l = .error (.sight ss.length) := by
  unfold sureO
  rw [sgs_odd hs hd]
theorem sure_look (hs : ∀ s ∈ ss, s ∈ S19) (hl : ss.length ≤ 50) (hd : lookOf l = none) : sureO (sgsD ss) l = .error (.look l) := by
  unfold sureO
  rw [sightsOf_d (s19_SS hs hl), hd]
theorem fol_apart (hs : ∀ s ∈ ss, s ∈ S19) (hl : ss.length ≤ 50) {p : Nat × Nat} (hp : firstApart ss = some p) {t : Sg} (ht : sightOf d = some t) : folO (sgsD ss) d = .error (.apart p.1 p.2) := by
  unfold folO
  rw [sightsOf_d (s19_SS hs hl), ht]
  simp only
  rw [hp]
theorem sure_apart (hs : ∀ s ∈ ss, s ∈ S19) (hl : ss.length ≤ 50) {p : Nat × Nat} (hp : firstApart ss = some p) {k : Lk} (hk : lookOf l = some k) : sureO (sgsD ss) l = .error (.apart p.1 p.2) := by
  unfold sureO
  rw [sightsOf_d (s19_SS hs hl), hk]
  simp only
  rw [hp]
theorem least_apart (hs : ∀ s ∈ ss, s ∈ S19) (hl : ss.length ≤ 50) {p : Nat × Nat} (hp : firstApart ss = some p) : leastO (sgsD ss) = .error (.apart p.1 p.2) := by
  unfold leastO
  rw [chkO_d (s19_SS hs hl)]
  unfold chk
  rw [hp]
  rfl
end
/-! ### list * int -/
section
variable {X : Cx} {a b : Expr} {σ : L2.St} {B : Hp} {d : PyData} {pos : Pos}
theorem pd_rep3 (ha : PD X a σ B (.list [d])) (hb : PD X b σ B (.int 3)) : PD X (.BinOp a .Mult b pos) σ B (.list [d, d, d]) := pd_op op_rep ha hb fun u v B1 H1 _ s1 r1 r2 Q q => by
  obtain ⟨l, vs, rfl, hl, rl⟩ := r1.lst_at
  obtain ⟨v1, rfl, r⟩ := rl.one
  rw [r2.int_inv]
  exact ⟨l, 3, [v1], rfl, rfl, s1 _ _ hl, by decide, by decide, (show 3 ≤ 16777216 by decide), fun p hp => q _ _ _ (F0.new s1 hp) (r_upd_l s1 hp (.cons r (.cons r (.cons r .nil))))⟩
end
/-! ### a lambda handed to tried -/
section
variable {T : List (Addr × Str)} {X : Cx} {σ : L2.St} {B : Hp} {o : Out} {params : Arguments} {body : Expr} {scope : Scope} {p lpos pos : Pos} {c P CS CL CA : Addr} {k n : Nat}
theorem zd_tried (Dt : IsDef X.K X.mg "_law_tried" s_l_tried) (C : Cls3 X.K X.mg CS CL CA) (TB : LamX.TabB X.base X.mg c P) (hcode : X.env.code = .ref c) (hT : T = [(P, X.env.qual ++ "<lambda>")]) (hr : Room n X.A) (hk : k + 2 ≤ n) (hg : Gl X "_law_tried") (L : LamX.LamS X.env.scope scope) (hdef : defaultsOf params X.env = ([], []))
    (hbind : ∀ (q : Str) (cl : List (Str × Addr)) (pm cv ctv : Value), bindArgs (PySem.W.kla_fn "<lambda>" q params body scope cl pm cv ctv) ⟨[], []⟩ = pure [])
    (h : ∀ (A : Around) (outer : List Env) (s : Shared) (H0 : Hp) (E : XK) (f c' : Addr), Room k (A.deeper (LamX.lamEnv X scope s.heap.objs.size f c')) → PX (LamX.lamCx X A outer s H0 E scope f c') E body σ B o) :
    ZD T X (.Call (.Name "_law_tried" p) [.Lambda params body scope lpos] [] pos) σ B (trD o) := by
  obtain ⟨g, fd, hm, F⟩ := Dt
  have kp := F.kp
  have bn := F.binds (ps := ["_law_ask"]) (fun _ _ _ _ _ _ us hl => match us, hl with | [_], _ => rfl)
  obtain ⟨oc, od, kV, doc, pm, an, cdv, ct, osl, rfl, lk, hcd⟩ := F.ex
  intro H hb nb t Q q
  refine PE.wp (LamX.pe_lamcall (k := k) (t := fun E σ H Q => ∀ (A : Around) (outer : List Env) (s : Shared) (H0 : Hp) (f c' : Addr), Room k (A.deeper (LamX.lamEnv X scope s.heap.objs.size f c')) → wpE (LamX.lamCx X A outer s H0 E scope f c') body σ H Q) hg hm kp lk hcd bn sc_l_tried rfl (Or.inl rfl) (tried_gives C) TB hcode (by rw [hT]; exact List.mem_cons_self) (fun q hq _ => by
    rw [hT] at hq
    have : q = (P, X.env.qual ++ "<lambda>") := by simpa using hq
    rw [this]) (hr.mono hk) L hdef hbind (fun A outer s H0 E f c' hr2 => ⟨fun pins s1 σ1 H1 Q1 I hq => pe_wp.run pins s1 σ1 H1 Q1 I (hq A outer s H0 f c' hr2)⟩)) ⟨t, fun H1 eN T1 => ?_⟩
  obtain ⟨b1, z1⟩ := Ez.ext (S := NoS) hb nb eN
  exact ⟨o, B, b1, fun E' Q' q1 q2 A outer s H0 f c' hr2 => h A outer s H0 E' f c' hr2 H1 b1 Q' q1 q2, fun v B' H' f r => q v (nt B') H' (z1.trans (Ez.f0 f nb)) (tabs_f0 T1 f) r.nt⟩
end
end K8

set_option Elab.async false
set_option linter.all false
set_option maxRecDepth 100000
set_option maxHeartbeats 400000
/-! K8rf: _law_refused_right. -/
namespace K8
open PySem PySem.Spec PyProof.Rows L2
/-- the def x, its code object at c -/
def IsDefC (K : PySem.W.Frag) (mg : Str → Option Value) (x : Str) (st : Stmt) (c : Addr) : Prop := ∃ (f : Addr) (fd : FuncData), mg x = some (.ref f) ∧ Fun K x x st f fd ∧ fd.code = .ref c
abbrev qRf : Str := (("_law_refused_right" : Str) ++ ".<locals>.") ++ "<lambda>"
/-- the promise: A the draws, tp the table -/
def SpRf (K : PySem.W.Frag) (tp : Addr) : Sp := fun vs H Q _ => ∃ (A : Addr) (B : Hp) (v1 v2 : V) (ss : List Sg), vs = [.ref A, v1, v2] ∧ Same B H ∧ NT B ∧ Drw A B H ∧ LamX.Tabs [(tp, qRf)] H ∧ R K B v1 (sgsD ss) ∧ R K B v2 (oD pairD (firstApart ss)) ∧ (∀ s ∈ ss, s ∈ S19) ∧ ss.length ≤ 50 ∧
  ∀ B' H', Ez (· = A) B H B' H' → Drw A B' H' → LamX.Tabs [(tp, qRf)] H' → Q (.bl true) H'
theorem strOk_3 : PyData.strOk "sight" = true ∧ PyData.strOk "look" = true ∧ PyData.strOk "apart" = true := by decide +kernel
theorem same_two {n : Nat} {x y : PyData} (h1 : okSame n x = true) (h2 : okSame n y = true) : okSame (n + 1) (.tuple [x, y]) = true := by
  show (decide ([x, y].length ≤ 1000) && (okSame n x && (okSame n y && true))) = true
  rw [h1, h2]
  rfl
theorem same_str {n : Nat} {x : Str} (h : PyData.strOk x = true) : okSame n (.str x) = true := by
  cases n <;> exact h
theorem same_int {n : Nat} {i : Int} : okSame n (.int i) = true := by cases n <;> rfl
theorem same_sight (n : Nat) : okSame 2 (.tuple [.str "sight", .int (n : Nat)]) = true := same_two (same_str strOk_3.1) same_int
theorem same_look {l : PyData} (h : okSame 1 l = true) : okSame 2 (.tuple [.str "look", l]) = true := same_two (same_str strOk_3.2.1) h
theorem same_apart (i j : Nat) : okSame 2 (.tuple [.str "apart", .tuple [.int (i : Nat), .int (j : Nat)]]) = true := same_two (same_str strOk_3.2.2) (same_two same_int same_int)
theorem look_tab1 : (lookL.all fun d => okSame 1 d) = true := by decide +kernel
theorem okS3 {xs : List PyData} (hl : xs.length ≤ 1000) (h : ∀ x ∈ xs, okSame 2 x = true) : okSame 3 (.list xs) = true := by
  show (decide (xs.length ≤ 1000) && xs.all (okSame 2)) = true
  rw [decide_eq_true hl, Bool.true_and]
  exact List.all_eq_true.mpr h
section
variable {ss : List Sg} {d l : PyData} {p : Nat × Nat}
theorem rel1 (hs : ∀ s ∈ ss, s ∈ S19) (hl : ss.length ≤ 50) (hd : d ∈ oddL) : R_follows [.list (ss.map Sg.d ++ [d]), d] (.error (.sight ss.length)) := by
  obtain ⟨h1, h2⟩ := odd_ok hd
  refine ⟨_, _, rfl, ok_odd hs hl h2, h2, fun ss' h' => ?_, ?_⟩
  · rw [sgs_odd hs h1] at h'
    cases h'
  · rw [fol_odd hs h1]
    rfl
theorem rel2 (hs : ∀ s ∈ ss, s ∈ S19) (hl : ss.length ≤ 50) (hd : d ∈ oddL) : R_follows [sgsD ss, d] (.error (.sight ss.length)) := by
  obtain ⟨h1, h2⟩ := odd_ok hd
  refine ⟨_, _, rfl, okSights_d (s19_SS hs hl), h2, fun ss' h' => ?_, ?_⟩
  · rw [sightsOf_d (s19_SS hs hl)] at h'
    cases h'
    exact ⟨s19_SS hs hl, fun t ht => by rw [h1] at ht; cases ht⟩
  · rw [fol_last hs hl h1]
    rfl
theorem rel3 (hs : ∀ s ∈ ss, s ∈ S19) (hl : ss.length ≤ 50) (hd : d ∈ oddL) (hk : l ∈ lookL) : R_sure [.list (ss.map Sg.d ++ [d]), l] (.error (.sight ss.length)) := by
  obtain ⟨h1, h2⟩ := odd_ok hd
  refine ⟨_, _, rfl, ok_odd hs hl h2, (look_ok hk).2.1, fun ss' h' => ?_, ?_⟩
  · rw [sgs_odd hs h1] at h'
    cases h'
  · rw [sure_odd hs h1]
    rfl
theorem rel4 (hs : ∀ s ∈ ss, s ∈ S19) (hl : ss.length ≤ 50) (hk : l ∈ lookL) : R_sure [sgsD ss, l] (.error (.look l)) := by
  obtain ⟨h1, h2, _⟩ := look_ok hk
  refine ⟨_, _, rfl, okSights_d (s19_SS hs hl), h2, fun ss' h' => ?_, ?_⟩
  · rw [sightsOf_d (s19_SS hs hl)] at h'
    cases h'
    exact ⟨s19_SS hs hl, fun k hk => by rw [h1] at hk; cases hk⟩
  · rw [sure_look hs hl h1]
    rfl
theorem rel5 (hd : d ∈ oddL) : R_follows [.none, d] (.error (.sight 0)) := by
  obtain ⟨h1, h2⟩ := odd_ok hd
  exact ⟨_, _, rfl, rfl, h2, (fun ss' h' => nomatch h'), rfl⟩
theorem rel6 (hk : l ∈ lookL) : R_sure [.int 5, l] (.error (.sight 0)) := by
  obtain ⟨h1, h2, _⟩ := look_ok hk
  exact ⟨_, _, rfl, rfl, h2, (fun ss' h' => nomatch h'), rfl⟩
theorem rel7 (hs : ∀ s ∈ ss, s ∈ S19) (hl : ss.length ≤ 50) (hp : firstApart ss = some p) {t : Sg} (ht : t ∈ S19) : R_follows [sgsD ss, t.d] (.error (.apart p.1 p.2)) := by
  obtain ⟨h1, h2⟩ := okR_s (s19_R t ht)
  refine ⟨_, _, rfl, okSights_d (s19_SS hs hl), h2, fun ss' h' => ?_, ?_⟩
  · rw [sightsOf_d (s19_SS hs hl)] at h'
    cases h'
    refine ⟨s19_SS hs hl, fun t' ht' => ?_⟩
    rw [h1] at ht'
    cases ht'
    exact ⟨s19_g t ht, okBr_of hs (s19_k t ht).1⟩
  · rw [fol_apart hs hl hp h1]
    rfl
theorem lk_ok {k : Lk} (h : k ∈ looksL) : lookOf k.d = some k ∧ okLook k.d = true ∧ okK k = true := by
  have := Bool.and_eq_true_iff.mp (List.all_eq_true.mp s19_lk k h)
  exact ⟨of_decide_eq_true this.1, Bool.and_eq_true_iff.mp this.2⟩
theorem rel8 (hs : ∀ s ∈ ss, s ∈ S19) (hl : ss.length ≤ 50) (hp : firstApart ss = some p) {k : Lk} (hk : k ∈ looksL) : R_sure [sgsD ss, k.d] (.error (.apart p.1 p.2)) := by
  obtain ⟨h1, h2, h3⟩ := lk_ok hk
  refine ⟨_, _, rfl, okSights_d (s19_SS hs hl), h2, fun ss' h' => ?_, ?_⟩
  · rw [sightsOf_d (s19_SS hs hl)] at h'
    cases h'
    refine ⟨s19_SS hs hl, fun k' hk' => ?_⟩
    rw [h1] at hk'
    cases hk'
    exact ⟨h3, okBr_of hs hk⟩
  · rw [sure_apart hs hl hp h1]
    rfl
theorem rel9 (hs : ∀ s ∈ ss, s ∈ S19) (hl : ss.length ≤ 50) (hp : firstApart ss = some p) : R_least [sgsD ss] (.error (.apart p.1 p.2)) := by
  refine ⟨_, rfl, okSights_d (s19_SS hs hl), fun ss' h' => ?_, ?_⟩
  · rw [sightsOf_d (s19_SS hs hl)] at h'
    cases h'
    exact s19_SS hs hl
  · rw [least_apart hs hl hp]
    rfl
theorem apart_ne (hp : firstApart ss = some p) : ∃ t, ss[0]? = some t := by
  cases ss with
  | nil => cases hp
  | cons t ss => exact ⟨t, rfl⟩
end
section
variable {P : Program} {w : World} {K : PySem.W.Frag} {mg : Str → Option Value} {base : Heap} {c tp CS CL CA : Addr}
abbrev cxR (P : Program) (w : World) (K : PySem.W.Frag) (mg : Str → Option Value) (base : Heap) (f c : Addr) (Ar : Around) (outer : List Env) (s : Shared) (H : Hp) (E : XK) : Cx := bx P w K mg base "_law_refused_right" s_l_refused_right N_l_refused_right f (.ref c) Ar outer s H E
theorem pass_lam {X : Cx} {A : Around} {outer : List Env} {s : Shared} {H : Hp} {E : XK} {scope : Scope} {f c' : Addr} : Passes (CX (LamX.lamCx X A outer s H E scope f c').prog (LamX.lamCx X A outer s H E scope f c').w) (LamX.lamCx X A outer s H E scope f c') E := passes_call (W := fun cls d _ H => E cls d H) (takes_of rfl rfl rfl rfl) fun _ _ _ _ h => h
theorem fn_l_refused_right (D : IsDefC K mg "_law_refused_right" s_l_refused_right c) (T : Bl mg) (TB : LamX.TabB base mg c tp) (C : Cls3 K mg CS CL CA) (Dt : IsDef K mg "_law_tried" s_l_tried) (F1 : FnN P w K mg base "_law_pick" 2 ["_law_draws", "_law_things"] prePick relPick) (F2 : FnE P w K mg base "follows" 9 ["sights", "sight"] R_follows) (F3 : FnE P w K mg base "sure" 9 ["sights", "look"] R_sure) (F4 : FnE P w K mg base "least" 9 ["sights"] R_least) (F5 : Fn P w K mg base CX0 "_law_same" 4 ["_law_found", "_law_due"] (SpR K (R_l_same 3))) :
    Fn P w K mg base CX0 "_law_refused_right" 12 ["_law_draws", "_law_sights", "_law_pair"] (SpRf K tp) := by
  obtain ⟨f, fd, hm, F, hcode⟩ := D
  have kp := F.kp
  have bn := F.binds (ps := ["_law_draws", "_law_sights", "_law_pair"]) (fun _ _ _ _ _ _ us hl => match us, hl with | [_, _, _], _ => rfl)
  obtain ⟨oc, od, kV, doc, pm, an, cdv, ct, osl, rfl, lk, hcd⟩ := F.ex
  obtain rfl : cdv = .ref c := hcode
  refine ⟨f, _, hm, kp, bn, fn_of lk hcd sc_l_refused_right (fun vs H Q E h => ?_) fun Ar outer s H0 vs Q E hr h => ⟨_, PSs.nox (pb_wp (X := cxR P w K mg base f c Ar outer s H0 E)), ?_⟩⟩
  · obtain ⟨A, B, v1, v2, ss, rfl, _⟩ := h
    rfl
  obtain ⟨A, B, v1, v2, ss, rfl, hb, nb, dr, t0, r1, r2, hss, hsl, q⟩ := h
  have hr : Room 11 (cxR P w K mg base f c Ar outer s H0 E).A := hr
  -- odd, look
  refine stn_set (i := 3) (P := fun d => d ∈ oddL) sc_l_refused_right.nd (pn_call (i := 0) (PA := fun ds => ds = [.list oddL]) F1 hr (by decide) (by rfl) rfl (AD.an (ad_cons (pd_lst (ad_cons pd_non (ad_cons pd_int (ad_cons (pd_tup ad_nil (show 0 ≤ 100000 by decide)) (ad_cons (pd_tup (ad_cons (pd_tup (ad_cons pd_str (ad_cons pd_str ad_nil)) (show 2 ≤ 100000 by decide)) (ad_cons pd_str ad_nil)) (show 2 ≤ 100000 by decide)) (ad_cons pd_str (ad_cons (pd_tup (ad_cons (pd_tup (ad_cons pd_str (ad_cons pd_str ad_nil)) (show 2 ≤ 100000 by decide)) (ad_cons (pd_tup ad_nil (show 0 ≤ 100000 by decide)) ad_nil)) (show 2 ≤ 100000 by decide)) ad_nil)))))) (show 6 ≤ 100000 by decide)) ad_nil) rfl) (fun ds e => ⟨_, _, e, rfl, (show 1 ≤ 6 by decide), (show 6 ≤ 100 by decide)⟩) fun ds d e hrl => ?_) hb dr fun v3 d3 B1 H1 f1 dr1 p3 r3 => ?_
  · obtain ⟨x, xs, e2, hq, hm⟩ := hrl
    rw [e] at e2
    cases e2
    cases hq
    exact hm
  refine stn_set (i := 4) (P := fun d => d ∈ lookL) sc_l_refused_right.nd (pn_call (i := 0) (PA := fun ds => ds = [.list lookL]) F1 hr (by decide) (by rfl) rfl (AD.an (ad_cons (pd_lst (ad_cons pd_non (ad_cons (pd_tup (ad_cons pd_str ad_nil) (show 1 ≤ 100000 by decide)) (ad_cons (pd_tup (ad_cons pd_str (ad_cons pd_str ad_nil)) (show 2 ≤ 100000 by decide)) (ad_cons pd_str (ad_cons (pd_tup (ad_cons pd_str (ad_cons pd_str ad_nil)) (show 2 ≤ 100000 by decide)) (ad_cons pd_int ad_nil)))))) (show 6 ≤ 100000 by decide)) ad_nil) rfl) (fun ds e => ⟨_, _, e, rfl, (show 1 ≤ 6 by decide), (show 6 ≤ 100 by decide)⟩) fun ds d e hrl => ?_) f1.bh dr1 fun v4 d4 B2 H2 f2 dr2 p4 r4 => ?_
  · obtain ⟨x, xs, e2, hq, hm⟩ := hrl
    rw [e] at e2
    cases e2
    cases hq
    exact hm
  obtain ⟨ho1, ho2⟩ := odd_ok p3
  obtain ⟨hl1, hl2, _⟩ := look_ok p4
  have hl3 := List.all_eq_true.mp look_tab1 d4 p4
  have z0 : Ez (· = A) B H0 (nt B2) H2 := Ez.of (f1.trans f2) nb fun p o hp e => (drw_noC dr2 p o hp e).1
  have t2 : LamX.Tabs [(tp, qRf)] H2 := tabs_fz t0 (f1.trans f2) (drw_noC dr)
  have dr3 := dr2.nt
  have n2 := nt_NT B2
  have s2 : Same (nt B2) H2 := z0.bh
  have r1 : R K (nt B2) v1 (sgsD ss) := r1.mono z0.bb
  have r2 : R K (nt B2) v2 (oD pairD (firstApart ss)) := r2.mono z0.bb
  have r3 : R K (nt B2) v3 d3 := (r3.mono f2.bb).nt
  have r4 : R K (nt B2) v4 d4 := r4.nt
  generalize nt B2 = B3 at z0 dr3 n2 s2 r1 r2 r3 r4
  have okss := s19_SS hss hsl
  have hQ0 : ∀ {o : Out} {σ : L2.St} {B : Hp} {params body scope p lpos pos}, Gl (cxR P w K mg base f c Ar outer s H0 E) "_law_tried" → LamX.LamS (defScope s_l_refused_right) scope → defaultsOf params (cxR P w K mg base f c Ar outer s H0 E).env = ([], []) → (∀ (q : Str) (cl : List (Str × Addr)) (pm cv ctv : Value), bindArgs (PySem.W.kla_fn "<lambda>" q params body scope cl pm cv ctv) ⟨[], []⟩ = pure []) →
      (∀ (A : Around) (outer' : List Env) (s' : Shared) (H' : Hp) (E' : XK) (f' c' : Addr), Room 9 (A.deeper (LamX.lamEnv (cxR P w K mg base f c Ar outer s H0 E) scope s'.heap.objs.size f' c')) → PX (LamX.lamCx (cxR P w K mg base f c Ar outer s H0 E) A outer' s' H' E' scope f' c') E' body σ B o) →
      ZD [(tp, qRf)] (cxR P w K mg base f c Ar outer s H0 E) (.Call (.Name "_law_tried" p) [.Lambda params body scope lpos] [] pos) σ B (trD o) := fun hg L hd hbind h =>
    zd_tried (X := cxR P w K mg base f c Ar outer s H0 E) (k := 9) Dt C TB rfl rfl hr (by decide) hg L hd hbind h
  refine stz_newL (i := 5) (T := [(tp, qRf)]) (d := trD (.error (.sight ss.length))) sc_l_refused_right.nd (hQ0 (by rfl) (LamX.lamS_by (by decide +kernel)) (by rfl) (fun _ _ _ _ _ => by rfl) fun A1 o1 s1 H1' E1 f1' c1 hr1 => ?_) s2 n2 t2 fun L B4 H4 z4 hL t4 m4 => ?_
  · exact (px_call F2 (pass_lam (X := cxR P w K mg base f c Ar outer s H0 E)) hr1 (by decide) (by rfl) (ad_cons (pd_addL (pd_var 1 rfl r1) (pd_lst (ad_cons (pd_var 3 rfl r3) ad_nil) (show 1 ≤ 100000 by decide)) (by rw [List.length_map]; show ss.length + 1 ≤ 100000; omega)) (ad_cons (pd_var 3 rfl r3) ad_nil)) (rel1 hss hsl p3))
  have LA : L ≠ A := fun e => by
    obtain ⟨_, i, j, k, z⟩ := dr3
    rw [← e] at z
    exact hL _ z fun _ y => nomatch y
  have z4 := z4.to (S := (· = L))
  refine stz_app (j := 5) (T := [(tp, qRf)]) (d := trD (.error (.sight ss.length))) rfl m4 z4.bh z4.nt t4 (show 1 ≤ 100000 by decide) (hQ0 (by rfl) (LamX.lamS_by (by decide +kernel)) (by rfl) (fun _ _ _ _ _ => by rfl) fun A1 o1 s1 H1' E1 f1' c1 hr1 => ?_) fun B5 H5 z5 t5 m5 => ?_
  · exact (px_call F2 (pass_lam (X := cxR P w K mg base f c Ar outer s H0 E)) hr1 (by decide) (by rfl) (ad_cons (pd_var 1 rfl (r1.mono z4.bb)) (ad_cons (pd_var 3 rfl (r3.mono z4.bb)) ad_nil)) (rel2 hss hsl p3))
  have z5 := z4.trans z5
  refine stz_app (j := 5) (T := [(tp, qRf)]) (d := trD (.error (.sight ss.length))) rfl m5 z5.bh z5.nt t5 (show 2 ≤ 100000 by decide) (hQ0 (by rfl) (LamX.lamS_by (by decide +kernel)) (by rfl) (fun _ _ _ _ _ => by rfl) fun A1 o1 s1 H1' E1 f1' c1 hr1 => ?_) fun B6 H6 z6 t6 m6 => ?_
  · exact (px_call F3 (pass_lam (X := cxR P w K mg base f c Ar outer s H0 E)) hr1 (by decide) (by rfl) (ad_cons (pd_addL (pd_var 1 rfl (r1.mono z5.bb)) (pd_lst (ad_cons (pd_var 3 rfl (r3.mono z5.bb)) ad_nil) (show 1 ≤ 100000 by decide)) (by rw [List.length_map]; show ss.length + 1 ≤ 100000; omega)) (ad_cons (pd_var 4 rfl (r4.mono z5.bb)) ad_nil)) (rel3 hss hsl p3 p4))
  have z6 := z5.trans z6
  refine stz_app (j := 5) (T := [(tp, qRf)]) (d := trD (.error (.look d4))) rfl m6 z6.bh z6.nt t6 (show 3 ≤ 100000 by decide) (hQ0 (by rfl) (LamX.lamS_by (by decide +kernel)) (by rfl) (fun _ _ _ _ _ => by rfl) fun A1 o1 s1 H1' E1 f1' c1 hr1 => ?_) fun B7 H7 z7 t7 m7 => ?_
  · exact (px_call F3 (pass_lam (X := cxR P w K mg base f c Ar outer s H0 E)) hr1 (by decide) (by rfl) (ad_cons (pd_var 1 rfl (r1.mono z6.bb)) (ad_cons (pd_var 4 rfl (r4.mono z6.bb)) ad_nil)) (rel4 hss hsl p4))
  have z7 := z6.trans z7
  refine stz_app (j := 5) (T := [(tp, qRf)]) (d := trD (.error (.sight 0))) rfl m7 z7.bh z7.nt t7 (show 4 ≤ 100000 by decide) (hQ0 (by rfl) (LamX.lamS_by (by decide +kernel)) (by rfl) (fun _ _ _ _ _ => by rfl) fun A1 o1 s1 H1' E1 f1' c1 hr1 => ?_) fun B8 H8 z8 t8 m8 => ?_
  · exact (px_call F2 (pass_lam (X := cxR P w K mg base f c Ar outer s H0 E)) hr1 (by decide) (by rfl) (ad_cons pd_non (ad_cons (pd_var 3 rfl (r3.mono z7.bb)) ad_nil)) (rel5 p3))
  have z8 := z7.trans z8
  refine stz_app (j := 5) (T := [(tp, qRf)]) (d := trD (.error (.sight 0))) rfl m8 z8.bh z8.nt t8 (show 5 ≤ 100000 by decide) (hQ0 (by rfl) (LamX.lamS_by (by decide +kernel)) (by rfl) (fun _ _ _ _ _ => by rfl) fun A1 o1 s1 H1' E1 f1' c1 hr1 => ?_) fun B9 H9 z9 t9 m9 => ?_
  · exact (px_call F3 (pass_lam (X := cxR P w K mg base f c Ar outer s H0 E)) hr1 (by decide) (by rfl) (ad_cons pd_int (ad_cons (pd_var 4 rfl (r4.mono z8.bb)) ad_nil)) (rel6 p4))
  have z9 := z8.trans z9
  -- due
  have hA : ∀ {B' H'}, Ez (· = L) B3 H2 B' H' → Drw A B' H' := fun z => dr3.ez z (fun e => LA e.symm)
  refine st_newCat (i := 6) (xs := [trD (.error (.sight ss.length)), trD (.error (.sight ss.length)), trD (.error (.sight ss.length))]) (ys := [trD (.error (.look d4)), trD (.error (.sight 0)), trD (.error (.sight 0))]) sc_l_refused_right.nd (pd_rep3 (pd_lst (ad_cons (pd_tup (ad_cons pd_str (ad_cons (PD.cast (pd_lenL (by rfl) T.len (pd_var 1 rfl (r1.mono z9.bb))) (by rw [List.length_map])) ad_nil)) (show 2 ≤ 100000 by decide)) ad_nil) (show 1 ≤ 100000 by decide)) pd_int)
    (pd_lst (ad_cons (pd_tup (ad_cons pd_str (ad_cons (pd_var 4 rfl (r4.mono z9.bb)) ad_nil)) (show 2 ≤ 100000 by decide)) (ad_cons (pd_tup (ad_cons pd_str (ad_cons pd_int ad_nil)) (show 2 ≤ 100000 by decide)) (ad_cons (pd_tup (ad_cons pd_str (ad_cons pd_int ad_nil)) (show 2 ≤ 100000 by decide)) ad_nil))) (show 3 ≤ 100000 by decide)) (show 3 + 3 ≤ 100000 by decide) z9.bh fun L2 C1 J1 g1 hL2 mm1 => ?_
  have zf : Ez (fun a => a = L ∨ a = L2) B3 H2 (nt C1) J1 := (z9.trans (Ez.f0 g1 z9.nt)).sub fun _ e => .inl e
  have mf := (m9.f0 g1).nt
  have md := mm1.nt
  have tf := tabs_f0 t9 g1
  have L2n : FreeT H2 L2 := (FreeT.of hL2).back z9
  have LL : L ≠ L2 := fun e => by
    obtain ⟨_, acc, z, _⟩ := m9
    rw [e, hL2] at z
    cases z
  have L2A : A ≠ L2 := fun e => by
    obtain ⟨_, i, j, k, z⟩ := hA z9
    rw [e, hL2] at z
    cases z
  have fin : ∀ (xs : List PyData) (Bf Hf : Hp), xs.length ≤ 100 → (∀ x ∈ xs, okSame 2 x = true) → Ez (fun a => a = L ∨ a = L2) B3 H2 Bf Hf → MuL K L xs Bf Hf → MuL K L2 xs Bf Hf → LamX.Tabs [(tp, qRf)] Hf →
      wpB (cxR P w K mg base f c Ar outer s H0 E) ((defBody s_l_refused_right).drop 10) { nx := fun _ H' => Q .non H', rt := Q } [some (.ref A), some v1, some v2, some v3, some v4, some (.ref L), some (.ref L2)] Hf := by
    intro xs Bf Hf hx hok z m1 m2 tt
    obtain ⟨b1, acc1, h1, ra1⟩ := m1
    obtain ⟨b2, acc2, h2, ra2⟩ := m2
    have e1 : Ez (· = L2) B3 H2 (upd Bf L (.lst acc1)) Hf := Ez.frz s2 n2 hL z (fun a e => e.symm) h1 fun _ y => nomatch y
    have e2 : Ez NoS B3 H2 (upd (upd Bf L (.lst acc1)) L2 (.lst acc2)) Hf := Ez.frz s2 n2 L2n e1 (fun a e => .inr e) h2 fun _ y => nomatch y
    have sa : Same Bf (upd Bf L (.lst acc1)) := upd_out (Same.refl _) b1
    have sb : Same (upd Bf L (.lst acc1)) (upd (upd Bf L (.lst acc1)) L2 (.lst acc2)) := upd_out (Same.refl _) (by rw [upd_ne (Ne.symm LL)]; exact b2)
    have rF : R K (upd (upd Bf L (.lst acc1)) L2 (.lst acc2)) (.ref L) (.list xs) := .lst (by rw [upd_ne LL, upd_same]) (ra1.mono (sa.trans sb))
    have rD : R K (upd (upd Bf L (.lst acc1)) L2 (.lst acc2)) (.ref L2) (.list xs) := .lst upd_same (ra2.mono (sa.trans sb))
    refine st_ret (d := .bool true) (pd_call F5 hr (by decide) (by rfl) (ad_cons (pd_var 5 rfl rF) (ad_cons (pd_var 6 rfl rD) ad_nil)) ⟨.list xs, rfl, okS3 (by omega) hok, rfl⟩) e2.bh fun v B' H' f' r' => ?_
    rw [r'.bl_inv]
    exact q (nt B') H' ((z0.trans e2.to).trans (Ez.f0 f' e2.nt)) (((dr3.ez e2 fun z => z).f0 f').nt) (tabs_f0 tt f')
  have ok6 : ∀ x ∈ [trD (.error (.sight ss.length)), trD (.error (.sight ss.length)), trD (.error (.sight ss.length)), trD (.error (.look d4)), trD (.error (.sight 0)), trD (.error (.sight 0))], okSame 2 x = true := by
    intro x hx
    simp only [List.mem_cons, List.not_mem_nil, or_false] at hx
    rcases hx with rfl | rfl | rfl | rfl | rfl | rfl
    · exact same_sight _
    · exact same_sight _
    · exact same_sight _
    · exact same_look hl3
    · exact same_sight 0
    · exact same_sight 0
  cases hp : firstApart ss with
  | none =>
    rw [hp] at r2
    refine st_if (p := false) (TD.at (CD.td (cd_notN (pd_var 2 rfl (r2.mono zf.bb)))) zf.bh) (fun z => nomatch z) fun _ C2 J2 g2 => ?_
    exact fin [trD (.error (.sight ss.length)), trD (.error (.sight ss.length)), trD (.error (.sight ss.length)), trD (.error (.look d4)), trD (.error (.sight 0)), trD (.error (.sight 0))] _ _ (show 6 ≤ 100 by decide) ok6 (zf.trans (Ez.f0 g2 zf.nt)) (mf.f0 g2).nt (md.f0 g2).nt (tabs_f0 tf g2)
  | some p =>
    rw [hp] at r2
    refine st_if (p := true) (TD.at (CD.td (cd_notN (pd_var 2 rfl (r2.mono zf.bb)))) zf.bh) (fun _ C2 J2 g2 => ?_) fun z => nomatch z
    have zf2 := zf.trans (Ez.f0 g2 zf.nt)
    have mf2 := (mf.f0 g2).nt
    have md2 := (md.f0 g2).nt
    have tf2 := tabs_f0 tf g2
    generalize nt C2 = C3 at zf2 mf2 md2
    obtain ⟨t0, ht0⟩ := apart_ne hp
    have ht0' : (ss.map Sg.d)[0]? = some t0.d := by rw [List.getElem?_map, ht0]; rfl
    refine stz_app (j := 5) (T := [(tp, qRf)]) (d := trD (.error (.apart p.1 p.2))) rfl mf2 zf2.bh zf2.nt tf2 (show 6 ≤ 100000 by decide) (hQ0 (by rfl) (LamX.lamS_by (by decide +kernel)) (by rfl) (fun _ _ _ _ _ => by rfl) fun A1 o1 s1 H1' E1 f1' c1 hr1 => ?_) fun C4 J4 z10 t10 m10 => ?_
    · exact (px_call F2 (pass_lam (X := cxR P w K mg base f c Ar outer s H0 E)) hr1 (by decide) (by rfl) (ad_cons (pd_var 1 rfl (r1.mono zf2.bb)) (ad_cons (pd_ixL (m := 0) (pd_var 1 rfl (r1.mono zf2.bb)) pd_int ht0') ad_nil)) (rel7 hss hsl hp (hss t0 (List.mem_of_getElem? ht0))))
    have md10 := md2.ez z10 (fun e => LL e.symm)
    have z10 := zf2.trans (z10.sub fun _ e => .inl e)
    refine stz_app (j := 5) (T := [(tp, qRf)]) (d := trD (.error (.apart p.1 p.2))) rfl m10 z10.bh z10.nt t10 (show 7 ≤ 100000 by decide) (hQ0 (by rfl) (LamX.lamS_by (by decide +kernel)) (by rfl) (fun _ _ _ _ _ => by rfl) fun A1 o1 s1 H1' E1 f1' c1 hr1 => ?_) fun C5 J5 z11 t11 m11 => ?_
    · exact (px_call F3 (pass_lam (X := cxR P w K mg base f c Ar outer s H0 E)) hr1 (by decide) (by rfl) (ad_cons (pd_var 1 rfl (r1.mono z10.bb)) (ad_cons (pd_tup (ad_cons pd_str (ad_cons pd_str ad_nil)) (show 2 ≤ 100000 by decide)) ad_nil)) (rel8 (k := ⟨false, "a"⟩) hss hsl hp (by decide +kernel)))
    have md11 := md10.ez z11 (fun e => LL e.symm)
    have z11 := z10.trans (z11.sub fun _ e => .inl e)
    refine stz_app (j := 5) (T := [(tp, qRf)]) (d := trD (.error (.apart p.1 p.2))) rfl m11 z11.bh z11.nt t11 (show 8 ≤ 100000 by decide) (hQ0 (by rfl) (LamX.lamS_by (by decide +kernel)) (by rfl) (fun _ _ _ _ _ => by rfl) fun A1 o1 s1 H1' E1 f1' c1 hr1 => ?_) fun C6 J6 z12 t12 m12 => ?_
    · exact (px_call F4 (pass_lam (X := cxR P w K mg base f c Ar outer s H0 E)) hr1 (by decide) (by rfl) (ad_cons (pd_var 1 rfl (r1.mono z11.bb)) ad_nil) (rel9 hss hsl hp))
    have md12 := md11.ez z12 (fun e => LL e.symm)
    have z12 := z11.trans (z12.sub fun _ e => .inl e)
    refine st_ext (j := 6) (es := [trD (.error (.apart p.1 p.2)), trD (.error (.apart p.1 p.2)), trD (.error (.apart p.1 p.2))]) rfl md12 z12.bh (show 6 + 3 ≤ 100000 by decide) (pd_rep3 (pd_lst (ad_cons (pd_tup (ad_cons pd_str (ad_cons (pd_var 2 rfl (r2.mono z12.bb)) ad_nil)) (show 2 ≤ 100000 by decide)) ad_nil) (show 1 ≤ 100000 by decide)) pd_int) fun C7 J7 g7 J8 g8 m8 => ?_
    have zz := z12.trans ((Ez.of g8 z12.nt fun p o e h => (mul_noC m8 p o e h).1).sub fun _ e => .inr e)
    refine wpB_nil ?_
    refine fin [trD (.error (.sight ss.length)), trD (.error (.sight ss.length)), trD (.error (.sight ss.length)), trD (.error (.look d4)), trD (.error (.sight 0)), trD (.error (.sight 0)), trD (.error (.apart p.1 p.2)), trD (.error (.apart p.1 p.2)), trD (.error (.apart p.1 p.2))] _ _ (show 9 ≤ 100 by decide) ?_ zz ((m12.fz g8 LL).nt) m8.nt (tabs_fz t12 g8 (mul_noC md12))
    intro x hx
    have hx' : x ∈ [trD (.error (.sight ss.length)), trD (.error (.sight ss.length)), trD (.error (.sight ss.length)), trD (.error (.look d4)), trD (.error (.sight 0)), trD (.error (.sight 0))] ++ [trD (.error (.apart p.1 p.2)), trD (.error (.apart p.1 p.2)), trD (.error (.apart p.1 p.2))] := hx
    rcases List.mem_append.mp hx' with h | h
    · exact ok6 x h
    · simp only [List.mem_cons, List.not_mem_nil, or_false, or_self] at h
      rw [h]
      exact same_apart _ _
end
end K8

set_option Elab.async false
set_option linter.all false
set_option maxRecDepth 100000
set_option maxHeartbeats 400000
/-! K8dp1: a comprehension whose items are drawn; calls that may draw or raise; tests that draw. -/
namespace K8
open PySem PySem.Spec PyProof.Rows L2
section
variable {K : PySem.W.Frag} {σ : L2.St} {B : Hp} {A : Addr}
theorem lcn_core {J : It} {g : TG} {te : TE} {vs : List Nat} {B1 H1 : Hp} {D : Addr} {Q : VK} {ds : List PyData} {Pe : PyData → Prop} (Wk : Walk J ds.length (Same B1) (YD K B1 ds)) (hb : Same B1 H1) (dr : Drw A B1 H1) (hD : H1 D = none) (hz : ds.length ≤ 100000)
    (hel : ∀ d ∈ ds, ∀ v B2, Same B1 B2 → R K B2 v d → ∃ σ2, GD g (wipe σ vs) B2 v σ2 ∧ wipe σ2 vs = wipe σ vs ∧ EvN K te σ2 B2 A Pe)
    (hq : ∀ es B' H', Fz (· = A) B1 H1 B' H' → Drw A B' H' → es.length = ds.length → (∀ e ∈ es, Pe e) → R K B' (.ref D) (.list es) → Q (.ref D) H') :
    ∃ W : Nat → Nat → Hp → Prop, (∃ m, W 0 m (upd H1 D (.lst []))) ∧ ∀ i m H, W i m H →
      (J.stop i H ∧ Q (.ref D) H) ∨ (J.go i H ∧ ∃ Nx : Hp → Prop, (∀ H', Nx H' → ∃ m', m' < m ∧ W (i + 1) m' H') ∧ ∀ x H', J.yld i H x H' → g x (wipe σ vs) H' fun σ2 H2 => wipe σ2 vs = wipe σ vs ∧ tYes σ2 H2 fun b H3 =>
        if b = true then te σ2 H3 fun y H4 => ∃ acc, H4 D = some (.lst acc) ∧ acc.length < sizeLine ∧ Nx (upd H4 D (.lst (acc ++ [y]))) else Nx H3) := by
  have hDA : D ≠ A := fun z => dr.ne (by rw [← z]; exact hD)
  refine lc_it Wk (Qd := Q (.ref D)) (fun i H2 => ∃ Bi acc es, Fz (· = A) B1 H1 Bi H2 ∧ Drw A Bi H2 ∧ Bi D = none ∧ H2 D = some (.lst acc) ∧ RAll K Bi acc es ∧ es.length = i ∧ ∀ e ∈ es, Pe e) ?_ ?_ ?_ ?_
  · refine ⟨B1, [], [], Fz.laid hb hD, ?_, hb.free hD, upd_same, .nil, rfl, fun e he => nomatch he⟩
    obtain ⟨h1, i, j, k, h2⟩ := dr
    exact ⟨h1, i, j, k, by rw [upd_ne (Ne.symm hDA)]; exact h2⟩
  · rintro i H2 _ ⟨Bi, acc, es, fi, _⟩
    exact fi.bb.trans fi.bh
  · rintro i x H2 H' hi ⟨Bi, acc, es, fi, dri, hDi, hacc, racc, hl, hp⟩ yd
    obtain ⟨By, d, fy, hd, rd⟩ := yd Bi fi.bb fi.bh
    obtain ⟨σ2, hg2, hw2, he2⟩ := hel d (List.mem_of_getElem? hd) x By (fi.bb.trans fy.bb) rd
    have haccy : H' D = some (.lst acc) := fy.hs _ _ hacc
    have hDy : By D = none := fy.out D (by rw [hacc]; simp) hDi
    refine hg2 _ fy.bh _ ⟨hw2, ?_⟩
    show te σ2 H' _
    refine he2 _ fy.bh (dri.f0 fy) _ fun y e B4 H4 f4 dr4 pe r4 => ?_
    have hD4 : B4 D = none := f4.out D (by rw [haccy]; simp) hDy
    have hacc4 : H4 D = some (.lst acc) := f4.hh _ _ hDA haccy
    have fall := (fi.trans fy.to).trans f4
    refine ⟨acc, hacc4, ?_, B4, acc ++ [y], es ++ [e], ⟨fall.bb, upd_out fall.bh hD4, fun a o n e => ?_, fall.out, fun q hq => ?_⟩, ?_, hD4, upd_same, ((racc.mono fy.bb).mono f4.bb).app (.cons r4 .nil), by rw [List.length_append, hl]; rfl, fun z hz => ?_⟩
    · rw [racc.len, hl]
      have h1 : (16777216 : Nat) = sizeLine := sizeLine_eq.symm
      omega
    · rw [upd_ne (ne_of_none e hD)]
      exact fall.hh _ _ n e
    · by_cases hqd : q = D
      · rw [hqd, upd_same]
        simp
      · rw [upd_ne hqd]
        exact fall.al q hq
    · obtain ⟨h1, i, j, k, h2⟩ := dr4
      exact ⟨h1, i, j, k, by rw [upd_ne (Ne.symm hDA)]; exact h2⟩
    · rcases List.mem_append.mp hz with h | h
      · exact hp z h
      · have : z = e := by simpa using h
        rw [this]
        exact pe
  · rintro H2 ⟨Bi, acc, es, fi, dri, hDi, hacc, racc, hl, hp⟩
    have sub : Same Bi (upd Bi D (.lst acc)) := upd_out (Same.refl _) hDi
    exact hq es (upd Bi D (.lst acc)) H2 (Fz.frz0 hb hD fi (fun a h => .inl h) hacc) ⟨by rw [upd_ne (Ne.symm hDA)]; exact dri.1, dri.2⟩ hl hp (.lst upd_same (racc.mono sub))
end
section
variable {X : Cx} {e a b c elt tg : Expr} {es : List Expr} {σ : L2.St} {B H B1 : Hp} {d d1 d2 : PyData} {ds : List PyData} {p q : Bool} {pos p1 p2 pr : Pos} {sts body : List Stmt} {D : Ends} {A : Addr} {P P1 P2 Pe : PyData → Prop} {PA : List PyData → Prop} {k n : Nat} {scope : Scope} {g : TG}
/-- [elt for tg in range(a)], a and elt may draw -/
theorem pn_lcRange (own : List (Str × Nat)) (hi : PI X tg (.Call (.Name "range" p1) [a] [] p2) (iRng1 (wpA X [a]))) (ha : PN X a σ B A (fun d => ∃ n : Nat, d = .int (n : Nat) ∧ P (.int (n : Nat)) ∧ n ≤ 100000)) (hc : X.calm = true) (nd : X.N.Nodup) (ok : BlkOk X.N X.env.scope scope own) (hg : ∀ (s : Shared) (H : Hp) (C : Addr) (cl : List (Str × Addr)) (fp : List Addr), PG (X.blk s H scope (compEnvC scope cl C X.env) fp) tg g)
    (hel : ∀ (i : Nat) v B2, Same B B2 → R X.K B2 v (.int (i : Nat)) → ∃ σ2, GD g (wipe σ (own.map (·.2))) B2 v σ2 ∧ wipe σ2 (own.map (·.2)) = wipe σ (own.map (·.2)) ∧ ∀ (s : Shared) (H0 : Hp) (C : Addr) (cl : List (Str × Addr)) (fp : List Addr), PN (X.blk s H0 scope (compEnvC scope cl C X.env) fp) elt σ2 B2 A Pe)
    (hs : ∀ x, foldedSetIterable (.Call (.Name "range" p1) [a] [] p2) X.env x = pure x := by intro _; rfl) (hst : starEach [a] X.env = (false, eval a X.env) :: starEach [] X.env := by rfl) :
    PN X (.ListComp elt [⟨tg, .Call (.Name "range" p1) [a] [] p2, [], 0⟩] scope pos) σ B A (fun d => ∃ es : List PyData, d = .list es ∧ P (.int (es.length : Nat)) ∧ ∀ e ∈ es, Pe e) := fun H hb dr Q q =>
  PE.wp (pe_lc (te := blkE X scope elt) hc nd hi ok hg (fun _ _ _ _ _ => pts_nil) (fun s H C cl fp => ⟨fun pins s2 σ2 H2 Q2 I2 q2 => pe_wp.run pins s2 σ2 H2 Q2 I2 (q2 s H C cl fp)⟩) hs) (K8.PA.wp (pa_cons pe_wp pa_nil hst) (ha H hb dr _ fun v d B1 H1 f1 dr1 pd r1 => by
    obtain ⟨n, rfl, hPn, hn⟩ := pd
    rw [r1.int_inv]
    refine ⟨(n : Int), rfl, by omega, by omega, fun D hD => ?_⟩
    rw [Int.toNat_natCast]
    have Wk : Walk (Itr 0 n) ((List.range n).map fun i => PyData.int (i : Nat)).length (Same B1) (YD X.K B1 ((List.range n).map fun i => PyData.int (i : Nat))) := by
      rw [List.length_map, List.length_range]
      refine walk_range.mono (fun _ _ => trivial) fun i H x H' hi _ ⟨e, h2⟩ B b1 b2 => ?_
      subst e h2
      exact ⟨B, _, Fz.refl b2, by rw [List.getElem?_map, List.getElem?_range hi]; rfl, by
        have e : (0 : Int) + (i : Int) = (i : Int) := Int.zero_add _
        show R X.K B (.int ((0 : Int) + (i : Int))) (.int (i : Int))
        rw [e]
        exact .int _⟩
    refine lcn_core (Pe := Pe) Wk f1.bh dr1 hD (by rw [List.length_map, List.length_range]; exact hn) (fun d hd v B2 s2 r2 => ?_) fun es B' H' f2 dr2 hl he r2 => q _ _ B' H' (f1.trans f2) dr2 ⟨es, rfl, by rw [hl, List.length_map, List.length_range]; exact hPn, he⟩ r2
    obtain ⟨i, _, rfl⟩ := List.mem_map.mp hd
    obtain ⟨σ2, h1, h2, h3⟩ := hel i v B2 (f1.bb.trans s2) r2
    exact ⟨σ2, h1, h2, fun H3 hb3 dr3 Q3 q3 s H0 C cl fp => h3 s H0 C cl fp H3 hb3 dr3 Q3 q3⟩))
/-- sep.join(e), e may draw -/
theorem pn_join {z : Str} {apos : Pos} (ha : PD X a σ B (.str z)) (h : ∀ B1, Same B B1 → PN X b σ B1 A (fun d => ∃ ws : List Str, d = .list (ws.map .str) ∧ (ws.map (·.length)).sum + ws.length * z.length ≤ 16777216 ∧ P (.str (Txt.join z ws)))) (hs : starEach [b] X.env = [(false, eval b X.env)] := by rfl) (hbase : attributeBase a "join" X.env (eval a X.env) = eval a X.env := by rfl) (hline : (apos.endLine == pos.line) = true := by rfl) :
    PN X (.Call (.Attribute a "join" apos) [b] [] pos) σ B A P := fun H hb dr Q q =>
  PE.wp (pe_join pe_wp pe_wp hs hbase hline) (ha H hb _ fun u B1 H1 f1 r1 => by
    rw [r1.str_inv]
    exact ⟨⟨z, rfl⟩, (h B1 f1.bb) H1 f1.bh (dr.f0 f1) _ fun v d B2 H2 f2 dr2 pd r2 => by
      obtain ⟨ws, rfl, hz, hp⟩ := pd
      obtain ⟨a0, xs, rfl, hs, ra⟩ := r2.lst_inv
      have ex := ra.strs
      subst ex
      exact ⟨z, a0, ws, rfl, rfl, .inl (f2.bh.seq hs), hz, q _ _ B2 H2 (f1.to.trans f2) dr2 hp (.str _)⟩⟩)
/-- a + b, ints, b may draw -/
theorem pn_addI {i : Int} (ha : PD X a σ B (.int i)) (h : ∀ B1, Same B B1 → PN X b σ B1 A (fun d => ∃ j : Int, d = .int j ∧ P (.int (i + j)))) : PN X (.BinOp a .Add b pos) σ B A P := fun H hb dr Q q =>
  PE.wp (pe_op op_add pe_wp pe_wp) (ha H hb _ fun u B1 H1 f1 r1 => (h B1 f1.bb) H1 f1.bh (dr.f0 f1) _ fun v d B2 H2 f2 dr2 pd r2 => by
    obtain ⟨j, rfl, hp⟩ := pd
    rw [r1.int_inv, r2.int_inv]
    exact ⟨i, j, rfl, rfl, q _ _ B2 H2 (f1.to.trans f2) dr2 hp (.int _)⟩)
/-- e[i], e may draw -/
theorem ix_both : IxR X (fun x y H Q => rIxL X.K x y H Q ∨ rIxT X.K x y H Q) := fun value slice pins s σ H x y v u Q I rx ry h hs => h.elim (fun h => ix_list value slice pins s σ H x y v u Q I rx ry h hs) fun h => ix_tup value slice pins s σ H x y v u Q I rx ry h hs
theorem pn_ixD {m : Nat} (ha : PN X a σ B A (fun d => ∃ ds x, seqOf d = some ds ∧ ds[m]? = some x ∧ P x)) (hi : ∀ B1, Same B B1 → PD X b σ B1 (.int (m : Int))) (hs : PlainIx b := by intro _ _; rfl) : PN X (.Subscript a b pos) σ B A P := fun H hb dr Q q =>
  PE.wp (pe_ix ix_both pe_wp pe_wp hs) (ha H hb dr _ fun u d B1 H1 f1 dr1 pd r1 => (hi B1 f1.bb) H1 f1.bh _ fun v B2 H2 f2 r2 => by
    obtain ⟨ds, x, hq, hx, hp⟩ := pd
    rw [r2.int_inv]
    have r1 := r1.mono f2.bb
    have f12 := f1.trans f2.to
    have dr2 := dr1.f0 f2
    cases d <;> simp [seqOf] at hq
    · subst hq
      obtain ⟨a0, xs, e, hs, ra⟩ := r1.lst_inv
      obtain ⟨w, hw, rw'⟩ := ra.get hx
      rw [e]
      exact .inl ⟨a0, xs, _, w, rfl, rfl, f2.bh.seq hs, atI_nat hw, q _ _ B2 H2 f12 dr2 hp rw'⟩
    · subst hq
      obtain ⟨a0, xs, e, hs, ra⟩ := r1.tup_inv
      obtain ⟨w, hw, rw'⟩ := ra.get hx
      rw [e]
      exact .inr ⟨a0, xs, _, w, rfl, rfl, sqt_mono f2.bh hs, atI_nat hw, q _ _ B2 H2 f12 dr2 hp rw'⟩)
/-- a pure def, its arguments may draw -/
theorem pn_callR {x : Str} {ps : List Str} {rel : List PyData → PyData → Prop} (F : Fn X.prog X.w X.K X.mg X.base CX0 x k ps (SpR X.K rel)) (hr : Room n X.A) (hk : k ≤ n) (hg : Gl X x) (ha : AN X (e :: es) σ B A PA) (h : ∀ ds, PA ds → ∃ d, rel ds d ∧ P d)
    (hdb : (x == ("__debug__" : Str)) = false := by decide) (he : starEach (e :: es) X.env = (false, eval e X.env) :: starEach es X.env := by rfl) (hpl : (backTo pos (starEach es X.env)).any (·.1) = false := by rfl) :
    PN X (.Call (.Name x p1) (e :: es) [] pos) σ B A P := by
  obtain ⟨f, fd, hm, kp, hbn, F⟩ := F.ex
  refine fun H hb dr Q q => PE.wp (pe_call F (hr.mono hk) hg hm kp hbn .nil pass0 pa_wp hdb he hpl) (ha H hb dr _ fun vs ds B1 H1 f1 dr1 pds r1 => ?_)
  obtain ⟨d, hrel, hp⟩ := h ds pds
  exact ⟨B1, ds, d, f1.bh, by rw [List.append_nil]; exact r1, hrel, fun r B2 H2 f2 r2 => q r d B2 H2 (f1.trans f2.to) (dr1.f0 f2) hp r2⟩
/-- nothing may be raised here -/
theorem pass_no {X : Cx} : Passes (CX X.prog X.w) X (fun _ _ _ => False) := passes_call (W := fun _ _ _ _ => False) LamX.takes0 fun _ _ _ _ h => h
/-- a def that might raise, and does not; its arguments may draw -/
theorem pn_callE {x : Str} {ps : List Str} {rel : List PyData → Out → Prop} (F : FnE X.prog X.w X.K X.mg X.base x k ps rel) (hr : Room n X.A) (hk : k ≤ n) (hg : Gl X x) (ha : AN X (e :: es) σ B A PA) (h : ∀ ds, PA ds → ∃ d, rel ds (.ok d) ∧ P d)
    (hdb : (x == ("__debug__" : Str)) = false := by decide) (he : starEach (e :: es) X.env = (false, eval e X.env) :: starEach es X.env := by rfl) (hpl : (backTo pos (starEach es X.env)).any (·.1) = false := by rfl) :
    PN X (.Call (.Name x p1) (e :: es) [] pos) σ B A P := by
  obtain ⟨f, fd, hm, kp, hbn, F⟩ := F.ex
  refine fun H hb dr Q q => PE.wp (pe_call F (hr.mono hk) hg hm kp hbn .nil pass_no pa_wp hdb he hpl) (ha H hb dr _ fun vs ds B1 H1 f1 dr1 pds r1 => ?_)
  obtain ⟨d, hrel, hp⟩ := h ds pds
  exact ⟨B1, ds, .ok d, f1.bh, by rw [List.append_nil]; exact r1, hrel, fun d' ed r B2 H2 f2 r2 => by
    cases ed
    exact q r d B2 H2 (f1.trans f2.to) (dr1.f0 f2) hp r2, fun er ee => nomatch ee⟩
theorem pd_callE {x : Str} {ps : List Str} {rel : List PyData → Out → Prop} (F : FnE X.prog X.w X.K X.mg X.base x k ps rel) (hr : Room n X.A) (hk : k ≤ n) (hg : Gl X x) (ha : AD X (e :: es) σ B ds) (h : rel ds (.ok d))
    (hdb : (x == ("__debug__" : Str)) = false := by decide) (he : starEach (e :: es) X.env = (false, eval e X.env) :: starEach es X.env := by rfl) (hpl : (backTo pos (starEach es X.env)).any (·.1) = false := by rfl) :
    PD X (.Call (.Name x p1) (e :: es) [] pos) σ B d := fun H hb Q q => px_call (E := fun _ _ _ => False) F pass_no hr hk hg ha h hdb he hpl H hb Q (fun d' ed v B' H' f r => by
    cases ed
    exact q v B' H' f r) fun er ee => nomatch ee
/-- if not e: .. (e may draw; it is True) -/
theorem stn_ifNot {pos2 : Pos} (h : PN X e σ B A (fun d => d = .bool true)) (hb : Same B H) (dr : Drw A B H) (k : ∀ B1 H1, Fz (· = A) B H B1 H1 → Drw A B1 H1 → wpB X sts D σ H1) (he : ∀ whole, isTrue e X.env whole = (do let v ← whole; standAt e.pos; holding [v] (truthy v)) := by intro _; rfl) : wpB X (.If (.UnaryOp .Not e pos2) body [] pos :: sts) D σ H :=
  wpB_cons (wpS_of (ps_if (pt_not (pt_val pe_wp he)) pb_wp pss_nil) (h H hb dr _ fun v d B1 H1 f1 dr1 e r1 => by
    rw [e] at r1
    exact ⟨true, r1.bl_inv, k B1 H1 f1 dr1⟩))
end
end K8

set_option Elab.async false
set_option linter.all false
set_option maxRecDepth 100000
set_option maxHeartbeats 400000
/-! K8dp0: the tables of _law_deeper_right. -/
namespace K8
open PySem PySem.Spec PyProof.Rows L2
def wordsP : List Str := ["b", "q", "zz", "k"]
def partsL : List (List Str) := (wordsP.map fun a => [a]) ++ ((wordsP.flatMap fun a => wordsP.map fun b => [a, b]) ++ (wordsP.flatMap fun a => wordsP.flatMap fun b => wordsP.map fun c => [a, b, c]))
theorem parts_mem {ws : List Str} (h1 : 1 ≤ ws.length) (h3 : ws.length ≤ 3) (h : ∀ x ∈ ws, x ∈ wordsP) : ws ∈ partsL := by
  unfold partsL
  rw [List.mem_append, List.mem_append]
  match ws, h1, h3, h with
  | [a], _, _, h => exact .inl (List.mem_map.mpr ⟨a, h a (by simp), rfl⟩)
  | [a, b], _, _, h => exact .inr (.inl (List.mem_flatMap.mpr ⟨a, h a (by simp), List.mem_map.mpr ⟨b, h b (by simp), rfl⟩⟩))
  | [a, b, c], _, _, h => exact .inr (.inr (List.mem_flatMap.mpr ⟨a, h a (by simp), List.mem_flatMap.mpr ⟨b, h b (by simp), List.mem_map.mpr ⟨c, h c (by simp), rfl⟩⟩⟩))
def someD : List (Sg × Bool) := [(⟨⟨true, "a"⟩, .nm ["z"]⟩, true), (⟨⟨true, "a"⟩, .nm ["b"]⟩, true), (⟨⟨false, "a"⟩, .tx ""⟩, true), (⟨⟨true, "a"⟩, .no⟩, true), (⟨⟨true, "a"⟩, .nm ["b/"]⟩, false), (⟨⟨false, "a/b"⟩, .no⟩, false), (⟨⟨true, "a/b"⟩, .no⟩, true), (⟨⟨false, "a/b"⟩, .tx "x"⟩, true), (⟨⟨true, "a"⟩, .nm ["b/", "z"]⟩, false)]
def duD (p : Sg × Bool) : PyData := .tuple [p.1.d, .bool p.2]
def dpT (w : Bool) (z : Str) : Sg := ⟨⟨w, "a/b/" ++ z⟩, .no⟩
def dpOk (w : Bool) (z : Str) : Bool := decide (sightOf (dpT w z).d = some (dpT w z)) && (okSight (dpT w z).d && (okG (dpT w z) && someD.all fun p => (brings p.1 (dpT w z).k).isSome && decide (broughtB [p.1] (dpT w z) = p.2)))
theorem dp_tab : (partsL.all fun ws => dpOk false (Txt.join "/" ws) && dpOk true (Txt.join "/" ws)) = true := by decide +kernel
theorem dp_tab2 : (someD.all fun p => okSS [p.1] && (firstApart [p.1]).isNone) = true := by decide +kernel
theorem dp_len : (partsL.all fun ws => decide ((Txt.join "/" ws).length ≤ 100) && decide ((ws.map (·.length)).sum + ws.length * 1 ≤ 100)) = true := by decide +kernel
end K8

set_option Elab.async false
set_option linter.all false
set_option maxRecDepth 100000
set_option maxHeartbeats 400000
/-! K8dp: _law_deeper_right. -/
namespace K8
open PySem PySem.Spec PyProof.Rows L2
theorem fs_none {α β : Type} (l : List α) : l.findSome? (fun _ => (none : Option β)) = none := by
  induction l with
  | nil => rfl
  | cons a l ih => exact ih
def preDp : List PyData → Prop := fun ds => ds = []
def relDp : List PyData → PyData → Prop := fun ds d => ds = [] ∧ d = .bool true
theorem dp_fol {ws : List Str} (hw : ws ∈ partsL) (w : Bool) {p : Sg × Bool} (hp : p ∈ someD) : R_follows [sgsD [p.1], (dpT w (Txt.join "/" ws)).d] (.ok (.bool p.2)) := by
  have h := List.all_eq_true.mp dp_tab ws hw
  rw [Bool.and_eq_true] at h
  have h : dpOk w (Txt.join "/" ws) = true := by
    cases w
    · exact h.1
    · exact h.2
  unfold dpOk at h
  rw [Bool.and_eq_true, Bool.and_eq_true, Bool.and_eq_true] at h
  obtain ⟨h1, h2, h3, h4⟩ := h
  have h1 := of_decide_eq_true h1
  have h4 := List.all_eq_true.mp h4 p hp
  rw [Bool.and_eq_true] at h4
  obtain ⟨h5, h6⟩ := h4
  have h6 := of_decide_eq_true h6
  have g := List.all_eq_true.mp dp_tab2 p hp
  rw [Bool.and_eq_true] at g
  obtain ⟨g1, g2⟩ := g
  have g2 := Option.isNone_iff_eq_none.mp g2
  refine ⟨_, _, rfl, okSights_d g1, h2, fun ss h' => ?_, ?_⟩
  · rw [sightsOf_d g1] at h'
    cases h'
    refine ⟨g1, fun t ht => ?_⟩
    rw [h1] at ht
    cases ht
    exact ⟨h3, by unfold okBr; rw [List.all_cons, h5]; rfl⟩
  · unfold folO
    rw [sightsOf_d g1, h1]
    simp only
    rw [g2]
    simp only
    rw [h6]
    rfl
theorem strs_words : ∀ es : List PyData, (∀ e ∈ es, ∃ x, x ∈ wordsP ∧ e = .str x) → ∃ ws : List Str, es = ws.map .str ∧ ∀ x ∈ ws, x ∈ wordsP
  | [], _ => ⟨[], rfl, fun x hx => nomatch hx⟩
  | e :: es, h => by
    obtain ⟨ws, h1, h2⟩ := strs_words es fun z hz => h z (List.mem_cons_of_mem _ hz)
    obtain ⟨x, hx, he⟩ := h e List.mem_cons_self
    refine ⟨x :: ws, by rw [h1, he]; rfl, fun y hy => ?_⟩
    rcases List.mem_cons.mp hy with e | e
    · rw [e]
      exact hx
    · exact h2 y e
section
variable {P : Program} {w : World} {K : PySem.W.Frag} {mg : Str → Option Value} {base : Heap}
theorem fn_l_deeper_right (D : IsDef K mg "_law_deeper_right" s_l_deeper_right) (T : Bl mg) (F0' : FnN P w K mg base "_law_draw" 1 ["_law_draws", "_law_many"] preDraw relDraw) (F1 : FnN P w K mg base "_law_pick" 2 ["_law_draws", "_law_things"] prePick relPick) (F2 : FnE P w K mg base "follows" 9 ["sights", "sight"] R_follows) (F5 : Fn P w K mg base CX0 "_law_same" 4 ["_law_found", "_law_due"] (SpR K (R_l_same 3))) :
    FnN P w K mg base "_law_deeper_right" 10 ["_law_draws"] preDp relDp := by
  refine fnN_data D sc_l_deeper_right (fun ds h => by cases h; rfl) (fun _ _ _ _ _ _ us hl => match us, hl with | [_], _ => rfl) fun f cdv Ar outer s H0 E A vs B ds hr h ra => ?_
  cases h
  cases ra
  intro H hb dr Q q
  refine stn_set (i := 1) (P := fun d => ∃ ws, ws ∈ partsL ∧ d = .str (Txt.join "/" ws)) sc_l_deeper_right.nd (pn_join pd_str fun B1 s1 => PN.imp (pn_lcRange (P := fun d => ∃ n : Nat, d = .int (n : Nat) ∧ 1 ≤ n ∧ n ≤ 3) (Pe := fun d => ∃ x, x ∈ wordsP ∧ d = .str x) [("_law_k", 2)] (pi_range1 (by rfl) T.range pa_wp) (pn_addI pd_int fun B2 s2 => pn_call (i := 0) (PA := fun ds => ds = [.int ((3 : Nat) : Int)]) F0' hr (by decide) (by rfl) rfl (AD.an (ad_cons pd_int ad_nil) rfl) (fun ds e => ⟨3, e, by decide, by decide⟩) fun ds d e hrl => ?_) rfl sc_l_deeper_right.nd (blkOk_by (N := N_l_deeper_right) (sc := defScope s_l_deeper_right) (by decide +kernel)) (g := gName 2) (fun _ _ _ _ _ => by exact pg_name (i := 2) sc_l_deeper_right.nd rfl (Or.inl rfl)) fun i v B2 s2 r2 => ⟨_, gd_name, rfl, fun _ _ _ _ _ => pn_call (i := 0) (PA := fun ds => ds = [.list (wordsP.map .str)]) F1 hr (by decide) (by rfl) rfl (AD.an (ad_cons (pd_lst (ad_cons pd_str (ad_cons pd_str (ad_cons pd_str (ad_cons pd_str ad_nil)))) (show 4 ≤ 100000 by decide)) ad_nil) rfl) (fun ds e => ⟨_, _, e, rfl, (show 1 ≤ 4 by decide), (show 4 ≤ 100 by decide)⟩) fun ds d e hrl => ?_⟩) fun d hd => ?_) hb dr fun v1 d1 B1 H1 f1 dr1 p1 r1 => ?_
  · obtain ⟨m, n, e2, rfl, hn⟩ := hrl
    rw [e] at e2
    have e3 : m = 3 := by
      have e4 : ((3 : Nat) : Int) = (m : Int) := by injection e2 with e5; injection e5
      omega
    subst e3
    refine ⟨(n : Int), rfl, n + 1, ?_, ⟨n + 1, rfl, by omega, by omega⟩, by omega⟩
    show PyData.int (1 + (n : Int)) = .int ((n + 1 : Nat) : Int)
    rw [Int.add_comm]
    rfl
  · obtain ⟨x, xs, e2, hq, hm⟩ := hrl
    rw [e] at e2
    cases e2
    cases hq
    obtain ⟨y, hy, rfl⟩ := List.mem_map.mp hm
    exact ⟨y, hy, rfl⟩
  · obtain ⟨es, rfl, ⟨n, hn, h1, h3⟩, he⟩ := hd
    obtain ⟨ws, rfl, hws⟩ := strs_words es he
    have hl : ws.length = n := by
      have h4 : (((ws.map PyData.str).length : Nat) : Int) = (n : Int) := by injection hn
      rw [List.length_map] at h4
      omega
    have hm := parts_mem (by omega) (by omega) hws
    have hz := Bool.and_eq_true_iff.mp (List.all_eq_true.mp dp_len ws hm)
    refine ⟨ws, rfl, ?_, ws, hm, rfl⟩
    have := of_decide_eq_true hz.2
    show (ws.map (·.length)).sum + ws.length * 1 ≤ 16777216
    omega
  obtain ⟨ws, hws, rfl⟩ := p1
  have hz : (Txt.join "/" ws).length ≤ 100 := of_decide_eq_true (Bool.and_eq_true_iff.mp (List.all_eq_true.mp dp_len ws hws)).1
  refine st_newL (i := 3) (ds := [duD (⟨⟨true, "a"⟩, .nm ["z"]⟩, true), duD (⟨⟨true, "a"⟩, .nm ["b"]⟩, true), duD (⟨⟨false, "a"⟩, .tx ""⟩, true)]) sc_l_deeper_right.nd (ad_cons (pd_tup (ad_cons (pd_tup (ad_cons (pd_tup (ad_cons pd_str (ad_cons pd_str ad_nil)) (show 2 ≤ 100000 by decide)) (ad_cons (pd_tup (ad_cons pd_str ad_nil) (show 1 ≤ 100000 by decide)) ad_nil)) (show 2 ≤ 100000 by decide)) (ad_cons pd_bl ad_nil)) (show 2 ≤ 100000 by decide)) (ad_cons (pd_tup (ad_cons (pd_tup (ad_cons (pd_tup (ad_cons pd_str (ad_cons pd_str ad_nil)) (show 2 ≤ 100000 by decide)) (ad_cons (pd_tup (ad_cons pd_str ad_nil) (show 1 ≤ 100000 by decide)) ad_nil)) (show 2 ≤ 100000 by decide)) (ad_cons pd_bl ad_nil)) (show 2 ≤ 100000 by decide)) (ad_cons (pd_tup (ad_cons (pd_tup (ad_cons (pd_tup (ad_cons pd_str (ad_cons pd_str ad_nil)) (show 2 ≤ 100000 by decide)) (ad_cons pd_str ad_nil)) (show 2 ≤ 100000 by decide)) (ad_cons pd_bl ad_nil)) (show 2 ≤ 100000 by decide)) ad_nil))) (show 3 ≤ 100000 by decide) f1.bh fun B2 H2 L f2 hL m2 => ?_
  refine st_ext (j := 3) (es := [duD (⟨⟨true, "a"⟩, .no⟩, true), duD (⟨⟨true, "a"⟩, .nm ["b/"]⟩, false), duD (⟨⟨false, "a/b"⟩, .no⟩, false)]) rfl m2 f2.bh (show 3 + 3 ≤ 100000 by decide) (pd_lst (ad_cons (pd_tup (ad_cons (pd_tup (ad_cons (pd_tup (ad_cons pd_str (ad_cons pd_str ad_nil)) (show 2 ≤ 100000 by decide)) (ad_cons pd_non ad_nil)) (show 2 ≤ 100000 by decide)) (ad_cons pd_bl ad_nil)) (show 2 ≤ 100000 by decide)) (ad_cons (pd_tup (ad_cons (pd_tup (ad_cons (pd_tup (ad_cons pd_str (ad_cons pd_str ad_nil)) (show 2 ≤ 100000 by decide)) (ad_cons (pd_tup (ad_cons pd_str ad_nil) (show 1 ≤ 100000 by decide)) ad_nil)) (show 2 ≤ 100000 by decide)) (ad_cons pd_bl ad_nil)) (show 2 ≤ 100000 by decide)) (ad_cons (pd_tup (ad_cons (pd_tup (ad_cons (pd_tup (ad_cons pd_str (ad_cons pd_str ad_nil)) (show 2 ≤ 100000 by decide)) (ad_cons pd_non ad_nil)) (show 2 ≤ 100000 by decide)) (ad_cons pd_bl ad_nil)) (show 2 ≤ 100000 by decide)) ad_nil))) (show 3 ≤ 100000 by decide)) fun B3 _ _ H3 f3 m3 => ?_
  refine st_ext (j := 3) (es := [duD (⟨⟨true, "a/b"⟩, .no⟩, true), duD (⟨⟨false, "a/b"⟩, .tx "x"⟩, true)]) rfl m3 f3.bh (show 6 + 2 ≤ 100000 by decide) (pd_lst (ad_cons (pd_tup (ad_cons (pd_tup (ad_cons (pd_tup (ad_cons pd_str (ad_cons pd_str ad_nil)) (show 2 ≤ 100000 by decide)) (ad_cons pd_non ad_nil)) (show 2 ≤ 100000 by decide)) (ad_cons pd_bl ad_nil)) (show 2 ≤ 100000 by decide)) (ad_cons (pd_tup (ad_cons (pd_tup (ad_cons (pd_tup (ad_cons pd_str (ad_cons pd_str ad_nil)) (show 2 ≤ 100000 by decide)) (ad_cons pd_str ad_nil)) (show 2 ≤ 100000 by decide)) (ad_cons pd_bl ad_nil)) (show 2 ≤ 100000 by decide)) ad_nil)) (show 2 ≤ 100000 by decide)) fun B4 _ _ H4 f4 m4 => ?_
  refine st_app (j := 3) (d := duD (⟨⟨true, "a"⟩, .nm ["b/", "z"]⟩, false)) rfl m4 f4.bh (show 8 ≤ 100000 by decide) (pd_tup (ad_cons (pd_tup (ad_cons (pd_tup (ad_cons pd_str (ad_cons pd_str ad_nil)) (show 2 ≤ 100000 by decide)) (ad_cons (pd_tup (ad_cons pd_str (ad_cons pd_str ad_nil)) (show 2 ≤ 100000 by decide)) ad_nil)) (show 2 ≤ 100000 by decide)) (ad_cons pd_bl ad_nil)) (show 2 ≤ 100000 by decide)) fun B5 _ _ H5 f5 m5 _ => ?_
  have m5 : MuL K L (someD.map duD) B5 H5 := m5
  obtain ⟨acc, hacc, rr⟩ := m5.frz
  have fall : F0 B1 H1 (upd B5 L (.lst acc)) H5 := Fz.frz0 f1.bh hL (((f2.to.trans f3).trans f4).trans f5) (fun a h => .inr h) hacc
  have fA : Fz (· = A) B H (upd B5 L (.lst acc)) H5 := f1.trans fall.to
  have drA := dr1.f0 fall
  have r1' := r1.mono fall.bb
  have key : RD (bx P w K mg base "_law_deeper_right" s_l_deeper_right N_l_deeper_right f cdv Ar outer s H E) ((defBody s_l_deeper_right).drop 5) [some (.ref A), some v1, none, some (.ref L), none, none, none] (upd B5 L (.lst acc)) (.bool true) := by
    refine rd_for (ds := someD.map duD) (U := fun σ1 => ∃ o4 o5 o6, σ1 = [some (.ref A), some v1, none, some (.ref L), o4, o5, o6]) (find := fun _ => none) PassesOwn.never rfl (pi_list pe_wp) (pg_tup rfl (pgs_cons (pg_name (i := 4) sc_l_deeper_right.nd rfl (Or.inl rfl)) (pgs_cons (pg_name (i := 5) sc_l_deeper_right.nd rfl (Or.inl rfl)) pgs_nil))) (src_list (pd_var 3 rfl rr)) ⟨_, _, _, rfl⟩ (fun d' hd v2 B6 σ1 s6 r6 u1 => ?_) (fun d' hd' => ?_) fun hno σ1 B6 s6 u1 => ?_
    · obtain ⟨p, hp, rfl⟩ := List.mem_map.mp hd
      obtain ⟨o4, o5, o6, rfl⟩ := u1
      obtain ⟨v3, v4, r3, r4, gd⟩ := gd_pair r6
      refine ⟨_, gd gd_name gd_name, ?_⟩
      refine bd_for (ds := [.str "read", .str "list"]) (U := fun σ1 => ∃ o6, σ1 = [some (.ref A), some v1, none, some (.ref L), some v3, some v4, o6]) (find := fun _ => none) PassesOwn.never rfl (pi_tup pe_wp) (pg_name (i := 6) sc_l_deeper_right.nd rfl (Or.inl rfl)) (src_tup (pd_tup (ad_cons pd_str (ad_cons pd_str ad_nil)) (show 2 ≤ 100000 by decide))) ⟨_, rfl⟩ (fun d' hd v2 B7 σ1 s7 r7 u1 => ?_) (fun d' hd' => ?_) fun hno σ1 B7 s7 u1 => bd_nil ?_
      · obtain ⟨o6, rfl⟩ := u1
        obtain ⟨b, rfl⟩ : ∃ b : Bool, d' = .str (wd b) := by
          simp only [List.mem_cons, List.not_mem_nil, or_false] at hd
          rcases hd with rfl | rfl
          · exact ⟨false, rfl⟩
          · exact ⟨true, rfl⟩
        refine ⟨_, gd_name, bd_if (p := false) (d := .none) (td_not (p := true) (td_val (pd_call F5 hr (by decide) (by rfl) (ad_cons (pd_callE F2 hr (by decide) (by rfl) (ad_cons (pd_lst (ad_cons (pd_var 4 rfl (r3.mono s7)) ad_nil) (show 1 ≤ 100000 by decide)) (ad_cons (pd_tup (ad_cons (pd_tup (ad_cons (pd_var 6 rfl r7) (ad_cons (pd_adds pd_str (pd_var 1 rfl ((r1'.mono s6).mono s7)) ?_) ad_nil)) (show 2 ≤ 100000 by decide)) (ad_cons pd_non ad_nil)) (show 2 ≤ 100000 by decide)) ad_nil)) (dp_fol hws b hp)) (ad_cons (pd_var 5 rfl (r4.mono s7)) ad_nil)) ⟨.bool p.2, rfl, rfl, rfl⟩))) (fun z => nomatch z) fun _ => bd_nil ⟨_, rfl⟩⟩
        show 4 + (Txt.join "/" ws).length ≤ 100000
        omega
      · rw [fs_none] at hd'
        cases hd'
      · obtain ⟨o6, rfl⟩ := u1
        exact ⟨_, _, _, rfl⟩
    · rw [fs_none] at hd'
      cases hd'
    · exact rd_ret pd_bl
  exact key H5 fall.bh { nx := fun _ H' => Q .non H', rt := Q } fun v B' H' f' r' => q (.bool true) v B' H' (fA.trans f'.to) (drA.f0 f') ⟨rfl, rfl⟩ r'
end
end K8

set_option Elab.async false
set_option linter.all false
set_option maxRecDepth 100000
set_option maxHeartbeats 400000
/-! K8g: defs that are called where no object is being shown; str of data. -/
namespace K8
open PySem PySem.Spec PyProof.Rows L2
/-- a def's promise, where no object is being shown -/
structure FnG (P : Program) (w : World) (K : PySem.W.Frag) (mg : Str → Option Value) (base : Heap) (k : Nat) (f : Addr) (fd : FuncData) (ps : List Str) (sp : Sp) : Prop where
  len : ∀ vs H Q E, sp vs H Q E → vs.length = ps.length
  run : ∀ (A : Around) (outer : List Env) (s : Shared) (H : Hp) (args : Args) (us : List Value) (vs : List V) (Q : VK) (E : XK), Room k A → A.guards = some [] → Env0 P w K mg base A outer s H → BindsTo s fd args (ps.zip us) → Vals vs us → sp vs H Q E →
    codeAny (model P w) A (.call (.ref f) args) (CR CX0 outer P w H s Q E) s
structure GFn (P : Program) (w : World) (K : PySem.W.Frag) (mg : Str → Option Value) (base : Heap) (x : Str) (k : Nat) (ps : List Str) (sp : Sp) : Prop where
  ex : ∃ (f : Addr) (fd : FuncData), mg x = some (.ref f) ∧ PySem.W.keepIn K (.ref f) = true ∧ Binds K fd ps [] ∧ FnG P w K mg base k f fd ps sp ∧ ∃ (oc : Value) (od : Option Addr) (osl : Array (Option Value)), K.lookup f = some ⟨oc, od, .func fd, osl⟩
section
variable {P : Program} {w : World} {K : PySem.W.Frag} {mg : Str → Option Value} {base : Heap}
theorem gfn_of {x : Str} {st : Stmt} {N ps : List Str} {k : Nat} {sp : Sp} (D : IsDef K mg x st) (S : FnScope N ps (defScope st)) (len : ∀ vs H Q E, sp vs H Q E → vs.length = ps.length)
    (bind : ∀ (kV doc pm : Value) (an : Option Addr) (cdv ct : Value) (us : List Value), us.length = ps.length → bindArgs (PySem.W.fnOf x x (defArgs st) (defBody st) (defScope st) .none kV doc pm an cdv ct) ⟨us, []⟩ = pure (ps.zip us))
    (body : ∀ (f : Addr) (cdv : Value) (A : Around) (outer : List Env) (s : Shared) (H : Hp) (E : XK) (vs : List V) (Q : VK), Room k (bx P w K mg base x st N f cdv A outer s H E).A → (bx P w K mg base x st N f cdv A outer s H E).A.guards = some [] → sp vs H Q E → wpB (bx P w K mg base x st N f cdv A outer s H E) (defBody st) { nx := fun _ H' => Q .non H', rt := Q } (start N vs) H) :
    GFn P w K mg base x (k + 1) ps sp := by
  obtain ⟨f, fd, hm, F⟩ := D
  have kp := F.kp
  have bn := F.binds bind
  obtain ⟨oc, od, kV, doc, pm, an, cdv, ct, osl, rfl, lk, hcd⟩ := F.ex
  refine ⟨f, _, hm, kp, bn, ⟨len, fun A outer s H args us vs Q E hr hg e0 hb r hsp => ?_⟩, _, _, _, lk⟩
  exact LamX.run_ofS lk hcd S hr e0 hb r (len vs H Q E hsp) fun hr' => ⟨_, PSs.nox (pb_wp (X := bx P w K mg base x st N f cdv A outer s H E)), body f cdv A outer s H E vs Q hr' hg hsp⟩
end
section
variable {X : Cx} {e a : Expr} {es : List Expr} {σ : L2.St} {B : Hp} {d : PyData} {p pos p1 : Pos} {k n : Nat} {t : TA}
theorem pe_callG {x : Str} {ps : List Str} {sp : Sp} (F : GFn X.prog X.w X.K X.mg X.base x k ps sp) (hr : Room n X.A) (hk : k ≤ n) (hgd : X.A.guards = some []) (hg : Gl X x) (ha : PA X (e :: es) t)
    (hdb : (x == ("__debug__" : Str)) = false := by decide) (he : starEach (e :: es) X.env = (false, eval e X.env) :: starEach es X.env := by rfl) (hpl : (backTo pos (starEach es X.env)).any (·.1) = false := by rfl) :
    PE X (.Call (.Name x p) (e :: es) [] pos) (tCall sp [] E0 t) := by
  obtain ⟨f, fd, hm, kp, hb, F, _⟩ := F.ex
  refine ⟨fun pins s σ H Q I h => ?_⟩
  refine wpAny_Call_Name_kw (ld_glob I hg hm ?_ hdb)
  refine PySem.W.callWith_K (h₀ := X.base) I.ok.mod.kin kp (thn (ha.run pos pins s σ H _ I h) fun us s1 ⟨vs, H1, I1, r, q⟩ => ⟨I1.kIn, ?_⟩) he hpl
  have q1 : sp vs H1 Q E0 := by
    have q2 : sp (vs ++ []) H1 Q E0 := q
    rwa [List.append_nil] at q2
  have hl : (us ++ []).length = ps.length := by rw [List.append_nil, ← r.length]; exact F.len _ _ _ _ q1
  have hbt := hb s1 us I1.kIn hl
  rw [List.append_nil] at hbt
  refine wpAny_call (codeAny_mono (F.run X.A X.stack s1 H1 ⟨us, []⟩ us vs Q E0 (hr.mono hk) hgd I1.env0 hbt r q1) fun r s' hq => ?_)
  cases r with
  | error e => exact (show False from hq).elim
  | ok fl =>
    cases fl with
    | ret u => exact I1.after hq
    | next => exact False.elim hq
    | brk => exact False.elim hq
    | cont => exact False.elim hq
/-- str(..) of a list, a tuple -/
theorem call_strD (hgd : X.A.guards = some []) (hr : Room n X.A) : CallR X (.type "str") (fun xs H Q => ∃ (a : Addr) (d : PyData), xs = [.ref a] ∧ Dp X.K H (.ref a) d ∧ d.showable = true ∧ d.hasDict = false ∧ d.depth ≤ 64 ∧ d.shown.length ≤ 100000 ∧ Q (.str d.shown) H) := by
  intro pins s σ H xs us Q I r h
  obtain ⟨a, d, rfl, dp, h1, h2, h3, h4, q⟩ := h
  obtain ⟨u, rfl, rv⟩ := vals1 r
  obtain ⟨as, rd⟩ := Dp.reads I d (.ref a) u dp rv
  obtain rfl : u = Value.ref a := rv
  refine PySem.str_of_reads rd h1 (fun z => by rw [h2] at z; cases z) hgd (by have := hr.un; omega) (fun b o e => e) (fun h' u tk k => ⟨.str _, H, I.kept (t' := tk) k, ⟨_, rfl⟩, q⟩) ?_
  rw [sizeLine_eq]
  omega
theorem pd_strD (hgd : X.A.guards = some []) (hr : Room n X.A) (hg : Gl X "str") (hm : X.mg "str" = none) {xs : List PyData} (hq : seqOf d = some xs) (ha : PD X a σ B d) (hf : flat d = true) (h1 : d.showable = true) (h2 : d.hasDict = false) (h3 : d.depth ≤ 64) (h4 : d.shown.length ≤ 100000) (he : starEach [a] X.env = (false, eval a X.env) :: starEach [] X.env := by rfl) :
    PD X (.Call (.Name "str" p1) [a] [] pos) σ B (.str d.shown) :=
  .of (pe_callTy (call_strD hgd hr) hg hm (by decide +kernel) (pa_cons pe_wp pa_nil he) (he := he)) (ev_cb (ea_cons ha ea_nil) fun vs B1 H1 _ s1 r1 Q q => by
    obtain ⟨v, rfl, r⟩ := r1.one
    have dp := (r.mono s1).dp hf
    obtain ⟨a0, rfl⟩ : ∃ a0, v = .ref a0 := by
      cases d <;> simp [seqOf] at hq
      · obtain ⟨a0, _, e, _⟩ := r.lst_at
        exact ⟨a0, e⟩
      · obtain ⟨a0, _, e, _⟩ := r.tup_at
        exact ⟨a0, e⟩
    exact ⟨a0, d, rfl, dp, h1, h2, h3, h4, q _ B1 H1 (Fz.refl s1) (.str _)⟩)
end
/-! ### the end of a law with tables -/
theorem law_callTG {P : Program} {w : World} {K : PySem.W.Frag} {mg mb : Str → Option Value} {k : Nat} {fa a : Addr} {cs : List (Addr × Addr)} {fd : FuncData} {x : Str} {sp : Sp} {s₁ : Shared} {vs : List Value} {ns : List Int}
    (KX : K.In s₁.heap) (hns : s₁.heap.Ns mainGlobals mg) (hb : s₁.heap.Ns builtinsNs mb) (hbb : ∀ x : Str, x ≠ "__name__" → mb x = bootBuiltins x) (hlim : s₁.heap.NoLimit) (hg : s₁.gens = #[])
    (hT : ∀ p ∈ cs, s₁.heap.get? p.2 = some { cls := .none, data := .fields #[] }) (nT : ∀ p ∈ cs, K.lookup p.2 = none) (C : ∀ p ∈ cs, PySem.W.CodeHd s₁.heap p.1 p.2)
    (hbm : ∃ (bm : Addr) (ob : Obj), mg "__builtins__" = some (.ref bm) ∧ bm ≠ builtinsNs ∧ s₁.heap.get? bm = some ob ∧ ob.cls = .type "module" ∧ ob.dict = some builtinsNs ∧ ob.data = .plain)
    (ha : s₁.heap.get? a = some { cls := .type "list", data := .seq vs.toArray }) (hi : IntsAre vs ns) (hl : ns.length ≤ sizeLine) (hr : Room k callerA)
    (F : ∀ base : Heap, K.In base → base.Ns mainGlobals mg → (∀ p ∈ cs, LamX.TabB base mg p.1 p.2) → FnG P w K mg base k fa fd [x] sp) (hbind : ∀ (s : Shared) (u : Value), BindsTo s fd ⟨[u], []⟩ [(x, u)])
    (hsp : ∀ H : Hp, (∀ p ∈ cs, H p.2 = some (.tbl #[])) → SqL K H a (ns.map V.int) → sp [.ref a] H (fun v _ => v = .bl true) fun _ _ _ => False) :
    codeAny (model P w) callerA (.call (.ref fa) ⟨[.ref a], []⟩) (fun r s' => r = .ok (.ret (.bool true)) ∧ OldK s₁.heap s'.heap ∧ s'.os = s₁.os ∧ AllBare s'.gens) s₁ := by
  have rv := vals_ints hi
  have lenV := hi.length
  have isT : ∀ b : Addr, b ∈ cs.map (·.2) → s₁.heap.get? b = some { cls := .none, data := .fields #[] } := fun b hb => by
    obtain ⟨p, hp, e⟩ := List.mem_map.mp hb
    rw [← e]
    exact hT p hp
  have aT : a ∉ cs.map (·.2) := fun z => by
    have q := isT a z
    rw [ha] at q
    have z' : Data.seq vs.toArray _ = Data.fields #[] := congrArg Obj.data (Option.some.inj q)
    cases z'
  have memT : ∀ p ∈ cs, p.2 ∈ cs.map (·.2) := fun p hp => List.mem_map.mpr ⟨p, hp, rfl⟩
  -- from an abstract heap in which nothing but the script and the tables may be tracked
  have core : ∀ H : Hp, (∀ p ∈ cs, H p.2 = some (.tbl #[])) → (∀ b, H b = none ∨ b ∈ cs.map (·.2) ∨ ∃ o xs, H b = some (.frz o (.lst xs))) → SqL K H a (ns.map V.int) → HOk P w H s₁.heap → (∀ b, H b ≠ none → b = a ∨ b ∈ cs.map (·.2)) → (H a ≠ none → K.lookup a = none) →
      codeAny (model P w) callerA (.call (.ref fa) ⟨[.ref a], []⟩) (fun r s' => r = .ok (.ret (.bool true)) ∧ OldK s₁.heap s'.heap ∧ s'.os = s₁.os ∧ AllBare s'.gens) s₁ := by
    intro H hH hO hS hok hA hK
    have base_of : ∀ {b : Addr} {o : Obj}, s₁.heap.get? b = some o → H b = none → (hidT s₁.heap H).get? b = some o := fun e n => hidT_get e n
    have noD : ∀ {b : Addr} {o : Obj}, s₁.heap.get? b = some o → (∀ vs n, o.data ≠ .seq vs n) → o.data ≠ .fields #[] → H b = none := fun {b o} e h1 h2 => by
      cases q : H b with
      | none => rfl
      | some u =>
        rcases hA b (by rw [q]; simp) with e' | e'
        · rw [e', ha] at e
          cases e
          exact (h1 _ _ rfl).elim
        · rw [isT b e'] at e
          cases e
          exact (h2 rfl).elim
    have noA : ∀ {b : Addr} {o : Obj} {es : Array DictEntry} {ep : Nat}, s₁.heap.get? b = some o → o.data = .dict es ep → H b = none := fun {b o es ep} e d => by
      refine noD e (fun vs n z => ?_) fun z => ?_
      · rw [d] at z
        cases z
      · rw [d] at z
        cases z
    have nsK : ∀ {b : Addr} {m : Str → Option Value}, s₁.heap.Ns b m → (hidT s₁.heap H).Ns b m := fun {b m} ⟨o, es, ep, e, d, r⟩ => ⟨o, es, ep, base_of e (noA e d), d, r⟩
    have hKb : K.In (hidT s₁.heap H) := fun b o e => base_of (KX b o e) (by
      cases q : H b with
      | none => rfl
      | some u =>
        rcases hA b (by rw [q]; simp) with e' | e'
        · rw [e'] at e q
          rw [hK (by rw [q]; simp)] at e
          cases e
        · obtain ⟨p, hp, ep⟩ := List.mem_map.mp e'
          rw [← ep, nT p hp] at e
          cases e)
    have hM : L2.Mod K mg (hidT s₁.heap H) := ⟨hKb, nsK hns, ⟨mb, nsK hb, hbb⟩, let ⟨mc, h1, h2⟩ := hlim; ⟨mc, nsK h1, h2⟩⟩
    have TB : ∀ p ∈ cs, LamX.TabB (hidT s₁.heap H) mg p.1 p.2 := fun p hp => by
      have hTp := hT p hp
      refine ⟨?_, ?_, fun z => ?_⟩
      · obtain ⟨o, us, file, tf, flags, tg, inF, text, tt, e1, r1, r2, r3, r4, r5, r6, r7, r8, hne⟩ := C p hp
        refine ⟨o, us, file, tf, flags, tg, inF, text, tt, base_of e1 (noD e1 (fun vs n z => ?_) fun z => ?_), r1, r2, r3, r4, r5, r6, r7, r8, hne⟩
        · rw [r2] at z
          cases z
        · rw [r2] at z
          cases z
          simp at r3
      · obtain ⟨bm, ob, b1, b2, b3, b4, b5, b6⟩ := hbm
        have nG : bm ≠ mainGlobals := fun q => by
          obtain ⟨o, es, ep, e, hd, _⟩ := hns
          rw [q, e] at b3
          cases b3
          rw [hd] at b6
          cases b6
        have nP : bm ≠ p.2 := fun q => by
          rw [q, hTp] at b3
          cases b3
          cases b6
        refine ⟨bm, ob, b1, b2, nG, nP, base_of b3 (noD b3 (fun vs n z => ?_) fun z => ?_), b4, b5, b6⟩
        · rw [b6] at z
          cases z
        · rw [b6] at z
          cases z
      · obtain ⟨o, es, ep, e, hd, _⟩ := hns
        rw [z, hTp] at e
        cases e
        cases hd
    have e0 : Env0 P w K mg (hidT s₁.heap H) callerA [] s₁ H := ⟨rfl, hM, fun b o e => of_hidT e, Nat.le_of_eq (hidT_size _ _), trivial, fun b hb => absurd (show b ∈ ([] : List Addr) from hb) (by simp), hok, .of_eq hg⟩
    refine codeAny_mono ((F _ hKb (nsK hns) TB).run callerA [] s₁ H ⟨[.ref a], []⟩ [.ref a] [.ref a] _ _ hr rfl e0 (hbind s₁ (.ref a)) (.cons rfl .nil) (hsp H hH hS)) fun r s' h => ?_
    cases r with
    | error e => exact (show False from h).elim
    | ok fl =>
      cases fl with
      | next => exact False.elim h
      | brk => exact False.elim h
      | cont => exact False.elim h
      | ret u =>
        obtain ⟨v, H', os, bare, un, hok', r', q⟩ := h
        have q' : v = .bl true := q
        subst q'
        obtain rfl : u = Value.bool true := r'
        have key : ∀ b o, b ∉ cs.map (·.2) → s₁.heap.get? b = some o → s'.heap.get? b = some o := fun b o nb e => by
          cases q : H b with
          | none => exact un.keep b o e q (by intro z; exact absurd (show b ∈ ([] : List Addr) from z) (by simp)) (by simp)
          | some u =>
            rcases hO b with z | z | ⟨ob, xs, z⟩
            · rw [q] at z; cases z
            · exact absurd z nb
            · have z2 := un.frzs b ob _ z
              obtain ⟨e1, _⟩ := hok b _ z
              obtain ⟨e2, _⟩ := hok' b _ z2
              rw [e] at e1; cases e1
              exact e2
        have grown : ∀ p ∈ cs, ∃ more : Array Value, s'.heap.get? p.2 = some { cls := .none, data := .fields more } := fun p hp => by
          obtain ⟨more, z⟩ := un.tbls p.2 #[] (hH p hp)
          exact ⟨_, hok' p.2 _ z⟩
        refine ⟨rfl, ⟨fun b o e => ?_, fun b o e => ?_⟩, os, bare⟩
        · by_cases hb : b ∈ cs.map (·.2)
          · obtain ⟨p, hp, ep⟩ := List.mem_map.mp hb
            obtain ⟨more, hm⟩ := grown p hp
            rw [← ep] at e ⊢
            rw [hT p hp] at e
            cases e
            exact .inr (.inl ⟨((C p hp).tab (hT p hp)).isCodeTable, rfl, #[], more, rfl, by rw [Array.empty_append]; exact hm⟩)
          · exact .inl (key b o hb e)
        · by_cases hb : b ∈ cs.map (·.2)
          · obtain ⟨p, hp, ep⟩ := List.mem_map.mp hb
            obtain ⟨more, hm⟩ := grown p hp
            rw [← ep]
            exact ⟨_, hm⟩
          · exact ⟨o, key b o hb e⟩
  cases hk : K.lookup a with
  | some o =>
    have e := KX a o hk
    rw [ha] at e
    cases e
    refine core (fun b => if b ∈ cs.map (·.2) then some (.tbl #[]) else none) (fun p hp => if_pos (memT p hp)) (fun b => ?_) (.inr ⟨_, vs.toArray, _, hk, rfl, rfl, rfl, by rw [List.size_toArray, lenV]; exact hl, by simpa using rv⟩) (fun b u z => ?_) (fun b z => ?_) fun z => absurd (show (if a ∈ cs.map (·.2) then some (HO.tbl #[]) else none) = none from if_neg aT) z
    · by_cases hb : b ∈ cs.map (·.2)
      · exact .inr (.inl hb)
      · exact .inl (if_neg hb)
    · by_cases hb : b ∈ cs.map (·.2)
      · have z' := (if_pos hb).symm.trans z
        cases z'
        exact isT b hb
      · have z' := (if_neg hb).symm.trans z
        cases z'
    · by_cases hb : b ∈ cs.map (·.2)
      · exact .inr hb
      · exact absurd (if_neg hb) z
  | none =>
    refine core (fun b => if b = a then some (.frz { cls := .type "list", data := .seq vs.toArray } (.lst (ns.map V.int))) else if b ∈ cs.map (·.2) then some (.tbl #[]) else none) (fun p hp => (if_neg (show ¬ p.2 = a from fun z => aT (by rw [← z]; exact memT p hp))).trans (if_pos (memT p hp))) (fun b => ?_)
      (.inl (.inr ⟨{ cls := .type "list", data := .seq vs.toArray }, if_pos rfl⟩)) (fun b u z => ?_) (fun b z => ?_) fun _ => hk
    · by_cases hb : b = a
      · exact .inr (.inr ⟨_, _, if_pos hb⟩)
      · by_cases hb2 : b ∈ cs.map (·.2)
        · exact .inr (.inl hb2)
        · exact .inl ((if_neg hb).trans (if_neg hb2))
    · by_cases hb : b = a
      · have z' := (if_pos hb).symm.trans z
        cases z'
        rw [hb]
        exact ⟨ha, by rw [List.length_map]; exact hl, vs, _, rv, ha⟩
      · have z1 := (if_neg hb).symm.trans z
        by_cases hb2 : b ∈ cs.map (·.2)
        · have z' := (if_pos hb2).symm.trans z1
          cases z'
          exact isT b hb2
        · have z' := (if_neg hb2).symm.trans z1
          cases z'
    · by_cases hb : b = a
      · exact .inl hb
      · by_cases hb2 : b ∈ cs.map (·.2)
        · exact .inr hb2
        · exact absurd ((if_neg hb).trans (if_neg hb2)) z
/-- what is known of the law's promise at the head's heap h -/
def LawAtG (l : PySem.W.OpenLaw) (w : World) (K : PySem.W.Frag) (k n : Nat) (x : Str) (mg : Str → Option Value) (fa : Addr) (h : Heap) : Prop :=
  ∃ (fd : FuncData) (cs : List (Addr × Addr)) (sp : Sp), (∀ p ∈ cs, h.get? p.2 = some { cls := .none, data := .fields #[] }) ∧ (∀ p ∈ cs, K.lookup p.2 = none) ∧ (∀ p ∈ cs, PySem.W.CodeHd h p.1 p.2) ∧ (∀ (s : Shared) (u : Value), BindsTo s fd ⟨[u], []⟩ [(x, u)]) ∧
    (∀ (H : Hp) (a : Addr) (ns : List Int), ns.length ≤ n → (∀ p ∈ cs, H p.2 = some (.tbl #[])) → SqL K H a (ns.map V.int) → sp [.ref a] H (fun v _ => v = .bl true) fun _ _ _ => False) ∧
    ∀ base : Heap, K.In base → base.Ns mainGlobals mg → (∀ p ∈ cs, LamX.TabB base mg p.1 p.2) → FnG l.prog w K mg base k fa fd [x] sp
theorem walk_ofTG {l : PySem.W.OpenLaw} {n k : Nat} {q : Program} {loose : List Str} {XP : (Str → Option Value) → Heap → Prop} {YP : World → Heap → Prop} {d : DefRec} {x : Str}
    (hn : l.most = some n) (hn2 : n ≤ sizeLine) (hdf : d.params.defaults = []) (hr : Room k callerA)
    (F : ∀ (w : World) (mg : Str → Option Value) (fa : Addr) (h : Heap), YP w h → h.Ns mainGlobals mg → mg d.name = some (.ref fa) → ∃ K : PySem.W.Frag, K.In h ∧ LawAtG l w K k n x mg fa h) :
    PySem.W.WalkO q loose XP YP l.row.toRowW d [] (fun f vs => PySem.call f vs) := by
  refine Att.attach_callB hn hdf fun w s₀ s₁ mg mb fa o pm cd doc a vs ns G Y ho hd hcd hmg hobj hints hlen hbits hg => ?_
  obtain ⟨K, KX, fd, cs, sp, hT, nT, C, hb, hsp, hF⟩ := F w mg fa _ Y G.T.g hmg
  exact law_callTG KX G.T.g G.T.b G.T.builtins G.T.nolimit hg hT nT C G.T.bmain hobj hints (Nat.le_trans hlen hn2) hr hF hb (fun H hH hS => hsp H a ns hlen hH hS)
end K8

set_option Elab.async false
set_option linter.all false
set_option maxRecDepth 100000
set_option maxHeartbeats 400000
/-! K8tl0: what is told: the plain part. -/
namespace K8
open PySem PySem.Spec PyProof.Rows L2
/-! ### no two apart -/
theorem self_tab : ((S19.zip mkS).all fun p => !Nat.beq (Nat.land p.2 p.2) 0) = true := by decide +kernel
theorem have_self {s : Sg} (h : s ∈ S19) : haveG [s, s] ≠ [] := fun z => by
  have := List.all_eq_true.mp self_tab _ (zipS h)
  rw [Bool.not_eq_true', ← Bool.not_eq_true, beq_iff] at this
  exact this ((msk_two s s).symm.trans ((have_nil _).mp z))
theorem have_comm {s t : Sg} (h : haveG [s, t] ≠ []) : haveG [t, s] ≠ [] := fun z => h ((have_nil _).mpr (by
  rw [msk_two, Nat.and_comm, ← msk_two]
  exact (have_nil _).mp z))
theorem apart_none {ss : List Sg} (h : firstApart ss = none) {i j : Nat} (hij : i < j) (hj : j < ss.length) : apartAt ss i j = false := by
  unfold firstApart at h
  have h1 := List.findSome?_eq_none_iff.mp h i (List.mem_range.mpr (by omega))
  unfold innerF at h1
  have h2 := List.findSome?_eq_none_iff.mp h1 (j - (i + 1)) (List.mem_range.mpr (by omega))
  have e : i + 1 + (j - (i + 1)) = j := by omega
  rw [e] at h2
  cases q : apartAt ss i j
  · rfl
  · rw [q] at h2
    cases h2
theorem pairs_have {ss : List Sg} (hs : ∀ s ∈ ss, s ∈ S19) (h : firstApart ss = none) : ∀ a ∈ ss, ∀ b ∈ ss, haveG [a, b] ≠ [] := by
  have key : ∀ i j (hi : i < ss.length) (hj : j < ss.length), i < j → haveG [ss[i], ss[j]] ≠ [] := fun i j hi hj hij z => by
    have h1 := apart_none h hij hj
    unfold apartAt at h1
    rw [List.getElem?_eq_getElem hi, List.getElem?_eq_getElem hj] at h1
    simp only at h1
    rw [apart_have (hs _ (List.getElem_mem hi)) (hs _ (List.getElem_mem hj)), z] at h1
    simp at h1
  intro a ha b hb
  obtain ⟨i, hi, rfl⟩ := List.mem_iff_getElem.mp ha
  obtain ⟨j, hj, rfl⟩ := List.mem_iff_getElem.mp hb
  rcases Nat.lt_trichotomy i j with e | e | e
  · exact key i j hi hj e
  · subst e
    exact have_self (hs _ (List.getElem_mem hi))
  · exact have_comm (key j i hj hi e)
theorem br_mono {ss tt : List Sg} (h : ∀ s ∈ tt, s ∈ ss) {t : Sg} (hb : brG tt t = true) : brG ss t = true := by
  unfold brG at hb ⊢
  rw [List.all_eq_true] at hb ⊢
  intro r hr
  obtain ⟨h1, h2⟩ := List.mem_filter.mp hr
  exact hb r (List.mem_filter.mpr ⟨h1, List.all_eq_true.mpr fun s hs => List.all_eq_true.mp h2 s (h s hs)⟩)
section
variable {ss : List Sg} {t : Sg} {k : Lk}
theorem in_TT (h : t ∈ S19) : t ∈ TT9 := List.mem_append_left _ h
theorem br_any (hs : ∀ s ∈ ss, s ∈ S19) (h : firstApart ss = none) (ht : t ∈ TT9) : brG ss t = ss.any fun o => brG [o] t := by
  rw [Bool.eq_iff_iff, List.any_eq_true]
  constructor
  · exact (clique hs (pairs_have hs h)).2 t ht
  · rintro ⟨s, h1, h2⟩
    exact br_mono (fun u hu => by
      have : u = s := by simpa using hu
      rw [this]
      exact h1) h2
theorem brought_any (hs : ∀ s ∈ ss, s ∈ S19) (ht : t ∈ S19) : broughtB ss t = ss.any fun o => brG [o] t := by
  unfold broughtB
  rw [Bool.eq_iff_iff, List.any_eq_true, List.any_eq_true]
  constructor
  · rintro ⟨s, h1, h2⟩
    exact ⟨s, h1, (brings_br (hs s h1) (in_TT ht)).mp (of_decide_eq_true h2)⟩
  · rintro ⟨s, h1, h2⟩
    exact ⟨s, h1, decide_eq_true ((brings_br (hs s h1) (in_TT ht)).mpr h2)⟩
theorem least_eq (hs : ∀ s ∈ ss, s ∈ S19) : leastOf ss = leastG ss := by
  unfold leastOf leastG
  have key : ∀ (l acc : List Sg), (∀ s ∈ l, s ∈ ss) → l.foldl (leastStep ss) acc = l.foldl (stepG ss) acc := by
    intro l
    induction l with
    | nil => exact fun _ _ => rfl
    | cons s l ih =>
      intro acc hl
      rw [List.foldl_cons, List.foldl_cons]
      have e : leastStep ss acc s = stepG ss acc s := by
        unfold leastStep stepG
        rw [brought_any (fun u hu => hs u (List.mem_filter.mp hu).1) (hs s (hl s List.mem_cons_self))]
      rw [e]
      exact ih _ fun u hu => hl u (List.mem_cons_of_mem _ hu)
  exact key ss [] fun s h => h
def ansR (r : Rw) (k : Lk) : An := (rGet r k).getD .no
def dueG (ss : List Sg) (k : Lk) : Option An := match haveG ss with
  | [] => none
  | r :: rs => if ((r :: rs).all fun r' => decide (ansR r' k = ansR r k)) = true then some (ansR r k) else none
theorem ansR_has {r : Rw} (hr : r ∈ gridW) (hk : k ∈ looksL) (a : An) : hasB r ⟨k, a⟩ = decide (ansR r k = a) := by
  obtain ⟨b, h1, _⟩ := row_at hr hk
  unfold hasB ansR
  rw [h1]
  simp
theorem sure_due (hs : ∀ s ∈ ss, s ∈ S19) (h : firstApart ss = none) (hk : k ∈ looksL) : sureB ss k = dueG ss k := by
  obtain ⟨c1, c2⟩ := clique hs (pairs_have hs h)
  unfold dueG
  cases hh : haveG ss with
  | nil => exact absurd hh c1
  | cons r rs =>
    have hr : r ∈ haveG ss := by rw [hh]; exact List.mem_cons_self
    have hrg := have_sub hr
    obtain ⟨a0, h1, h2⟩ := row_at hrg hk
    have e0 : ansR r k = a0 := by unfold ansR; rw [h1]; rfl
    -- what a sight of ss brings, all rows have
    have br : ∀ a, sureB ss k = some a → brG ss ⟨k, a⟩ = true := fun a ha => by
      obtain ⟨s, hsm, hb⟩ := List.exists_of_findSome?_eq_some ha
      have hb2 : brings s k = some (some a) := by
        unfold bringsJ at hb
        cases q : brings s k with
        | none => rw [q] at hb; cases hb
        | some o =>
          rw [q] at hb
          have : o = some a := hb
          rw [this]
      have hin : (⟨k, a⟩ : Sg) ∈ TT9 := by
        have := List.all_eq_true.mp (List.all_eq_true.mp bj_tab s (hs s hsm)) k hk
        rw [hb2] at this
        exact of_decide_eq_true this
      exact br_mono (fun u hu => by
        have : u = s := by simpa using hu
        rw [this]
        exact hsm) ((brings_br (hs s hsm) hin).mp hb2)
    have eq0 : ∀ a, brG ss ⟨k, a⟩ = true → a = a0 := fun a ha => by
      have := List.all_eq_true.mp ha r hr
      rw [ansR_has hrg hk] at this
      rw [← e0]
      exact (of_decide_eq_true this).symm
    have all_iff : ((r :: rs).all fun r' => decide (ansR r' k = ansR r k)) = brG ss ⟨k, a0⟩ := by
      unfold brG
      rw [hh, e0, Bool.eq_iff_iff, List.all_eq_true, List.all_eq_true]
      constructor
      · intro g r' hr'
        rw [ansR_has (have_sub (by rw [hh]; exact hr')) hk]
        exact g r' hr'
      · intro g r' hr'
        have := g r' hr'
        rwa [ansR_has (have_sub (by rw [hh]; exact hr')) hk] at this
    show sureB ss k = if ((r :: rs).all fun r' => decide (ansR r' k = ansR r k)) = true then some (ansR r k) else none
    rw [all_iff, e0]
    cases hb : brG ss ⟨k, a0⟩ with
    | true =>
      rw [if_pos rfl]
      obtain ⟨s, hsm, hb1⟩ := c2 _ h2 hb
      have hb2 := (brings_br (hs s hsm) h2).mpr hb1
      cases q : sureB ss k with
      | none =>
        have := List.findSome?_eq_none_iff.mp q s hsm
        unfold bringsJ at this
        rw [hb2] at this
        cases this
      | some a => rw [eq0 a (br a q)]
    | false =>
      rw [if_neg (by decide)]
      cases q : sureB ss k with
      | none => rfl
      | some a =>
        have h3 := br a q
        rw [eq0 a h3, hb] at h3
        cases h3
end
/-! ### handed forms -/
def hdOk (x : PyData) : Bool := flat x && (x.showable && (!x.hasDict && (decide (x.depth ≤ 10) && decide (x.shown.length ≤ 100))))
theorem hand_tab : (S19.all fun s => (hSg s).all fun x => decide (sightOf x = some s) && (okSight x && hdOk x)) = true := by decide +kernel
theorem hlk_tab : (looksL.all fun k => (hLk k).all fun y => decide (lookOf y = some k) && okLook y) = true := by decide +kernel
theorem hand_ok {s : Sg} (hs : s ∈ S19) {x : PyData} (hx : x ∈ hSg s) : sightOf x = some s ∧ okSight x = true ∧ hdOk x = true := by
  have := Bool.and_eq_true_iff.mp (List.all_eq_true.mp (List.all_eq_true.mp hand_tab s hs) x hx)
  exact ⟨of_decide_eq_true this.1, Bool.and_eq_true_iff.mp this.2⟩
theorem hlk_ok {k : Lk} (hk : k ∈ looksL) {y : PyData} (hy : y ∈ hLk k) : lookOf y = some k ∧ okLook y = true := by
  have := Bool.and_eq_true_iff.mp (List.all_eq_true.mp (List.all_eq_true.mp hlk_tab k hk) y hy)
  exact ⟨of_decide_eq_true this.1, this.2⟩
theorem HAll.go : ∀ {xs : List PyData} {ss : List Sg} (i : Nat), HAll xs ss → (∀ s ∈ ss, s ∈ S19) → goS i xs = .ok ss ∧ xs.all okSight = true ∧ ∀ x ∈ xs, hdOk x = true
  | _, _, i, .nil, _ => ⟨rfl, rfl, fun x hx => nomatch hx⟩
  | x :: xs, s :: ss, i, .cons h r, hs => by
    obtain ⟨h1, h2, h3⟩ := hand_ok (hs s List.mem_cons_self) h
    obtain ⟨g1, g2, g3⟩ := HAll.go (i + 1) r fun t ht => hs t (List.mem_cons_of_mem _ ht)
    refine ⟨?_, by rw [List.all_cons, h2, g2]; rfl, fun y hy => ?_⟩
    · rw [goS, h1]
      simp only
      rw [g1]
      rfl
    · rcases List.mem_cons.mp hy with e | e
      · rw [e]
        exact h3
      · exact g3 y e
/-- handed sights as they come -/
structure Hand (d : PyData) (ss : List Sg) : Prop where
  all : ∀ s ∈ ss, s ∈ S19
  len : ss.length ≤ 50
  ex : ∃ xs, seqOf d = some xs ∧ HAll xs ss
section
variable {d : PyData} {ss : List Sg}
theorem Hand.of (h : Hand d ss) : sightsOf d = .ok ss ∧ okSights d = true := by
  obtain ⟨xs, hq, ha⟩ := h.ex
  obtain ⟨g1, g2, _⟩ := HAll.go 0 ha h.all
  have hl := ha.len
  have hz := h.len
  unfold sightsOf okSights
  rw [hq]
  simp only
  exact ⟨g1, by rw [g2, decide_eq_true (show xs.length ≤ 1000 by omega)]; rfl⟩
theorem flatAll_of : ∀ {xs : List PyData}, (∀ x ∈ xs, hdOk x = true) → flatAll xs = true ∧ PyData.showableAll xs = true ∧ PyData.hasDictAll xs = false ∧ PyData.depthAll xs ≤ 10
  | [], _ => by
    refine ⟨rfl, rfl, rfl, ?_⟩
    simp [PyData.depthAll]
  | x :: xs, h => by
    obtain ⟨g1, g2, g3, g4⟩ := flatAll_of (xs := xs) fun y hy => h y (List.mem_cons_of_mem _ hy)
    have hx := h x List.mem_cons_self
    unfold hdOk at hx
    rw [Bool.and_eq_true, Bool.and_eq_true, Bool.and_eq_true, Bool.and_eq_true] at hx
    obtain ⟨h1, h2, h3, h4, _⟩ := hx
    have h4 := of_decide_eq_true h4
    refine ⟨by simp [flatAll, h1, g1], by simp [PyData.showableAll, h2, g2], ?_, ?_⟩
    · simp only [PyData.hasDictAll, Bool.or_eq_false_iff]
      exact ⟨by simpa using h3, g3⟩
    · simp only [PyData.depthAll]
      omega
theorem piled_le : ∀ {ts : List Str}, (∀ t ∈ ts, t.length ≤ 100) → piled ts ≤ 102 * ts.length
  | [], _ => Nat.zero_le _
  | t :: ts, h => by
    have ih := piled_le (ts := ts) fun u hu => h u (List.mem_cons_of_mem _ hu)
    have h1 := h t List.mem_cons_self
    unfold piled at ih ⊢
    rw [List.map_cons, List.sum_cons, List.length_cons]
    omega
theorem listText_le : ∀ (ts : List Str), (listText ts).length ≤ piled ts + 2
  | [] => by
    show (("[" : Str) ++ "]").length ≤ _
    exact Nat.le_trans (by decide +kernel) (Nat.le_add_left 2 _)
  | t :: ts => by
    have h := textFrom_length_pos ts 1 (("[" : Str) ++ (if 0 > 0 then ", " else "" : String) ++ t) (by decide)
    have e : (listText (t :: ts)).length = (textFrom 1 (("[" : Str) ++ (if 0 > 0 then ", " else "" : String) ++ t) ts).length + 1 := by
      unfold listText
      rw [strLen_append]
      rfl
    have e2 : (("[" : Str) ++ (if 0 > 0 then ", " else "" : String) ++ t).length = 1 + t.length := by
      rw [strLen_append, strLen_append]
      rfl
    have e3 : piled (t :: ts) = t.length + 2 + piled ts := by
      unfold piled
      rw [List.map_cons, List.sum_cons]
    rw [e, h, e2, e3]
    omega
theorem tupleText_le (ts : List Str) : (tupleText ts).length ≤ piled ts + 3 := by
  unfold tupleText
  rw [strLen_append, strLen_append]
  have h2 : ((if ts.length == 1 then ",)" else ")" : String) : Str).length ≤ 2 := by
    split <;> decide +kernel
  have h1 : (("(" : Str)).length = 1 := by decide +kernel
  by_cases h : ts = []
  · subst h
    have h3 : (Str.join ", " []).length = 0 := by decide +kernel
    omega
  · have h3 := join_length_add ts h
    omega
theorem shownAll_map : ∀ xs : List PyData, PyData.shownAll xs = xs.map PyData.shown
  | [] => rfl
  | x :: xs => by rw [PyData.shownAll, shownAll_map xs]; rfl
theorem Hand.str (h : Hand d ss) : flat d = true ∧ d.showable = true ∧ d.hasDict = false ∧ d.depth ≤ 64 ∧ d.shown.length ≤ 100000 := by
  obtain ⟨xs, hq, ha⟩ := h.ex
  obtain ⟨_, _, g3⟩ := HAll.go 0 ha h.all
  obtain ⟨h1, h2, h3, h4⟩ := flatAll_of g3
  have hl := ha.len
  have hz := h.len
  have hp : piled (PyData.shownAll xs) ≤ 102 * xs.length := by
    rw [shownAll_map]
    refine Nat.le_trans (piled_le fun t ht => ?_) (by rw [List.length_map]; exact Nat.le_refl _)
    obtain ⟨x, hx, rfl⟩ := List.mem_map.mp ht
    have hx := g3 x hx
    unfold hdOk at hx
    rw [Bool.and_eq_true, Bool.and_eq_true, Bool.and_eq_true, Bool.and_eq_true] at hx
    exact of_decide_eq_true hx.2.2.2.2
  cases d <;> simp [seqOf] at hq
  · subst hq
    refine ⟨by simpa [flat] using h1, by simpa [PyData.showable] using h2, by simpa [PyData.hasDict] using h3, by simp only [PyData.depth]; omega, ?_⟩
    rw [PyData.shown]
    exact Nat.le_trans (listText_le _) (by omega)
  · subst hq
    refine ⟨by simpa [flat] using h1, by simpa [PyData.showable] using h2, by simpa [PyData.hasDict] using h3, by simp only [PyData.depth]; omega, ?_⟩
    rw [PyData.shown]
    exact Nat.le_trans (tupleText_le _) (by omega)
/-! ### what the program answers -/
theorem tell_fol (h : Hand d ss) (hn : firstApart ss = none) {t : Sg} (ht : t ∈ S19) {y : PyData} (hy : y ∈ hSg t) : R_follows [d, y] (.ok (.bool (brG ss t))) := by
  obtain ⟨g1, g2⟩ := h.of
  obtain ⟨h1, h2, _⟩ := hand_ok ht hy
  refine ⟨d, y, rfl, g2, h2, fun ss' h' => ?_, ?_⟩
  · rw [g1] at h'
    cases h'
    refine ⟨s19_SS h.all h.len, fun t' ht' => ?_⟩
    rw [h1] at ht'
    cases ht'
    exact ⟨s19_g t ht, okBr_of h.all (s19_k t ht).1⟩
  · unfold folO
    rw [g1, h1]
    simp only
    rw [hn]
    simp only
    rw [brought_any h.all ht, br_any h.all hn (in_TT ht)]
    rfl
theorem tell_least (h : Hand d ss) (hn : firstApart ss = none) : R_least [d] (.ok (sgsD (leastG ss))) := by
  obtain ⟨g1, g2⟩ := h.of
  refine ⟨d, rfl, g2, fun ss' h' => ?_, ?_⟩
  · rw [g1] at h'
    cases h'
    exact s19_SS h.all h.len
  · unfold leastO chkO
    rw [g1]
    simp only
    unfold chk
    rw [hn, ← least_eq h.all]
    rfl
theorem tell_sure (h : Hand d ss) (hn : firstApart ss = none) {k : Lk} (hk : k ∈ looksL) {y : PyData} (hy : y ∈ hLk k) : R_sure [d, y] (.ok (anD (dueG ss k))) := by
  obtain ⟨g1, g2⟩ := h.of
  obtain ⟨h1, h2⟩ := hlk_ok hk hy
  refine ⟨d, y, rfl, g2, h2, fun ss' h' => ?_, ?_⟩
  · rw [g1] at h'
    cases h'
    refine ⟨s19_SS h.all h.len, fun k' hk' => ?_⟩
    rw [h1] at hk'
    cases hk'
    exact ⟨(lk_ok hk).2.2, okBr_of h.all hk⟩
  · unfold sureO
    rw [g1, h1]
    simp only
    rw [hn]
    simp only
    rw [sure_due h.all hn hk]
    rfl
theorem least_sub : ∀ (l acc : List Sg), (∀ s ∈ l, s ∈ ss) → (∀ s ∈ acc, s ∈ ss) → acc.length + l.length ≤ 100 → (∀ s ∈ l.foldl (stepG ss) acc, s ∈ ss) ∧ (l.foldl (stepG ss) acc).length ≤ 100
  | [], acc, _, h2, h3 => ⟨h2, by simpa using h3⟩
  | s :: l, acc, h1, h2, h3 => by
    rw [List.foldl_cons]
    rw [List.length_cons] at h3
    refine least_sub l _ (fun t ht => h1 t (List.mem_cons_of_mem _ ht)) (fun t ht => ?_) ?_
    · unfold stepG at ht
      split at ht
      · rcases List.mem_append.mp ht with e | e
        · exact h2 t e
        · have : t = s := by simpa using e
          rw [this]
          exact h1 s List.mem_cons_self
      · exact h2 t ht
    · unfold stepG
      split
      · rw [List.length_append]
        show acc.length + 1 + l.length ≤ 100
        omega
      · omega
theorem s19_same : (S19.all fun s => okSame 2 s.d) = true := by decide +kernel
theorem least_same (hs : ∀ s ∈ ss, s ∈ S19) (hl : ss.length ≤ 50) : okSame 3 (sgsD (leastG ss)) = true := by
  obtain ⟨h1, h2⟩ := least_sub ss [] (fun s h => h) (fun s h => nomatch h) (show 0 + ss.length ≤ 100 by omega)
  refine okS3 (by rw [List.length_map]; show (ss.foldl (stepG ss) []).length ≤ 1000; omega) fun x hx => ?_
  obtain ⟨s, hm, rfl⟩ := List.mem_map.mp hx
  exact List.all_eq_true.mp s19_same s (hs s (h1 s hm))
theorem tt_same : (gridW.all fun r => looksL.all fun k => okSame 3 (anD (some (ansR r k))) && SeqAt.shaped (ansR r k).d) = true := by decide +kernel
theorem due_same {k : Lk} (hk : k ∈ looksL) : okSame 3 (anD (dueG ss k)) = true := by
  unfold dueG
  split
  · rfl
  · rename_i r rs hh
    split
    · exact (Bool.and_eq_true_iff.mp (List.all_eq_true.mp (List.all_eq_true.mp tt_same r (have_sub (ss := ss) (by rw [hh]; exact List.mem_cons_self))) k hk)).1
    · rfl
end
end K8

set_option Elab.async false
set_option linter.all false
set_option maxRecDepth 100000
set_option maxHeartbeats 400000
/-! K8tl: _law_told_right. -/
namespace K8
open PySem PySem.Spec PyProof.Rows L2
section
variable {X : Cx} {a b iter tg : Expr} {σ : L2.St} {B H : Hp} {d : PyData} {pos : Pos} {sts body : List Stmt} {D : Ends} {A : Addr} {PL : List PyData → Prop} {x y : Str} {g : TG}
/-- a walk over a list that is drawn -/
theorem stn_forL (hp : PassesOwn (model X.prog X.w) X.A X.env X.xe) (hc : X.calm = true) (hi : PI X tg iter (iList X.K (wpE X iter))) (hg : PG X tg g) (h : PN X iter σ B A (fun d => ∃ ds, d = .list ds ∧ PL ds)) (hb : Same B H) (dr : Drw A B H)
    (k : ∀ ds B1 H1, Fz (· = A) B H B1 H1 → Drw A B1 H1 → PL ds → ∃ Pv : Nat → L2.St → Hp → Hp → Prop, Pv 0 σ B1 H1 ∧
      (∀ i σ' Bi Hi d x By H', i < ds.length → Same B1 Bi → Same Bi Hi → Pv i σ' Bi Hi → ds[i]? = some d → F0 Bi Hi By H' → R X.K By x d → ∃ σ2, GD g σ' By x σ2 ∧
        wpB X body { D with nx := fun σ3 H3 => ∃ B3, Same B1 B3 ∧ Same B3 H3 ∧ Pv (i + 1) σ3 B3 H3, ct := fun σ3 H3 => ∃ B3, Same B1 B3 ∧ Same B3 H3 ∧ Pv (i + 1) σ3 B3 H3, bk := wpB X sts D } σ2 H') ∧
      (∀ σ' Bi Hi, Same B1 Bi → Same Bi Hi → Pv ds.length σ' Bi Hi → wpB X sts D σ' Hi))
    (hs : ∀ x, foldedSetIterable iter X.env x = pure x := by intro _; rfl) : wpB X (.For tg iter body [] pos :: sts) D σ H := by
  refine wpB_cons (wpS_of (ps_for hp hc hi hg pb_wp hs) (h H hb dr _ fun v d0 B1 H1 f1 dr1 pd r1 => ?_))
  obtain ⟨ds, rfl, hpl⟩ := pd
  obtain ⟨Pv, h0, hturn, hend⟩ := k ds B1 H1 f1 dr1 hpl
  obtain ⟨a0, xs, rfl, hs, ra⟩ := r1.lst_inv
  refine ⟨a0, rfl, ⟨xs, f1.bh.seq hs⟩, ?_⟩
  have W : Walk (Itl X.K a0) ds.length (Same B1) (YD X.K B1 ds) := yd_at ra walk_list fun H' h' => h'.seq hs
  refine for_it W (D := { D with nx := wpB X sts D }) (fun i σ1 H2 => ∃ Bi, Same B1 Bi ∧ Same Bi H2 ∧ Pv i σ1 Bi H2) ⟨B1, Same.refl _, f1.bh, h0⟩ ?_ ?_ ?_
  · rintro i σ1 H2 _ ⟨Bi, s1, s2, _⟩
    exact s1.trans s2
  · rintro i x σ1 H2 H' hi' ⟨Bi, s1, s2, pv⟩ yd
    obtain ⟨By, d, fy, hd, rd⟩ := yd Bi s1 s2
    obtain ⟨σ2, hg2, hbd⟩ := hturn i σ1 Bi H2 d x By H' hi' s1 s2 pv hd fy rd
    exact hg2 _ fy.bh _ hbd
  · rintro σ1 H2 ⟨Bi, s1, s2, pv⟩
    exact hend σ1 Bi H2 s1 s2 pv
theorem cd_eqStr (ha : PD X a σ B (.str x)) (hb : PD X b σ B (.str y)) : CD X .Eq a b σ B (decide (x = y)) := cd_cmp op_eq ha hb (fun u v B1 H1 _ s1 r1 r2 Q q => by
  rw [r1.str_inv, r2.str_inv]
  refine ⟨rfl, q _ B1 H1 (Fz.refl s1) ?_⟩
  have e : decide (V.str x = V.str y) = decide (x = y) := by
    rw [Bool.eq_iff_iff, decide_eq_true_eq, decide_eq_true_eq]
    exact ⟨fun h => by injection h, fun h => by rw [h]⟩
  rw [e]
  exact .bl _) (nomark _)
end
theorem sgsD_inj {ss tt : List Sg} (h : sgsD ss = sgsD tt) : ss = tt := by
  have h1 : ss.map Sg.d = tt.map Sg.d := by injection h
  have h2 := congrArg (List.map asSg1) h1
  rw [List.map_map, List.map_map] at h2
  have e : ∀ l : List Sg, l.map (asSg1 ∘ Sg.d) = l := fun l => (List.map_congr_left fun s _ => asSg1_d s).trans (List.map_id l)
  rwa [e, e] at h2
def SpTl (K : PySem.W.Frag) : Sp := fun vs H Q _ => ∃ (A : Addr) (B : Hp) (vg v1 : V) (ss : List Sg), vs = [.ref A, vg, v1] ∧ Same B H ∧ Drw A B H ∧ R K B vg gridD ∧ R K B v1 (sgsD ss) ∧ (∀ s ∈ ss, s ∈ S19) ∧ ss.length ≤ 5 ∧ firstApart ss = none ∧
  ∀ B' H', Fz (· = A) B H B' H' → Drw A B' H' → Q (.bl true) H'
section
variable {P : Program} {w : World} {K : PySem.W.Frag} {mg : Str → Option Value} {base : Heap}
abbrev cxT (P : Program) (w : World) (K : PySem.W.Frag) (mg : Str → Option Value) (base : Heap) (f : Addr) (cdv : Value) (Ar : Around) (outer : List Env) (s : Shared) (H : Hp) (E : XK) : Cx := bx P w K mg base "_law_told_right" s_l_told_right N_l_told_right f cdv Ar outer s H E
theorem fn_l_told_right (D : IsDef K mg "_law_told_right" s_l_told_right) (T : Bl mg) (F1 : FnN P w K mg base "_law_pick" 2 ["_law_draws", "_law_things"] prePick relPick) (F2 : FnE P w K mg base "follows" 9 ["sights", "sight"] R_follows) (F3 : FnE P w K mg base "sure" 9 ["sights", "look"] R_sure) (F4 : FnE P w K mg base "least" 9 ["sights"] R_least)
    (F5 : Fn P w K mg base CX0 "_law_same" 4 ["_law_found", "_law_due"] (SpR K (R_l_same 3))) (F6 : FnN P w K mg base "_law_handed_sights" 3 ["_law_draws", "_law_sights"] preHand relHand) (F7 : FnN P w K mg base "_law_some_sights" 3 ["_law_draws", "_law_many"] preSome relSome)
    (F8 : Fn P w K mg base CX0 "_law_brought" 2 ["_law_grid", "_law_sights", "_law_sight"] (SpR K R_l_brought)) (F9 : Fn P w K mg base CX0 "_law_least" 3 ["_law_grid", "_law_sights"] (SpR K R_l_least)) (F10 : Fn P w K mg base CX0 "_law_have" 1 ["_law_grid", "_law_sights"] (SpR K R_l_have)) (F11 : Fn P w K mg base CX0 "_law_looks" 1 [] (SpR K R_l_looks)) :
    GFn P w K mg base "_law_told_right" 10 ["_law_draws", "_law_grid", "_law_sights"] (SpTl K) := by
  refine gfn_of D sc_l_told_right (fun vs H Q E h => ?_) (fun _ _ _ _ _ _ us hl => match us, hl with | [_, _, _], _ => rfl) fun f cdv Ar outer s H0 E vs Q hr hgd h => ?_
  · obtain ⟨A, B, vg, v1, ss, rfl, _⟩ := h
    rfl
  obtain ⟨A, B, vg, v1, ss, rfl, hb, dr, rg, r1, hss, hsl, hno, q⟩ := h
  -- handed
  refine stn_set (i := 3) (P := fun d => Hand d ss) sc_l_told_right.nd (pn_call (i := 0) (PA := fun ds => ds = [sgsD ss]) F6 hr (by decide) (by rfl) rfl (AD.an (ad_cons (pd_var 2 rfl r1) ad_nil) rfl) (fun ds e => ⟨ss, e, by omega⟩) fun ds d e hrl => ?_) hb dr fun v3 d3 B1 H1 f1 dr1 p3 r3 => ?_
  · obtain ⟨ss', xs, e2, hq, ha⟩ := hrl
    rw [e] at e2
    have e3 : sgsD ss = sgsD ss' := by injection e2
    rw [← sgsD_inj e3] at ha
    exact ⟨hss, by omega, xs, hq, ha⟩
  obtain ⟨xs3, hq3, _⟩ := p3.ex
  obtain ⟨t1, t2, t3, t4, t5⟩ := p3.str
  -- before, lean_note
  refine stn_par (i := 4) (j := 5) (P1 := fun d => d = .str d3.shown) (P2 := fun d => d = sgsD (leastG ss)) rfl sc_l_told_right.nd (PD.pn (pd_strD hgd hr (by rfl) T.str hq3 (pd_var 3 rfl r3) t1 t2 t3 t4 t5) rfl) (fun B2 s2 => PD.pn (pd_call F9 hr (by decide) (by rfl) (ad_cons (pd_var 1 rfl ((rg.mono f1.bb).mono s2)) (ad_cons (pd_var 2 rfl ((r1.mono f1.bb).mono s2)) ad_nil)) ⟨ss, rfl, hss, by omega, rfl⟩) rfl) f1.bh dr1 fun v4 v5 d4 d5 B2 H2 f2 dr2 e4 e5 r4 r5 => ?_
  subst e4 e5
  have f02 := f1.trans f2
  -- what follows
  refine stn_forL (PL := fun ds => ∃ ts : List Sg, ds = ts.map Sg.d ∧ ∀ t ∈ ts, t ∈ S19) PassesOwn.never rfl (pi_list pe_wp) (pg_name (i := 6) sc_l_told_right.nd rfl (Or.inr rfl)) (pn_call (i := 0) (PA := fun ds => ds = [.int ((4 : Nat) : Int)]) F7 hr (by decide) (by rfl) rfl (AD.an (ad_cons pd_int ad_nil) rfl) (fun ds e => ⟨4, e, by decide⟩) fun ds d e hrl => ?_) f2.bh dr2 fun ds B3 H3 f3 dr3 pl => ?_
  · obtain ⟨m, ts, e2, rfl, hl, hm⟩ := hrl
    exact ⟨_, rfl, ts, rfl, hm⟩
  obtain ⟨ts, rfl, hts⟩ := pl
  have rg3 := (rg.mono f02.bb).mono f3.bb
  have r13 := (r1.mono f02.bb).mono f3.bb
  have r33 := (r3.mono f2.bb).mono f3.bb
  have r43 := r4.mono f3.bb
  have r53 := r5.mono f3.bb
  refine ⟨fun i σ' Bi Hi => ∃ o6 o7 o8, σ' = [some (.ref A), some vg, some v1, some v3, some v4, some v5, o6, o7, o8, none, none, none, none] ∧ Drw A Bi Hi ∧ Fz (· = A) B3 H3 Bi Hi, ⟨_, _, _, rfl, dr3, Fz.refl f3.bh⟩, ?_, ?_⟩
  · rintro i σ' Bi Hi d x' By H' hi s1 s2 ⟨o6, o7, o8, rfl, dri, fz⟩ hd fy rd
    rw [List.getElem?_map] at hd
    obtain ⟨t, htm, rfl⟩ := Option.map_eq_some_iff.mp hd
    have ht := hts t (List.mem_of_getElem? htm)
    have sy := s1.trans fy.bb
    refine ⟨_, gd_name, ?_⟩
    refine stn_par (i := 7) (j := 8) (P1 := fun d => d = .bool (brG ss t)) (P2 := fun d => d ∈ hSg t) rfl sc_l_told_right.nd (PD.pn (pd_call F8 hr (by decide) (by rfl) (ad_cons (pd_var 1 rfl (rg3.mono sy)) (ad_cons (pd_var 2 rfl (r13.mono sy)) (ad_cons (pd_var 6 rfl rd) ad_nil))) ⟨ss, t, rfl, hss, ht, by omega, rfl⟩) rfl) (fun B4 s4 => pn_ixD (m := 0) (pn_call (i := 0) (PA := fun ds => ds = [sgsD [t]]) F6 hr (by decide) (by rfl) rfl (AD.an (ad_cons (pd_lst (ad_cons (pd_var 6 rfl (rd.mono s4)) ad_nil) (show 1 ≤ 100000 by decide)) ad_nil) rfl) (fun ds e => ⟨[t], e, (show 1 ≤ 50 by decide)⟩) fun ds d e hrl => ?_) fun _ _ => pd_int) fy.bh (dri.f0 fy) fun v7 v8 d7 d8 B4 H4 f4 dr4 e7 p8 r7 r8 => ?_
    · obtain ⟨ss', xs, e2, hq, ha⟩ := hrl
      rw [e] at e2
      have e3 : sgsD [t] = sgsD ss' := by injection e2
      rw [← sgsD_inj e3] at ha
      cases ha with
      | cons h r => exact ⟨_, _, hq, rfl, h⟩
    subst e7
    have s4 := sy.trans f4.bb
    refine st_if (p := false) (TD.at (CD.td (CD.cast (cd_ne (d2 := .bool (brG ss t)) hr (pd_var 7 rfl r7) (PD.cast (pd_any (bs := ss.map fun o => brG [o] t) rfl (by rfl) T.any (PD.cast (LD.pd (ld_gen [("_law_one", 9)] (pi_list pe_wp) (src_list (ds := ss.map Sg.d) (pd_var 2 rfl (r13.mono s4))) (g := gName 9) (f := fun d => .bool (brG [asSg1 d] t)) rfl sc_l_told_right.nd (blkOk_by (N := N_l_told_right) (sc := defScope s_l_told_right) (by decide +kernel)) (fun _ _ _ _ _ => by exact pg_name (i := 9) sc_l_told_right.nd rfl (Or.inl rfl)) ?_ fun c hc v5 B5 s5 q5 => ⟨_, gd_name, rfl, fun _ _ _ _ _ => ?_⟩)) ?_)) ?_) (shp_bl _) (shp_bl _)) ?_)) f4.bh) (fun z => nomatch z) fun _ B5 H5 f5 => ?_
    · rw [List.length_map]
      omega
    · obtain ⟨u, hu, rfl⟩ := List.mem_map.mp hc
      rw [asSg1_d]
      exact pd_call F8 hr (by decide) (by rfl) (ad_cons (pd_var 1 rfl ((rg3.mono s4).mono s5)) (ad_cons (pd_lst (ad_cons (pd_var 9 rfl q5) ad_nil) (show 1 ≤ 100000 by decide)) (ad_cons (pd_var 6 rfl ((rd.mono f4.bb).mono s5)) ad_nil))) ⟨[u], t, rfl, fun z hz => by
        have : z = u := by simpa using hz
        rw [this]
        exact hss u hu, ht, (show 1 ≤ 50 by decide), rfl⟩
    · rw [List.map_map, List.map_map]
      refine congrArg PyData.list (List.map_congr_left fun u _ => ?_)
      show PyData.bool (brG [asSg1 u.d] t) = _
      rw [asSg1_d]
      rfl
    · rw [List.any_map]
      exact congrArg PyData.bool (br_any hss hno (in_TT ht)).symm
    · rw [eqv_bl]
      simp
    have s5 := s4.trans f5.bb
    refine st_if (p := false) (TD.at (td_not (p := true) (td_val (pd_call F5 hr (by decide) (by rfl) (ad_cons (pd_callE F2 hr (by decide) (by rfl) (ad_cons (pd_var 3 rfl (r33.mono s5)) (ad_cons (pd_var 8 rfl (r8.mono f5.bb)) ad_nil)) (tell_fol p3 hno ht p8)) (ad_cons (pd_var 7 rfl (r7.mono f5.bb)) ad_nil)) ⟨.bool (brG ss t), rfl, rfl, rfl⟩))) f5.bh) (fun z => nomatch z) fun _ B6 H6 f6 => ?_
    exact wpB_nil ⟨B6, s5.trans f6.bb, f6.bh, _, _, _, rfl, (dr4.f0 f5).f0 f6, (((fz.trans fy.to).trans f4).trans f5.to).trans f6.to⟩
  rintro σ' Bi Hi s1 s2 ⟨o6, o7, o8, rfl, dri, fz⟩
  -- the least note
  have r3i := r33.mono s1
  have rgi := rg3.mono s1
  have r1i := r13.mono s1
  refine st_if (p := false) (TD.at (td_not (p := true) (td_val (pd_call F5 hr (by decide) (by rfl) (ad_cons (pd_callE F4 hr (by decide) (by rfl) (ad_cons (pd_var 3 rfl r3i) ad_nil) (tell_least p3 hno)) (ad_cons (pd_var 5 rfl (r53.mono s1)) ad_nil)) ⟨_, rfl, least_same hss (by omega), rfl⟩))) s2) (fun z => nomatch z) fun _ B4 H4 f4 => ?_
  have dr4 := dri.f0 f4
  have fz4 := ((f02.trans f3).trans fz).trans f4.to
  have r34 := r3i.mono f4.bb
  have rg4 := rgi.mono f4.bb
  have r14 := r1i.mono f4.bb
  have r44 := (r43.mono s1).mono f4.bb
  -- what is sure
  refine st_for (ds := looksL.map Lk.d) PassesOwn.never rfl (pi_list pe_wp) (pg_name (i := 10) sc_l_told_right.nd rfl (Or.inr rfl)) (src_list (pd_call0 (d := .list (looksL.map Lk.d)) F11 hr (by decide) (by rfl) ⟨rfl, rfl⟩)) f4.bh fun B5 H5 f5 => ?_
  refine ⟨fun i σ' Bi Hi => ∃ o7 o10 o11, σ' = [some (.ref A), some vg, some v1, some v3, some v4, some v5, o6, o7, o8, none, o10, o11, none] ∧ Drw A Bi Hi ∧ Fz (· = A) B5 H5 Bi Hi, ⟨_, _, _, rfl, dr4.f0 f5, Fz.refl f5.bh⟩, ?_, ?_⟩
  · rintro i σ' Bj Hj d x' By H' hi s3 s4 ⟨o7, o10, o11, rfl, drj, fzj⟩ hd fy rd
    rw [List.getElem?_map] at hd
    obtain ⟨k, hkm, rfl⟩ := Option.map_eq_some_iff.mp hd
    have hk := List.mem_of_getElem? hkm
    have sy := (f5.bb.trans s3).trans fy.bb
    refine ⟨_, gd_name, ?_⟩
    have hl := have_len ss
    refine st_set (i := 11) (d := .list ((haveG ss).map fun r => (ansR r k).d)) sc_l_told_right.nd (PD.cast (LD.pd (ld_gen [("_law_row", 12)] (pi_list pe_wp) (src_list (ds := (haveG ss).map rwD) (pd_call F10 hr (by decide) (by rfl) (ad_cons (pd_var 1 rfl (rg4.mono sy)) (ad_cons (pd_var 2 rfl (r14.mono sy)) ad_nil)) ⟨ss, rfl, hss, by omega, rfl⟩)) (g := gName 12) (f := fun d => (ansR (asRw d) k).d) rfl sc_l_told_right.nd (blkOk_by (N := N_l_told_right) (sc := defScope s_l_told_right) (by decide +kernel)) (fun _ _ _ _ _ => by exact pg_name (i := 12) sc_l_told_right.nd rfl (Or.inl rfl)) ?_ fun c hc v5 B6 s6 q6 => ⟨_, gd_name, rfl, fun _ _ _ _ _ => ?_⟩)) ?_) fy.bh fun v11 B6 H6 f6 r11 => ?_
    · rw [List.length_map]
      omega
    · obtain ⟨r, hrm, rfl⟩ := List.mem_map.mp hc
      rw [asRw_d]
      obtain ⟨a, hg, _⟩ := row_at (have_sub hrm) hk
      obtain ⟨hne, _⟩ := okRw_get (List.all_eq_true.mp grid_ok r (have_sub hrm)) hk
      exact PD.cast (pd_tix hr (pd_var 12 rfl q6) (pd_var 10 rfl (rd.mono s6)) hne hg) (by unfold ansR; rw [hg]; rfl)
    · rw [List.map_map]
      refine congrArg PyData.list (List.map_congr_left fun r _ => ?_)
      show (ansR (asRw (rwD r)) k).d = _
      rw [asRw_d]
    have s6 := sy.trans f6.bb
    obtain ⟨r0, rs, hh⟩ : ∃ r0 rs, haveG ss = r0 :: rs := by
      cases hh : haveG ss with
      | nil => exact absurd hh (clique hss (pairs_have hss hno)).1
      | cons r0 rs => exact ⟨r0, rs, rfl⟩
    have hr0 : r0 ∈ haveG ss := by rw [hh]; exact List.mem_cons_self
    have shp : ∀ r ∈ haveG ss, SeqAt.shaped (ansR r k).d = true := fun r hr => (Bool.and_eq_true_iff.mp (List.all_eq_true.mp (List.all_eq_true.mp tt_same r (have_sub hr)) k hk)).2
    have hd0 : ((haveG ss).map fun r => (ansR r k).d)[0]? = some (ansR r0 k).d := by rw [hh]; rfl
    have hdue : dueG ss k = if ((haveG ss).all fun r => decide (ansR r k = ansR r0 k)) = true then some (ansR r0 k) else none := by
      unfold dueG
      rw [hh]
    have hx0 : ∀ {B'}, R K B' v11 (.list ((haveG ss).map fun r => (ansR r k).d)) → R K B' v11 (.list ((haveG ss).map fun r => (ansR r k).d)) := fun r => r
    refine st_set (i := 7) (d := anD (dueG ss k)) sc_l_told_right.nd (pd_if (p := (haveG ss).all fun r => decide (ansR r k = ansR r0 k)) (td_val (PD.cast (pd_all (bs := (haveG ss).map fun r => decide (ansR r k = ansR r0 k)) rfl (by rfl) T.all (PD.cast (LD.pd (ld_gen [("_law_one", 9)] (pi_list pe_wp) (src_list (ds := (haveG ss).map fun r => (ansR r k).d) (pd_var 11 rfl r11)) (g := gName 9) (f := fun d => .bool (PyData.eqv d (ansR r0 k).d)) rfl sc_l_told_right.nd (blkOk_by (N := N_l_told_right) (sc := defScope s_l_told_right) (by decide +kernel)) (fun _ _ _ _ _ => by exact pg_name (i := 9) sc_l_told_right.nd rfl (Or.inl rfl)) ?_ fun c hc v5 B7 s7 q7 => ⟨_, gd_name, rfl, fun _ _ _ _ _ => ?_⟩)) ?_)) ?_)) (fun z => ?_) fun z => ?_) f6.bh fun v7 B7 H7 f7 r7 => ?_
    · rw [List.length_map]
      omega
    · obtain ⟨r, hrm, rfl⟩ := List.mem_map.mp hc
      exact CD.pd (cd_eq hr (pd_var 9 rfl q7) (pd_ixL (m := 0) (pd_var 11 rfl (r11.mono s7)) pd_int hd0) (shp r hrm) (shp r0 hr0))
    · rw [List.map_map, List.map_map]
      refine congrArg PyData.list (List.map_congr_left fun r _ => ?_)
      show PyData.bool (PyData.eqv (ansR r k).d (ansR r0 k).d) = _
      rw [eqv_an]
      rfl
    · rw [List.all_map]
      rfl
    · rw [hdue, if_pos z]
      exact pd_tup (ad_cons (pd_ixL (m := 0) (pd_var 11 rfl r11) pd_int hd0) ad_nil) (show 1 ≤ 100000 by decide)
    · rw [hdue, if_neg (by rw [z]; decide)]
      exact pd_non
    have s7 := s6.trans f7.bb
    refine stn_ifNot (A := A) (pn_callR (PA := fun ds => ds = [anD (dueG ss k), anD (dueG ss k)]) F5 hr (by decide) (by rfl) (an_cons (P := fun d => d = anD (dueG ss k)) (pn_callE (PA := fun ds => ∃ y, ds = [d3, y] ∧ y ∈ hLk k) F3 hr (by decide) (by rfl) (an_cons (P := fun d => d = d3) (PD.pn (pd_var 3 rfl (r34.mono s7)) rfl) fun d B8 s8 hd3 => an_cons (P := fun y => y ∈ hLk k) (pn_call (i := 0) (PA := fun ds => ds = [.list (hLk k)]) F1 hr (by decide) (by rfl) rfl (AD.an (ad_cons (pd_lst (ad_cons (pd_var 10 rfl (((rd.mono f6.bb).mono f7.bb).mono s8)) (ad_cons (pd_listT (by rfl) T.list (pd_var 10 rfl (((rd.mono f6.bb).mono f7.bb).mono s8))) ad_nil)) (show 2 ≤ 100000 by decide)) ad_nil) rfl) (fun ds e => ⟨_, _, e, rfl, (show 1 ≤ 2 by decide), (show 2 ≤ 100 by decide)⟩) fun ds d e hrl => ?_) fun y B9 s9 hy => an_nil ⟨y, by rw [hd3], hy⟩) fun ds hds => ?_) fun d B8 s8 hd8 => AD.an (ad_cons (pd_var 7 rfl (r7.mono s8)) ad_nil) (by rw [hd8])) fun ds hds => ⟨.bool true, ⟨_, hds, due_same hk, rfl⟩, rfl⟩) f7.bh (((drj.f0 fy).f0 f6).f0 f7) fun B8 H8 f8 dr8 => ?_
    · obtain ⟨x, xs, e2, hq, hm⟩ := hrl
      rw [e] at e2
      cases e2
      cases hq
      exact hm
    · obtain ⟨y, e, hy⟩ := hds
      exact ⟨_, by rw [e]; exact tell_sure p3 hno hk hy, rfl⟩
    exact wpB_nil ⟨B8, (((s3.trans fy.bb).trans f6.bb).trans f7.bb).trans f8.bb, f8.bh, _, _, _, rfl, dr8, (((fzj.trans fy.to).trans f6.to).trans f7.to).trans f8⟩
  · rintro σ' Bj Hj s3 s4 ⟨o7, o10, o11, rfl, drj, fzj⟩
    have sj := f5.bb.trans s3
    refine st_ret (d := .bool true) (PD.cast (CD.pd (cd_eqStr (pd_strD hgd hr (by rfl) T.str hq3 (pd_var 3 rfl (r34.mono sj)) t1 t2 t3 t4 t5) (pd_var 4 rfl (r44.mono sj)))) (by rw [decide_eq_true rfl])) s4 fun v B' H' f' r' => ?_
    rw [r'.bl_inv]
    exact q B' H' (((fz4.trans f5.to).trans fzj).trans f'.to) (drj.f0 f')
end
end K8

set_option Elab.async false
set_option linter.all false
set_option maxRecDepth 100000
set_option maxHeartbeats 400000
/-! K8lw1: xs == [], min, loops over a range with tables. -/
namespace K8
open PySem PySem.Spec PyProof.Rows L2
/-- a list against the empty list -/
def rEqNil (K : PySem.W.Frag) : R2 := fun x y H Q => ∃ a b xs, x = .ref a ∧ y = .ref b ∧ SqL K H a xs ∧ SqL K H b [] ∧ Q (.bl xs.isEmpty) H
theorem op_eqNil {X : Cx} (hu : X.A.units < cLine) : OpR X (compareOp .Eq) (rEqNil X.K) := by
  intro pins s σ H x y v u Q I rx ry h
  obtain ⟨a, b, xs, rfl, rfl, ha, hb, q⟩ := h
  cases (show v = Value.ref a from rx)
  cases (show u = Value.ref b from ry)
  obtain ⟨us, r1, p1, _⟩ := I.list ha
  obtain ⟨ws, r2, p2, _⟩ := I.list hb
  cases r2
  cases xs with
  | nil =>
    cases r1
    refine SeqAt.rcP_lists (e := fun _ => true) p1.isList p2.isList rfl hu (fun j h1 h2 => absurd h1 (Nat.not_lt_zero j)) _ _ ?_
    exact ⟨.bl true, H, I, rfl, q⟩
  | cons z xs =>
    cases r1 with
    | cons h r =>
      refine SeqAt.eq_list_lengthsAt p1.isList p2.isList (by simp) hu ?_
      exact ⟨.bl false, H, I, rfl, q⟩
section
variable {X : Cx} {a b c : Expr} {σ : L2.St} {B H : Hp} {ds : List PyData} {i j : Int} {pos p1 p2 : Pos} {sts body : List Stmt} {D : Ends} {n k : Nat}
theorem cd_eqNil (hr : Room n X.A) (ha : PD X a σ B (.list ds)) (hb : PD X b σ B (.list [])) : CD X .Eq a b σ B ds.isEmpty :=
  cd_cmp (op_eqNil (by have := hr.un; omega)) ha hb (fun u v B1 H1 _ s1 r1 r2 Q q => by
    obtain ⟨a0, xs, rfl, hs, ra⟩ := r1.lst_inv
    obtain ⟨b0, ys, rfl, hs', ra'⟩ := r2.lst_inv
    cases ra'
    have e : xs.isEmpty = ds.isEmpty := by cases ra <;> rfl
    exact ⟨a0, b0, xs, rfl, rfl, s1.seq hs, s1.seq hs', q _ B1 H1 (Fz.refl s1) (by rw [e]; exact .bl _)⟩) (nomark _)
/-- for x in range(a): the heap by one's own account -/
theorem stz_forRange {t : Nat} {x : Str} {px : Pos} (hp : PassesOwn (model X.prog X.w) X.A X.env X.xe) (hc : X.calm = true) (hN : X.N.Nodup) (hg : Gl X "range") (hm : X.mg "range" = none) (h : PD X a σ B (.int (n : Nat))) (hn : n ≤ 100000) (hb : Same B H)
    (k : ∀ B1 H1, F0 B H B1 H1 → ∃ Pv : Nat → L2.St → Hp → Prop, Pv 0 σ H1 ∧
      (∀ i σ' Hi, i < n → Pv i σ' Hi → wpB X body { D with nx := Pv (i + 1), ct := Pv (i + 1), bk := wpB X sts D } (σ'.set t (some (.int (i : Nat)))) Hi) ∧ (∀ σ' Hi, Pv n σ' Hi → wpB X sts D σ' Hi))
    (hi : X.N[t]? = some x := by rfl) (hx : Loc X.env.scope x := by first | exact Or.inl rfl | exact Or.inr rfl) (hf : X.fn x = true ∨ X.env.scope.names.lookup x = some .local := by first | exact .inl rfl | exact .inr rfl | assumption) (hs : ∀ x, foldedSetIterable (.Call (.Name "range" p1) [a] [] p2) X.env x = pure x := by intro _; rfl) (hst : starEach [a] X.env = (false, eval a X.env) :: starEach [] X.env := by rfl) (hst2 : starEach [a] X.env = [(false, eval a X.env)] := by rfl) :
    wpB X (.For (.Name x px) (.Call (.Name "range" p1) [a] [] p2) body [] pos :: sts) D σ H := by
  refine wpB_cons (wpS_of (ps_for hp hc (pi_range1 hg hm pa_wp hst2) (pg_name hN hi hx hf) pb_wp hs) (ad_cons h ad_nil hst H hb _ fun vs B1 H1 f1 r1 => ?_))
  obtain ⟨v, rfl, r⟩ := r1.one
  rw [r.int_inv]
  obtain ⟨Pv, h0, hturn, hend⟩ := k B1 H1 f1
  refine ⟨(n : Int), rfl, by omega, by omega, ?_⟩
  rw [Int.toNat_natCast]
  refine for_it (walk_range (lo := 0) (n := n)) (D := { D with nx := wpB X sts D }) Pv h0 (fun _ _ _ _ _ => trivial) (fun i x σ1 H2 H' hi' pv y => ?_) hend
  obtain ⟨e, h2⟩ := y
  subst e h2
  have e : (0 : Int) + (i : Int) = (i : Int) := Int.zero_add _
  have hb := hturn i σ1 _ hi' pv
  show wpB X body _ (σ1.set t (some (.int ((0 : Int) + (i : Int))))) _
  rw [e]
  exact hb
end
end K8

set_option Elab.async false
set_option linter.all false
set_option maxRecDepth 100000
set_option maxHeartbeats 400000
/-! K8lw: law. -/
namespace K8
open PySem PySem.Spec PyProof.Rows L2
theorem Ez.drop {S : Addr → Prop} {B H B1 H1 : Hp} (f : Ez S B H B1 H1) (h : ∀ p, S p → FreeT H p) : E0z B H B1 H1 :=
  ⟨f.bb, f.bh, f.nt, fun p o _ nt e => f.hh p o (fun z => h p z o e nt) nt e, f.out, f.al⟩
abbrev inF (ss : List Sg) (i : Nat) : Nat → Option (Nat × Nat) := fun j => if apartAt ss i (i + 1 + j) = true then some (i, i + 1 + j) else none
theorem sql_nt {K : PySem.W.Frag} {H : Hp} {a : Addr} {xs : List V} (h : SqL K H a xs) : SqL K (nt H) a xs := by
  rcases h with (h | ⟨o, h⟩) | h
  · exact .inl (.inl (nt_of h fun _ z => nomatch z))
  · exact .inl (.inr ⟨o, nt_of h fun _ z => nomatch z⟩)
  · exact .inr h
/-- the body of the law's loop -/
def lwBody : List Stmt := match (defBody s_law).getD 1 (.Pass ⟨0, 0, 0, 0⟩) with
  | .For _ _ b _ _ => b
  | _ => []
/-- the law's promise: a the script, tp the table -/
def SpLw (K : PySem.W.Frag) (tp : Addr) : Sp := fun vs H Q _ => ∃ (a : Addr) (ns : List Int), vs = [.ref a] ∧ LamX.Tabs [(tp, qRf)] H ∧ SqL K H a (ns.map V.int) ∧ ns.length ≤ 63 ∧ ∀ H', Q (.bl true) H'
theorem fsr_succ {α : Type} (f : Nat → Option α) (j : Nat) : (List.range (j + 1)).findSome? f = ((List.range j).findSome? f).or (f j) := by
  rw [List.range_succ, List.findSome?_append]
  congr 1
  show List.findSome? f [j] = _
  rw [List.findSome?_cons]
  cases f j <;> rfl
section
variable {P : Program} {w : World} {K : PySem.W.Frag} {mg : Str → Option Value} {base : Heap} {tp : Addr}
theorem fn_law (D : IsDef K mg "law" s_law) (T : Bl mg) (F1 : Fn P w K mg base CX0 "_law_source" 1 ["_law_script", "_law_turn"] (R_l_source K)) (F2 : FnN P w K mg base "_law_draw" 1 ["_law_draws", "_law_many"] preDraw relDraw) (F3 : FnN P w K mg base "_law_some_sights" 3 ["_law_draws", "_law_many"] preSome relSome)
    (F4 : Fn P w K mg base CX0 "_law_table" 3 ["_law_worlds_here"] (SpR K R_l_table)) (F5 : Fn P w K mg base CX0 "_law_all_worlds" 2 [] (SpM K (allW.map wD))) (F6 : Fn P w K mg base CX0 "_law_have" 1 ["_law_grid", "_law_sights"] (SpR K R_l_have))
    (F7 : Fn P w K mg base CX0 "_law_refused_right" 12 ["_law_draws", "_law_sights", "_law_pair"] (SpRf K tp)) (F8 : GFn P w K mg base "_law_told_right" 10 ["_law_draws", "_law_grid", "_law_sights"] (SpTl K)) (F9 : FnN P w K mg base "_law_deeper_right" 10 ["_law_draws"] preDp relDp) :
    GFn P w K mg base "law" 13 ["_law_script"] (SpLw K tp) := by
  refine gfn_of D sc_law (fun vs H Q E h => ?_) (fun _ _ _ _ _ _ us hl => match us, hl with | [_], _ => rfl) fun f cdv Ar outer s H0 E vs Q hr hgd h => ?_
  · obtain ⟨a, ns, rfl, _⟩ := h
    rfl
  obtain ⟨a, ns, rfl, t0, hsq, hns, q⟩ := h
  have hb0 : Same (nt H0) H0 := nt_sub (Same.refl _)
  have hsq0 := sql_nt hsq
  -- the grid
  refine st_set (i := 1) (d := gridD) sc_law.nd (pd_call F4 hr (by decide) (by rfl) (ad_cons (pd_callM F5 hr (by decide) (by rfl)) ad_nil) ⟨rfl, rfl⟩) hb0 fun vg B1 H1 f1 rg => ?_
  have e1 : E0z (nt H0) H0 (nt B1) H1 := Ez.f0 f1 (nt_NT H0)
  have t1 := tabs_f0 t0 f1
  have rg := rg.nt
  have hsq1 := e1.bb.seq hsq0
  have n1 := e1.nt
  have b1 := e1.bh
  generalize nt B1 = B2 at e1 rg hsq1 n1 b1
  have vS : ∀ {o1 o2 o3 o4 o5 o6 o7 : Option V}, ([some (.ref a), o1, o2, o3, o4, o5, o6, o7] : L2.St)[0]? = some (some (.ref a)) := rfl
  refine stz_forRange (t := 2) (n := 2 + min ns.length 3) PassesOwn.never rfl sc_law.nd (by rfl) T.range (PD.cast (pd_add pd_int (pd_min2 rfl (by rfl) T.min (pd_len_sql vS hsq1 (by rfl) T.len) pd_int)) ?_) (by omega) b1 fun B3 H3 f3 => ?_
  · rw [List.length_map]
    split <;> (show PyData.int _ = PyData.int _; congr 1; omega)
  have e3 := e1.trans (Ez.f0 f3 n1)
  have t3 := tabs_f0 t1 f3
  have rg3 := (rg.mono f3.bb).nt
  have hsq3 : SqL K (nt B3) a (ns.map V.int) := sql_nt (f3.bb.seq hsq1)
  have n3 := nt_NT B3
  have b3 := e3.bh
  generalize nt B3 = B4 at e3 rg3 hsq3 n3 b3
  refine ⟨fun i σ' Hi => ∃ Bi o2 o3 o4 o5 o6 o7, σ' = [some (.ref a), some vg, o2, o3, o4, o5, o6, o7] ∧ E0z B4 H3 Bi Hi ∧ LamX.Tabs [(tp, qRf)] Hi, ⟨B4, _, _, _, _, _, _, rfl, Ez.refl b3 n3, t3⟩, ?_, ?_⟩
  · rintro i σ' Hi hi ⟨Bi, o2, o3, o4, o5, o6, o7, rfl, zi, ti⟩
    have sg0 : ∀ {B'}, Same B4 B' → R K B' vg gridD := fun sB => rg3.mono sB
    -- draws
    obtain ⟨fS, fdS, hmS, kpS, bnS, FS⟩ := F1.ex
    refine wpB_cons (wpS_of (ps_set (i := 3) (x := "_law_draws") sc_law.nd rfl (Or.inl rfl) (pe_call FS (hr.mono (by decide)) (by rfl) hmS kpS bnS .nil pass0 (pa_cons (pe_var (i := 0) rfl (Or.inl rfl) (by decide) (by decide)) (pa_cons (pe_var (i := 2) rfl (Or.inl rfl) (by decide) (by decide)) pa_nil))) (by rfl) (.inl rfl)) ⟨.ref a, rfl, .int (i : Nat), rfl, a, i, ns, Bi, rfl, zi.bh, zi.bb.seq hsq3, by omega, by omega, fun A B' H' x y z fA hA => ?_⟩)
    have z1 : E0z Bi Hi (nt B') H' := Ez.f0 fA zi.nt
    have z2 : E0z Bi Hi (nt B') (upd H' A (.lst [.int x, .int y, .int z])) := z1.trans (Ez.laid z1.bh z1.nt hA)
    have frA : FreeT Hi A := (FreeT.of hA).back z1
    have drA : Drw A (nt B') (upd H' A (.lst [.int x, .int y, .int z])) := ⟨z1.bh.free hA, x, y, z, upd_same⟩
    have t5 : LamX.Tabs [(tp, qRf)] (upd H' A (.lst [.int x, .int y, .int z])) := tabs_put (tabs_f0 ti fA) fun o e => by rw [hA] at e; cases e
    generalize nt B' = B5 at z1 z2 drA
    generalize upd H' A (.lst [.int x, .int y, .int z]) = H5 at z2 drA t5
    -- sights, pair
    refine stn_par (A := A) (i := 4) (j := 5) (P1 := fun d => ∃ ss : List Sg, d = sgsD ss ∧ ss.length ≤ 5 ∧ ∀ s ∈ ss, s ∈ S19) (P2 := fun d => d = .none) rfl sc_law.nd (pn_call (i := 3) (PA := fun ds => ∃ m : Nat, ds = [.int (m : Int)] ∧ m ≤ 5) F3 hr (by decide) (by rfl) rfl (an_cons (P := fun d => ∃ m : Nat, d = .int (m : Int) ∧ m ≤ 5) (pn_call (i := 3) (PA := fun ds => ds = [.int ((6 : Nat) : Int)]) F2 hr (by decide) (by rfl) rfl (AD.an (ad_cons pd_int ad_nil) rfl) (fun ds e => ⟨6, e, by decide, by decide⟩) fun ds d e hrl => ?_) fun d B6 s6 hd => an_nil (by obtain ⟨m, rfl, hm⟩ := hd; exact ⟨m, rfl, hm⟩)) (fun ds e => by obtain ⟨m, e, hm⟩ := e; exact ⟨m, e, by omega⟩) fun ds d e hrl => ?_) (fun B6 s6 => PD.pn pd_non rfl) z2.bh drA fun v4 v5 d4 d5 B6 H6 f6 dr6 p4 p5 r4 r5 => ?_
    · obtain ⟨m, n, e2, rfl, hn⟩ := hrl
      rw [e] at e2
      have e4 : ((6 : Nat) : Int) = (m : Int) := by injection e2 with e5; injection e5
      exact ⟨n, rfl, by omega⟩
    · obtain ⟨m, e, hm⟩ := e
      obtain ⟨m2, ss, e2, rfl, hl, hs⟩ := hrl
      rw [e] at e2
      have e4 : (m : Int) = (m2 : Int) := by injection e2 with e5; injection e5
      exact ⟨ss, rfl, by omega, hs⟩
    obtain ⟨ss, rfl, hl5, hss⟩ := p4
    subst p5
    have rg6 := (sg0 (zi.bb.trans z2.bb)).mono f6.bb
    -- the pair
    refine st_for (ds := (List.range ss.length).map fun i => PyData.int (i : Nat)) PassesOwn.never rfl (pi_range1 (by rfl) T.range pa_wp) (pg_name (i := 6) sc_law.nd rfl (Or.inl rfl)) (src_range1 (PD.cast (pd_lenL (by rfl) T.len (pd_var 4 rfl r4)) (by rw [List.length_map])) (by omega)) f6.bh fun B7 H7 f7 => ?_
    refine ⟨fun m σ' Bj Hj => ∃ v5' o6 o7, σ' = [some (.ref a), some vg, some (.int (i : Nat)), some (.ref A), some v4, some v5', o6, o7] ∧ R K Bj v5' (oD pairD ((List.range m).findSome? (innerF ss))) ∧ F0 B7 H7 Bj Hj, ⟨v5, _, _, rfl, r5.mono f7.bb, Fz.refl f7.bh⟩, ?_, ?_⟩
    · rintro m σ' Bj Hj d x' By H' hm s1 s2 ⟨v5', o6, o7, rfl, r5', fj⟩ hd fy rd
      rw [List.length_map, List.length_range] at hm
      have ed : d = .int (m : Nat) := by
        rw [List.getElem?_map, List.getElem?_range hm] at hd
        exact (Option.some.inj hd).symm
      subst ed
      have sy := (f7.bb.trans fj.bb).trans fy.bb
      refine ⟨_, gd_name, ?_⟩
      refine st_for (ds := (List.range (ss.length - (m + 1))).map fun j => PyData.int ((m + 1 + j : Nat))) PassesOwn.never rfl (pi_range2 (by rfl) T.range pa_wp) (pg_name (i := 7) sc_law.nd rfl (Or.inl rfl)) (PD.cast (pd_add (pd_var 6 rfl rd) pd_int) (by rfl) |> fun h1 => src_range2 (m := m + 1) (n := ss.length) h1 (PD.cast (pd_lenL (by rfl) T.len (pd_var 4 rfl (r4.mono sy))) (by rw [List.length_map])) (by omega) (by omega)) fy.bh fun B8 H8 f8 => ?_
      refine ⟨fun j σ' Bk Hk => ∃ v5' o7, σ' = [some (.ref a), some vg, some (.int (i : Nat)), some (.ref A), some v4, some v5', some x', o7] ∧ R K Bk v5' (oD pairD (((List.range m).findSome? (innerF ss)).or ((List.range j).findSome? (inF ss m)))) ∧ F0 B8 H8 Bk Hk, ⟨v5', _, rfl, by
        have e : ((List.range m).findSome? (innerF ss)).or ((List.range 0).findSome? (inF ss m)) = (List.range m).findSome? (innerF ss) := by cases (List.range m).findSome? (innerF ss) <;> rfl
        rw [e]
        exact (r5'.mono fy.bb).mono f8.bb, Fz.refl f8.bh⟩, ?_, ?_⟩
      · rintro j σ' Bk Hk d x2 Bz Hz hj s3 s4 ⟨v5'', o7, rfl, r5'', fk⟩ hd fz rd2
        rw [List.length_map, List.length_range] at hj
        have ed : d = .int ((m + 1 + j : Nat)) := by
          rw [List.getElem?_map, List.getElem?_range hj] at hd
          exact (Option.some.inj hd).symm
        subst ed
        refine ⟨_, gd_name, ?_⟩
        have sz := ((sy.trans f8.bb).trans fk.bb).trans fz.bb
        have rdz := ((rd.mono f8.bb).mono fk.bb).mono fz.bb
        have hi2 : m + 1 + j < ss.length := by omega
        have g1 : (ss.map Sg.d)[m]? = some (ss[m]'hm).d := by rw [List.getElem?_map, List.getElem?_eq_getElem hm]; rfl
        have g2 : (ss.map Sg.d)[m + 1 + j]? = some (ss[m + 1 + j]'hi2).d := by rw [List.getElem?_map, List.getElem?_eq_getElem hi2]; rfl
        have hap : apartAt ss m (m + 1 + j) = decide (haveG [ss[m]'hm, ss[m + 1 + j]'hi2] = []) := by
          unfold apartAt
          rw [List.getElem?_eq_getElem hm, List.getElem?_eq_getElem hi2]
          exact apart_have (hss _ (List.getElem_mem hm)) (hss _ (List.getElem_mem hi2))
        have hcur : ((List.range m).findSome? (innerF ss)).or ((List.range (j + 1)).findSome? (inF ss m)) = (((List.range m).findSome? (innerF ss)).or ((List.range j).findSome? (inF ss m))).or (inF ss m j) := by
          rw [fsr_succ, Option.or_assoc]
        generalize ((List.range m).findSome? (innerF ss)).or ((List.range j).findSome? (inF ss m)) = cur at r5'' hcur
        have hin : inF ss m j = if decide (haveG [ss[m]'hm, ss[m + 1 + j]'hi2] = []) = true then some (m, m + 1 + j) else none := by
          show (if apartAt ss m (m + 1 + j) = true then some (m, m + 1 + j) else none) = _
          rw [hap]
        have hE : ((haveG [ss[m]'hm, ss[m + 1 + j]'hi2]).map rwD).isEmpty = decide (haveG [ss[m]'hm, ss[m + 1 + j]'hi2] = []) := by
          cases haveG [ss[m]'hm, ss[m + 1 + j]'hi2] <;> simp
        refine st_if (p := isNon (oD pairD cur) && decide (haveG [ss[m]'hm, ss[m + 1 + j]'hi2] = [])) (TD.at (WD.td (wd_and (CD.td (cd_isN (pd_var 5 rfl (r5''.mono fz.bb)))) fun _ => wd_and1 (CD.td (CD.cast (cd_eqNil hr (pd_call F6 hr (by decide) (by rfl) (ad_cons (pd_var 1 rfl (rg6.mono sz)) (ad_cons (pd_lst (ad_cons (pd_ixL (m := m) (pd_var 4 rfl (r4.mono sz)) (pd_var 6 rfl rdz) g1) (ad_cons (pd_ixL (m := m + 1 + j) (pd_var 4 rfl (r4.mono sz)) (pd_var 7 rfl rd2) g2) ad_nil)) (show 2 ≤ 100000 by decide)) ad_nil)) ⟨[ss[m]'hm, ss[m + 1 + j]'hi2], rfl, fun z hz => ?_, (show 2 ≤ 50 by decide), rfl⟩) (pd_lst ad_nil (show 0 ≤ 100000 by decide))) hE)))) fz.bh) (fun hz B9 H9 f9 => ?_) fun hz B9 H9 f9 => ?_
        · simp only [List.mem_cons, List.not_mem_nil, or_false] at hz
          rcases hz with rfl | rfl
          · exact hss _ (List.getElem_mem hm)
          · exact hss _ (List.getElem_mem hi2)
        · rw [Bool.and_eq_true] at hz
          have ec : cur = none := by
            cases cur with
            | none => rfl
            | some p => cases hz.1
          refine st_set (i := 5) (d := pairD (m, m + 1 + j)) sc_law.nd (pd_tup (ad_cons (pd_var 6 rfl (rdz.mono f9.bb)) (ad_cons (pd_var 7 rfl (rd2.mono f9.bb)) ad_nil)) (show 2 ≤ 100000 by decide)) f9.bh fun v10 B10 H10 f10 r10 => ?_
          refine wpB_nil (wpB_nil ⟨B10, ((s3.trans fz.bb).trans f9.bb).trans f10.bb, f10.bh, v10, _, rfl, ?_, ((fk.trans fz).trans f9).trans f10⟩)
          rw [hcur, ec, hin, if_pos hz.2]
          exact r10
        · refine wpB_nil ⟨B9, (s3.trans fz.bb).trans f9.bb, f9.bh, v5'', _, rfl, ?_, (fk.trans fz).trans f9⟩
          have e : ((List.range m).findSome? (innerF ss)).or ((List.range (j + 1)).findSome? (inF ss m)) = cur := by
            rw [hcur, hin]
            cases cur with
            | some p => rfl
            | none =>
              have : decide (haveG [ss[m]'hm, ss[m + 1 + j]'hi2] = []) = false := hz
              rw [this]
              rfl
          rw [e]
          exact (r5''.mono fz.bb).mono f9.bb
      · rintro σ' Bk Hk s3 s4 ⟨v5'', o7, rfl, r5'', fk⟩
        refine wpB_nil ⟨Bk, (s1.trans fy.bb).trans (f8.bb.trans s3), s4, v5'', _, _, rfl, ?_, ((fj.trans fy).trans f8).trans fk⟩
        rw [fsr_succ]
        rw [List.length_map, List.length_range] at r5''
        exact r5''
    rintro σ' Bj Hj s1 s2 ⟨v5', o6, o7, rfl, r5', fj⟩
    rw [List.length_map, List.length_range] at r5'
    have r5' : R K Bj v5' (oD pairD (firstApart ss)) := r5'
    have f67 := (f6.trans f7.to).trans fj.to
    have dr7 := (dr6.f0 f7).f0 fj
    have z3 : Ez (· = A) B5 H5 (nt Bj) Hj := Ez.of f67 z2.nt fun p o hp e => (drw_noC dr7 p o hp e).1
    have t7 := tabs_fz t5 f67 (drw_noC drA)
    have r48 : R K (nt Bj) v4 (sgsD ss) := ((r4.mono f7.bb).mono fj.bb).nt
    have r58 := r5'.nt
    have rg8 : R K (nt Bj) vg gridD := ((rg6.mono f7.bb).mono fj.bb).nt
    have dr8 := dr7.nt
    generalize nt Bj = B8 at z3 r48 r58 rg8 dr8
    -- refused
    obtain ⟨fR, fdR, hmR, kpR, bnR, FR⟩ := F7.ex
    refine wpB_cons (wpS_of (ps_if (pt_not (pt_val (pe_call FR (hr.mono (by decide)) (by rfl) hmR kpR bnR .nil pass0 (pa_cons (pe_var (i := 3) rfl (Or.inl rfl) (by decide) (by decide)) (pa_cons (pe_var (i := 4) rfl (Or.inl rfl) (by decide) (by decide)) (pa_cons (pe_var (i := 5) rfl (Or.inl rfl) (by decide) (by decide)) pa_nil)))) (by intro _; rfl))) pb_wp pss_nil)
      ⟨.ref A, rfl, v4, rfl, v5', rfl, A, B8, v4, v5', ss, rfl, z3.bh, z3.nt, dr8, t7, r48, r58, hss, by omega, fun B9 H9 z9 dr9 t9 => ⟨true, rfl, ?_⟩⟩)
    have fin : ∀ (D : Ends), (∀ B' H', Ez (· = A) B8 Hj B' H' → LamX.Tabs [(tp, qRf)] H' → D.nx [some (.ref a), some vg, some (.int (i : Nat)), some (.ref A), some v4, some v5', o6, o7] H') → ∀ Bf Hf, Ez (· = A) B8 Hj Bf Hf → Drw A Bf Hf → LamX.Tabs [(tp, qRf)] Hf →
        wpB (bx P w K mg base "law" s_law N_law f cdv Ar outer s H0 E) (lwBody.drop 5) D [some (.ref a), some vg, some (.int (i : Nat)), some (.ref A), some v4, some v5', o6, o7] Hf := by
      intro D hD Bf Hf z dr tt
      refine stn_ifNot (A := A) (pn_call (i := 3) (PA := fun ds => ds = []) F9 hr (by decide) (by rfl) rfl (an_nil rfl) (fun ds e => e) fun ds d e hrl => hrl.2) z.bh dr fun B' H' f' dr' => ?_
      exact wpB_nil (hD (nt B') H' (z.trans (Ez.of f' z.nt fun p o hp e => (drw_noC dr' p o hp e).1)) (tabs_fz tt f' (drw_noC dr)))
    have endT : ∀ B' H', Ez (· = A) B8 Hj B' H' → LamX.Tabs [(tp, qRf)] H' → ∃ Bi o2 o3 o4 o5 o6' o7', [some (.ref a), some vg, some (.int (i : Nat)), some (.ref A), some v4, some v5', o6, o7] = [some (.ref a), some vg, o2, o3, o4, o5, o6', o7'] ∧ E0z B4 H3 Bi H' ∧ LamX.Tabs [(tp, qRf)] H' := fun B' H' z tt =>
      ⟨B', _, _, _, _, _, _, rfl, zi.trans (((z2.to.trans z3).trans z).drop fun p e => by rw [e]; exact frA), tt⟩
    cases hp : firstApart ss with
    | some p =>
      rw [hp] at r58
      refine wpB_cons (wpS_of (ps_if (PW.pt (pw_and pt_wp (pw_and1 (pt_not (pt_wp (X := bx P w K mg base "law" s_law N_law f cdv Ar outer s H0 E) (e := .Call (.Name "_law_told_right" _) [.Name "_law_draws" _, .Name "_law_grid" _, .Name "_law_sights" _] [] _)))))) pb_wp pss_nil) (CD.td (cd_isN (pd_var 5 rfl (r58.mono z9.bb))) H9 z9.bh _ fun B10 H10 f10 => ?_))
      exact fin _ endT (nt B10) H10 (z9.trans (Ez.f0 f10 z9.nt)) (dr9.f0 f10).nt (tabs_f0 t9 f10)
    | none =>
      rw [hp] at r58
      refine wpB_cons (wpS_of (ps_if (PW.pt (pw_and pt_wp (pw_and1 (pt_not (pt_val (pe_callG F8 hr (by decide) hgd (by rfl) (pa_cons (pe_var (i := 3) rfl (Or.inl rfl) (by decide) (by decide)) (pa_cons (pe_var (i := 1) rfl (Or.inl rfl) (by decide) (by decide)) (pa_cons (pe_var (i := 4) rfl (Or.inl rfl) (by decide) (by decide)) pa_nil)))) (by intro _; rfl)))))) pb_wp pss_nil) (CD.td (cd_isN (pd_var 5 rfl (r58.mono z9.bb))) H9 z9.bh _ fun B10 H10 f10 => ?_))
      have z10 : Ez (· = A) B8 Hj (nt B10) H10 := z9.trans (Ez.f0 f10 z9.nt)
      refine ⟨.ref A, rfl, vg, rfl, v4, rfl, A, nt B10, vg, v4, ss, rfl, z10.bh, (dr9.f0 f10).nt, rg8.mono z10.bb, r48.mono z10.bb, hss, hl5, hp, fun B11 H11 f11 dr11 => ⟨true, rfl, ?_⟩⟩
      exact fin _ endT (nt B11) H11 (z10.trans (Ez.of f11 z10.nt fun p o hp e => (drw_noC dr11 p o hp e).1)) dr11.nt (tabs_fz (tabs_f0 t9 f10) f11 (drw_noC (dr9.f0 f10)))
  · rintro σ' Hi ⟨Bi, o2, o3, o4, o5, o6, o7, rfl, zi, ti⟩
    exact st_ret pd_bl zi.bh fun v B' H' f' r' => by
      rw [r'.bl_inv]
      exact q H'
end
end K8

set_option Elab.async false
set_option linter.all false
set_option maxRecDepth 100000
set_option maxHeartbeats 0
/-! K8hd: the head: facts by names. -/
namespace K8
open PySem PySem.Spec PyProof.Rows L2
abbrev RR : PySem.W.OpenRow := PySem.W.OpenLaw.row PySem.Challenge.rw_noteshold_k08_whole_following
def mkD (x : Str) (st : Stmt) : He.DefD := ⟨(x, none), x, x, defArgs st, defBody st, defScope st, [], []⟩
def hfn0 : List He.DefD := [mkD "is_name" s_is_name, mkD "is_path" s_is_path, mkD "is_beneath" s_is_beneath, mkD "is_near" s_is_near, mkD "joined" s_joined, mkD "next_name" s_next_name, mkD "is_list" s_is_list, mkD "look_of" s_look_of, mkD "entry_name" s_entry_name, mkD "are_entries" s_are_entries, mkD "answer_of" s_answer_of, mkD "sight_of" s_sight_of, mkD "sights_of" s_sights_of, mkD "entry_of" s_entry_of, mkD "is_gone" s_is_gone, mkD "is_none_by" s_is_none_by]
def hfn1 : List He.DefD := [mkD "brings" s_brings, mkD "is_brought" s_is_brought, mkD "is_lacked" s_is_lacked, mkD "are_apart" s_are_apart, mkD "first_apart" s_first_apart, mkD "checked" s_checked, mkD "follows" s_follows, mkD "least_of" s_least_of, mkD "least" s_least, mkD "sure" s_sure, mkD "_law_source" s_l_source, mkD "_law_draw" s_l_draw, mkD "_law_pick" s_l_pick, mkD "_law_same" s_l_same, mkD "_law_is_beneath" s_l_is_beneath, mkD "_law_shown" s_l_shown]
def hfn2 : List He.DefD := [mkD "_law_looks" s_l_looks, mkD "_law_answers" s_l_answers, mkD "_law_worlds" s_l_worlds, mkD "_law_table" s_l_table, mkD "_law_some_sights" s_l_some_sights, mkD "_law_have" s_l_have, mkD "_law_handed_sights" s_l_handed_sights, mkD "_law_tried" s_l_tried, mkD "_law_brought" s_l_brought, mkD "_law_least" s_l_least, mkD "_law_refused_right" s_l_refused_right, mkD "_law_all_worlds" s_l_all_worlds, mkD "_law_told_right" s_l_told_right, mkD "_law_deeper_right" s_l_deeper_right, mkD "law" s_law]
def hfn : List He.DefD := hfn0 ++ hfn1 ++ hfn2
def hfa0 : List He.Fa := [.glo "is_name", .glo "is_path", .glo "is_beneath", .glo "is_near", .glo "joined", .glo "next_name", .glo "is_list", .glo "look_of", .glo "entry_name", .glo "are_entries", .glo "answer_of", .glo "sight_of", .glo "sights_of", .glo "entry_of", .glo "is_gone", .glo "is_none_by"]
def hfa1 : List He.Fa := [.glo "brings", .glo "is_brought", .glo "is_lacked", .glo "are_apart", .glo "first_apart", .glo "checked", .glo "follows", .glo "least_of", .glo "least", .glo "sure", .glo "_law_source", .glo "_law_draw", .glo "_law_pick", .glo "_law_same", .glo "_law_is_beneath", .glo "_law_shown"]
def hfa2 : List He.Fa := [.glo "_law_looks", .glo "_law_answers", .glo "_law_worlds", .glo "_law_table", .glo "_law_some_sights", .glo "_law_have", .glo "_law_handed_sights", .glo "_law_tried", .glo "_law_brought", .glo "_law_least", .glo "_law_refused_right", .glo "_law_all_worlds", .glo "_law_told_right", .glo "_law_deeper_right", .glo "law"]
def hfaB : List He.Fa := [.free "isinstance", .free "str", .free "len", .free "all", .free "any", .free "list", .free "tuple", .free "sorted", .free "set", .free "enumerate", .free "range", .free "int", .free "bool", .free "zip", .free "dict", .free "min", .free "super", .str "SIGNS" "abcdefghijklmnopqrstuvwxyz0123456789", .int "LONGEST" 8, .keep "BadLook", .keep "BadSight", .keep "Apart", .noat "BadSight" "index", .noat "BadLook" "look", .noat "Apart" "first", .noat "Apart" "second", .exm "BadSight" "BadSight" true, .exm "BadLook" "BadSight" false, .exm "BadLook" "BadLook" true, .exm "Apart" "BadSight" false, .exm "Apart" "BadLook" false, .exm "Apart" "Apart" true, .glo "NoteError", .glo "BadLook", .glo "BadSight", .glo "Apart"]
def hfa : List He.Fa := hfa0 ++ hfa1 ++ hfa2 ++ hfaB
def hnm0 : List Str := ["NoteError", "BadLook", "BadSight", "Apart", "SIGNS", "LONGEST", "is_name", "is_path", "is_beneath", "is_near", "joined", "next_name", "is_list", "look_of", "entry_name", "are_entries", "answer_of", "sight_of", "sights_of", "entry_of", "is_gone", "is_none_by", "brings", "is_brought", "is_lacked", "are_apart", "first_apart", "checked", "follows", "least_of"]
def hnm1 : List Str := ["least", "sure", "_law_source", "_law_draw", "_law_pick", "_law_same", "_law_is_beneath", "_law_shown", "_law_looks", "_law_answers", "_law_worlds", "_law_table", "_law_some_sights", "_law_have", "_law_handed_sights", "_law_tried", "_law_brought", "_law_least", "_law_refused_right", "_law_all_worlds", "_law_told_right", "_law_deeper_right"]
def hnm : List Str := hnm0 ++ hnm1
def hts : List He.Tab := []
def htf : List He.Defn := [("_law_refused_right", none)]
/-! ### the classes -/
def clsBody (i : Nat) : List Stmt := match topS i with
  | .ClassDef _ _ _ body _ _ _ _ _ _ _ => body
  | _ => []
def iniS (i : Nat) : Stmt := (clsBody i).getD 0 (.Pass ⟨0, 0, 0, 0⟩)
def oexB (K : PySem.W.Frag) (C : Addr) : Bool := (match K.lookup C with
  | some ⟨.type tn, _, .cls cd, sl⟩ => decide (tn = "type") && ((match cd.mro with
      | c :: bm => decide (c = .ref C) && HandSPX.refsVE bm
      | [] => false) && (cd.hasDict && (!cd.hasDel && (match sl.toList with
      | [_, _, _, _, some (.builtin id), _] => decide (id = "ValueError.__new__")
      | _ => false))))
  | _ => false) && (He.eqO (PySem.W.findIn K (.ref C) "__setattr__") (some (some (.builtin "object.__setattr__"))) && (decide (PySem.W.subIn K (.ref C) (.type "BaseException") = some true) && decide (PySem.W.typeIn K (.ref C) = some (.type "type"))))
/-- the file of the head's code objects -/
def fileB (f : Str) : Bool := RR.prog.main.file == f
def fileO : Option Value → Bool
  | some (.str file _) => fileB file
  | _ => false
def iniB (K : PySem.W.Frag) (C f : Addr) (qual : Str) : Bool :=
  (match K.lookup f with
  | some ⟨_, _, .func fd, _⟩ => (match fd.closure, fd.code with
    | [(n, cc)], .ref cda => decide (n = "__class__") && (PySem.W.codeIn K (.ref cda) qual && ((match K.lookup cda with
        | some ⟨_, _, .fields vs, _⟩ => fileO vs[2]?
        | _ => false) && (match K.lookup cc with
        | some ⟨_, _, .cell (some (.ref c)), _⟩ => decide (c = C)
        | _ => false)))
    | _, _ => false)
  | _ => false) && (He.eqO (PySem.W.findIn K (.ref C) "__init__") (some (some (.ref f))) && (decide (PySem.W.typeIn K (.ref f) = some (.type "function")) && ((PySem.W.clsIn K C).isSome && (decide (PySem.W.mroIn K C (.ref C) = some true) &&
    (He.eqO (PySem.W.ks_superIn K C C "__init__") (some (some (.builtin "ValueError.__init__"))) && decide (PySem.W.subIn K (.ref C) (.type "ValueError") = some true))))))
def clsB (K : PySem.W.Frag) (x qual : Str) : Bool := oexB K (He.ga K x) && (L2.xfB K (He.ga K x) && iniB K (He.ga K x) (He.ma K (He.ga K x) "__init__") qual)
def hex (K : PySem.W.Frag) : Bool := clsB K "BadLook" "BadLook.__init__" && (clsB K "BadSight" "BadSight.__init__" && (clsB K "Apart" "Apart.__init__" && He.eqO (PySem.W.nsIn K cStatics "thirdparty.any") (some none)))
abbrev IniW : Type := Option (Str × Str × Arguments × FuncBody × Scope × Addr × Addr × Value)
def iniW (K : PySem.W.Frag) (x : Str) : IniW := match K.lookup (He.ma K (He.ga K x) "__init__") with
  | some ⟨_, _, .func fd, _⟩ => some (fd.name, fd.qualname, fd.params, fd.body, fd.scope, fd.globals, fd.builtins, fd.defaults)
  | _ => none
def iniV (q : Str) (i : Nat) : IniW := some ("__init__", q, defArgs (iniS i), .stmts (defBody (iniS i)), defScope (iniS i), mainGlobals, builtinsNs, .none)
/-! ### the Hook -/
def KK (g : Addr → Option Obj) : PySem.W.Frag := He.frT g (He.asD g 5 ++ [cStatics])
theorem KK_in {h : Heap} : (KK h.get?).In h := fun _ _ e => (He.frT_mem e).1
section
variable {β : Type} (fa : List He.Fa) (fn : List He.DefD) (ts : List He.Tab) (tf : List He.Defn) (ex : PySem.W.Frag → Bool) (iw : PySem.W.Frag → β) (iv : β)
def obsG (g : Addr → Option Obj) : He.AlX × β := ((He.obsT fa fn ts (KK g), ex (KK g) && He.tabsB g tf (KK g)), iw (KK g))
structure SaysG (w : World) (h : Heap) (K : PySem.W.Frag) : Prop where
  x : He.SaysX fa fn ts tf ex w h K
  i : iw K = iv
theorem saysG_of {w : World} {h : Heap} (e : obsG fa fn ts tf ex iw h.get? = (He.valX fn ts w, iv)) : SaysG fa fn ts tf ex iw iv w h (KK h.get?) := by
  have e1 : He.obsT fa fn ts (KK h.get?) = He.valT fn ts w := congrArg (fun z : He.AlX × β => z.1.1) e
  have e2 : (ex (KK h.get?) && He.tabsB h.get? tf (KK h.get?)) = true := congrArg (fun z : He.AlX × β => z.1.2) e
  obtain ⟨h1, h2⟩ := Bool.and_eq_true_iff.mp e2
  have key : ∀ p ∈ tf, PySem.W.codeHdIn (KK h.get?) (He.cT (KK h.get?) p).1 (He.cT (KK h.get?) p).2 = true ∧ ∃ o, h.get? (He.cT (KK h.get?) p).2 = some o ∧ He.emptyTab o = true := fun p hp => by
    obtain ⟨h3, h4⟩ := Bool.and_eq_true_iff.mp (List.all_eq_true.mp h2 p hp)
    refine ⟨h3, ?_⟩
    cases q : h.get? (He.cT (KK h.get?) p).2 with
    | none =>
      rw [q] at h4
      cases h4
    | some o =>
      rw [q] at h4
      exact ⟨o, rfl, h4⟩
  refine ⟨⟨e1, h1, fun p hp => (key p hp).1, fun p hp => ?_, fun p hp => ?_⟩, congrArg (fun z : He.AlX × β => z.2) e⟩
  · obtain ⟨_, o, q, z⟩ := key p hp
    exact He.frT_none q z
  · obtain ⟨_, o, q, z⟩ := key p hp
    rw [q, He.emptyTab_eq z]
def hookG : PySem.W.Hook where
  α := He.AlX × β
  obs := fun s => obsG fa fn ts tf ex iw s.heap.get?
  val := fun w => (He.valX fn ts w, iv)
  says := fun w h => ∃ K : PySem.W.Frag, K.In h ∧ SaysG fa fn ts tf ex iw iv w h K
  of := fun _ _ e => ⟨_, KK_in, saysG_of fa fn ts tf ex iw iv e⟩
  keeps := fun _ _ _ ⟨K, hK, c⟩ k => ⟨K, PySem.W.Frag.In.keeps hK k, ⟨⟨c.x.t, c.x.more, c.x.hd, c.x.out, fun p hp => k _ _ (c.x.empty p hp)⟩, c.i⟩⟩
theorem obsG_eq {g : Addr → Option Obj} {s : Shared} (h : ∀ a, g a = s.heap.get? a) : obsG fa fn ts tf ex iw g = (hookG fa fn ts tf ex iw iv).obs s := by
  have e : g = s.heap.get? := funext h
  rw [e] <;> rfl
end
def iwA (K : PySem.W.Frag) : IniW × IniW × IniW := (iniW K "BadLook", iniW K "BadSight", iniW K "Apart")
def ivA : IniW × IniW × IniW := (iniV "BadLook.__init__" 2, iniV "BadSight.__init__" 3, iniV "Apart.__init__" 4)
abbrev hk : PySem.W.Hook := hookG hfa hfn hts htf hex iwA ivA
def hob (s : PySem.W.SharedT) : He.AlX × (IniW × IniW × IniW) := obsG hfa hfn hts htf hex iwA (HandSHeadRun.getT s)
theorem hob_eq (s : PySem.W.SharedT) : hob s = hk.obs s.abs := obsG_eq hfa hfn hts htf hex iwA ivA (HandSHeadRun.getT_eq s)
theorem hrun (w : World) : HandSHeadRun.RunEq RR (PySem.W.view RR.prog [58]) hk hob 4000 hnm w := by
  intro os
  kernel_rfl
end K8

set_option Elab.async false
set_option linter.all false
set_option maxRecDepth 100000
set_option maxHeartbeats 1000000
/-! K8in: the __init__ of the three exceptions. -/
namespace K8
open PySem PySem.Spec PyProof.Rows L2 PySem.W
theorem oexB_ok {K : PySem.W.Frag} {C : Addr} (h : oexB K C = true) (kp : PySem.W.keepIn K (.ref C) = true) : OexC K C := by
  unfold oexB at h
  rw [Bool.and_eq_true, Bool.and_eq_true, Bool.and_eq_true] at h
  obtain ⟨h1, h2, h3, h4⟩ := h
  refine ⟨?_, He.eqO_ok h2, of_decide_eq_true h3, of_decide_eq_true h4, kp⟩
  split at h1
  · rename_i tn dd cd sl hl
    rw [Bool.and_eq_true, Bool.and_eq_true, Bool.and_eq_true, Bool.and_eq_true] at h1
    obtain ⟨g1, g2, g3, g4, g5⟩ := h1
    have g1 := of_decide_eq_true g1
    split at g2
    · rename_i c bm hm
      rw [Bool.and_eq_true] at g2
      obtain ⟨g6, g7⟩ := g2
      have g6 := of_decide_eq_true g6
      split at g5
      · rename_i k0 k1 k2 k3 id k5 hs
        have g5 := of_decide_eq_true g5
        obtain ⟨nm, bases, mro, ns, q, hasD, sn, sub, ab, col, del⟩ := cd
        refine ⟨nm, q, ns, bases, bm, sn, sub, ab, col, dd, k0, k1, k2, k3, k5, ?_, g7⟩
        have e1 : sl = #[k0, k1, k2, k3, some (.builtin id), k5] := by
          have : sl = sl.toList.toArray := by simp
          rw [this, hs]
        rw [hl, e1, g5, g1]
        have e2 : mro = .ref C :: bm := by rw [← g6]; exact hm
        have e3 : hasD = true := g3
        have e4 : del = false := by simpa using g4
        rw [e2, e3, e4]
      · cases g5
    · cases g2
  · cases h1
/-- what is told of a class and its __init__ -/
def ClsI (K : PySem.W.Frag) (mg : Str → Option Value) (x qual : Str) (i : Nat) (C : Addr) : Prop := ∃ (f cda cc : Addr) (kV doc pm ct : Value) (an : Option Addr), PySem.W.findIn K (.ref C) "__init__" = some (some (.ref f)) ∧ PySem.W.typeIn K (.ref f) = some (.type "function") ∧
  ExI RR.prog K mg f C cda cc (ksFn "__init__" qual (defArgs (iniS i)) (defBody (iniS i)) (defScope (iniS i)) .none kV doc pm an (.ref cda) ct cc) qual (defScope (iniS i))
theorem clsI_of {K : PySem.W.Frag} {mg : Str → Option Value} {x qual : Str} {i : Nat} (hb : clsB K x qual = true) (hw : iniW K x = iniV qual i) (kp : PySem.W.keepIn K (.ref (He.ga K x)) = true) (ho : PySem.W.nsIn K cStatics "thirdparty.any" = some none) (hs : mg "super" = none)
    (hself : ∃ ar, ((defArgs (iniS i)).posonlyargs ++ (defArgs (iniS i)).args).head? = some ar ∧ ar.arg = "self") (htop : (RR.prog.main.scope.names.lookup ("super" : Str)).isSome = false) : ClsI K mg x qual i (He.ga K x) := by
  unfold clsB at hb
  rw [Bool.and_eq_true, Bool.and_eq_true] at hb
  obtain ⟨h1, h2, h3⟩ := hb
  unfold iniB at h3
  rw [Bool.and_eq_true, Bool.and_eq_true, Bool.and_eq_true, Bool.and_eq_true, Bool.and_eq_true, Bool.and_eq_true] at h3
  obtain ⟨g1, g2, g3, g4, g5, g6, g7⟩ := h3
  unfold iniW iniV at hw
  generalize hf : He.ma K (He.ga K x) "__init__" = f at *
  split at hw
  · rename_i oc od fd osl hl
    rw [hl] at g1
    obtain ⟨nm, qn, params, body, scope, globals, closure, dV, kV, doc, pm, an, code, ct, blt⟩ := fd
    injection hw with hw
    simp only [Prod.mk.injEq] at hw
    obtain ⟨rfl, rfl, rfl, rfl, rfl, rfl, rfl, rfl⟩ := hw
    simp only at g1
    split at g1
    · rename_i n cc cda
      rw [Bool.and_eq_true, Bool.and_eq_true, Bool.and_eq_true] at g1
      obtain ⟨k1, k2, k3, k4⟩ := g1
      have k1 := of_decide_eq_true k1
      subst k1
      refine ⟨f, cda, cc, kV, doc, pm, ct, an, He.eqO_ok g2, of_decide_eq_true g3, oexB_ok h1 kp, ⟨_, _, _, hl⟩, ⟨_, _, _, _, _, _, _, _, _, rfl⟩, hself, ?_, k2, ?_, Option.isSome_iff_exists.mp g4, of_decide_eq_true g5, He.eqO_ok g6, of_decide_eq_true g7, ho, hs, htop⟩
      · split at k3
        · rename_i ccl cdd vs ccs hl2
          unfold fileO at k3
          split at k3
          · rename_i file tf hv
            exact ⟨_, _, _, _, file, tf, hl2, hv, k3⟩
          · cases k3
        · cases k3
      · split at k4
        · rename_i cl cld c csl hl2
          have k4 := of_decide_eq_true k4
          exact ⟨cl, cld, csl, by rw [hl2, k4]⟩
        · cases k4
    · cases g1
  · cases hw
/-! ### the promises -/
theorem free_of {sc : Scope} (h : (sc.names.all fun y => !decide (y.2 = NameKind.free) || decide (y.1 = ("__class__" : Str))) = true) : ∀ x, sc.names.lookup x = some .free → x = "__class__" := fun x hx => by
  have := List.all_eq_true.mp h _ (PySem.mem_of_lookup hx)
  simpa using this
section
variable {w : World} {K : PySem.W.Frag} {mg : Str → Option Value} {base : Heap} {C : Addr}
theorem su_look : SuScope ["self", "look"] ["self", "look"] (defScope (iniS 2)) := ⟨rfl, rfl, rfl, by decide +kernel, rfl, by decide +kernel, by decide +kernel, free_of (by decide +kernel), rfl, rfl, rfl, rfl⟩
theorem su_index : SuScope ["self", "index"] ["self", "index"] (defScope (iniS 3)) := ⟨rfl, rfl, rfl, by decide +kernel, rfl, by decide +kernel, by decide +kernel, free_of (by decide +kernel), rfl, rfl, rfl, rfl⟩
theorem su_apart : SuScope ["self", "first", "second"] ["self", "first", "second"] (defScope (iniS 4)) := ⟨rfl, rfl, rfl, by decide +kernel, rfl, by decide +kernel, by decide +kernel, free_of (by decide +kernel), rfl, rfl, rfl, rfl⟩
theorem ini_look (h : ClsI K mg "BadLook" "BadLook.__init__" 2 C) (hm : mg "BadLook" = some (.ref C)) (hno : PySem.W.findIn K (.ref C) "look" = some none) : Ini RR.prog w K mg base "BadLook" ["self", "look"] (sp1 "look") := by
  obtain ⟨f, cda, cc, kV, doc, pm, ct, an, h1, h2, T⟩ := h
  refine ⟨C, f, _, hm, T.oex, h1, h2, L2.Binds.all (fun us hl => match us, hl with | [_, _], _ => rfl), fn_oinit T su_look (fun vs H Q E h => ?_) (fun env => by rfl) (fun env => by rfl) (fun env => by rfl) fun A outer s H vs Q E h => ?_⟩
  · obtain ⟨a, v, rfl, _⟩ := h
    rfl
  · obtain ⟨a, v, rfl, ha, q⟩ := h
    refine ⟨a, [v], rfl, ha, _, _, pa_cons (pe_var (i := 1) rfl (Or.inl rfl) (by decide) (by decide)) pa_nil, pss_one (ps_ost (pe_var (i := 0) rfl (Or.inl rfl) (by decide) (by decide)) (pe_var (i := 1) rfl (Or.inl rfl) (by decide) (by decide))), ?_⟩
    exact ⟨v, rfl, (show 1 ≤ 1000 by decide), ha, v, rfl, .ref a, rfl, a, C, rfl, T.oex, hno, .inl ⟨ha, fun dx hd hne => q dx hd hne⟩⟩
theorem ini_index (h : ClsI K mg "BadSight" "BadSight.__init__" 3 C) (hm : mg "BadSight" = some (.ref C)) (hno : PySem.W.findIn K (.ref C) "index" = some none) : Ini RR.prog w K mg base "BadSight" ["self", "index"] (sp1 "index") := by
  obtain ⟨f, cda, cc, kV, doc, pm, ct, an, h1, h2, T⟩ := h
  refine ⟨C, f, _, hm, T.oex, h1, h2, L2.Binds.all (fun us hl => match us, hl with | [_, _], _ => rfl), fn_oinit T su_index (fun vs H Q E h => ?_) (fun env => by rfl) (fun env => by rfl) (fun env => by rfl) fun A outer s H vs Q E h => ?_⟩
  · obtain ⟨a, v, rfl, _⟩ := h
    rfl
  · obtain ⟨a, v, rfl, ha, q⟩ := h
    refine ⟨a, [v], rfl, ha, _, _, pa_cons (pe_var (i := 1) rfl (Or.inl rfl) (by decide) (by decide)) pa_nil, pss_one (ps_ost (pe_var (i := 0) rfl (Or.inl rfl) (by decide) (by decide)) (pe_var (i := 1) rfl (Or.inl rfl) (by decide) (by decide))), ?_⟩
    exact ⟨v, rfl, (show 1 ≤ 1000 by decide), ha, v, rfl, .ref a, rfl, a, C, rfl, T.oex, hno, .inl ⟨ha, fun dx hd hne => q dx hd hne⟩⟩
theorem ini_apart (h : ClsI K mg "Apart" "Apart.__init__" 4 C) (hm : mg "Apart" = some (.ref C)) (hno : PySem.W.findIn K (.ref C) "first" = some none) (hno2 : PySem.W.findIn K (.ref C) "second" = some none) : Ini RR.prog w K mg base "Apart" ["self", "first", "second"] (sp2 "first" "second") := by
  obtain ⟨f, cda, cc, kV, doc, pm, ct, an, h1, h2, T⟩ := h
  refine ⟨C, f, _, hm, T.oex, h1, h2, L2.Binds.all (fun us hl => match us, hl with | [_, _, _], _ => rfl), fn_oinit T su_apart (fun vs H Q E h => ?_) (fun env => by rfl) (fun env => by rfl) (fun env => by rfl) fun A outer s H vs Q E h => ?_⟩
  · obtain ⟨a, v, u, rfl, _⟩ := h
    rfl
  · obtain ⟨a, v, u, rfl, ha, q⟩ := h
    refine ⟨a, [v, u], rfl, ha, _, _, pa_cons (pe_var (i := 1) rfl (Or.inl rfl) (by decide) (by decide)) (pa_cons (pe_var (i := 2) rfl (Or.inl rfl) (by decide) (by decide)) pa_nil), pss_cons (ps_ost (pe_var (i := 0) rfl (Or.inl rfl) (by decide) (by decide)) (pe_var (i := 1) rfl (Or.inl rfl) (by decide) (by decide))) (pss_one (ps_ost (pe_var (i := 0) rfl (Or.inl rfl) (by decide) (by decide)) (pe_var (i := 2) rfl (Or.inl rfl) (by decide) (by decide)))), ?_⟩
    refine ⟨v, rfl, u, rfl, (show 2 ≤ 1000 by decide), ha, v, rfl, .ref a, rfl, a, C, rfl, T.oex, hno, .inl ⟨ha, fun dx hd hne => ?_⟩⟩
    refine ⟨u, rfl, .ref a, rfl, a, C, rfl, T.oex, hno2, .inr ⟨dx, [("first", v)], upd_same, by rw [upd_ne hne, upd_same], (show 1 ≤ 900 by decide), q dx hd hne⟩⟩
end
end K8

set_option Elab.async false
set_option linter.all false
set_option maxRecDepth 100000
set_option maxHeartbeats 1000000
/-! K8fin: all joined. -/
namespace K8
open PySem PySem.Spec PyProof.Rows L2
theorem isDef_of {K : PySem.W.Frag} {mg : Str → Option Value} {x : Str} {st : Stmt} {fd : FuncData} (F : FunD K x x (defArgs st) (defBody st) (defScope st) [] [] (He.fAd K (x, none)) fd) (hm : mg x = some (.ref (He.ga K x))) : mg x = some (.ref (He.fAd K (x, none))) ∧ L2.Fun K x x st (He.fAd K (x, none)) fd := by
  obtain ⟨oc, od, dV, kV, doc, pm, an, cdv, ct, osl, e, lk, hc, hd, _⟩ := F.ex
  rcases hd with ⟨_, hd⟩ | ⟨hd, _⟩
  · subst hd
    exact ⟨hm, ⟨oc, od, kV, doc, pm, an, cdv, ct, osl, e, lk, hc⟩, F.kp⟩
  · exact absurd rfl hd
theorem isDef_to {K : PySem.W.Frag} {mg : Str → Option Value} {x : Str} {st : Stmt} (F : ∃ fd, FunD K x x (defArgs st) (defBody st) (defScope st) [] [] (He.fAd K (x, none)) fd) (hm : mg x = some (.ref (He.ga K x))) : IsDef K mg x st := by
  obtain ⟨fd, F⟩ := F
  obtain ⟨h1, h2⟩ := isDef_of F hm
  exact ⟨_, fd, h1, h2⟩

section
variable {w : World} {K : PySem.W.Frag} {mg : Str → Option Value} {h : Heap}
theorem bl_of (X : K.In h) (G : h.Ns mainGlobals mg) (d : He.SaysD hfa hfn K) : Bl mg := ⟨He.free_ok X G (d.fact 47 (f := .free "isinstance") rfl), He.free_ok X G (d.fact 48 (f := .free "str") rfl), He.free_ok X G (d.fact 49 (f := .free "len") rfl), He.free_ok X G (d.fact 50 (f := .free "all") rfl), He.free_ok X G (d.fact 51 (f := .free "any") rfl), He.free_ok X G (d.fact 52 (f := .free "list") rfl), He.free_ok X G (d.fact 53 (f := .free "tuple") rfl), He.free_ok X G (d.fact 54 (f := .free "sorted") rfl), He.free_ok X G (d.fact 55 (f := .free "set") rfl), He.free_ok X G (d.fact 56 (f := .free "enumerate") rfl), He.free_ok X G (d.fact 57 (f := .free "range") rfl), He.free_ok X G (d.fact 58 (f := .free "int") rfl), He.free_ok X G (d.fact 59 (f := .free "bool") rfl), He.free_ok X G (d.fact 60 (f := .free "zip") rfl), He.free_ok X G (d.fact 61 (f := .free "dict") rfl), He.free_ok X G (d.fact 62 (f := .free "min") rfl), He.free_ok X G (d.fact 63 (f := .free "super") rfl), He.str_ok X G (d.fact 64 (f := .str "SIGNS" "abcdefghijklmnopqrstuvwxyz0123456789") rfl), He.int_ok X G (d.fact 65 (f := .int "LONGEST" 8) rfl)⟩
theorem def_is_name (X : K.In h) (G : h.Ns mainGlobals mg) (d : He.SaysD hfa hfn K) : IsDef K mg "is_name" s_is_name := isDef_to (d.def_ 0 (d := mkD "is_name" s_is_name) rfl) (He.glo_ok X G (d.fact 0 (f := .glo "is_name") rfl))
theorem def_is_path (X : K.In h) (G : h.Ns mainGlobals mg) (d : He.SaysD hfa hfn K) : IsDef K mg "is_path" s_is_path := isDef_to (d.def_ 1 (d := mkD "is_path" s_is_path) rfl) (He.glo_ok X G (d.fact 1 (f := .glo "is_path") rfl))
theorem def_is_beneath (X : K.In h) (G : h.Ns mainGlobals mg) (d : He.SaysD hfa hfn K) : IsDef K mg "is_beneath" s_is_beneath := isDef_to (d.def_ 2 (d := mkD "is_beneath" s_is_beneath) rfl) (He.glo_ok X G (d.fact 2 (f := .glo "is_beneath") rfl))
theorem def_is_near (X : K.In h) (G : h.Ns mainGlobals mg) (d : He.SaysD hfa hfn K) : IsDef K mg "is_near" s_is_near := isDef_to (d.def_ 3 (d := mkD "is_near" s_is_near) rfl) (He.glo_ok X G (d.fact 3 (f := .glo "is_near") rfl))
theorem def_joined (X : K.In h) (G : h.Ns mainGlobals mg) (d : He.SaysD hfa hfn K) : IsDef K mg "joined" s_joined := isDef_to (d.def_ 4 (d := mkD "joined" s_joined) rfl) (He.glo_ok X G (d.fact 4 (f := .glo "joined") rfl))
theorem def_next_name (X : K.In h) (G : h.Ns mainGlobals mg) (d : He.SaysD hfa hfn K) : IsDef K mg "next_name" s_next_name := isDef_to (d.def_ 5 (d := mkD "next_name" s_next_name) rfl) (He.glo_ok X G (d.fact 5 (f := .glo "next_name") rfl))
theorem def_is_list (X : K.In h) (G : h.Ns mainGlobals mg) (d : He.SaysD hfa hfn K) : IsDef K mg "is_list" s_is_list := isDef_to (d.def_ 6 (d := mkD "is_list" s_is_list) rfl) (He.glo_ok X G (d.fact 6 (f := .glo "is_list") rfl))
theorem def_look_of (X : K.In h) (G : h.Ns mainGlobals mg) (d : He.SaysD hfa hfn K) : IsDef K mg "look_of" s_look_of := isDef_to (d.def_ 7 (d := mkD "look_of" s_look_of) rfl) (He.glo_ok X G (d.fact 7 (f := .glo "look_of") rfl))
theorem def_entry_name (X : K.In h) (G : h.Ns mainGlobals mg) (d : He.SaysD hfa hfn K) : IsDef K mg "entry_name" s_entry_name := isDef_to (d.def_ 8 (d := mkD "entry_name" s_entry_name) rfl) (He.glo_ok X G (d.fact 8 (f := .glo "entry_name") rfl))
theorem def_are_entries (X : K.In h) (G : h.Ns mainGlobals mg) (d : He.SaysD hfa hfn K) : IsDef K mg "are_entries" s_are_entries := isDef_to (d.def_ 9 (d := mkD "are_entries" s_are_entries) rfl) (He.glo_ok X G (d.fact 9 (f := .glo "are_entries") rfl))
theorem def_answer_of (X : K.In h) (G : h.Ns mainGlobals mg) (d : He.SaysD hfa hfn K) : IsDef K mg "answer_of" s_answer_of := isDef_to (d.def_ 10 (d := mkD "answer_of" s_answer_of) rfl) (He.glo_ok X G (d.fact 10 (f := .glo "answer_of") rfl))
theorem def_sight_of (X : K.In h) (G : h.Ns mainGlobals mg) (d : He.SaysD hfa hfn K) : IsDef K mg "sight_of" s_sight_of := isDef_to (d.def_ 11 (d := mkD "sight_of" s_sight_of) rfl) (He.glo_ok X G (d.fact 11 (f := .glo "sight_of") rfl))
theorem def_sights_of (X : K.In h) (G : h.Ns mainGlobals mg) (d : He.SaysD hfa hfn K) : IsDef K mg "sights_of" s_sights_of := isDef_to (d.def_ 12 (d := mkD "sights_of" s_sights_of) rfl) (He.glo_ok X G (d.fact 12 (f := .glo "sights_of") rfl))
theorem def_entry_of (X : K.In h) (G : h.Ns mainGlobals mg) (d : He.SaysD hfa hfn K) : IsDef K mg "entry_of" s_entry_of := isDef_to (d.def_ 13 (d := mkD "entry_of" s_entry_of) rfl) (He.glo_ok X G (d.fact 13 (f := .glo "entry_of") rfl))
theorem def_is_gone (X : K.In h) (G : h.Ns mainGlobals mg) (d : He.SaysD hfa hfn K) : IsDef K mg "is_gone" s_is_gone := isDef_to (d.def_ 14 (d := mkD "is_gone" s_is_gone) rfl) (He.glo_ok X G (d.fact 14 (f := .glo "is_gone") rfl))
theorem def_is_none_by (X : K.In h) (G : h.Ns mainGlobals mg) (d : He.SaysD hfa hfn K) : IsDef K mg "is_none_by" s_is_none_by := isDef_to (d.def_ 15 (d := mkD "is_none_by" s_is_none_by) rfl) (He.glo_ok X G (d.fact 15 (f := .glo "is_none_by") rfl))
theorem def_brings (X : K.In h) (G : h.Ns mainGlobals mg) (d : He.SaysD hfa hfn K) : IsDef K mg "brings" s_brings := isDef_to (d.def_ 16 (d := mkD "brings" s_brings) rfl) (He.glo_ok X G (d.fact 16 (f := .glo "brings") rfl))
theorem def_is_brought (X : K.In h) (G : h.Ns mainGlobals mg) (d : He.SaysD hfa hfn K) : IsDef K mg "is_brought" s_is_brought := isDef_to (d.def_ 17 (d := mkD "is_brought" s_is_brought) rfl) (He.glo_ok X G (d.fact 17 (f := .glo "is_brought") rfl))
theorem def_is_lacked (X : K.In h) (G : h.Ns mainGlobals mg) (d : He.SaysD hfa hfn K) : IsDef K mg "is_lacked" s_is_lacked := isDef_to (d.def_ 18 (d := mkD "is_lacked" s_is_lacked) rfl) (He.glo_ok X G (d.fact 18 (f := .glo "is_lacked") rfl))
theorem def_are_apart (X : K.In h) (G : h.Ns mainGlobals mg) (d : He.SaysD hfa hfn K) : IsDef K mg "are_apart" s_are_apart := isDef_to (d.def_ 19 (d := mkD "are_apart" s_are_apart) rfl) (He.glo_ok X G (d.fact 19 (f := .glo "are_apart") rfl))
theorem def_first_apart (X : K.In h) (G : h.Ns mainGlobals mg) (d : He.SaysD hfa hfn K) : IsDef K mg "first_apart" s_first_apart := isDef_to (d.def_ 20 (d := mkD "first_apart" s_first_apart) rfl) (He.glo_ok X G (d.fact 20 (f := .glo "first_apart") rfl))
theorem def_checked (X : K.In h) (G : h.Ns mainGlobals mg) (d : He.SaysD hfa hfn K) : IsDef K mg "checked" s_checked := isDef_to (d.def_ 21 (d := mkD "checked" s_checked) rfl) (He.glo_ok X G (d.fact 21 (f := .glo "checked") rfl))
theorem def_follows (X : K.In h) (G : h.Ns mainGlobals mg) (d : He.SaysD hfa hfn K) : IsDef K mg "follows" s_follows := isDef_to (d.def_ 22 (d := mkD "follows" s_follows) rfl) (He.glo_ok X G (d.fact 22 (f := .glo "follows") rfl))
theorem def_least_of (X : K.In h) (G : h.Ns mainGlobals mg) (d : He.SaysD hfa hfn K) : IsDef K mg "least_of" s_least_of := isDef_to (d.def_ 23 (d := mkD "least_of" s_least_of) rfl) (He.glo_ok X G (d.fact 23 (f := .glo "least_of") rfl))
theorem def_least (X : K.In h) (G : h.Ns mainGlobals mg) (d : He.SaysD hfa hfn K) : IsDef K mg "least" s_least := isDef_to (d.def_ 24 (d := mkD "least" s_least) rfl) (He.glo_ok X G (d.fact 24 (f := .glo "least") rfl))
theorem def_sure (X : K.In h) (G : h.Ns mainGlobals mg) (d : He.SaysD hfa hfn K) : IsDef K mg "sure" s_sure := isDef_to (d.def_ 25 (d := mkD "sure" s_sure) rfl) (He.glo_ok X G (d.fact 25 (f := .glo "sure") rfl))
theorem def_l_source (X : K.In h) (G : h.Ns mainGlobals mg) (d : He.SaysD hfa hfn K) : IsDef K mg "_law_source" s_l_source := isDef_to (d.def_ 26 (d := mkD "_law_source" s_l_source) rfl) (He.glo_ok X G (d.fact 26 (f := .glo "_law_source") rfl))
theorem def_l_draw (X : K.In h) (G : h.Ns mainGlobals mg) (d : He.SaysD hfa hfn K) : IsDef K mg "_law_draw" s_l_draw := isDef_to (d.def_ 27 (d := mkD "_law_draw" s_l_draw) rfl) (He.glo_ok X G (d.fact 27 (f := .glo "_law_draw") rfl))
theorem def_l_pick (X : K.In h) (G : h.Ns mainGlobals mg) (d : He.SaysD hfa hfn K) : IsDef K mg "_law_pick" s_l_pick := isDef_to (d.def_ 28 (d := mkD "_law_pick" s_l_pick) rfl) (He.glo_ok X G (d.fact 28 (f := .glo "_law_pick") rfl))
theorem def_l_same (X : K.In h) (G : h.Ns mainGlobals mg) (d : He.SaysD hfa hfn K) : IsDef K mg "_law_same" s_l_same := isDef_to (d.def_ 29 (d := mkD "_law_same" s_l_same) rfl) (He.glo_ok X G (d.fact 29 (f := .glo "_law_same") rfl))
theorem def_l_is_beneath (X : K.In h) (G : h.Ns mainGlobals mg) (d : He.SaysD hfa hfn K) : IsDef K mg "_law_is_beneath" s_l_is_beneath := isDef_to (d.def_ 30 (d := mkD "_law_is_beneath" s_l_is_beneath) rfl) (He.glo_ok X G (d.fact 30 (f := .glo "_law_is_beneath") rfl))
theorem def_l_shown (X : K.In h) (G : h.Ns mainGlobals mg) (d : He.SaysD hfa hfn K) : IsDef K mg "_law_shown" s_l_shown := isDef_to (d.def_ 31 (d := mkD "_law_shown" s_l_shown) rfl) (He.glo_ok X G (d.fact 31 (f := .glo "_law_shown") rfl))
theorem def_l_looks (X : K.In h) (G : h.Ns mainGlobals mg) (d : He.SaysD hfa hfn K) : IsDef K mg "_law_looks" s_l_looks := isDef_to (d.def_ 32 (d := mkD "_law_looks" s_l_looks) rfl) (He.glo_ok X G (d.fact 32 (f := .glo "_law_looks") rfl))
theorem def_l_answers (X : K.In h) (G : h.Ns mainGlobals mg) (d : He.SaysD hfa hfn K) : IsDef K mg "_law_answers" s_l_answers := isDef_to (d.def_ 33 (d := mkD "_law_answers" s_l_answers) rfl) (He.glo_ok X G (d.fact 33 (f := .glo "_law_answers") rfl))
theorem def_l_worlds (X : K.In h) (G : h.Ns mainGlobals mg) (d : He.SaysD hfa hfn K) : IsDef K mg "_law_worlds" s_l_worlds := isDef_to (d.def_ 34 (d := mkD "_law_worlds" s_l_worlds) rfl) (He.glo_ok X G (d.fact 34 (f := .glo "_law_worlds") rfl))
theorem def_l_table (X : K.In h) (G : h.Ns mainGlobals mg) (d : He.SaysD hfa hfn K) : IsDef K mg "_law_table" s_l_table := isDef_to (d.def_ 35 (d := mkD "_law_table" s_l_table) rfl) (He.glo_ok X G (d.fact 35 (f := .glo "_law_table") rfl))
theorem def_l_some_sights (X : K.In h) (G : h.Ns mainGlobals mg) (d : He.SaysD hfa hfn K) : IsDef K mg "_law_some_sights" s_l_some_sights := isDef_to (d.def_ 36 (d := mkD "_law_some_sights" s_l_some_sights) rfl) (He.glo_ok X G (d.fact 36 (f := .glo "_law_some_sights") rfl))
theorem def_l_have (X : K.In h) (G : h.Ns mainGlobals mg) (d : He.SaysD hfa hfn K) : IsDef K mg "_law_have" s_l_have := isDef_to (d.def_ 37 (d := mkD "_law_have" s_l_have) rfl) (He.glo_ok X G (d.fact 37 (f := .glo "_law_have") rfl))
theorem def_l_handed_sights (X : K.In h) (G : h.Ns mainGlobals mg) (d : He.SaysD hfa hfn K) : IsDef K mg "_law_handed_sights" s_l_handed_sights := isDef_to (d.def_ 38 (d := mkD "_law_handed_sights" s_l_handed_sights) rfl) (He.glo_ok X G (d.fact 38 (f := .glo "_law_handed_sights") rfl))
theorem def_l_tried (X : K.In h) (G : h.Ns mainGlobals mg) (d : He.SaysD hfa hfn K) : IsDef K mg "_law_tried" s_l_tried := isDef_to (d.def_ 39 (d := mkD "_law_tried" s_l_tried) rfl) (He.glo_ok X G (d.fact 39 (f := .glo "_law_tried") rfl))
theorem def_l_brought (X : K.In h) (G : h.Ns mainGlobals mg) (d : He.SaysD hfa hfn K) : IsDef K mg "_law_brought" s_l_brought := isDef_to (d.def_ 40 (d := mkD "_law_brought" s_l_brought) rfl) (He.glo_ok X G (d.fact 40 (f := .glo "_law_brought") rfl))
theorem def_l_least (X : K.In h) (G : h.Ns mainGlobals mg) (d : He.SaysD hfa hfn K) : IsDef K mg "_law_least" s_l_least := isDef_to (d.def_ 41 (d := mkD "_law_least" s_l_least) rfl) (He.glo_ok X G (d.fact 41 (f := .glo "_law_least") rfl))
theorem def_l_refused_right (X : K.In h) (G : h.Ns mainGlobals mg) (d : He.SaysD hfa hfn K) : IsDef K mg "_law_refused_right" s_l_refused_right := isDef_to (d.def_ 42 (d := mkD "_law_refused_right" s_l_refused_right) rfl) (He.glo_ok X G (d.fact 42 (f := .glo "_law_refused_right") rfl))
theorem def_l_all_worlds (X : K.In h) (G : h.Ns mainGlobals mg) (d : He.SaysD hfa hfn K) : IsDef K mg "_law_all_worlds" s_l_all_worlds := isDef_to (d.def_ 43 (d := mkD "_law_all_worlds" s_l_all_worlds) rfl) (He.glo_ok X G (d.fact 43 (f := .glo "_law_all_worlds") rfl))
theorem def_l_told_right (X : K.In h) (G : h.Ns mainGlobals mg) (d : He.SaysD hfa hfn K) : IsDef K mg "_law_told_right" s_l_told_right := isDef_to (d.def_ 44 (d := mkD "_law_told_right" s_l_told_right) rfl) (He.glo_ok X G (d.fact 44 (f := .glo "_law_told_right") rfl))
theorem def_l_deeper_right (X : K.In h) (G : h.Ns mainGlobals mg) (d : He.SaysD hfa hfn K) : IsDef K mg "_law_deeper_right" s_l_deeper_right := isDef_to (d.def_ 45 (d := mkD "_law_deeper_right" s_l_deeper_right) rfl) (He.glo_ok X G (d.fact 45 (f := .glo "_law_deeper_right") rfl))
theorem def_law (X : K.In h) (G : h.Ns mainGlobals mg) (d : He.SaysD hfa hfn K) : IsDef K mg "law" s_law := isDef_to (d.def_ 46 (d := mkD "law" s_law) rfl) (He.glo_ok X G (d.fact 46 (f := .glo "law") rfl))
theorem cls3_of (X : K.In h) (G : h.Ns mainGlobals mg) (d : He.SaysD hfa hfn K) (hx : hex K = true) : Cls3 K mg (He.ga K "BadSight") (He.ga K "BadLook") (He.ga K "Apart") := by
  unfold hex at hx
  rw [Bool.and_eq_true, Bool.and_eq_true, Bool.and_eq_true] at hx
  obtain ⟨h1, h2, h3, _⟩ := hx
  unfold clsB at h1 h2 h3
  rw [Bool.and_eq_true, Bool.and_eq_true] at h1 h2 h3
  exact ⟨He.glo_ok X G (d.fact 81 (f := .glo "BadSight") rfl), He.glo_ok X G (d.fact 80 (f := .glo "BadLook") rfl), He.glo_ok X G (d.fact 82 (f := .glo "Apart") rfl), xfB_ok h2.2.1, xfB_ok h1.2.1, xfB_ok h3.2.1, He.eqO_ok (d.fact 69 (f := .noat "BadSight" "index") rfl), He.eqO_ok (d.fact 70 (f := .noat "BadLook" "look") rfl), He.eqO_ok (d.fact 71 (f := .noat "Apart" "first") rfl), He.eqO_ok (d.fact 72 (f := .noat "Apart" "second") rfl), He.exm_ok (d.fact 73 (f := .exm "BadSight" "BadSight" true) rfl), He.exm_ok (d.fact 74 (f := .exm "BadLook" "BadSight" false) rfl), He.exm_ok (d.fact 75 (f := .exm "BadLook" "BadLook" true) rfl), He.exm_ok (d.fact 76 (f := .exm "Apart" "BadSight" false) rfl), He.exm_ok (d.fact 77 (f := .exm "Apart" "BadLook" false) rfl), He.exm_ok (d.fact 78 (f := .exm "Apart" "Apart" true) rfl)⟩
theorem getini_look {base : Heap} (X : K.In h) (G : h.Ns mainGlobals mg) (d : He.SaysD hfa hfn K) (hx : hex K = true) (hi : iwA K = ivA) : Ini RR.prog w K mg base "BadLook" ["self", "look"] (sp1 "look") := by
  unfold hex at hx
  rw [Bool.and_eq_true, Bool.and_eq_true, Bool.and_eq_true] at hx
  obtain ⟨h1, h2, h3, h4⟩ := hx
  have e : iniW K "BadLook" = iniV "BadLook.__init__" 2 := congrArg (fun z : IniW × IniW × IniW => z.1) hi
  exact ini_look (clsI_of h1 e (He.keep_ok (d.fact 66 (f := .keep "BadLook") rfl)) (He.eqO_ok h4) (He.free_ok X G (d.fact 63 (f := .free "super") rfl)) ⟨_, rfl, rfl⟩ (by decide +kernel)) (He.glo_ok X G (d.fact 80 (f := .glo "BadLook") rfl)) (He.eqO_ok (d.fact 70 (f := .noat "BadLook" "look") rfl))
theorem getini_index {base : Heap} (X : K.In h) (G : h.Ns mainGlobals mg) (d : He.SaysD hfa hfn K) (hx : hex K = true) (hi : iwA K = ivA) : Ini RR.prog w K mg base "BadSight" ["self", "index"] (sp1 "index") := by
  unfold hex at hx
  rw [Bool.and_eq_true, Bool.and_eq_true, Bool.and_eq_true] at hx
  obtain ⟨h1, h2, h3, h4⟩ := hx
  have e : iniW K "BadSight" = iniV "BadSight.__init__" 3 := congrArg (fun z : IniW × IniW × IniW => z.2.1) hi
  exact ini_index (clsI_of h2 e (He.keep_ok (d.fact 67 (f := .keep "BadSight") rfl)) (He.eqO_ok h4) (He.free_ok X G (d.fact 63 (f := .free "super") rfl)) ⟨_, rfl, rfl⟩ (by decide +kernel)) (He.glo_ok X G (d.fact 81 (f := .glo "BadSight") rfl)) (He.eqO_ok (d.fact 69 (f := .noat "BadSight" "index") rfl))
theorem getini_apart {base : Heap} (X : K.In h) (G : h.Ns mainGlobals mg) (d : He.SaysD hfa hfn K) (hx : hex K = true) (hi : iwA K = ivA) : Ini RR.prog w K mg base "Apart" ["self", "first", "second"] (sp2 "first" "second") := by
  unfold hex at hx
  rw [Bool.and_eq_true, Bool.and_eq_true, Bool.and_eq_true] at hx
  obtain ⟨h1, h2, h3, h4⟩ := hx
  have e : iniW K "Apart" = iniV "Apart.__init__" 4 := congrArg (fun z : IniW × IniW × IniW => z.2.2) hi
  exact ini_apart (clsI_of h3 e (He.keep_ok (d.fact 68 (f := .keep "Apart") rfl)) (He.eqO_ok h4) (He.free_ok X G (d.fact 63 (f := .free "super") rfl)) ⟨_, rfl, rfl⟩ (by decide +kernel)) (He.glo_ok X G (d.fact 82 (f := .glo "Apart") rfl)) (He.eqO_ok (d.fact 71 (f := .noat "Apart" "first") rfl)) (He.eqO_ok (d.fact 72 (f := .noat "Apart" "second") rfl))
end
theorem law_ok {w : World} {K : PySem.W.Frag} {mg : Str → Option Value} {h base : Heap} {c tp : Addr} (X : K.In h) (G : h.Ns mainGlobals mg) (d : He.SaysD hfa hfn K) (hx : hex K = true) (hi : iwA K = ivA) (DR : IsDefC K mg "_law_refused_right" s_l_refused_right c) (TB : LamX.TabB base mg c tp) : GFn RR.prog w K mg base "law" 13 ["_law_script"] (SpLw K tp) := by
  have T := bl_of X G d
  have C := cls3_of X G d hx
  have IL : Ini RR.prog w K mg base "BadLook" _ _ := getini_look X G d hx hi
  have IS : Ini RR.prog w K mg base "BadSight" _ _ := getini_index X G d hx hi
  have IA : Ini RR.prog w K mg base "Apart" _ _ := getini_apart X G d hx hi
  have is_name := fn_is_name (P := RR.prog) (w := w) (base := base) (def_is_name X G d) T
  have is_path := fn_is_path (def_is_path X G d) T is_name
  have is_beneath := fn_is_beneath (P := RR.prog) (w := w) (base := base) (def_is_beneath X G d)
  have is_near := fn_is_near (def_is_near X G d) is_beneath
  have joined := fn_joined (P := RR.prog) (w := w) (base := base) (def_joined X G d)
  have next_name := fn_next_name (P := RR.prog) (w := w) (base := base) (def_next_name X G d) T
  have is_list := fn_is_list (P := RR.prog) (w := w) (base := base) (def_is_list X G d) T
  have entry_name := fn_entry_name (P := RR.prog) (w := w) (base := base) (def_entry_name X G d)
  have look_of := fn_look_of (def_look_of X G d) T is_list is_path
  have are_entries := fn_are_entries (def_are_entries X G d) T is_name entry_name
  have answer_of := fn_answer_of (def_answer_of X G d) T is_list are_entries
  have sight_of := fn_sight_of (def_sight_of X G d) T is_list look_of answer_of
  have entry_of := fn_entry_of (def_entry_of X G d) entry_name
  have is_gone := fn_is_gone (def_is_gone X G d) next_name entry_of joined
  have is_none_by := fn_is_none_by (def_is_none_by X G d) is_beneath is_near is_gone
  have brings := fn_brings (def_brings X G d) is_none_by
  have is_brought := fn_is_brought (def_is_brought X G d) T brings
  have is_lacked := fn_is_lacked (def_is_lacked X G d) entry_name joined
  have are_apart := fn_are_apart (def_are_apart X G d) brings is_lacked
  have first_apart := fn_first_apart (def_first_apart X G d) T are_apart
  have sights_of := fn_sights_of (def_sights_of X G d) T IS is_list sight_of
  have checked := fn_checked (def_checked X G d) IA sights_of first_apart
  have follows := fn_follows (def_follows X G d) T IS sights_of sight_of checked is_brought
  have sure := fn_sure (def_sure X G d) T IL sights_of look_of checked brings
  have least_of := fn_least_of (def_least_of X G d) T is_brought
  have least := fn_least (def_least X G d) checked least_of
  have source := fn_l_source (P := RR.prog) (w := w) (base := base) (def_l_source X G d) T
  have draw := fn_l_draw (P := RR.prog) (w := w) (base := base) (def_l_draw X G d) T
  have pick := fn_l_pick (def_l_pick X G d) T draw
  have same := fn_l_same (P := RR.prog) (w := w) (base := base) (def_l_same X G d) T 3
  have isben := fn_l_is_beneath (P := RR.prog) (w := w) (base := base) (def_l_is_beneath X G d) T
  have shown := fn_l_shown (def_l_shown X G d) T isben
  have looks := fn_l_looks (P := RR.prog) (w := w) (base := base) (def_l_looks X G d)
  have answers := fn_l_answers (P := RR.prog) (w := w) (base := base) (def_l_answers X G d)
  have worlds := fn_l_worlds (P := RR.prog) (w := w) (base := base) (def_l_worlds X G d) T
  have allw := fn_l_all_worlds (def_l_all_worlds X G d) T worlds
  have table := fn_l_table (def_l_table X G d) T looks shown
  have some_sights := fn_l_some_sights (def_l_some_sights X G d) T looks answers pick
  have have_ := fn_l_have (P := RR.prog) (w := w) (base := base) (def_l_have X G d) T
  have handed := fn_l_handed_sights (def_l_handed_sights X G d) T draw pick
  have brought := fn_l_brought (def_l_brought X G d) T have_
  have lleast := fn_l_least (def_l_least X G d) T brought
  have refused := fn_l_refused_right DR T TB C (def_l_tried X G d) pick follows sure least same
  have told := fn_l_told_right (def_l_told_right X G d) T pick follows sure least same handed some_sights brought lleast have_ looks
  have deeper := fn_l_deeper_right (def_l_deeper_right X G d) T draw pick follows same
  exact fn_law (def_law X G d) T source draw some_sights table allw have_ refused told deeper
theorem law_at {w : World} {mg : Str → Option Value} {fa : Addr} {h : Heap} {K : PySem.W.Frag} (X : K.In h) (G : h.Ns mainGlobals mg) (hm : mg "law" = some (.ref fa)) (c : SaysG hfa hfn hts htf hex iwA ivA w h K) : LawAtG PySem.Challenge.rw_noteshold_k08_whole_following w K 13 63 "_law_script" mg fa h := by
  have d := c.x.t.d
  have mem : (("_law_refused_right", none) : He.Defn) ∈ htf := List.mem_cons_self
  obtain ⟨fdR, FR⟩ := d.def_ 42 (d := mkD "_law_refused_right" s_l_refused_right) rfl
  obtain ⟨m1, m2⟩ := isDef_of (x := "_law_refused_right") (st := s_l_refused_right) FR (mg := mg) (He.glo_ok X G (d.fact 42 (f := .glo "_law_refused_right") rfl))
  obtain ⟨oc, od, kV, doc, pm, an, cdv, ct, osl, e, lk, hcd⟩ := m2.ex
  obtain ⟨cc, ec⟩ := He.codeIn_ref hcd
  have ecode : fdR.code = .ref cc := by rw [e]; exact ec
  have eC : He.codeOf K ("_law_refused_right", none) = cc := He.codeOf_eq lk ecode
  have DR : IsDefC K mg "_law_refused_right" s_l_refused_right (He.cT K ("_law_refused_right", none)).1 := ⟨_, fdR, m1, m2, by rw [ecode]; show Value.ref cc = Value.ref (He.codeOf K ("_law_refused_right", none)); rw [eC]⟩
  obtain ⟨fd, FL⟩ := d.def_ 46 (d := mkD "law" s_law) rfl
  obtain ⟨l1, l2⟩ := isDef_of (x := "law") (st := s_law) FL (mg := mg) (He.glo_ok X G (d.fact 46 (f := .glo "law") rfl))
  have hb : ∀ (s : Shared) (u : Value), BindsTo s fd ⟨[u], []⟩ [("_law_script", u)] := fun s u => by
    have b := FunD.bindsA (ps := ["_law_script"]) FL (fun _ _ _ _ _ _ us hl => match us, hl with | [_], _ => rfl)
    exact b s [u] rfl
  refine ⟨fd, [He.cT K ("_law_refused_right", none)], SpLw K (He.cT K ("_law_refused_right", none)).2, fun p hp => ?_, fun p hp => ?_, fun p hp => ?_, hb, fun H a ns hl ht hs => ?_, fun base Xb Gb TB => ?_⟩
  · obtain rfl : p = He.cT K ("_law_refused_right", none) := by simpa using hp
    exact c.x.empty _ mem
  · obtain rfl : p = He.cT K ("_law_refused_right", none) := by simpa using hp
    exact c.x.out _ mem
  · obtain rfl : p = He.cT K ("_law_refused_right", none) := by simpa using hp
    exact PySem.W.codeHd_of_K X (c.x.hd _ mem)
  · refine ⟨a, ns, rfl, fun p hp => ?_, hs, hl, fun _ => rfl⟩
    obtain rfl : p = ((He.cT K ("_law_refused_right", none)).2, qRf) := by simpa using hp
    exact LamX.TabS.nil (ht _ List.mem_cons_self)
  · obtain ⟨f, fd', hf, _, _, F, oc2, od2, osl2, lk2⟩ := (law_ok (w := w) (base := base) X G d c.x.more c.i DR (TB _ List.mem_cons_self)).ex
    obtain rfl : fa = f := by
      rw [hm] at hf
      injection hf with hf
      injection hf
    have e1 : fa = He.fAd K ("law", none) := by
      have := hm.symm.trans l1
      injection this with this
      injection this
    obtain ⟨oc3, od3, kV3, doc3, pm3, an3, cdv3, ct3, osl3, _, lk3, _⟩ := l2.ex
    have e2 : fd' = fd := by
      rw [e1, lk3] at lk2
      injection lk2 with lk2
      injection lk2 with _ _ lk2 _
      injection lk2 with lk2
      exact lk2.symm
    rw [← e2]
    exact F
end K8

set_option Elab.async false
set_option linter.all false
set_option maxRecDepth 100000
set_option maxHeartbeats 0
/-! K8end: the law's statement. -/
open PySem PySem.W PySem.Calls PyProof.Rows
theorem PySem.Challenge.cw_noteshold_k08_whole_following_holds : PySem.Challenge.rw_noteshold_k08_whole_following.Holds := by
  w_on; o_law
  refine HandSHeadRun.head_any (r := OpenLaw.row PySem.Challenge.rw_noteshold_k08_whole_following) (q := view (OpenLaw.row PySem.Challenge.rw_noteshold_k08_whole_following).prog [58]) (H := K8.hk) (ob := K8.hob) (M := 4000) (loose := K8.hnm) (d := HandSHeadRun.topDef (OpenLaw.row PySem.Challenge.rw_noteshold_k08_whole_following).prog 58) (kwd := []) K8.hob_eq
    (by kernel_rfl) (fun s => by kernel_rfl) K8.hrun (by kernel_rfl) (by kernel_rfl) (by kernel_rfl) (by rfl) (by first | assumption | decide +kernel) (by decide +kernel) ⟨rfl, rfl, rfl, rfl, rfl, by decide +kernel⟩ ?hw ?hc
  case hw => w_witness2
  case hc =>
    refine K8.walk_ofTG (l := PySem.Challenge.rw_noteshold_k08_whole_following) (n := 63) (k := 13) (x := "_law_script") rfl (by decide) (by kernel_rfl) ⟨rfl, by decide, by decide⟩ ?F
    intro w mg fa h Y G hmg0
    obtain ⟨K, KX, c⟩ := Y
    have hmg : mg ("law" : PySem.Str) = some (.ref fa) := by
      have e : (HandSHeadRun.topDef (OpenLaw.row PySem.Challenge.rw_noteshold_k08_whole_following).prog 58).name = ("law" : PySem.Str) := by kernel_rfl
      rw [← e]
      exact hmg0
    exact ⟨K, KX, K8.law_at KX G hmg c⟩
