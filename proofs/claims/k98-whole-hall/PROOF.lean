import PyProof.Rows.All
import Wide.All
import OpenK.AllK
import Wide.FinOn
import HandS.ForMost
import HandS.Deep
import HandS.Nested
import HandS.Lambda
import HandS.IsInst
import HandS.TupAny
import HandS.TupMul
import HandS.TupLe
import HandS.Conv
import HandS.Flow
import HandS.WideBits
import KE.BitLaws
import HandS.Zip
import HandS.Codes
import PySem.Challenge.RW_untoldgames_k98_whole_one_hall_through_h
import HandS.DictComp
import HandS.More
import KE.GoesMore
import HandS.WordsDict
import HandS.SetKeys
import HandS.SortKw
import KE.SortData
import KE.DataMinMax
import HandS.Strs
import KE.KStateDown
import HandS.Head0
import HandS.Head1
import HandS.Head2
import HandS.HeadEnd
import HandS.HeadHook1
import HandS.HeadHook2
import HandS.HeadHook3
import HandS.HeadHook4
import HandS.HeadWalk
import HandS.EndTab
set_option Elab.async false
set_option linter.all false
set_option maxRecDepth 100000
set_option maxHeartbeats 1000000
namespace G
open PySem PySem.Spec L2 LamX NdefX

/-! ### the order on heaps -/
/-- the code tables of the defs that make functions -/
def TB0 : List NTab := [(461, fun _ _ => "enough_lots.<locals>.is_enough"), (485, fun _ _ => "sure_lots.<locals>.is_sure_lot"), (492, fun _ _ => "bars.<locals>.<lambda>")]
structure Ex (H H' : Hp) : Prop where
  e : ExtN H H'
  t : TabsN TB0 H → TabsN TB0 H'
instance {H H' : Hp} : CoeFun (Ex H H') fun _ => ∀ b o, H b = some o → (∀ ps, o ≠ .tbl ps) → H' b = some o := ⟨fun x => x.e⟩
theorem Ex.refl (H : Hp) : Ex H H := ⟨ExtN.refl H, id⟩
theorem Ex.trans {H H1 H2 : Hp} (a : Ex H H1) (b : Ex H1 H2) : Ex H H2 := ⟨a.e.trans b.e, fun t => b.t (a.t t)⟩
theorem Ex.of {H H' : Hp} (e : ∀ b o, H b = some o → H' b = some o) : Ex H H' := ⟨ExtN.of e, fun t => t.ext e⟩
structure Ge (T : List NTab) (H H' : Hp) : Prop where
  ext : Ex H H'
  tab : TabsN T H → TabsN T H'
  bk : ∀ b, H' b = none → H b = none
def plain : HO → Bool
  | .lst _ => true
  | .dK _ => true
  | .ins _ _ _ => true
  | .frz _ _ => true
  | _ => false
section
variable {T : List NTab} {H H1 H2 H' : Hp} {p : Addr} {o u : HO}
theorem Ge.refl (H : Hp) : Ge T H H := ⟨Ex.refl H, id, fun _ => id⟩
theorem Ge.trans (a : Ge T H H1) (b : Ge T H1 H2) : Ge T H H2 := ⟨a.ext.trans b.ext, fun t => b.tab (a.tab t), fun c z => a.bk c (b.bk c z)⟩
theorem none_upd {b : Addr} (e : upd H p o b = none) : H b = none ∧ b ≠ p := by
  unfold upd at e
  split at e
  · cases e
  · exact ⟨e, by assumption⟩
theorem Ge.new (h : H p = none) : Ge T H (upd H p o) := by
  have e : ∀ a u, H a = some u → upd H p o a = some u := fun a u e => by
    rw [upd_ne (ne_of_none e h)]
    exact e
  exact ⟨Ex.of e, fun t => t.ext e, fun b z => (none_upd z).1⟩
theorem tabN_upd {P : Addr} {nm : Nat → Nat → Str} (t : TabN H P nm) (h : H p = some u) (pl : plain u = true) : TabN (upd H p o) P nm := by
  obtain ⟨ps, h1, h2, h3⟩ := t
  have n1 : P ≠ p := fun e => by
    rw [e, h] at h1
    cases h1
    cases pl
  refine ⟨ps, by rw [upd_ne n1]; exact h1, h2, fun pos cv hc => ?_⟩
  obtain ⟨c, e1, e2⟩ := h3 pos cv hc
  refine ⟨c, e1, ?_⟩
  have n2 : c ≠ p := fun e => by
    rw [e, h] at e2
    unfold CodeO at e2
    cases e2
    cases pl
  rw [upd_ne n2]
  exact e2
/-- an object that the base does not know is changed -/
theorem Ge.mut (g : Ge T H H') (h0 : H p = none) (h : H' p = some u) (pl : plain u = true) : Ge T H (upd H' p o) := by
  refine ⟨⟨fun b v e n => ?_, fun t q hq => tabN_upd (g.ext.t t q hq) h pl⟩, fun t q hq => tabN_upd (g.tab t q hq) h pl, fun b z => g.bk b (none_upd z).1⟩
  have nb : b ≠ p := fun z => by
    rw [z, h0] at e
    cases e
  rw [upd_ne nb]
  exact g.ext.e b v e n
end

/-! ### types: predicates that stay -/
structure Ty where
  P : V → Hp → Prop
  mono : ∀ {v H H'}, Ex H H' → P v H → P v H'
mutual
inductive Dq (H : Hp) : V → PyData → Prop
  | non : Dq H .non .none
  | bl (b : Bool) : Dq H (.bl b) (.bool b)
  | int (i : Int) : Dq H (.int i) (.int i)
  | str (x : Str) : Dq H (.str x) (.str x)
  | lst {a : Addr} {xs : List V} {ds : List PyData} : H a = some (.lst xs) → DqAll H xs ds → Dq H (.ref a) (.list ds)
  | tup {a : Addr} {xs : List V} {ds : List PyData} : Rd H a (.tup xs) → DqAll H xs ds → Dq H (.ref a) (.tuple ds)
inductive DqAll (H : Hp) : List V → List PyData → Prop
  | nil : DqAll H [] []
  | cons {v : V} {vs : List V} {d : PyData} {ds : List PyData} : Dq H v d → DqAll H vs ds → DqAll H (v :: vs) (d :: ds)
end
section
variable {K : PySem.W.Frag} {H H' : Hp}
theorem rd_ext {a : Addr} {xs : List V} (e : Ex H H') (h : Rd H a (.tup xs)) : Rd H' a (.tup xs) := h.elim (fun h => .inl (e _ _ h fun _ z => by cases z)) fun ⟨o, h⟩ => .inr ⟨o, e _ _ h fun _ z => by cases z⟩
theorem sqT_rd {a : Addr} {xs : List V} (h : Rd H a (.tup xs)) : SqT K H a xs := .inl h
mutual
theorem dq_ext (e : Ex H H') : ∀ (d : PyData) (v : V), Dq H v d → Dq H' v d
  | .none, _, h => by cases h; exact .non
  | .bool b, _, h => by cases h; exact .bl b
  | .int i, _, h => by cases h; exact .int i
  | .str x, _, h => by cases h; exact .str x
  | .list ds, _, h => by
    cases h with
    | lst a b => exact .lst (e _ _ a fun _ z => by cases z) (dqa_ext e ds _ b)
  | .tuple ds, _, h => by
    cases h with
    | tup a b => exact .tup (rd_ext e a) (dqa_ext e ds _ b)
  | .dict _, _, h => by cases h
theorem dqa_ext (e : Ex H H') : ∀ (ds : List PyData) (vs : List V), DqAll H vs ds → DqAll H' vs ds
  | [], _, h => by cases h; exact .nil
  | d :: ds, _, h => by
    cases h with
    | cons a b => exact .cons (dq_ext e d _ a) (dqa_ext e ds _ b)
end
mutual
theorem dq_dp : ∀ (d : PyData) (v : V), Dq H v d → Dp K H v d
  | .none, _, h => by cases h; exact .non
  | .bool b, _, h => by cases h; exact .bl b
  | .int i, _, h => by cases h; exact .int i
  | .str x, _, h => by cases h; exact .str x
  | .list ds, _, h => by
    cases h with
    | lst a b => exact .lst (.inl (.inl a)) (dqa_dpa ds _ b)
  | .tuple ds, _, h => by
    cases h with
    | tup a b => exact .tup (.inl a) (dqa_dpa ds _ b)
  | .dict _, _, h => by cases h
theorem dqa_dpa : ∀ (ds : List PyData) (vs : List V), DqAll H vs ds → DpAll K H vs ds
  | [], _, h => by cases h; exact .nil
  | d :: ds, _, h => by
    cases h with
    | cons a b => exact .cons (dq_dp d _ a) (dqa_dpa ds _ b)
end
end
def dat (d : PyData) : Ty := ⟨fun v H => Dq H v d, fun e h => dq_ext e d _ h⟩
/-- a value as it is -/
def tyv (x : V) : Ty := ⟨fun v _ => v = x, fun _ h => h⟩
def tyany : Ty := ⟨fun _ _ => True, fun _ h => h⟩
section
variable {H : Hp} {v : V}
theorem dat_int {i : Int} (h : (dat (.int i)).P v H) : v = .int i := by cases h; rfl
theorem dat_bl {b : Bool} (h : (dat (.bool b)).P v H) : v = .bl b := by cases h; rfl
theorem dat_str {x : Str} (h : (dat (.str x)).P v H) : v = .str x := by cases h; rfl
theorem dat_non (h : (dat .none).P v H) : v = .non := by cases h; rfl
theorem dat_lst {ds : List PyData} (h : (dat (.list ds)).P v H) : ∃ a xs, v = .ref a ∧ H a = some (.lst xs) ∧ DqAll H xs ds := by
  cases h with
  | lst a b => exact ⟨_, _, rfl, a, b⟩
theorem dat_tup {ds : List PyData} (h : (dat (.tuple ds)).P v H) : ∃ a xs, v = .ref a ∧ Rd H a (.tup xs) ∧ DqAll H xs ds := by
  cases h with
  | tup a b => exact ⟨_, _, rfl, a, b⟩
end
def TyAll : List Ty → List V → Hp → Prop
  | [], [], _ => True
  | t :: ts, v :: vs, H => t.P v H ∧ TyAll ts vs H
  | _, _, _ => False
theorem tyAll_ext {H H' : Hp} (e : Ex H H') : ∀ {ts : List Ty} {vs : List V}, TyAll ts vs H → TyAll ts vs H'
  | [], [], h => h
  | t :: ts, v :: vs, h => ⟨t.mono e h.1, tyAll_ext e h.2⟩
  | [], _ :: _, h => h
  | _ :: _, [], h => h
theorem tyAll_len {H : Hp} : ∀ {ts : List Ty} {vs : List V}, TyAll ts vs H → vs.length = ts.length
  | [], [], _ => rfl
  | t :: ts, v :: vs, h => congrArg (· + 1) (tyAll_len h.2)
  | [], _ :: _, h => False.elim h
  | _ :: _, [], h => False.elim h
theorem tyAll_app {H : Hp} : ∀ {ts us : List Ty} {vs ws : List V}, TyAll ts vs H → TyAll us ws H → TyAll (ts ++ us) (vs ++ ws) H
  | [], us, [], ws, _, q => q
  | t :: ts, us, v :: vs, ws, h, q => ⟨h.1, tyAll_app h.2 q⟩
  | [], _, _ :: _, _, h, _ => False.elim h
  | _ :: _, _, [], _, h, _ => False.elim h
theorem tyAll_get {H : Hp} : ∀ {ts : List Ty} {vs : List V} {i : Nat} {v : V}, TyAll ts vs H → vs[i]? = some v → ∃ t, ts[i]? = some t ∧ t.P v H
  | t :: ts, v :: vs, 0, w, h, e => ⟨t, rfl, by cases e; exact h.1⟩
  | t :: ts, v :: vs, i + 1, w, h, e => by
    obtain ⟨u, e1, e2⟩ := tyAll_get (i := i) (v := w) h.2 (by simpa using e)
    exact ⟨u, by simpa using e1, e2⟩
  | [], [], i, w, _, e => by simp at e
  | [], _ :: _, _, _, h, _ => False.elim h
  | _ :: _, [], _, _, h, _ => False.elim h
theorem tyAll_get2 {H : Hp} : ∀ {ts : List Ty} {vs : List V} {i : Nat} {t : Ty}, TyAll ts vs H → ts[i]? = some t → ∃ v, vs[i]? = some v ∧ t.P v H
  | t :: ts, v :: vs, 0, w, h, e => ⟨v, rfl, by cases e; exact h.1⟩
  | t :: ts, v :: vs, i + 1, w, h, e => by
    obtain ⟨u, e1, e2⟩ := tyAll_get2 (i := i) (t := w) h.2 (by simpa using e)
    exact ⟨u, by simpa using e1, e2⟩
  | [], [], i, w, _, e => by simp at e
  | [], _ :: _, _, _, h, _ => False.elim h
  | _ :: _, [], _, _, h, _ => False.elim h
theorem dqa_ty {H : Hp} : ∀ {ds : List PyData} {vs : List V}, DqAll H vs ds ↔ TyAll (ds.map dat) vs H
  | [], [] => ⟨fun _ => trivial, fun _ => .nil⟩
  | [], v :: vs => ⟨fun h => (nomatch h), fun h => False.elim h⟩
  | d :: ds, [] => ⟨fun h => (nomatch h), fun h => False.elim h⟩
  | d :: ds, v :: vs => ⟨fun h => match h with | .cons a b => ⟨a, dqa_ty.mp b⟩, fun h => .cons h.1 (dqa_ty.mpr h.2)⟩

/-! ### slots -/
abbrev Gam := List (Option Ty)
structure Sat (Γ : Gam) (σ : L2.St) (H : Hp) : Prop where
  len : σ.length = Γ.length
  at_ : ∀ (i : Nat) (t : Ty), Γ[i]? = some (some t) → ∃ v, σ[i]? = some (some v) ∧ t.P v H
section
variable {Γ Γ' : Gam} {σ : L2.St} {H H' : Hp} {t : Ty} {v : V} {i : Nat}
theorem Sat.ext (s : Sat Γ σ H) (e : Ex H H') : Sat Γ σ H' := ⟨s.len, fun i t h => let ⟨v, a, b⟩ := s.at_ i t h; ⟨v, a, t.mono e b⟩⟩
theorem Sat.set (s : Sat Γ σ H) (h : t.P v H) : Sat (Γ.set i (some t)) (σ.set i (some v)) H := by
  refine ⟨by rw [List.length_set, List.length_set]; exact s.len, fun j u e => ?_⟩
  by_cases hj : i = j
  · subst hj
    have hl : i < Γ.length := by
      have q := (List.getElem?_eq_some_iff.mp e).1
      rw [List.length_set] at q
      exact q
    rw [List.getElem?_set_self hl] at e
    cases e
    exact ⟨v, by rw [List.getElem?_set_self (by rw [s.len]; exact hl)], h⟩
  · rw [List.getElem?_set_ne hj] at e
    rw [List.getElem?_set_ne hj]
    exact s.at_ j u e
theorem Sat.clr (s : Sat Γ σ H) (o : Option V) : Sat (Γ.set i none) (σ.set i o) H := by
  refine ⟨by rw [List.length_set, List.length_set]; exact s.len, fun j u e => ?_⟩
  by_cases hj : i = j
  · subst hj
    have hl : i < Γ.length := by
      have q := (List.getElem?_eq_some_iff.mp e).1
      rw [List.length_set] at q
      exact q
    rw [List.getElem?_set_self hl] at e
    cases e
  · rw [List.getElem?_set_ne hj] at e
    rw [List.getElem?_set_ne hj]
    exact s.at_ j u e
/-- less is known -/
def Sub (Γ Γ' : Gam) : Prop := Γ'.length = Γ.length ∧ ∀ (i : Nat) (t : Ty), Γ'[i]? = some (some t) → Γ[i]? = some (some t)
theorem Sat.sub (s : Sat Γ σ H) (h : Sub Γ Γ') : Sat Γ' σ H := ⟨s.len.trans h.1.symm, fun i t e => s.at_ i t (h.2 i t e)⟩
theorem Sub.refl (Γ : Gam) : Sub Γ Γ := ⟨rfl, fun _ _ h => h⟩
theorem Sub.nil : Sub [] [] := Sub.refl []
theorem Sub.same {o : Option Ty} (h : Sub Γ Γ') : Sub (o :: Γ) (o :: Γ') := ⟨congrArg (· + 1) h.1, fun i t e => by
  cases i with
  | zero => exact e
  | succ i => exact h.2 i t (by simpa using e)⟩
theorem Sub.drop {o : Option Ty} (h : Sub Γ Γ') : Sub (o :: Γ) (none :: Γ') := ⟨congrArg (· + 1) h.1, fun i t e => by
  cases i with
  | zero => cases e
  | succ i => exact h.2 i t (by simpa using e)⟩
def wipeG (Γ : Gam) : List Nat → Gam
  | [] => Γ
  | v :: vs => (wipeG Γ vs).set v none
theorem Sat.wipe (s : Sat Γ σ H) : ∀ vs : List Nat, Sat (wipeG Γ vs) (L2.wipe σ vs) H
  | [] => s
  | v :: vs => (s.wipe vs).clr none
end
end G
set_option Elab.async false
set_option linter.all false
set_option maxRecDepth 100000
set_option maxHeartbeats 1000000
namespace G
open PySem PySem.Spec L2 LamX NdefX

/-! ### the weakest readings -/
def WE (X : Cx) (e : Expr) : TE := fun σ H Q => ∀ (pins : List (Addr × Obj)) (s : Shared), Inv X pins σ H s → wpAny (model X.prog X.w) X.A (eval e X.env) (EP X pins σ Q) X.xe s
def WT (X : Cx) (e : Expr) : TT := fun σ H Q => ∀ (pins : List (Addr × Obj)) (s : Shared), Inv X pins σ H s → wpAny (model X.prog X.w) X.A (isTrue e X.env (eval e X.env)) (TP X pins σ Q) X.xe s
def WW (X : Cx) (e : Expr) : TT := fun σ H Q => ∀ (whole : Sem Value) (pins : List (Addr × Obj)) (s : Shared), Inv X pins σ H s → wpAny (model X.prog X.w) X.A (isTrue e X.env whole) (TP X pins σ Q) X.xe s
def WA (X : Cx) (es : List Expr) : TA := fun σ H Q => ∀ (pos : Pos) (pins : List (Addr × Obj)) (s : Shared), Inv X pins σ H s → wpAny (model X.prog X.w) X.A (spliced (backTo pos (starEach es X.env))) (AP X pins σ Q) X.xe s
def WS (X : Cx) (st : Stmt) : TS := fun D σ H => ∀ (pins : List (Addr × Obj)) (s : Shared), Inv X pins σ H s → wpAny (model X.prog X.w) X.A (exec st X.env) (SP X pins D) X.xe s
def WSs (X : Cx) (st : List Stmt) : TS := fun D σ H => ∀ (pins : List (Addr × Obj)) (s : Shared), Inv X pins σ H s → wpAny (model X.prog X.w) X.A (execs st X.env) (SP X pins D) X.xe s
section
variable {X : Cx} {e : Expr} {es : List Expr} {st : Stmt} {sts : List Stmt} {σ : L2.St} {H : Hp}
theorem pe_we : PE X e (WE X e) := ⟨fun pins s σ H Q I h => h pins s I⟩
theorem pt_wt : PT X e (WT X e) := ⟨fun pins s σ H Q I h => h pins s I⟩
theorem pw_ww : PW X e (WW X e) := ⟨fun w pins s σ H Q I h => h w pins s I⟩
theorem pa_wa : PA X es (WA X es) := ⟨fun pos pins s σ H Q I h => h pos pins s I⟩
theorem ps_ws : PS X st (WS X st) := ⟨fun pins s σ H D I h => h pins s I⟩
theorem pss_wss : PSs X sts (WSs X sts) := ⟨fun pins s σ H D I h => h pins s I⟩
theorem we_of {t : TE} {Q : VK} (h : PE X e t) (q : t σ H Q) : WE X e σ H Q := fun pins s I => h.run pins s σ H Q I q
theorem wt_of {t : TT} {Q : Bool → Hp → Prop} (h : PT X e t) (q : t σ H Q) : WT X e σ H Q := fun pins s I => h.run pins s σ H Q I q
theorem ww_of {t : TT} {Q : Bool → Hp → Prop} (h : PW X e t) (q : t σ H Q) : WW X e σ H Q := fun w pins s I => h.run w pins s σ H Q I q
theorem wa_of {t : TA} {Q : List V → Hp → Prop} (h : PA X es t) (q : t σ H Q) : WA X es σ H Q := fun pos pins s I => h.run pos pins s σ H Q I q
theorem ws_of {t : TS} {D : Ends} (h : PS X st t) (q : t D σ H) : WS X st D σ H := fun pins s I => h.run pins s σ H D I q
theorem wss_of {t : TS} {D : Ends} (h : PSs X sts t) (q : t D σ H) : WSs X sts D σ H := fun pins s I => h.run pins s σ H D I q
theorem WE.mono {Q Q' : VK} (h : WE X e σ H Q) (k : ∀ v H', Q v H' → Q' v H') : WE X e σ H Q' := fun pins s I => thn (h pins s I) fun u s' ⟨v, H', I', r, q⟩ => ⟨v, H', I', r, k v H' q⟩
theorem WT.mono {Q Q' : Bool → Hp → Prop} (h : WT X e σ H Q) (k : ∀ v H', Q v H' → Q' v H') : WT X e σ H Q' := fun pins s I => thn (h pins s I) fun u s' ⟨H', I', q⟩ => ⟨H', I', k u H' q⟩
end

/-! ### frames: an owned list or dict is kept out of the abstract heap -/
def own1 : HO → Bool
  | .lst _ => true
  | .dK _ => true
  | _ => false
theorem own_plain {o : HO} (h : own1 o = true) : plain o = true := by
  cases o <;> first | rfl | cases h
section
variable {X : Cx} {pins : List (Addr × Obj)} {σ σ' : L2.St} {H H' : Hp} {s s' : Shared} {a : Addr} {o : HO}
/-- what is told of the frozen object -/
structure Fz (X : Cx) (pins : List (Addr × Obj)) (a : Addr) (o : HO) (ob : Obj) : Prop where
  pl : own1 o = true
  ok : ∀ (H : Hp) (h : Heap), h.get? a = some ob → ObjOk X.prog X.w H h a o
  old : ∀ u, X.s_0.heap.get? a = some u → X.H_0 a = none → a ∉ X.ex → False
  cell : ∀ x c, X.env.cells.lookup x = some c → c ≠ a
  pn : ∀ p ∈ X.pn ++ pins, p.1 ≠ a
theorem forget1 (I : Inv X pins σ (upd H a o) s) (h0 : H a = none) (pl : own1 o = true) : ∃ ob, Inv X ((a, ob) :: pins) σ H s ∧ Fz X pins a o ob := by
  have hE : ∀ b u, H b = some u → upd H a o b = some u := fun b u e => by rw [upd_ne (ne_of_none e h0)]; exact e
  have hN : ∀ b u, upd H a o b = some u → u ≠ o → H b = some u := fun b u e n => by
    by_cases hb : b = a
    · rw [hb, upd_same] at e
      exact absurd (Option.some.inj e).symm n
    · rw [upd_ne hb] at e
      exact e
  have ownN : ∀ z, HO.own z ≠ o := fun z e => by rw [← e] at pl; cases pl
  have tupN : ∀ z, HO.tup z ≠ o := fun z e => by rw [← e] at pl; cases pl
  have frzN : ∀ z y, HO.frz z y ≠ o := fun z y e => by rw [← e] at pl; cases pl
  have tblN : ∀ z, HO.tbl z ≠ o := fun z e => by rw [← e] at pl; cases pl
  have hob : ∃ ob, s.heap.get? a = some ob ∧ (∀ v, ob.data ≠ .cell v) ∧ ∀ (H : Hp) (h : Heap), h.get? a = some ob → ObjOk X.prog X.w H h a o := by
    have q := I.hok a o upd_same
    cases o with
    | lst xs =>
      obtain ⟨z, its, n, r, e⟩ := q
      exact ⟨_, e, fun v z => (by cases z), fun H h e' => ⟨z, its, n, r, e'⟩⟩
    | dK kvs =>
      obtain ⟨z, y, vs, r, ob, es, ep, e, c⟩ := q
      exact ⟨ob, e, fun v w => (by rw [c.2.1] at w; cases w), fun H h e' => ⟨z, y, vs, r, ob, es, ep, e', c⟩⟩
    | _ => cases pl
  obtain ⟨ob, e, dc, okk⟩ := hob
  have nL : a ≠ X.env.locals := fun z => by
    have q := I.free
    rw [← z, upd_same] at q
    cases q
  have nF : a ∉ X.fs := fun hb => by
    obtain ⟨_, o', ho, _⟩ := I.ok.funs.mem hb
    have q := I.base.free a o' ho (I.ok.frf a hb) fun z => I.ok.exfs a z hb
    rw [upd_same] at q
    cases q
  have cN : ∀ x c, X.env.cells.lookup x = some c → c ≠ a := fun x c h z => by
    have q := I.freeC x c h
    rw [z, upd_same] at q
    cases q
  have pN : ∀ p ∈ X.pn ++ pins, p.1 ≠ a := fun p hp z => by
    have q := (I.pin p hp).2.1
    rw [z, upd_same] at q
    cases q
  refine ⟨ob, ⟨I.ok, I.os, I.bare, ⟨I.base.keep, I.base.slot, fun b u e n hx => (none_upd (I.base.free b u e n hx)).1, I.base.there, fun b xs h => hN b _ (I.base.tups b xs h) (tupN _), fun b u x h => hN b _ (I.base.frzs b u x h) (frzN _ _), fun b ps h => ?_⟩,
    I.loc, I.cell, (none_upd I.free).1, fun x c h => (none_upd (I.freeC x c h)).1, fun p hp => ?_, fun b u e' => ?_, I.len⟩, pl, okk, fun u hu hn hx => ?_, cN, pN⟩
  · obtain ⟨m, q⟩ := I.base.tbls b ps h
    exact ⟨m, hN b _ q (tblN _)⟩
  · rcases List.mem_append.mp hp with hp | hp
    · obtain ⟨z1, z2, z3⟩ := I.pin p (List.mem_append_left _ hp)
      exact ⟨z1, (none_upd z2).1, z3⟩
    · rcases List.mem_cons.mp hp with hp | hp
      · subst hp
        exact ⟨e, h0, nL, nF, dc⟩
      · obtain ⟨z1, z2, z3⟩ := I.pin p (List.mem_append_right _ hp)
        exact ⟨z1, (none_upd z2).1, z3⟩
  · exact (I.hok b u (hE b u e')).stay (fun c w _ q => q) (fun c q => hN c _ q (ownN _)) fun c xs q => hN c _ q (tupN _)
  · have q := I.base.free a u hu hn hx
    rw [upd_same] at q
    cases q
theorem restore1 {ob : Obj} (I : Inv X ((a, ob) :: pins) σ H s) (F : Fz X pins a o ob) : H a = none ∧ Inv X pins σ (upd H a o) s := by
  obtain ⟨e, h0, nL, nF, dc⟩ := I.pin (a, ob) (List.mem_append_right _ List.mem_cons_self)
  have hE : ∀ b u, H b = some u → upd H a o b = some u := fun b u e => by rw [upd_ne (ne_of_none e h0)]; exact e
  refine ⟨h0, ⟨I.ok, I.os, I.bare, ⟨I.base.keep, I.base.slot, fun b u e n hx => ?_, I.base.there, fun b xs h => hE _ _ (I.base.tups b xs h), fun b u x h => hE _ _ (I.base.frzs b u x h), fun b ps h => ?_⟩,
    I.loc, I.cell, ?_, fun x c h => ?_, fun p hp => ?_, fun b u e' => ?_, I.len⟩⟩
  · have nb : b ≠ a := fun z => F.old u (z ▸ e) (z ▸ n) (z ▸ hx)
    rw [upd_ne nb]
    exact I.base.free b u e n hx
  · obtain ⟨m, q⟩ := I.base.tbls b ps h
    exact ⟨m, hE _ _ q⟩
  · rw [upd_ne nL.symm]
    exact I.free
  · rw [upd_ne (F.cell x c h)]
    exact I.freeC x c h
  · have hp' : p ∈ X.pn ++ (a, ob) :: pins := by
      rcases List.mem_append.mp hp with z | z
      · exact List.mem_append_left _ z
      · exact List.mem_append_right _ (List.mem_cons_of_mem _ z)
    obtain ⟨z1, z2, z3⟩ := I.pin p hp'
    exact ⟨z1, by rw [upd_ne (F.pn p hp)]; exact z2, z3⟩
  · by_cases hb : b = a
    · rw [hb, upd_same] at e'
      cases e'
      rw [hb]
      exact F.ok _ _ e
    · rw [upd_ne hb] at e'
      exact (I.hok b u e').stay (fun c w _ q => q) (fun c q => hE _ _ q) fun c xs q => hE _ _ q
end
def addAll (H : Hp) : List (Addr × HO) → Hp
  | [] => H
  | (a, o) :: L => upd (addAll H L) a o
/-- they stand apart, and the base knows none of them -/
def Apart (H : Hp) (L : List (Addr × HO)) : Prop := ∀ p ∈ L, H p.1 = none
structure Fr (L : List (Addr × HO)) : Prop where
  nd : (L.map (·.1)).Nodup
  pl : ∀ p ∈ L, own1 p.2 = true
theorem Fr.nil : Fr [] := ⟨List.nodup_nil, fun _ h => nomatch h⟩
theorem Fr.tail {p : Addr × HO} {L : List (Addr × HO)} (f : Fr (p :: L)) : Fr L := ⟨(List.nodup_cons.mp f.nd).2, fun q h => f.pl q (List.mem_cons_of_mem _ h)⟩
theorem addAll_no {H : Hp} {b : Addr} : ∀ {L : List (Addr × HO)}, b ∉ L.map (·.1) → addAll H L b = H b
  | [], _ => rfl
  | (a, o) :: L, h => by
    have h1 : b ≠ a := fun z => h (by rw [z]; exact List.mem_cons_self)
    have h2 : b ∉ L.map (·.1) := fun z => h (List.mem_cons_of_mem _ z)
    show upd (addAll H L) a o b = H b
    rw [upd_ne h1]
    exact addAll_no h2
theorem addAll_none {H : Hp} {b : Addr} : ∀ {L : List (Addr × HO)}, addAll H L b = none → H b = none ∧ b ∉ L.map (·.1)
  | [], h => ⟨h, by simp⟩
  | (a, o) :: L, h => by
    obtain ⟨h1, h2⟩ := none_upd (H := addAll H L) h
    obtain ⟨h3, h4⟩ := addAll_none h1
    exact ⟨h3, fun z => (List.mem_cons.mp z).elim h2 h4⟩
theorem addAll_at {H : Hp} : ∀ {L : List (Addr × HO)} {a : Addr} {o : HO}, Fr L → (a, o) ∈ L → addAll H L a = some o
  | (b, u) :: L, a, o, f, h => by
    rcases List.mem_cons.mp h with e | h
    · cases e
      exact upd_same
    · have nb : a ≠ b := fun z => (List.nodup_cons.mp f.nd).1 (by rw [← z]; exact List.mem_map.mpr ⟨_, h, rfl⟩)
      show upd (addAll H L) b u a = some o
      rw [upd_ne nb]
      exact addAll_at f.tail h
/-- the base lies within -/
theorem ge_addAll {T : List NTab} {H : Hp} : ∀ {L : List (Addr × HO)}, Fr L → Apart H L → Ge T H (addAll H L)
  | [], _, _ => Ge.refl H
  | (a, o) :: L, f, h => by
    refine (ge_addAll f.tail fun p hp => h p (List.mem_cons_of_mem _ hp)).trans (Ge.new ?_)
    rw [addAll_no (List.nodup_cons.mp f.nd).1]
    exact h _ List.mem_cons_self
section
variable {X : Cx} {e : Expr} {σ : L2.St} {H : Hp}
/-- the invariant with all owned objects pinned -/
theorem forgetL : ∀ {L : List (Addr × HO)} {pins : List (Addr × Obj)} {s : Shared} {H : Hp}, Fr L → Apart H L → Inv X pins σ (addAll H L) s → ∃ ps, Inv X ps σ H s ∧ (∀ p ∈ pins, p ∈ ps) ∧ (∀ q ∈ L, ∃ ob, (q.1, ob) ∈ ps) ∧ ∀ (σ' : L2.St) (H' : Hp) (s' : Shared), Inv X ps σ' H' s' → Apart H' L ∧ Inv X pins σ' (addAll H' L) s'
  | [], pins, s, H, _, _, I => ⟨pins, I, fun _ h => h, fun _ h => (nomatch h), fun σ' H' s' I' => ⟨fun _ h => (nomatch h), I'⟩⟩
  | (a, o) :: L, pins, s, H, f, h, I => by
    have hL : Apart H L := fun p hp => h p (List.mem_cons_of_mem _ hp)
    have hn := (List.nodup_cons.mp f.nd).1
    have ha : addAll H L a = none := by
      rw [addAll_no hn]
      exact h _ List.mem_cons_self
    obtain ⟨ob, I1, F⟩ := forget1 I ha (f.pl _ List.mem_cons_self)
    obtain ⟨ps, I2, i1, i2, k⟩ := forgetL f.tail hL I1
    refine ⟨ps, I2, fun p hp => i1 p (List.mem_cons_of_mem _ hp), fun q hq => ?_, fun σ' H' s' I' => ?_⟩
    · rcases List.mem_cons.mp hq with z | z
      · rw [z]
        exact ⟨ob, i1 _ List.mem_cons_self⟩
      · exact i2 q z
    obtain ⟨h1, J⟩ := k σ' H' s' I'
    obtain ⟨h2, J2⟩ := restore1 J F
    refine ⟨fun p hp => ?_, J2⟩
    rcases List.mem_cons.mp hp with z | z
    · rw [z]
      exact (addAll_none h2).1
    · exact h1 p z
theorem we_frame {L : List (Addr × HO)} {Q : VK} (f : Fr L) (h : Apart H L) (k : WE X e σ H fun v H' => Apart H' L → Q v (addAll H' L)) : WE X e σ (addAll H L) Q := fun pins s I => by
  obtain ⟨ps, I1, _, _, back⟩ := forgetL f h I
  refine thn (k ps s I1) fun u s' ⟨v, H', I', r, q⟩ => ?_
  obtain ⟨h', J⟩ := back _ _ _ I'
  exact ⟨v, _, J, r, q h'⟩
theorem wt_frame {L : List (Addr × HO)} {Q : Bool → Hp → Prop} (f : Fr L) (h : Apart H L) (k : WT X e σ H fun v H' => Apart H' L → Q v (addAll H' L)) : WT X e σ (addAll H L) Q := fun pins s I => by
  obtain ⟨ps, I1, _, _, back⟩ := forgetL f h I
  refine thn (k ps s I1) fun u s' ⟨H', I', q⟩ => ?_
  obtain ⟨h', J⟩ := back _ _ _ I'
  exact ⟨_, J, q h'⟩
/-- a walked thing, the owned objects out of sight -/
def iFr (wi : TI) : TI := fun σ H R => ∃ Hb L, H = addAll Hb L ∧ Fr L ∧ Apart Hb L ∧ wi σ Hb fun J H1 => Apart H1 L → R J (addAll H1 L)
theorem pi_frame {tg iter : Expr} {wi : TI} (h : PI X tg iter wi) : PI X tg iter (iFr wi) := ⟨fun pins s σ H R I hw => by
  obtain ⟨Hb, L, rfl, f, ap, hw⟩ := hw
  obtain ⟨ps, I1, i1, i2, back⟩ := forgetL f ap I
  refine thn (h.run ps s σ Hb _ I1 hw) fun v s1 h1 => thn h1 fun itv s2 ⟨it, fp, tn, J, H', e, I2, T, st, fo, q⟩ => ?_
  obtain ⟨a2, J2⟩ := back _ _ _ I2
  refine ⟨it, fp, tn, J, _, e, J2, T, st, fun b hb => ?_, q a2⟩
  obtain ⟨f0, f1, f2, f3, f4, f5⟩ := fo b hb
  refine ⟨?_, f1, f2, f3, f4, fun p hp => ?_⟩
  · rw [addAll_no fun z => ?_]
    · exact f0
    · obtain ⟨q, hq, e⟩ := List.mem_map.mp z
      obtain ⟨ob, hob⟩ := i2 q hq
      exact f5 _ (List.mem_append_right _ hob) e
  · rcases List.mem_append.mp hp with z | z
    · exact f5 p (List.mem_append_left _ z)
    · exact f5 p (List.mem_append_right _ (i1 p z))⟩
end
end G
set_option Elab.async false
set_option linter.all false
set_option maxRecDepth 100000
set_option maxHeartbeats 1000000
namespace G
open PySem PySem.Spec L2 LamX NdefX

def DX (T : List NTab) (X : Cx) (Γ : Gam) (e : Expr) (t : Ty) : Prop := ∀ σ H, Sat Γ σ H → ∀ Q : VK, (∀ v H', Ge T H H' → t.P v H' → Q v H') → WE X e σ H Q
def DT (T : List NTab) (X : Cx) (Γ : Gam) (e : Expr) (b : Bool) : Prop := ∀ σ H, Sat Γ σ H → ∀ Q : Bool → Hp → Prop, (∀ H', Ge T H H' → Q b H') → WT X e σ H Q
def DW (T : List NTab) (X : Cx) (Γ : Gam) (e : Expr) (b : Bool) : Prop := ∀ σ H, Sat Γ σ H → ∀ Q : Bool → Hp → Prop, (∀ H', Ge T H H' → Q b H') → WW X e σ H Q
def DA (T : List NTab) (X : Cx) (Γ : Gam) (es : List Expr) (ts : List Ty) : Prop := ∀ σ H, Sat Γ σ H → ∀ Q : List V → Hp → Prop, (∀ vs H', Ge T H H' → TyAll ts vs H' → Q vs H') → WA X es σ H Q

section
variable {T : List NTab} {X : Cx} {Γ : Gam} {a b c e : Expr} {es rest : List Expr} {pos p apos : Pos} {ta tb tc t : Ty} {x : Str}

theorem dx_var (i : Nat) {pos : Pos} (h : Γ[i]? = some (some t) := by rfl) (hN : X.N[i]? = some x := by rfl) (hv : Vis X.env.scope x := by first | exact Or.inl rfl | exact Or.inr (Or.inl rfl) | exact Or.inr (Or.inr rfl))
    (hd : (x == ("__debug__" : Str)) = false := by decide) (hcd : (x == ("__classdict__" : Str)) = false := by decide) : DX T X Γ (.Name x pos) t := fun σ H s Q q => by
  obtain ⟨v, h1, h2⟩ := s.at_ i t h
  exact we_of (pe_var hN hv hd hcd) ⟨v, h1, q v H (Ge.refl H) h2⟩
theorem dx_c {v : V} (h : PE X e (tC v)) (ht : ∀ H, t.P v H) : DX T X Γ e t := fun σ H s Q q => we_of h (q v H (Ge.refl H) (ht H))
theorem dx_int {i : Int} {j} : DX T X Γ (.Constant (.int i) j pos) (dat (.int i)) := dx_c pe_int fun _ => .int i
theorem dx_bl {i : Bool} {j} : DX T X Γ (.Constant (.bool i) j pos) (dat (.bool i)) := dx_c pe_bl fun _ => .bl i
theorem dx_non {j} : DX T X Γ (.Constant .none j pos) (dat .none) := dx_c pe_non fun _ => .non
theorem dx_str {i : Str} {j} : DX T X Γ (.Constant (.str i) j pos) (dat (.str i)) := dx_c pe_str fun _ => .str i
/-- a module's whole number, text -/
theorem dx_globI {i : Int} {tk : Tok} (hm : X.mg x = some (.int i tk)) (hg : Gl X x := by rfl) (hd : (x == ("__debug__" : Str)) = false := by decide) : DX T X Γ (.Name x pos) (dat (.int i)) := dx_c (pe_glob (v := .int i) hg hm ⟨tk, rfl⟩ hd) fun _ => .int i
theorem dx_globS {i : Str} {tk : Tok} (hm : X.mg x = some (.str i tk)) (hg : Gl X x := by rfl) (hd : (x == ("__debug__" : Str)) = false := by decide) : DX T X Γ (.Name x pos) (dat (.str i)) := dx_c (pe_glob (v := .str i) hg hm ⟨tk, rfl⟩ hd) fun _ => .str i
theorem DX.to {u : Ty} (h : DX T X Γ e t) (k : ∀ v H, t.P v H → u.P v H) : DX T X Γ e u := fun σ H s Q q => h σ H s Q fun v H' g p => q v H' g (k v H' p)
theorem DX.dat {d d' : PyData} (h : DX T X Γ e (dat d)) (k : d = d') : DX T X Γ e (dat d') := k ▸ h
theorem DT.to {k k' : Bool} (h : DT T X Γ e k) (q : k = k') : DT T X Γ e k' := q ▸ h

/-! ### operators -/
theorem dx_op {op : Operator} {r : R2} (ho : OpR X (binaryOp op) r) (ha : DX T X Γ a ta) (hb : DX T X Γ b tb) (hr : ∀ x y H (Q : VK), ta.P x H → tb.P y H → (∀ v H', Ge T H H' → t.P v H' → Q v H') → r x y H Q) : DX T X Γ (.BinOp a op b pos) t := fun σ H s Q q =>
  we_of (pe_op ho pe_we pe_we) (ha σ H s _ fun x H1 g1 p1 => hb σ H1 (s.ext g1.ext) _ fun y H2 g2 p2 => hr x y H2 Q (ta.mono g2.ext p1) p2 fun v H' g pv => q v H' ((g1.trans g2).trans g) pv)
theorem dx_cmp {op : CmpOp} {r : R2} (ho : OpR X (compareOp op) r) (hm : behindInMarks op b = false) (ha : DX T X Γ a ta) (hb : DX T X Γ b tb) (hr : ∀ x y H (Q : VK), ta.P x H → tb.P y H → (∀ v H', Ge T H H' → t.P v H' → Q v H') → r x y H Q) : DX T X Γ (.Compare a [op] [b] pos) t := fun σ H s Q q =>
  we_of (pe_cmpR ho pe_we pe_we hm) (ha σ H s _ fun x H1 g1 p1 => hb σ H1 (s.ext g1.ext) _ fun y H2 g2 p2 => hr x y H2 Q (ta.mono g2.ext p1) p2 fun v H' g pv => q v H' ((g1.trans g2).trans g) pv)
/-- a comparison, as a value or as a test -/
def DC (T : List NTab) (X : Cx) (Γ : Gam) (a : Expr) (op : CmpOp) (b : Expr) (t : Ty) : Prop := behindInMarks op b = false ∧ ∃ (r : R2) (ta tb : Ty), OpR X (compareOp op) r ∧ DX T X Γ a ta ∧ DX T X Γ b tb ∧ ∀ x y H (Q : VK), ta.P x H → tb.P y H → (∀ v H', Ge T H H' → t.P v H' → Q v H') → r x y H Q
theorem dc_mk {op : CmpOp} {r : R2} (ho : OpR X (compareOp op) r) (hm : behindInMarks op b = false) (ha : DX T X Γ a ta) (hb : DX T X Γ b tb) (hr : ∀ x y H (Q : VK), ta.P x H → tb.P y H → (∀ v H', Ge T H H' → t.P v H' → Q v H') → r x y H Q) : DC T X Γ a op b t := ⟨hm, r, ta, tb, ho, ha, hb, hr⟩
theorem DC.dx {op : CmpOp} (h : DC T X Γ a op b t) : DX T X Γ (.Compare a [op] [b] pos) t := by
  obtain ⟨hm, r, ta, tb, ho, ha, hb, hr⟩ := h
  exact dx_cmp ho hm ha hb hr
theorem DC.dt {op : CmpOp} {k : Bool} (h : DC T X Γ a op b (dat (.bool k))) : DT T X Γ (.Compare a [op] [b] pos) k := fun σ H s Q q => by
  obtain ⟨hm, r, ta, tb, ho, ha, hb, hr⟩ := h
  exact wt_of (pt_cmpR ho pe_we pe_we hm) (ha σ H s _ fun x H1 g1 p1 => hb σ H1 (s.ext g1.ext) _ fun y H2 g2 p2 => hr x y H2 _ (ta.mono g2.ext p1) p2 fun v H' g pv => ⟨k, dat_bl pv, q H' ((g1.trans g2).trans g)⟩)
theorem opII {r : Int → Int → V} {i j : Int} (ht : ∀ H, t.P (r i j) H) : ∀ x y H (Q : VK), (dat (.int i)).P x H → (dat (.int j)).P y H → (∀ v H', Ge T H H' → t.P v H' → Q v H') → rI0 r x y H Q := fun x y H Q h1 h2 q => by
  cases dat_int h1
  cases dat_int h2
  exact ⟨i, j, rfl, rfl, q _ H (Ge.refl H) (ht H)⟩
theorem opIC {C : Int → Int → Prop} {r : Int → Int → V} {i j : Int} (hc : C i j) (ht : ∀ H, t.P (r i j) H) : ∀ x y H (Q : VK), (dat (.int i)).P x H → (dat (.int j)).P y H → (∀ v H', Ge T H H' → t.P v H' → Q v H') → rI C r x y H Q := fun x y H Q h1 h2 q => by
  cases dat_int h1
  cases dat_int h2
  exact ⟨i, j, rfl, rfl, hc, q _ H (Ge.refl H) (ht H)⟩
variable {i j : Int}
theorem dx_add (ha : DX T X Γ a (dat (.int i))) (hb : DX T X Γ b (dat (.int j))) : DX T X Γ (.BinOp a .Add b pos) (dat (.int (i + j))) := dx_op op_add ha hb (opII fun _ => .int _)
theorem dx_sub (ha : DX T X Γ a (dat (.int i))) (hb : DX T X Γ b (dat (.int j))) : DX T X Γ (.BinOp a .Sub b pos) (dat (.int (i - j))) := dx_op op_sub ha hb (opII fun _ => .int _)
theorem dx_mul (ha : DX T X Γ a (dat (.int i))) (hb : DX T X Γ b (dat (.int j))) (hc : CMul i j) : DX T X Γ (.BinOp a .Mult b pos) (dat (.int (i * j))) := dx_op op_mul ha hb (opIC hc fun _ => .int _)
theorem dx_mod (ha : DX T X Γ a (dat (.int i))) (hb : DX T X Γ b (dat (.int j))) (hc : 0 < j) : DX T X Γ (.BinOp a .Mod b pos) (dat (.int (i % j))) := dx_op op_mod ha hb (opIC hc fun _ => .int _)
theorem dx_fdiv (ha : DX T X Γ a (dat (.int i))) (hb : DX T X Γ b (dat (.int j))) (hc : CDiv i j) : DX T X Γ (.BinOp a .FloorDiv b pos) (dat (.int (i / j))) := dx_op op_fdiv ha hb (opIC hc fun _ => .int _)
theorem dx_and2 (ha : DX T X Γ a (dat (.int i))) (hb : DX T X Γ b (dat (.int j))) : DX T X Γ (.BinOp a .BitAnd b pos) (dat (.int (Builtin.bitAnd i j))) := dx_op op_and ha hb (opII fun _ => .int _)
theorem dx_or2 (ha : DX T X Γ a (dat (.int i))) (hb : DX T X Γ b (dat (.int j))) : DX T X Γ (.BinOp a .BitOr b pos) (dat (.int (Builtin.bitOr i j))) := dx_op op_or ha hb (opII fun _ => .int _)
theorem dx_shl (ha : DX T X Γ a (dat (.int i))) (hb : DX T X Γ b (dat (.int j))) (hc : CPow i j) : DX T X Γ (.BinOp a .LShift b pos) (dat (.int (i * 2 ^ j.toNat))) := dx_op op_shl ha hb (opIC hc fun _ => .int _)
theorem dx_shr (ha : DX T X Γ a (dat (.int i))) (hb : DX T X Γ b (dat (.int j))) (hc : 0 ≤ j) : DX T X Γ (.BinOp a .RShift b pos) (dat (.int (i / 2 ^ j.toNat))) := dx_op op_shr ha hb (opIC hc fun _ => .int _)
theorem dx_pow (ha : DX T X Γ a (dat (.int i))) (hb : DX T X Γ b (dat (.int j))) (hc : CPow i j) : DX T X Γ (.BinOp a .Pow b pos) (dat (.int (i ^ j.toNat))) := dx_op op_pow ha hb (opIC hc fun _ => .int _)
theorem dx_neg (ha : DX T X Γ a (dat (.int i))) : DX T X Γ (.UnaryOp .USub a pos) (dat (.int (-i))) := fun σ H s Q q =>
  we_of (pe_un un_neg pe_we) (ha σ H s _ fun x H1 g1 p1 => by cases dat_int p1; exact ⟨i, rfl, q _ H1 g1 (.int _)⟩)
theorem dc_lt (ha : DX T X Γ a (dat (.int i))) (hb : DX T X Γ b (dat (.int j))) : DC T X Γ a .Lt b (dat (.bool (decide (i < j)))) := dc_mk op_lt (nomark _) ha hb (opII fun _ => .bl _)
theorem dc_le (ha : DX T X Γ a (dat (.int i))) (hb : DX T X Γ b (dat (.int j))) : DC T X Γ a .LtE b (dat (.bool (decide (i ≤ j)))) := dc_mk op_le (nomark _) ha hb (opII fun _ => .bl _)
theorem dc_gt (ha : DX T X Γ a (dat (.int i))) (hb : DX T X Γ b (dat (.int j))) : DC T X Γ a .Gt b (dat (.bool (decide (j < i)))) := dc_mk op_gt (nomark _) ha hb (opII fun _ => .bl _)
theorem dc_ge (ha : DX T X Γ a (dat (.int i))) (hb : DX T X Γ b (dat (.int j))) : DC T X Γ a .GtE b (dat (.bool (decide (j ≤ i)))) := dc_mk op_ge (nomark _) ha hb (opII fun _ => .bl _)
theorem dc_eqI (ha : DX T X Γ a (dat (.int i))) (hb : DX T X Γ b (dat (.int j))) : DC T X Γ a .Eq b (dat (.bool (decide (i = j)))) := dc_mk op_eq (nomark _) ha hb fun x y H Q h1 h2 q => by
  cases dat_int h1
  cases dat_int h2
  refine ⟨rfl, q _ H (Ge.refl H) ?_⟩
  have e : decide (V.int i = V.int j) = decide (i = j) := by
    rw [Bool.eq_iff_iff]
    simp
  rw [e]
  exact .bl _
theorem dc_neI (ha : DX T X Γ a (dat (.int i))) (hb : DX T X Γ b (dat (.int j))) : DC T X Γ a .NotEq b (dat (.bool (!decide (i = j)))) := dc_mk op_ne (nomark _) ha hb fun x y H Q h1 h2 q => by
  cases dat_int h1
  cases dat_int h2
  refine ⟨rfl, q _ H (Ge.refl H) ?_⟩
  have e : decide (V.int i = V.int j) = decide (i = j) := by
    rw [Bool.eq_iff_iff]
    simp
  rw [e]
  exact .bl _
theorem dc_eqS {s1 s2 : Str} (ha : DX T X Γ a (dat (.str s1))) (hb : DX T X Γ b (dat (.str s2))) : DC T X Γ a .Eq b (dat (.bool (decide (s1 = s2)))) := dc_mk op_eq (nomark _) ha hb fun x y H Q h1 h2 q => by
  cases dat_str h1
  cases dat_str h2
  refine ⟨rfl, q _ H (Ge.refl H) ?_⟩
  have e : decide (V.str s1 = V.str s2) = decide (s1 = s2) := by
    rw [Bool.eq_iff_iff]
    simp
  rw [e]
  exact .bl _
theorem dc_neS {s1 s2 : Str} (ha : DX T X Γ a (dat (.str s1))) (hb : DX T X Γ b (dat (.str s2))) : DC T X Γ a .NotEq b (dat (.bool (!decide (s1 = s2)))) := dc_mk op_ne (nomark _) ha hb fun x y H Q h1 h2 q => by
  cases dat_str h1
  cases dat_str h2
  refine ⟨rfl, q _ H (Ge.refl H) ?_⟩
  have e : decide (V.str s1 = V.str s2) = decide (s1 = s2) := by
    rw [Bool.eq_iff_iff]
    simp
  rw [e]
  exact .bl _
theorem dc_eqB {k l : Bool} (ha : DX T X Γ a (dat (.bool k))) (hb : DX T X Γ b (dat (.bool l))) : DC T X Γ a .Eq b (dat (.bool (k == l))) := dc_mk op_eq (nomark _) ha hb fun x y H Q h1 h2 q => by
  cases dat_bl h1
  cases dat_bl h2
  refine ⟨rfl, q _ H (Ge.refl H) ?_⟩
  rw [dec_bl]
  exact .bl _
theorem dc_neB {k l : Bool} (ha : DX T X Γ a (dat (.bool k))) (hb : DX T X Γ b (dat (.bool l))) : DC T X Γ a .NotEq b (dat (.bool (!(k == l)))) := dc_mk op_ne (nomark _) ha hb fun x y H Q h1 h2 q => by
  cases dat_bl h1
  cases dat_bl h2
  refine ⟨rfl, q _ H (Ge.refl H) ?_⟩
  rw [dec_bl]
  exact .bl _
/-- == and != of data at any depth -/
theorem dc_eqD {d f : PyData} (hu : X.A.units + 64 < cLine) (ha : DX T X Γ a (dat d)) (hb : DX T X Γ b (dat f)) (s1 : SeqAt.shaped d = true) (s2 : SeqAt.shaped f = true) : DC T X Γ a .Eq b (dat (.bool (PyData.eqv d f))) :=
  dc_mk (op_eqD hu) (nomark _) ha hb fun x y H Q h1 h2 q => ⟨d, f, dq_dp _ _ h1, dq_dp _ _ h2, s1, s2, q _ H (Ge.refl H) (.bl _)⟩
theorem dc_neD {d f : PyData} (hu : X.A.units + 64 < cLine) (ha : DX T X Γ a (dat d)) (hb : DX T X Γ b (dat f)) (s1 : SeqAt.shaped d = true) (s2 : SeqAt.shaped f = true) : DC T X Γ a .NotEq b (dat (.bool (!PyData.eqv d f))) :=
  dc_mk (op_neD hu) (nomark _) ha hb fun x y H Q h1 h2 q => ⟨d, f, dq_dp _ _ h1, dq_dp _ _ h2, s1, s2, q _ H (Ge.refl H) (.bl _)⟩
/-- x in a list of data -/
theorem dc_inD {d : PyData} {ds : List PyData} (hu : X.A.units + 65 < cLine) (hm : behindInMarks .In b = false) (ha : DX T X Γ a (dat d)) (hb : DX T X Γ b (dat (.list ds))) (s1 : SeqAt.shaped d = true) (s2 : SeqAt.shaped (.list ds) = true) : DC T X Γ a .In b (dat (.bool (ds.any fun z => PyData.eqv z d))) :=
  dc_mk (op_inD hu) hm ha hb fun x y H Q h1 h2 q => ⟨d, ds, dq_dp _ _ h1, dq_dp _ _ h2, s1, s2, q _ H (Ge.refl H) (.bl _)⟩
def isNonD : PyData → Bool
  | .none => true
  | _ => false
theorem dp_non {H : Hp} {v : V} {d : PyData} (h : Dq H v d) : decide (v = .non) = isNonD d := by
  cases h <;> rfl
theorem dc_isN {d : PyData} (ha : DX T X Γ a (dat d)) (hb : DX T X Γ b (dat .none)) : DC T X Γ a .Is b (dat (.bool (isNonD d))) :=
  dc_mk op_isN (nomark _) ha hb fun x y H Q h1 h2 q => ⟨dat_non h2, q _ H (Ge.refl H) (by rw [dp_non h1]; exact .bl _)⟩
theorem dc_notN {d : PyData} (ha : DX T X Γ a (dat d)) (hb : DX T X Γ b (dat .none)) : DC T X Γ a .IsNot b (dat (.bool (!isNonD d))) :=
  dc_mk op_notN (nomark _) ha hb fun x y H Q h1 h2 q => ⟨dat_non h2, q _ H (Ge.refl H) (by rw [dp_non h1]; exact .bl _)⟩
theorem dc_isB {k l : Bool} (ha : DX T X Γ a (dat (.bool k))) (hb : DX T X Γ b (dat (.bool l))) : DC T X Γ a .Is b (dat (.bool (decide (k = l)))) :=
  dc_mk op_is_bl (nomark _) ha hb fun x y H Q h1 h2 q => ⟨k, l, dat_bl h1, dat_bl h2, q _ H (Ge.refl H) (.bl _)⟩
/-- a <= b <= c -/
theorem dx_chain {k : Int} (ha : DX T X Γ a (dat (.int i))) (hb : DX T X Γ b (dat (.int j))) (hc : DX T X Γ c (dat (.int k))) (hm : lastMarks [.LtE, .LtE] [b, c] = false := by with_unfolding_all rfl) : DX T X Γ (.Compare a [.LtE, .LtE] [b, c] pos) (dat (.bool (decide (i ≤ j ∧ j ≤ k)))) := fun σ H s Q q => by
  refine we_of (pe_chain op_le op_le pe_we pe_we pe_we hm) (ha σ H s _ fun x H1 g1 p1 => hb σ H1 (s.ext g1.ext) _ fun y H2 g2 p2 => ?_)
  cases dat_int p1
  cases dat_int p2
  refine ⟨i, j, rfl, rfl, _, rfl, ?_⟩
  by_cases h : i ≤ j
  · rw [decide_eq_true h]
    refine iteT (hc σ H2 (s.ext (g1.trans g2).ext) _ fun z H3 g3 p3 => ?_)
    cases dat_int p3
    refine ⟨j, k, rfl, rfl, q _ H3 ((g1.trans g2).trans g3) ?_⟩
    have e : decide (i ≤ j ∧ j ≤ k) = decide (j ≤ k) := by
      rw [Bool.eq_iff_iff]
      simp [h]
    rw [e]
    exact .bl _
  · rw [decide_eq_false h]
    refine iteF (q _ H2 (g1.trans g2) ?_)
    have e : decide (i ≤ j ∧ j ≤ k) = false := decide_eq_false fun z => h z.1
    rw [e]
    exact .bl _

/-- .. as a test -/
theorem dt_chain {k : Int} (ha : DX T X Γ a (dat (.int i))) (hb : DX T X Γ b (dat (.int j))) (hc : DX T X Γ c (dat (.int k))) (hm : lastMarks [.LtE, .LtE] [b, c] = false := by with_unfolding_all rfl) : DT T X Γ (.Compare a [.LtE, .LtE] [b, c] pos) (decide (i ≤ j ∧ j ≤ k)) := fun σ H s Q q => by
  refine wt_of (pt_chain op_le op_le pe_we pe_we pe_we hm) (ha σ H s _ fun x H1 g1 p1 => hb σ H1 (s.ext g1.ext) _ fun y H2 g2 p2 => ?_)
  cases dat_int p1
  cases dat_int p2
  refine ⟨i, j, rfl, rfl, _, rfl, ?_⟩
  by_cases h : i ≤ j
  · rw [decide_eq_true h]
    refine iteT (hc σ H2 (s.ext (g1.trans g2).ext) _ fun z H3 g3 p3 => ?_)
    cases dat_int p3
    have e : decide (i ≤ j ∧ j ≤ k) = decide (j ≤ k) := by
      rw [Bool.eq_iff_iff]
      simp [h]
    refine ⟨j, k, rfl, rfl, _, rfl, ?_⟩
    have z := q H3 ((g1.trans g2).trans g3)
    rw [e] at z
    exact z
  · rw [decide_eq_false h]
    have e : decide (i ≤ j ∧ j ≤ k) = false := decide_eq_false fun z => h z.1
    have z := q H2 (g1.trans g2)
    rw [e] at z
    exact iteF ⟨false, rfl, z⟩
/-! ### and, or, not -/
theorem DX.one {op : BoolOp} (h : DX T X Γ a t) : DX T X Γ (.BoolOp op [a] pos) t := fun σ H s Q q => we_of (pe_one pe_we) (h σ H s Q q)
theorem dx_and {k : Bool} {l : Bool} (ha : DX T X Γ a (dat (.bool k))) (hb : k = true → DX T X Γ (.BoolOp .And (b :: rest) pos) (dat (.bool l))) : DX T X Γ (.BoolOp .And (a :: b :: rest) pos) (dat (.bool (k && l))) := fun σ H s Q q =>
  we_of (pe_and pe_we pe_we) (ha σ H s _ fun x H1 g1 p1 => ⟨k, dat_bl p1, by
    cases k with
    | true => exact iteT (hb rfl σ H1 (s.ext g1.ext) Q fun v H2 g2 p2 => q v H2 (g1.trans g2) p2)
    | false => exact iteF (q _ H1 g1 (.bl _))⟩)
theorem dx_or {k : Bool} {l : Bool} (ha : DX T X Γ a (dat (.bool k))) (hb : k = false → DX T X Γ (.BoolOp .Or (b :: rest) pos) (dat (.bool l))) : DX T X Γ (.BoolOp .Or (a :: b :: rest) pos) (dat (.bool (k || l))) := fun σ H s Q q =>
  we_of (pe_or pe_we pe_we) (ha σ H s _ fun x H1 g1 p1 => ⟨k, dat_bl p1, by
    cases k with
    | true => exact iteT (q _ H1 g1 (.bl _))
    | false => exact iteF (hb rfl σ H1 (s.ext g1.ext) Q fun v H2 g2 p2 => q v H2 (g1.trans g2) p2)⟩)
theorem dx_not {k : Bool} (ha : DX T X Γ a (dat (.bool k))) : DX T X Γ (.UnaryOp .Not a pos) (dat (.bool (!k))) := fun σ H s Q q =>
  we_of (pe_not pe_we) (ha σ H s _ fun x H1 g1 p1 => ⟨k, dat_bl p1, q _ H1 g1 (.bl _)⟩)
/-! ### tests -/
theorem dt_val {k : Bool} (ha : DX T X Γ a (dat (.bool k))) (he : ∀ whole, isTrue a X.env whole = (do let v ← whole; standAt a.pos; holding [v] (truthy v)) := by intro _; rfl) : DT T X Γ a k := fun σ H s Q q =>
  wt_of (pt_val pe_we he) (ha σ H s _ fun x H1 g1 p1 => ⟨k, dat_bl p1, q H1 g1⟩)
/-- a comparison as a test -/
theorem wt_cmp {Q : Bool → Hp → Prop} {σ : L2.St} {H : Hp} {op : CmpOp} (h : WE X (.Compare a [op] [b] pos) σ H fun x H' => ∃ k, x = .bl k ∧ Q k H') (he : ∀ whole, isTrue (.Compare a [op] [b] pos) X.env whole = (do let v ← whole; standAt (Expr.Compare a [op] [b] pos).pos; holding [v] (truthy v)) := by intro _; rfl) : WT X (.Compare a [op] [b] pos) σ H Q := wt_of (pt_val pe_we he) h
theorem dw_one {k : Bool} {op : BoolOp} (h : DT T X Γ a k) : DW T X Γ (.BoolOp op [a] pos) k := fun σ H s Q q => by
  cases op with
  | And => exact ww_of (pw_and1 pt_wt) (h σ H s Q q)
  | Or => exact ww_of (pw_or1 pt_wt) (h σ H s Q q)
theorem dw_and {k l : Bool} (ha : DT T X Γ a k) (hb : k = true → DW T X Γ (.BoolOp .And (b :: rest) pos) l) : DW T X Γ (.BoolOp .And (a :: b :: rest) pos) (k && l) := fun σ H s Q q =>
  ww_of (pw_and pt_wt pw_ww) (ha σ H s _ fun H1 g1 => by
    cases k with
    | true => exact iteT (hb rfl σ H1 (s.ext g1.ext) Q fun H2 g2 => q H2 (g1.trans g2))
    | false => exact iteF (q H1 g1))
theorem dw_or {k l : Bool} (ha : DT T X Γ a k) (hb : k = false → DW T X Γ (.BoolOp .Or (b :: rest) pos) l) : DW T X Γ (.BoolOp .Or (a :: b :: rest) pos) (k || l) := fun σ H s Q q =>
  ww_of (pw_or pt_wt pw_ww) (ha σ H s _ fun H1 g1 => by
    cases k with
    | true => exact iteT (q H1 g1)
    | false => exact iteF (hb rfl σ H1 (s.ext g1.ext) Q fun H2 g2 => q H2 (g1.trans g2)))
theorem DW.dt {k : Bool} (h : DW T X Γ e k) : DT T X Γ e k := fun σ H s Q q pins sh I => h σ H s Q q _ pins sh I
theorem dt_not {k : Bool} (ha : DT T X Γ a k) : DT T X Γ (.UnaryOp .Not a pos) (!k) := fun σ H s Q q => wt_of (pt_not pt_wt) (ha σ H s _ fun H1 g1 => q H1 g1)
/-- an int's truth -/
theorem dt_int {i : Int} (ha : DX T X Γ a (dat (.int i))) (he : ∀ whole, isTrue a X.env whole = (do let v ← whole; standAt a.pos; holding [v] (truthy v)) := by intro _; rfl) : DT T X Γ a (i != 0) := fun σ H s Q q =>
  wt_of (pt_truth pe_we he) (ha σ H s _ fun x H1 g1 p1 => by cases dat_int p1; exact ⟨_, rfl, q H1 g1⟩)
theorem dx_ifExp {k : Bool} (hc : DT T X Γ c k) (ha : k = true → DX T X Γ a t) (hb : k = false → DX T X Γ b t) : DX T X Γ (.IfExp c a b pos) t := fun σ H s Q q =>
  we_of (pe_ifExp pt_wt pe_we pe_we) (hc σ H s _ fun H1 g1 => by
    cases k with
    | true => exact iteT (ha rfl σ H1 (s.ext g1.ext) Q fun v H2 g2 p => q v H2 (g1.trans g2) p)
    | false => exact iteF (hb rfl σ H1 (s.ext g1.ext) Q fun v H2 g2 p => q v H2 (g1.trans g2) p))

/-! ### arguments, displays -/
theorem da_nil : DA T X Γ [] [] := fun σ H s Q q => wa_of pa_nil (q [] H (Ge.refl H) trivial)
theorem da_cons {ts : List Ty} (ha : DX T X Γ e t) (hr : DA T X Γ es ts) (hs : starEach (e :: es) X.env = (false, eval e X.env) :: starEach es X.env := by rfl) : DA T X Γ (e :: es) (t :: ts) := fun σ H s Q q =>
  wa_of (pa_cons pe_we pa_wa hs) (ha σ H s _ fun x H1 g1 p1 => hr σ H1 (s.ext g1.ext) _ fun vs H2 g2 p2 => q _ H2 (g1.trans g2) ⟨t.mono g2.ext p1, p2⟩)
theorem dx_tup {k} {ds : List PyData} (h : DA T X Γ es (ds.map dat)) (hl : ds.length ≤ 1000 := by exact Nat.le_of_ble_eq_true rfl) : DX T X Γ (.Tuple es k pos) (dat (.tuple ds)) := fun σ H s Q q =>
  we_of (pe_tup pa_wa) (h σ H s _ fun vs H1 g1 p1 => ⟨by
    have e := tyAll_len p1
    rw [List.length_map] at e
    rw [e]
    exact Nat.le_trans hl (by decide), fun p hp => q _ _ (g1.trans (Ge.new hp)) (.tup (.inl upd_same) (dqa_ty.mpr (tyAll_ext (Ge.new (T := T) hp).ext p1)))⟩)
theorem dx_lst {ds : List PyData} (h : DA T X Γ es (ds.map dat)) (hl : ds.length ≤ 1000 := by exact Nat.le_of_ble_eq_true rfl) : DX T X Γ (.List es pos) (dat (.list ds)) := fun σ H s Q q =>
  we_of (pe_lst pa_wa) (h σ H s _ fun vs H1 g1 p1 => ⟨by
    have e := tyAll_len p1
    rw [List.length_map] at e
    rw [e]
    exact Nat.le_trans hl (by decide), fun p hp => q _ _ (g1.trans (Ge.new hp)) (.lst upd_same (dqa_ty.mpr (tyAll_ext (Ge.new (T := T) hp).ext p1)))⟩)

/-! ### built-in calls -/
theorem dx_callB {id : String} {r : List V → Hp → VK → Prop} {ts : List Ty} (hc : CallR X (.builtin id) r) (hm : X.mg x = none) (hv : bootBuiltins x = some (.builtin id)) (ha : DA T X Γ (e :: es) ts)
    (hr : ∀ vs H (Q : VK), TyAll ts vs H → (∀ v H', Ge T H H' → t.P v H' → Q v H') → r vs H Q) (hg : Gl X x := by rfl) (hn : x ≠ "__name__" := by decide) (hdb : (x == ("__debug__" : Str)) = false := by decide)
    (he : starEach (e :: es) X.env = (false, eval e X.env) :: starEach es X.env := by rfl) (hpl : (backTo pos (starEach es X.env)).any (·.1) = false := by rfl) : DX T X Γ (.Call (.Name x p) (e :: es) [] pos) t := fun σ H s Q q =>
  we_of (pe_callB hc hg hm hv pa_wa hn hdb he hpl) (ha σ H s _ fun vs H1 g1 p1 => hr vs H1 Q p1 fun v H' g pv => q v H' (g1.trans g) pv)
theorem dx_callTy {id : String} {r : List V → Hp → VK → Prop} {ts : List Ty} (hc : CallR X (.type id) r) (hm : X.mg x = none) (hv : bootBuiltins x = some (.type id)) (ha : DA T X Γ (e :: es) ts)
    (hr : ∀ vs H (Q : VK), TyAll ts vs H → (∀ v H', Ge T H H' → t.P v H' → Q v H') → r vs H Q) (hg : Gl X x := by rfl) (hn : x ≠ "__name__" := by decide) (hdb : (x == ("__debug__" : Str)) = false := by decide)
    (he : starEach (e :: es) X.env = (false, eval e X.env) :: starEach es X.env := by rfl) (hpl : (backTo pos (starEach es X.env)).any (·.1) = false := by rfl) : DX T X Γ (.Call (.Name x p) (e :: es) [] pos) t := fun σ H s Q q =>
  we_of (pe_callTy hc hg hm hv pa_wa hn hdb he hpl) (ha σ H s _ fun vs H1 g1 p1 => hr vs H1 Q p1 fun v H' g pv => q v H' (g1.trans g) pv)
theorem tyAll1 {vs : List V} {H : Hp} (h : TyAll [t] vs H) : ∃ v, vs = [v] ∧ t.P v H := by
  match vs, h with
  | [v], h => exact ⟨v, rfl, h.1⟩
theorem tyAll2 {u : Ty} {vs : List V} {H : Hp} (h : TyAll [t, u] vs H) : ∃ v w, vs = [v, w] ∧ t.P v H ∧ u.P w H := by
  match vs, h with
  | [v, w], h => exact ⟨v, w, rfl, h.1, h.2.1⟩
theorem dx_lenT {ds : List PyData} (hm : X.mg "len" = none) (ha : DX T X Γ a (dat (.tuple ds))) (hg : Gl X "len" := by rfl) (hs : starEach [a] X.env = (false, eval a X.env) :: starEach [] X.env := by rfl) : DX T X Γ (.Call (.Name "len" p) [a] [] pos) (dat (.int ds.length)) :=
  dx_callB call_len_seq hm PySem.boot_len (da_cons ha da_nil hs) (fun vs H Q h q => by
    obtain ⟨v, rfl, h0⟩ := tyAll1 h
    obtain ⟨l, xs, rfl, h1, h2⟩ := dat_tup h0
    refine ⟨l, xs, rfl, .inr (sqT_rd h1), q _ H (Ge.refl H) ?_⟩
    have e := tyAll_len (dqa_ty.mp h2)
    rw [List.length_map] at e
    rw [e]
    exact .int _) hg (by decide) (by decide) hs
theorem dx_lenL {ds : List PyData} (hm : X.mg "len" = none) (ha : DX T X Γ a (dat (.list ds))) (hg : Gl X "len" := by rfl) (hs : starEach [a] X.env = (false, eval a X.env) :: starEach [] X.env := by rfl) : DX T X Γ (.Call (.Name "len" p) [a] [] pos) (dat (.int ds.length)) :=
  dx_callB call_len_seq hm PySem.boot_len (da_cons ha da_nil hs) (fun vs H Q h q => by
    obtain ⟨v, rfl, h0⟩ := tyAll1 h
    obtain ⟨l, xs, rfl, h1, h2⟩ := dat_lst h0
    refine ⟨l, xs, rfl, .inl (SqL.of h1), q _ H (Ge.refl H) ?_⟩
    have e := tyAll_len (dqa_ty.mp h2)
    rw [List.length_map] at e
    rw [e]
    exact .int _) hg (by decide) (by decide) hs
theorem dx_lenS {z : Str} (hm : X.mg "len" = none) (ha : DX T X Γ a (dat (.str z))) (hz : z.length ≤ sizeLine) (hg : Gl X "len" := by rfl) (hs : starEach [a] X.env = (false, eval a X.env) :: starEach [] X.env := by rfl) : DX T X Γ (.Call (.Name "len" p) [a] [] pos) (dat (.int z.length)) :=
  dx_callB call_len_str hm PySem.boot_len (da_cons ha da_nil hs) (fun vs H Q h q => by
    obtain ⟨v, rfl, h0⟩ := tyAll1 h
    cases dat_str h0
    exact ⟨z, rfl, hz, q _ H (Ge.refl H) (.int _)⟩) hg (by decide) (by decide) hs
end
end G
set_option Elab.async false
set_option linter.all false
set_option maxRecDepth 100000
set_option maxHeartbeats 1000000
namespace G
open PySem PySem.Spec L2 LamX NdefX

theorem dqa_len {H : Hp} : ∀ {vs : List V} {ds : List PyData}, DqAll H vs ds → vs.length = ds.length
  | _, _, .nil => rfl
  | _, _, .cons _ b => congrArg (· + 1) (dqa_len b)
theorem dqa_get {H : Hp} : ∀ {vs : List V} {ds : List PyData} {i : Nat} {d : PyData}, DqAll H vs ds → ds[i]? = some d → ∃ v, vs[i]? = some v ∧ Dq H v d
  | _, _, i, _, .nil, e => by simp at e
  | _, _, 0, _, .cons a b, e => ⟨_, rfl, by cases e; exact a⟩
  | _, _, i + 1, _, .cons a b, e => by
    obtain ⟨v, h1, h2⟩ := dqa_get (i := i) b (by simpa using e)
    exact ⟨v, by simpa using h1, h2⟩
theorem dqa_get' {H : Hp} : ∀ {vs : List V} {ds : List PyData} {i : Nat} {v : V}, DqAll H vs ds → vs[i]? = some v → ∃ d, ds[i]? = some d ∧ Dq H v d
  | _, _, i, _, .nil, e => by simp at e
  | _, _, 0, _, .cons a b, e => ⟨_, rfl, by cases e; exact a⟩
  | _, _, i + 1, _, .cons a b, e => by
    obtain ⟨v, h1, h2⟩ := dqa_get' (i := i) b (by simpa using e)
    exact ⟨v, by simpa using h1, h2⟩
theorem dqa_app {H : Hp} : ∀ {vs ws : List V} {ds es : List PyData}, DqAll H vs ds → DqAll H ws es → DqAll H (vs ++ ws) (ds ++ es)
  | _, _, _, _, .nil, h => h
  | _, _, _, _, .cons a b, h => .cons a (dqa_app b h)
theorem dqa_drop {H : Hp} : ∀ {vs : List V} {ds : List PyData} (n : Nat), DqAll H vs ds → DqAll H (vs.drop n) (ds.drop n)
  | _, _, 0, h => h
  | _, _, _ + 1, .nil => .nil
  | _, _, n + 1, .cons _ b => dqa_drop n b
theorem dqa_take {H : Hp} : ∀ {vs : List V} {ds : List PyData} (n : Nat), DqAll H vs ds → DqAll H (vs.take n) (ds.take n)
  | _, _, 0, _ => .nil
  | _, _, _ + 1, .nil => .nil
  | _, _, n + 1, .cons a b => .cons a (dqa_take n b)
theorem dqa_ints {H : Hp} : ∀ {vs : List V} {ns : List Int}, DqAll H vs (ns.map PyData.int) → vs = ns.map V.int
  | _, [], h => by cases h; rfl
  | _, n :: ns, h => by
    cases h with
    | cons a b =>
      cases a
      rw [dqa_ints b]
      rfl
theorem dqa_bls {H : Hp} : ∀ {vs : List V} {ns : List Bool}, DqAll H vs (ns.map PyData.bool) → vs = ns.map V.bl
  | _, [], h => by cases h; rfl
  | _, n :: ns, h => by
    cases h with
    | cons a b =>
      cases a
      rw [dqa_bls b]
      rfl
theorem dqa_strs {H : Hp} : ∀ {vs : List V} {ns : List Str}, DqAll H vs (ns.map PyData.str) → vs = ns.map V.str
  | _, [], h => by cases h; rfl
  | _, n :: ns, h => by
    cases h with
    | cons a b =>
      cases a
      rw [dqa_strs b]
      rfl
theorem atI_dq {H : Hp} {vs : List V} {ds : List PyData} {i : Int} {d : PyData} (h : DqAll H vs ds) (e : atI ds i = some d) : ∃ v, atI vs i = some v ∧ Dq H v d := by
  unfold atI at *
  rw [dqa_len h]
  cases q : ixN ds.length i with
  | none =>
    rw [q] at e
    cases e
  | some j =>
    rw [q] at e
    exact dqa_get h e
/-- a slice -/
def cutD {α : Type} (xs : List α) (lo hi : Option Int) : List α := (xs.drop (HT.sIx xs.length 0 lo)).take (HT.sIx xs.length xs.length hi - HT.sIx xs.length 0 lo)
theorem dqa_cut {H : Hp} {vs : List V} {ds : List PyData} (lo hi : Option Int) (h : DqAll H vs ds) : DqAll H (cutV vs lo hi) (cutD ds lo hi) := by
  unfold cutV cutD
  rw [dqa_len h]
  exact dqa_take _ (dqa_drop _ h)
theorem cutD_from {α : Type} (xs : List α) (k : Nat) : cutD xs (some (k : Int)) none = xs.drop k := by
  unfold cutD
  rw [HT.sIx_none, HT.sIx_nat]
  by_cases h : k ≤ xs.length
  · rw [Nat.min_eq_left h]
    exact List.take_of_length_le (by rw [List.length_drop]; exact Nat.le_refl _)
  · rw [Nat.min_eq_right (by omega), Nat.sub_self, List.take_zero, List.drop_eq_nil_of_le (by omega)]
theorem cutD_to {α : Type} (xs : List α) (k : Nat) : cutD xs none (some (k : Int)) = xs.take k := by
  unfold cutD
  rw [HT.sIx_none, HT.sIx_nat, List.drop_zero, Nat.sub_zero]
  by_cases h : k ≤ xs.length
  · rw [Nat.min_eq_left h]
  · rw [Nat.min_eq_right (by omega), List.take_of_length_le (Nat.le_refl _), List.take_of_length_le (by omega)]
theorem cutD_last {α : Type} (xs : List α) : cutD xs none (some (-1)) = xs.dropLast := by
  unfold cutD
  have e : HT.sIx xs.length xs.length (some (-1)) = xs.length - 1 := by
    unfold HT.sIx
    simp only
    split <;> omega
  rw [HT.sIx_none, e, List.drop_zero, Nat.sub_zero, List.dropLast_eq_take]

def DO (T : List NTab) (X : Cx) (Γ : Gam) (e : Option Expr) (o : Option Int) : Prop := ∃ t, PO X e t ∧ ∀ σ H, Sat Γ σ H → ∀ Q : Option Int → Hp → Prop, (∀ H', Ge T H H' → Q o H') → t σ H Q
section
variable {T : List NTab} {X : Cx} {Γ : Gam} {a b c e : Expr} {es rest : List Expr} {pos p apos p2 : Pos} {ta tb tc t : Ty} {x : Str} {lo hi : Option Expr} {ol oh : Option Int} {i j : Int}
theorem do_none : DO T X Γ none none := ⟨_, po_none, fun σ H s Q q => q H (Ge.refl H)⟩
theorem do_some (h : DX T X Γ e (dat (.int i))) : DO T X Γ (some e) (some i) := ⟨_, po_some pe_we, fun σ H s Q q => h σ H s _ fun v H' g p => ⟨i, dat_int p, q H' g⟩⟩
/-! ### items, slices -/
theorem dx_ixT {ds : List PyData} {d : PyData} (ha : DX T X Γ a (dat (.tuple ds))) (hb : DX T X Γ b (dat (.int i))) (h : atI ds i = some d) (hs : PlainIx b := by intro _ _; rfl) : DX T X Γ (.Subscript a b pos) (dat d) := fun σ H s Q q =>
  we_of (pe_ix ix_tup pe_we pe_we hs) (ha σ H s _ fun x H1 g1 p1 => hb σ H1 (s.ext g1.ext) _ fun y H2 g2 p2 => by
    cases dat_int p2
    obtain ⟨l, xs, rfl, h1, h2⟩ := dat_tup ((dat (.tuple ds)).mono g2.ext p1)
    obtain ⟨v, h3, h4⟩ := atI_dq h2 h
    exact ⟨l, xs, i, v, rfl, rfl, sqT_rd h1, h3, q v H2 (g1.trans g2) h4⟩)
theorem dx_ixL {ds : List PyData} {d : PyData} (ha : DX T X Γ a (dat (.list ds))) (hb : DX T X Γ b (dat (.int i))) (h : atI ds i = some d) (hs : PlainIx b := by intro _ _; rfl) : DX T X Γ (.Subscript a b pos) (dat d) := fun σ H s Q q =>
  we_of (pe_ix ix_list pe_we pe_we hs) (ha σ H s _ fun x H1 g1 p1 => hb σ H1 (s.ext g1.ext) _ fun y H2 g2 p2 => by
    cases dat_int p2
    obtain ⟨l, xs, rfl, h1, h2⟩ := dat_lst ((dat (.list ds)).mono g2.ext p1)
    obtain ⟨v, h3, h4⟩ := atI_dq h2 h
    exact ⟨l, xs, i, v, rfl, rfl, SqL.of h1, h3, q v H2 (g1.trans g2) h4⟩)
theorem dx_ixS {z : Str} {k : Nat} (ha : DX T X Γ a (dat (.str z))) (hb : DX T X Γ b (dat (.int i))) (hz : z.length ≤ sizeLine) (h : atI z.cps.toList i = some k) (hs : PlainIx b := by intro _ _; rfl) : DX T X Γ (.Subscript a b pos) (dat (.str ⟨#[k]⟩)) := fun σ H s Q q =>
  we_of (pe_ix ix_str pe_we pe_we hs) (ha σ H s _ fun x H1 g1 p1 => hb σ H1 (s.ext g1.ext) _ fun y H2 g2 p2 => by
    cases dat_int p2
    cases dat_str p1
    exact ⟨z, i, k, rfl, rfl, hz, h, q _ H2 (g1.trans g2) (.str _)⟩)
theorem dx_slT {ds : List PyData} (ha : DX T X Γ a (dat (.tuple ds))) (hl : DO T X Γ lo ol) (hh : DO T X Γ hi oh) : DX T X Γ (.Subscript a (.Slice lo hi none p2) pos) (dat (.tuple (cutD ds ol oh))) := fun σ H s Q q => by
  obtain ⟨t1, o1, k1⟩ := hl
  obtain ⟨t2, o2, k2⟩ := hh
  refine we_of (pe_slice sl_tupA pe_we o1 o2) (ha σ H s _ fun x H1 g1 p1 => k1 σ H1 (s.ext g1.ext) _ fun H2 g2 => k2 σ H2 (s.ext (g1.trans g2).ext) _ fun H3 g3 => ?_)
  obtain ⟨l, xs, rfl, h1, h2⟩ := dat_tup ((dat (.tuple ds)).mono (g2.trans g3).ext p1)
  refine ⟨l, xs, rfl, sqT_rd h1, fun w => q _ H3 ((g1.trans g2).trans g3) (.tup h1 ?_), fun _ p hp => q _ _ (((g1.trans g2).trans g3).trans (Ge.new hp)) (.tup (.inl upd_same) (dqa_ext (Ge.new (T := T) hp).ext _ _ (dqa_cut _ _ h2)))⟩
  have e : cutD ds ol oh = ds := by
    unfold cutD
    rw [← dqa_len h2, w.1, w.2, List.drop_zero, Nat.sub_zero, List.take_of_length_le (by rw [dqa_len h2]; exact Nat.le_refl _)]
  rw [e]
  exact h2
/-! ### + of tuples, of lists; t * k -/
theorem dx_catT {ds es : List PyData} (ha : DX T X Γ a (dat (.tuple ds))) (hb : DX T X Γ b (dat (.tuple es))) (hz : ds.length + es.length ≤ 100000) : DX T X Γ (.BinOp a .Add b pos) (dat (.tuple (ds ++ es))) :=
  dx_op op_catA ha hb fun x y H Q h1 h2 q => by
    obtain ⟨l, xs, rfl, e1, f1⟩ := dat_tup h1
    obtain ⟨m, ys, rfl, e2, f2⟩ := dat_tup h2
    have l1 := dqa_len f1
    have l2 := dqa_len f2
    refine ⟨l, m, xs, ys, rfl, rfl, sqT_rd e1, sqT_rd e2, by rw [l1, l2]; exact Nat.le_trans hz (by decide), fun z => ?_, fun _ z => ?_, fun _ _ p hp => q _ _ (Ge.new hp) (.tup (.inl upd_same) (dqa_ext (Ge.new (T := T) hp).ext _ _ (dqa_app f1 f2)))⟩
    · subst z
      cases f1
      exact q _ H (Ge.refl H) h2
    · subst z
      cases f2
      refine q _ H (Ge.refl H) ?_
      rw [List.append_nil]
      exact h1
theorem dx_catL {ds es : List PyData} (ha : DX T X Γ a (dat (.list ds))) (hb : DX T X Γ b (dat (.list es))) (hz : ds.length + es.length ≤ 100000) : DX T X Γ (.BinOp a .Add b pos) (dat (.list (ds ++ es))) :=
  dx_op op_cat ha hb fun x y H Q h1 h2 q => by
    obtain ⟨l, xs, rfl, e1, f1⟩ := dat_lst h1
    obtain ⟨m, ys, rfl, e2, f2⟩ := dat_lst h2
    have l1 := dqa_len f1
    have l2 := dqa_len f2
    exact ⟨l, m, xs, ys, rfl, rfl, e1, e2, by rw [l1, l2]; exact Nat.le_trans hz (by decide), fun p hp => q _ _ (Ge.new hp) (.lst upd_same (dqa_ext (Ge.new (T := T) hp).ext _ _ (dqa_app f1 f2)))⟩
/-! ### tuple(..), int(..) -/
theorem dx_tupOfL {ds : List PyData} (hm : X.mg "tuple" = none) (ha : DX T X Γ a (dat (.list ds))) (hg : Gl X "tuple" := by rfl) (hs : starEach [a] X.env = (false, eval a X.env) :: starEach [] X.env := by rfl) : DX T X Γ (.Call (.Name "tuple" p) [a] [] pos) (dat (.tuple ds)) := fun σ H s Q q =>
  we_of (pe_tupleOf hg hm pe_we hs) (ha σ H s _ fun v H1 g1 p1 => by
    obtain ⟨l, xs, rfl, h1, h2⟩ := dat_lst p1
    exact .inl ⟨l, xs, rfl, SqL.of h1, fun r hr => q _ _ (g1.trans (Ge.new hr)) (.tup (.inl upd_same) (dqa_ext (Ge.new (T := T) hr).ext _ _ h2))⟩)
theorem dx_int1 (hm : X.mg "int" = none) (ha : DX T X Γ a (dat (.int i))) (hg : Gl X "int" := by rfl) (hs : starEach [a] X.env = (false, eval a X.env) :: starEach [] X.env := by rfl) : DX T X Γ (.Call (.Name "int" p) [a] [] pos) (dat (.int i)) :=
  dx_callTy call_int1 hm (by decide +kernel) (da_cons ha da_nil hs) (fun vs H Q h q => by
    obtain ⟨v, rfl, h0⟩ := tyAll1 h
    cases dat_int h0
    exact .inl ⟨i, rfl, q _ H (Ge.refl H) (.int _)⟩) hg (by decide) (by decide) hs
theorem dx_intB {k : Bool} (hm : X.mg "int" = none) (ha : DX T X Γ a (dat (.bool k))) (hg : Gl X "int" := by rfl) (hs : starEach [a] X.env = (false, eval a X.env) :: starEach [] X.env := by rfl) : DX T X Γ (.Call (.Name "int" p) [a] [] pos) (dat (.int (if k then 1 else 0))) :=
  dx_callTy call_int1 hm (by decide +kernel) (da_cons ha da_nil hs) (fun vs H Q h q => by
    obtain ⟨v, rfl, h0⟩ := tyAll1 h
    cases dat_bl h0
    exact .inr ⟨k, rfl, q _ H (Ge.refl H) (.int _)⟩) hg (by decide) (by decide) hs
/-! ### min, max of two; any, all, sum -/
theorem dx_min2 (hc : X.calm = true) (hm : X.mg "min" = none) (ha : DA T X Γ [a, b] [dat (.int i), dat (.int j)]) (hg : Gl X "min" := by rfl)
    (he : starEach [a, b] X.env = (false, eval a X.env) :: starEach [b] X.env := by rfl) (hpl : (backTo pos (starEach [b] X.env)).any (·.1) = false := by rfl) : DX T X Γ (.Call (.Name "min" p) [a, b] [] pos) (dat (.int (if j < i then j else i))) :=
  dx_callB (call_min2 hc) hm (by decide +kernel) ha (fun vs H Q h q => by
    obtain ⟨v, w, rfl, h1, h2⟩ := tyAll2 h
    cases dat_int h1
    cases dat_int h2
    exact ⟨i, j, rfl, q _ H (Ge.refl H) (.int _)⟩) hg (by decide) (by decide) he hpl
theorem dx_max2 (hc : X.calm = true) (hm : X.mg "max" = none) (ha : DA T X Γ [a, b] [dat (.int i), dat (.int j)]) (hg : Gl X "max" := by rfl)
    (he : starEach [a, b] X.env = (false, eval a X.env) :: starEach [b] X.env := by rfl) (hpl : (backTo pos (starEach [b] X.env)).any (·.1) = false := by rfl) : DX T X Γ (.Call (.Name "max" p) [a, b] [] pos) (dat (.int (if j > i then j else i))) :=
  dx_callB (call_max2 hc) hm (by decide +kernel) ha (fun vs H Q h q => by
    obtain ⟨v, w, rfl, h1, h2⟩ := tyAll2 h
    cases dat_int h1
    cases dat_int h2
    exact ⟨i, j, rfl, q _ H (Ge.refl H) (.int _)⟩) hg (by decide) (by decide) he hpl
theorem dx_any {bs : List Bool} (hc : X.calm = true) (hm : X.mg "any" = none) (ha : DX T X Γ a (dat (.list (bs.map .bool)))) (hg : Gl X "any" := by rfl) (hs : starEach [a] X.env = (false, eval a X.env) :: starEach [] X.env := by rfl) : DX T X Γ (.Call (.Name "any" p) [a] [] pos) (dat (.bool (bs.any id))) :=
  dx_callB (cr_any hc) hm (by decide +kernel) (da_cons ha da_nil hs) (fun vs H Q h q => by
    obtain ⟨v, rfl, h0⟩ := tyAll1 h
    obtain ⟨l, xs, rfl, h1, h2⟩ := dat_lst h0
    cases dqa_bls h2
    exact ⟨l, bs, rfl, SqL.of h1, q _ H (Ge.refl H) (.bl _)⟩) hg (by decide) (by decide) hs
theorem dx_all {bs : List Bool} (hc : X.calm = true) (hm : X.mg "all" = none) (ha : DX T X Γ a (dat (.list (bs.map .bool)))) (hg : Gl X "all" := by rfl) (hs : starEach [a] X.env = (false, eval a X.env) :: starEach [] X.env := by rfl) : DX T X Γ (.Call (.Name "all" p) [a] [] pos) (dat (.bool (bs.all id))) :=
  dx_callB (cr_all hc) hm (by decide +kernel) (da_cons ha da_nil hs) (fun vs H Q h q => by
    obtain ⟨v, rfl, h0⟩ := tyAll1 h
    obtain ⟨l, xs, rfl, h1, h2⟩ := dat_lst h0
    cases dqa_bls h2
    exact ⟨l, bs, rfl, SqL.of h1, q _ H (Ge.refl H) (.bl _)⟩) hg (by decide) (by decide) hs
theorem dx_sum {ns : List Int} (hc : X.calm = true) (hm : X.mg "sum" = none) (ha : DX T X Γ a (dat (.list (ns.map .int)))) (hg : Gl X "sum" := by rfl) (hs : starEach [a] X.env = (false, eval a X.env) :: starEach [] X.env := by rfl) : DX T X Γ (.Call (.Name "sum" p) [a] [] pos) (dat (.int ns.sum)) :=
  dx_callB (cr_sum hc) hm (by decide +kernel) (da_cons ha da_nil hs) (fun vs H Q h q => by
    obtain ⟨v, rfl, h0⟩ := tyAll1 h
    obtain ⟨l, xs, rfl, h1, h2⟩ := dat_lst h0
    cases dqa_ints h2
    exact ⟨l, ns, rfl, SqL.of h1, q _ H (Ge.refl H) (.int _)⟩) hg (by decide) (by decide) hs
/-! ### in, of whole numbers, of texts -/
theorem inV_int (i : Int) (ns : List Int) : inV (.int i) (ns.map V.int) = decide (i ∈ ns) := by
  unfold inV
  rw [List.any_map, Bool.eq_iff_iff, List.any_eq_true, decide_eq_true_iff]
  constructor
  · rintro ⟨x, h1, h2⟩
    have e : x = i := by simpa [eqV] using h2
    exact e ▸ h1
  · intro h
    exact ⟨i, h, by simp [eqV]⟩
theorem inV_str (i : Str) (ns : List Str) : inV (.str i) (ns.map V.str) = decide (i ∈ ns) := by
  unfold inV
  rw [List.any_map, Bool.eq_iff_iff, List.any_eq_true, decide_eq_true_iff]
  constructor
  · rintro ⟨x, h1, h2⟩
    have e : x = i := by simpa [eqV] using h2
    exact e ▸ h1
  · intro h
    exact ⟨i, h, by simp [eqV]⟩
theorem flat_ints (ns : List Int) : (ns.map V.int).all flatV = true := by
  rw [List.all_map, List.all_eq_true]
  intro x _
  rfl
theorem flat_strs' (ns : List Str) : (ns.map V.str).all flatV = true := by
  rw [List.all_map, List.all_eq_true]
  intro x _
  rfl
theorem dc_inIL {ns : List Int} (hm : behindInMarks .In b = false) (ha : DX T X Γ a (dat (.int i))) (hb : DX T X Γ b (dat (.list (ns.map .int)))) : DC T X Γ a .In b (dat (.bool (decide (i ∈ ns)))) :=
  dc_mk op_in_seq hm ha hb fun x y H Q h1 h2 q => by
    cases dat_int h1
    obtain ⟨l, xs, rfl, e1, f1⟩ := dat_lst h2
    cases dqa_ints f1
    refine ⟨l, _, rfl, .inl (SqL.of e1), rfl, flat_ints ns, q _ H (Ge.refl H) ?_⟩
    rw [inV_int]
    exact .bl _
theorem dc_inIT {ns : List Int} (hm : behindInMarks .In b = false) (ha : DX T X Γ a (dat (.int i))) (hb : DX T X Γ b (dat (.tuple (ns.map .int)))) : DC T X Γ a .In b (dat (.bool (decide (i ∈ ns)))) :=
  dc_mk op_in_seq hm ha hb fun x y H Q h1 h2 q => by
    cases dat_int h1
    obtain ⟨l, xs, rfl, e1, f1⟩ := dat_tup h2
    cases dqa_ints f1
    refine ⟨l, _, rfl, .inr (sqT_rd e1), rfl, flat_ints ns, q _ H (Ge.refl H) ?_⟩
    rw [inV_int]
    exact .bl _
theorem dc_notInIL {ns : List Int} (hm : behindInMarks .NotIn b = false) (ha : DX T X Γ a (dat (.int i))) (hb : DX T X Γ b (dat (.list (ns.map .int)))) : DC T X Γ a .NotIn b (dat (.bool (!decide (i ∈ ns)))) :=
  dc_mk op_notIn_seq hm ha hb fun x y H Q h1 h2 q => by
    cases dat_int h1
    obtain ⟨l, xs, rfl, e1, f1⟩ := dat_lst h2
    cases dqa_ints f1
    refine ⟨l, _, rfl, .inl (SqL.of e1), rfl, flat_ints ns, q _ H (Ge.refl H) ?_⟩
    rw [inV_int]
    exact .bl _
theorem dc_notInIT {ns : List Int} (hm : behindInMarks .NotIn b = false) (ha : DX T X Γ a (dat (.int i))) (hb : DX T X Γ b (dat (.tuple (ns.map .int)))) : DC T X Γ a .NotIn b (dat (.bool (!decide (i ∈ ns)))) :=
  dc_mk op_notIn_seq hm ha hb fun x y H Q h1 h2 q => by
    cases dat_int h1
    obtain ⟨l, xs, rfl, e1, f1⟩ := dat_tup h2
    cases dqa_ints f1
    refine ⟨l, _, rfl, .inr (sqT_rd e1), rfl, flat_ints ns, q _ H (Ge.refl H) ?_⟩
    rw [inV_int]
    exact .bl _
theorem dc_notInST {i : Str} {ns : List Str} (hm : behindInMarks .NotIn b = false) (ha : DX T X Γ a (dat (.str i))) (hb : DX T X Γ b (dat (.tuple (ns.map .str)))) : DC T X Γ a .NotIn b (dat (.bool (!decide (i ∈ ns)))) :=
  dc_mk op_notIn_seq hm ha hb fun x y H Q h1 h2 q => by
    cases dat_str h1
    obtain ⟨l, xs, rfl, e1, f1⟩ := dat_tup h2
    cases dqa_strs f1
    refine ⟨l, _, rfl, .inr (sqT_rd e1), rfl, flat_strs' ns, q _ H (Ge.refl H) ?_⟩
    rw [inV_str]
    exact .bl _
theorem dc_notInSL {i : Str} {ns : List Str} (hm : behindInMarks .NotIn b = false) (ha : DX T X Γ a (dat (.str i))) (hb : DX T X Γ b (dat (.list (ns.map .str)))) : DC T X Γ a .NotIn b (dat (.bool (!decide (i ∈ ns)))) :=
  dc_mk op_notIn_seq hm ha hb fun x y H Q h1 h2 q => by
    cases dat_str h1
    obtain ⟨l, xs, rfl, e1, f1⟩ := dat_lst h2
    cases dqa_strs f1
    refine ⟨l, _, rfl, .inl (SqL.of e1), rfl, flat_strs' ns, q _ H (Ge.refl H) ?_⟩
    rw [inV_str]
    exact .bl _
/-- one sign in a text -/
theorem dc_inC {k : Nat} {z : Str} (hm : behindInMarks .In b = false) (ha : DX T X Γ a (dat (.str ⟨#[k]⟩))) (hb : DX T X Γ b (dat (.str z))) : DC T X Γ a .In b (dat (.bool (decide (k ∈ z.cps.toList)))) :=
  dc_mk op_in_sign hm ha hb fun x y H Q h1 h2 q => by
    cases dat_str h1
    cases dat_str h2
    exact ⟨k, z, rfl, rfl, q _ H (Ge.refl H) (.bl _)⟩
/-! ### isinstance -/
def tyName : PyData → String
  | .none => "NoneType"
  | .bool _ => "bool"
  | .int _ => "int"
  | .str _ => "str"
  | .list _ => "list"
  | .tuple _ => "tuple"
  | .dict _ => "dict"
theorem dq_ty {K : PySem.W.Frag} {H : Hp} {v : V} {d : PyData} (h : Dq H v d) : TyX K H v (.type (tyName d)) := by
  cases h with
  | non => exact .base .non
  | bl b => exact .base (.bl b)
  | int i => exact .base (.int i)
  | str x => exact .base (.str x)
  | lst h1 h2 => exact .base (.lst h1)
  | tup h1 h2 => exact h1.elim (fun h1 => .base (.tup h1)) fun ⟨o, h1⟩ => .fTuple h1
theorem dx_isi {d : PyData} {n : String} {y : Str} {k : Bool} {py : Pos} (hm : X.mg "isinstance" = none) (hmy : X.mg y = none) (hv : bootBuiltins y = some (.type n)) (ha : DX T X Γ a (dat d)) (hk : kitB (tyName d) n = some k) (hg : Gl X "isinstance" := by rfl) (hgy : Gl X y := by rfl)
    (hy1 : y ≠ "__name__" := by decide) (hy2 : (y == ("__debug__" : Str)) = false := by decide)
    (he : starEach [a, .Name y py] X.env = (false, eval a X.env) :: starEach [.Name y py] X.env := by rfl) (he2 : starEach [.Name y py] X.env = (false, eval (.Name y py) X.env) :: starEach [] X.env := by rfl) (hpl : (backTo pos (starEach [.Name y py] X.env)).any (·.1) = false := by rfl) : DX T X Γ (.Call (.Name "isinstance" p) [a, .Name y py] [] pos) (dat (.bool k)) :=
  dx_callB call_isi hm (by decide +kernel) (da_cons ha (da_cons (t := tyv (.ty n)) (dx_c (pe_bltn (v := .ty n) hgy hmy hv rfl hy1 hy2) fun _ => rfl) da_nil he2) he) (fun vs H Q h q => by
    obtain ⟨v, w, rfl, h1, rfl⟩ := tyAll2 h
    exact ⟨v, .ty n, _, _, k, rfl, .ty n, dq_ty h1, kit_ty hk, q _ H (Ge.refl H) (.bl _)⟩) hg (by decide) (by decide) he hpl
/-! ### methods of lists and tuples -/
theorem call_count_flat : MtR X "list.count" (fun x xs H Q => ∃ p ys z, x = .ref p ∧ xs = [z] ∧ SqL X.K H p ys ∧ flatV z = true ∧ ys.all flatV = true ∧ Q (.int (ys.countP (fun y => eqV y z) : Nat)) H) := by
  intro pins s σ H x xs v us Q I rx rxs h
  obtain ⟨p, ys, z, rfl, rfl, hs, f1, f2, q⟩ := h
  cases rx
  obtain ⟨u, rfl, ru⟩ := rxs.one
  obtain ⟨its, rv, ⟨⟨cls, dd, data, sl⟩, n, ho, hc, hdn, hd⟩, hlen⟩ := I.list hs
  simp only at hc hd
  subst hc hd
  refine call_meets PySem.F.slot_list_count ⟨_, ho, rfl⟩ PySem.F.entry_list_count (PySem.F.args_list_count_2 _ _)
    (SeqAt.list_countAt p its.toArray n dd sl u (eqU z)) ⟨ho, fun y hy => mem_eqAt ru f1 rv f2 y (by simpa using hy), ?_⟩
  have ec : ∀ (ys : List V) (us : List Value), Vals ys us → ys.all flatV = true → us.countP (eqU z) = ys.countP (fun y => eqV y z) := by
    intro ys us r
    induction r with
    | nil => intro _; rfl
    | cons r1 r2 ih =>
      intro f
      rw [List.all_cons, Bool.and_eq_true] at f
      rw [List.countP_cons, List.countP_cons, ih f.2, eqU_of r1 f.1]
  refine ⟨.int (ys.countP (fun y => eqV y z) : Nat), H, I.tok _, ⟨s.toks, ?_⟩, q⟩
  show Value.int ((its.toArray.toList.countP (eqU z) : Nat) : Int) s.toks = _
  rw [show its.toArray.toList = its from by simp, ec ys its rv f2]
theorem countP_bl (bs : List Bool) : (bs.map V.bl).countP (fun y => eqV y (.bl true)) = bs.countP id := by
  rw [List.countP_map]
  congr 1
  funext k
  cases k <;> rfl
theorem dx_countB {bs : List Bool} (ha : DX T X Γ a (dat (.list (bs.map .bool)))) (hb : DX T X Γ b (dat (.bool true))) (hbase : attributeBase a "count" X.env (eval a X.env) = eval a X.env := by rfl)
    (hfew : ((backTo pos (starEach (b :: []) X.env)).all (fun x => !x.1) && (backToKw pos (keywordEach [] X.env)).all (fun x => x.1.isSome)
      && decide ((b :: []).length + ([] : List Keyword).length + (if ([] : List Keyword).isEmpty then 0 else 1) < 30)) = true := by rfl)
    (hline : (apos.endLine == pos.line) = true := by rfl) (hs : starEach (b :: []) X.env = (false, eval b X.env) :: starEach [] X.env := by rfl) : DX T X Γ (.Call (.Attribute a "count" apos) [b] [] pos) (dat (.int (bs.countP id : Nat))) := fun σ H s Q q =>
  we_of (pe_bm PySem.F.plainAttrs_list PySem.F.slot_list_count PySem.F.type_list_count call_count_flat pe_we (pa_cons pe_we pa_nil hs) hbase hfew hline hs rfl) (ha σ H s _ fun x H1 g1 p1 => by
    obtain ⟨l, xs, rfl, h1, h2⟩ := dat_lst p1
    refine ⟨.inl ⟨rfl, _, .inl (.inl h1)⟩, hb σ H1 (s.ext g1.ext) _ fun y H2 g2 p2 => ?_⟩
    cases dat_bl p2
    cases dqa_bls h2
    refine ⟨l, bs.map V.bl, .bl true, rfl, rfl, SqL.of (g2.ext _ _ h1 fun _ z => by cases z), rfl, ?_, q _ H2 (g1.trans g2) ?_⟩
    · rw [List.all_map, List.all_eq_true]
      intro _ _
      rfl
    · rw [countP_bl]
      exact .int _)
end
end G
set_option Elab.async false
set_option linter.all false
set_option maxRecDepth 100000
set_option maxHeartbeats 1000000
namespace G
open PySem PySem.Spec L2 LamX NdefX

/-! ### what is walked -/
structure Steps (T : List NTab) (J : It) (H0 : Hp) (ts : List Ty) : Prop where
  go : ∀ (i : Nat) (t : Ty), ts[i]? = some t → ∀ (L : List (Addr × HO)) (Hb : Hp), Fr L → Apart Hb L → Ge T H0 Hb → J.go i (addAll Hb L) ∧ ∀ x H'', J.yld i (addAll Hb L) x H'' → ∃ Hc, H'' = addAll Hc L ∧ Apart Hc L ∧ Ge T Hb Hc ∧ t.P x Hc
  stop : ∀ (L : List (Addr × HO)) (Hb : Hp), Fr L → Apart Hb L → Ge T H0 Hb → J.stop ts.length (addAll Hb L)
def WI (X : Cx) (tg iter : Expr) : TI := fun σ H R => ∀ (pins : List (Addr × Obj)) (s : Shared), Inv X pins σ H s →
    wpAny (model X.prog X.w) X.A (eval iter X.env) (fun v s1 => wpAny (model X.prog X.w) X.A (pyIter v) (PIE X pins σ tg R) X.xe s1) X.xe s
theorem pi_wi {X : Cx} {tg iter : Expr} : PI X tg iter (WI X tg iter) := ⟨fun pins s σ H R I h => h pins s I⟩
theorem wi_of {X : Cx} {tg iter : Expr} {wi : TI} {σ : L2.St} {H : Hp} {R : It → Hp → Prop} (h : PI X tg iter wi) (q : wi σ H R) : WI X tg iter σ H R := fun pins s I => h.run pins s σ H R I q
def WG (X : Cx) (tg : Expr) : TG := fun v σ H Q => ∀ (pins : List (Addr × Obj)) (s : Shared) (u : Value), Inv X pins σ H s → RelV v u →
    wpAny (model X.prog X.w) X.A (assign tg X.env u) (fun _ s' => ∃ σ' H', Inv X pins σ' H' s' ∧ Q σ' H') X.xe s
theorem pg_wg {X : Cx} {tg : Expr} : PG X tg (WG X tg) := ⟨fun pins s σ H v u Q I r h => h pins s u I r⟩
theorem wg_of {X : Cx} {tg : Expr} {g : TG} {v : V} {σ : L2.St} {H : Hp} {Q : L2.St → Hp → Prop} (h : PG X tg g) (q : g v σ H Q) : WG X tg v σ H Q := fun pins s u I r => h.run pins s σ H v u Q I r q
def DI (T : List NTab) (X : Cx) (Γ : Gam) (tg iter : Expr) (ts : List Ty) : Prop := ∀ σ H, Sat Γ σ H → ∀ R : It → Hp → Prop, (∀ J H1, Ge T H H1 → Steps T J H1 ts → R J H1) → WI X tg iter σ H R
/-- a list owned apart: new objects go below -/
theorem upd_comm {H : Hp} {a b : Addr} {o u : HO} (h : a ≠ b) : upd (upd H a o) b u = upd (upd H b u) a o := by
  funext c
  unfold upd
  by_cases h1 : c = b
  · by_cases h2 : c = a
    · exact absurd (h2.symm.trans h1) h
    · rw [if_pos h1, if_neg h2, if_pos h1]
  · by_cases h2 : c = a
    · rw [if_neg h1, if_pos h2, if_pos h2]
    · rw [if_neg h1, if_neg h2, if_neg h2, if_neg h1]
theorem addAll_upd {H : Hp} {b : Addr} {u : HO} : ∀ {L : List (Addr × HO)}, b ∉ L.map (·.1) → upd (addAll H L) b u = addAll (upd H b u) L
  | [], _ => rfl
  | (a, o) :: L, h => by
    have h1 : a ≠ b := fun z => h (by rw [z]; exact List.mem_cons_self)
    have h2 : b ∉ L.map (·.1) := fun z => h (List.mem_cons_of_mem _ z)
    show upd (upd (addAll H L) a o) b u = upd (addAll (upd H b u) L) a o
    rw [upd_comm h1, addAll_upd h2]
/-- a new object, over a frame -/
theorem new_over {T : List NTab} {H : Hp} {L : List (Addr × HO)} {p : Addr} {o : HO} (ap : Apart H L) (hp : addAll H L p = none) : upd (addAll H L) p o = addAll (upd H p o) L ∧ Apart (upd H p o) L ∧ Ge T H (upd H p o) ∧ H p = none := by
  obtain ⟨h1, h2⟩ := addAll_none hp
  refine ⟨addAll_upd h2, fun q hq => ?_, Ge.new h1, h1⟩
  have n : q.1 ≠ p := fun z => h2 (z ▸ List.mem_map.mpr ⟨q, hq, rfl⟩)
  rw [upd_ne n]
  exact ap q hq
section
variable {T : List NTab} {X : Cx} {Γ : Gam} {a b c e tg : Expr} {es rest : List Expr} {pos p apos p2 : Pos} {ta tb tc t : Ty} {x : Str} {i j : Int}
theorem in_all {H Hb : Hp} {L : List (Addr × HO)} {v : V} (t : Ty) (g : Ge T H Hb) (f : Fr L) (ap : Apart Hb L) (h : t.P v H) : t.P v (addAll Hb L) := t.mono (g.trans (ge_addAll (T := T) f ap)).ext h
theorem steps_list {K : PySem.W.Frag} {H : Hp} {l : Addr} {xs : List V} {ds : List PyData} (h : H l = some (.lst xs)) (hd : DqAll H xs ds) : Steps T (Itl K l) H (ds.map dat) where
  go := fun i t e L Hb f ap g => by
    have q : Ex H (addAll Hb L) := (g.trans (ge_addAll (T := T) f ap)).ext
    have hl : addAll Hb L l = some (.lst xs) := q _ _ h fun _ z => by cases z
    rw [List.getElem?_map] at e
    obtain ⟨d, e1, rfl⟩ := Option.map_eq_some_iff.mp e
    obtain ⟨v, hv, pv⟩ := dqa_get hd e1
    refine ⟨⟨xs, v, SqL.of hl, hv⟩, fun x H'' y => ⟨Hb, y.1, ap, Ge.refl _, ?_⟩⟩
    have e2 := y.2 xs (SqL.of hl)
    rw [hv] at e2
    cases e2
    exact (dat d).mono g.ext pv
  stop := fun L Hb f ap g => by
    have q : Ex H (addAll Hb L) := (g.trans (ge_addAll (T := T) f ap)).ext
    exact ⟨xs, SqL.of (q _ _ h fun _ z => by cases z), by rw [List.length_map, dqa_len hd]; exact Nat.le_refl _⟩
theorem steps_tup {K : PySem.W.Frag} {H : Hp} {l : Addr} {xs : List V} {ds : List PyData} (h : Rd H l (.tup xs)) (hd : DqAll H xs ds) : Steps T (Itt K l) H (ds.map dat) where
  go := fun i t e L Hb f ap g => by
    have q : Ex H (addAll Hb L) := (g.trans (ge_addAll (T := T) f ap)).ext
    have hl : Rd (addAll Hb L) l (.tup xs) := rd_ext q h
    rw [List.getElem?_map] at e
    obtain ⟨d, e1, rfl⟩ := Option.map_eq_some_iff.mp e
    obtain ⟨v, hv, pv⟩ := dqa_get hd e1
    refine ⟨⟨xs, v, sqT_rd hl, hv⟩, fun x H'' y => ⟨Hb, y.1, ap, Ge.refl _, ?_⟩⟩
    have e2 := y.2 xs (sqT_rd hl)
    rw [hv] at e2
    cases e2
    exact (dat d).mono g.ext pv
  stop := fun L Hb f ap g => by
    have q : Ex H (addAll Hb L) := (g.trans (ge_addAll (T := T) f ap)).ext
    exact ⟨xs, sqT_rd (rd_ext q h), by rw [List.length_map, dqa_len hd]; exact Nat.le_refl _⟩
theorem di_list {ds : List PyData} (h : DX T X Γ e (dat (.list ds))) : DI T X Γ tg e (ds.map dat) := fun σ H s R q => wi_of (pi_list pe_we) (h σ H s _ fun v H' g p => by
  obtain ⟨l, xs, rfl, h1, h2⟩ := dat_lst p
  exact ⟨l, rfl, ⟨xs, SqL.of h1⟩, q _ H' g (steps_list h1 h2)⟩)
theorem di_tup {ds : List PyData} (h : DX T X Γ e (dat (.tuple ds))) : DI T X Γ tg e (ds.map dat) := fun σ H s R q => wi_of (pi_tup pe_we) (h σ H s _ fun v H' g p => by
  obtain ⟨l, xs, rfl, h1, h2⟩ := dat_tup p
  exact ⟨l, rfl, ⟨xs, sqT_rd h1⟩, q _ H' g (steps_tup h1 h2)⟩)
theorem di_tupM {α : Type} {xs : List α} {r : α → PyData} (h : DX T X Γ e (dat (.tuple (xs.map r)))) : DI T X Γ tg e (xs.map fun x => dat (r x)) := by
  have q := di_tup (tg := tg) h
  rw [List.map_map] at q
  exact q
theorem di_listM {α : Type} {xs : List α} {r : α → PyData} (h : DX T X Γ e (dat (.list (xs.map r)))) : DI T X Γ tg e (xs.map fun x => dat (r x)) := by
  have q := di_list (tg := tg) h
  rw [List.map_map] at q
  exact q
theorem steps_range {H : Hp} {lo : Int} {n : Nat} : Steps T (Itr lo n) H ((List.range n).map fun (k : Nat) => dat (.int (lo + (k : Int)))) where
  go := fun i t e L Hb f ap g => by
    rw [List.getElem?_map] at e
    obtain ⟨d, e1, rfl⟩ := Option.map_eq_some_iff.mp e
    have hi : i < n := by
      have q := (List.getElem?_eq_some_iff.mp e1).1
      rw [List.length_range] at q
      exact q
    have hd : i = d := by
      rw [List.getElem?_range hi] at e1
      exact Option.some.inj e1
    subst hd
    exact ⟨hi, fun x H'' y => ⟨Hb, y.1, ap, Ge.refl _, by rw [y.2]; exact .int _⟩⟩
  stop := fun L Hb f ap g => by
    show n ≤ _
    rw [List.length_map, List.length_range]
    exact Nat.le_refl _
theorem di_range1 {n : Int} (hm : X.mg "range" = none) (hn : 0 ≤ n ∧ n ≤ 1000000) (h : DX T X Γ a (dat (.int n))) (hg : Gl X "range" := by rfl) (hs : starEach [a] X.env = [(false, eval a X.env)] := by rfl) : DI T X Γ tg (.Call (.Name "range" p) [a] [] pos) ((List.range n.toNat).map fun (k : Nat) => dat (.int (0 + (k : Int)))) :=
  fun σ H s R q => wi_of (pi_range1 hg hm (pa_cons pe_we pa_nil hs) hs) (h σ H s _ fun v H' g p => ⟨n, by rw [dat_int p], by omega, by omega, q _ H' g steps_range⟩)
theorem di_range2 {m n : Int} (hm : X.mg "range" = none) (h1 : -1000000 ≤ m ∧ m ≤ 1000000) (hn : -1000000 ≤ n ∧ n ≤ 1000000) (ha : DX T X Γ a (dat (.int m))) (hb : DX T X Γ b (dat (.int n))) (hg : Gl X "range" := by rfl)
    (hs : starEach [a, b] X.env = [(false, eval a X.env), (false, eval b X.env)] := by rfl) (hs2 : starEach [b] X.env = [(false, eval b X.env)] := by rfl) : DI T X Γ tg (.Call (.Name "range" p) [a, b] [] pos) ((List.range (n - m).toNat).map fun (k : Nat) => dat (.int (m + (k : Int)))) :=
  fun σ H s R q => wi_of (pi_range2 hg hm (pa_cons pe_we (pa_cons pe_we pa_nil hs2) (by rw [hs, hs2])) hs hs2) (ha σ H s _ fun v H' g p => hb σ H' (s.ext g.ext) _ fun v2 H2 g2 p2 => ⟨m, n, by rw [dat_int p, dat_int p2], ⟨by omega, by omega, by omega, by omega⟩, q _ H2 (g.trans g2) steps_range⟩)
theorem di_str {z : Str} (h : DX T X Γ e (dat (.str z))) : DI T X Γ tg e (z.cps.toList.map fun k => dat (.str ⟨#[k]⟩)) := fun σ H s R q => wi_of (pi_str pe_we) (h σ H s _ fun v H' g p => by
  cases dat_str p
  refine ⟨z, rfl, q _ H' g ⟨fun i t e L Hb f ap g => ?_, fun L Hb f ap g => ?_⟩⟩
  · rw [List.getElem?_map] at e
    obtain ⟨d, e1, rfl⟩ := Option.map_eq_some_iff.mp e
    have e2 : z.cps[i]? = some d := by simpa using e1
    refine ⟨?_, fun x H'' y => ⟨Hb, y.1, ap, Ge.refl _, ?_⟩⟩
    · show i < z.cps.size
      exact (Array.getElem?_eq_some_iff.mp e2).1
    · obtain ⟨c, e3, rfl⟩ := y.2
      rw [e2] at e3
      cases e3
      exact .str _
  · show z.cps.size ≤ _
    rw [List.length_map, Array.length_toList]
    exact Nat.le_refl _)
theorem di_zipT {ds fs : List PyData} {elts : List Expr} {kk : Nat} {tpos : Pos} (hm : X.mg "zip" = none) (ha : DX T X Γ a (dat (.tuple ds))) (hb : DX T X Γ b (dat (.tuple fs))) (hg : Gl X "zip" := by rfl)
    (hs : starEach [a, b] X.env = (false, eval a X.env) :: starEach [b] X.env := by rfl) (hs2 : starEach [b] X.env = (false, eval b X.env) :: starEach [] X.env := by rfl) (hpl : (backTo pos (starEach [b] X.env)).any (·.1) = false := by rfl) : DI T X Γ (.Tuple elts kk tpos) (.Call (.Name "zip" p) [a, b] [] pos) ((ds.zip fs).map fun q => dat (.tuple [q.1, q.2])) :=
  fun σ H s R q => wi_of (RZ.pi_zipA hg hm (pa_cons pe_we (pa_cons pe_we pa_nil hs2) hs) hs hpl) (ha σ H s _ fun v H' g p => hb σ H' (s.ext g.ext) _ fun v2 H2 g2 p2 => by
    obtain ⟨l, xs, rfl, h1, h2⟩ := dat_tup ((dat (.tuple ds)).mono g2.ext p)
    obtain ⟨m, ys, rfl, h3, h4⟩ := dat_tup p2
    refine ⟨l, m, xs, ys, rfl, .inr ⟨sqT_rd h1, sqT_rd h3, q _ H2 (g.trans g2) ⟨fun i t e L Hb f ap g => ?_, fun L Hb f ap g => ?_⟩⟩⟩
    · have q1 : Ex H2 (addAll Hb L) := (g.trans (ge_addAll (T := T) f ap)).ext
      have k1 : Rd (addAll Hb L) l (.tup xs) := rd_ext q1 h1
      have k2 : Rd (addAll Hb L) m (.tup ys) := rd_ext q1 h3
      rw [List.getElem?_map] at e
      obtain ⟨d, e1, rfl⟩ := Option.map_eq_some_iff.mp e
      obtain ⟨e2, e3⟩ := List.getElem?_zip_eq_some.mp e1
      obtain ⟨v, hv, pv⟩ := dqa_get h2 e2
      obtain ⟨w, hw, pw⟩ := dqa_get h4 e3
      refine ⟨⟨xs, ys, v, w, sqT_rd k1, sqT_rd k2, hv, hw⟩, fun x H'' y => ?_⟩
      obtain ⟨P, x1, y1, rfl, hP, rfl, ex, ey⟩ := y
      have e4 := ex xs (sqT_rd k1)
      have e5 := ey ys (sqT_rd k2)
      rw [hv] at e4
      rw [hw] at e5
      cases e4
      cases e5
      obtain ⟨n1, n2, n3, n4⟩ := new_over (T := T) (o := .tup [v, w]) ap hP
      exact ⟨_, n1, n2, n3, .tup (.inl upd_same) (.cons ((dat _).mono (g.trans n3).ext pv) (.cons ((dat _).mono (g.trans n3).ext pw) .nil))⟩
    · have q1 : Ex H2 (addAll Hb L) := (g.trans (ge_addAll (T := T) f ap)).ext
      have k1 : Rd (addAll Hb L) l (.tup xs) := rd_ext q1 h1
      have k2 : Rd (addAll Hb L) m (.tup ys) := rd_ext q1 h3
      refine ⟨xs, ys, sqT_rd k1, sqT_rd k2, ?_⟩
      rw [List.length_map, List.length_zip, dqa_len h2, dqa_len h4]
      omega)

/-! ### targets -/
def Out (js : List Nat) (σ σ' : L2.St) : Prop := σ'.length = σ.length ∧ ∀ i, i ∉ js → σ'[i]? = σ[i]?
def DG (X : Cx) (tg : Expr) (t : Ty) (Γ Γ' : Gam) (js : List Nat) : Prop := ∀ (v : V) (σ : L2.St) (Hb H : Hp), Ex Hb H → t.P v Hb → Sat Γ σ Hb → ∀ Q : L2.St → Hp → Prop, (∀ σ', Sat Γ' σ' Hb → Out js σ σ' → Q σ' H) → WG X tg v σ H Q
theorem out_set {σ : L2.St} {i : Nat} {o : Option V} : Out [i] σ (σ.set i o) := ⟨List.length_set, fun j hj => List.getElem?_set_ne fun z => hj (by simp [z])⟩
theorem Out.trans {js ks : List Nat} {σ σ1 σ2 : L2.St} (a : Out js σ σ1) (b : Out ks σ1 σ2) : Out (js ++ ks) σ σ2 := ⟨b.1.trans a.1, fun i hi => by
  rw [List.mem_append, not_or] at hi
  rw [b.2 i hi.2, a.2 i hi.1]⟩
theorem dg_name (i : Nat) (nd : X.N.Nodup) (hi : X.N[i]? = some x := by rfl) (hx : Loc X.env.scope x := by first | exact Or.inl rfl | exact Or.inr rfl) (hf : X.fn x = true ∨ X.env.scope.names.lookup x = some .local := by first | exact .inl rfl | exact .inr rfl) : DG X (.Name x pos) t Γ (Γ.set i (some t)) [i] :=
  fun v σ Hb H e h s Q q => wg_of (pg_name nd hi hx hf) (q _ (s.set h) out_set)
theorem dg_tup2 {d1 d2 : PyData} {x1 x2 : Str} {i1 i2 : Nat} {q1 q2 : Pos} {kk : Nat} (hc : X.calm = true) (nd : X.N.Nodup) (hi1 : X.N[i1]? = some x1 := by rfl) (hx1 : Loc X.env.scope x1 := by first | exact Or.inl rfl | exact Or.inr rfl) (hf1 : X.fn x1 = true ∨ X.env.scope.names.lookup x1 = some .local := by first | exact .inl rfl | exact .inr rfl)
    (hi2 : X.N[i2]? = some x2 := by rfl) (hx2 : Loc X.env.scope x2 := by first | exact Or.inl rfl | exact Or.inr rfl) (hf2 : X.fn x2 = true ∨ X.env.scope.names.lookup x2 = some .local := by first | exact .inl rfl | exact .inr rfl) :
    DG X (.Tuple [.Name x1 q1, .Name x2 q2] kk pos) (dat (.tuple [d1, d2])) Γ ((Γ.set i1 (some (dat d1))).set i2 (some (dat d2))) [i1, i2] :=
  fun v σ Hb H e h s Q q => wg_of (pg_tup (n := 2) hc (pgs_cons (pg_name nd hi1 hx1 hf1) (pgs_cons (pg_name nd hi2 hx2 hf2) pgs_nil))) (by
    obtain ⟨l, xs, rfl, h1, h2⟩ := dat_tup h
    cases h2 with
    | cons a1 h2 =>
      cases h2 with
      | cons a2 h2 =>
        cases h2
        exact ⟨l, _, rfl, sqT_rd (rd_ext e h1), rfl, _, _, rfl, _, _, rfl, rfl, q _ ((s.set (t := dat d1) a1).set (t := dat d2) a2) (out_set.trans out_set)⟩)
theorem dg_tup3 {d1 d2 d3 : PyData} {x1 x2 x3 : Str} {i1 i2 i3 : Nat} {q1 q2 q3 : Pos} {kk : Nat} (hc : X.calm = true) (nd : X.N.Nodup) (hi1 : X.N[i1]? = some x1 := by rfl) (hx1 : Loc X.env.scope x1 := by first | exact Or.inl rfl | exact Or.inr rfl) (hf1 : X.fn x1 = true ∨ X.env.scope.names.lookup x1 = some .local := by first | exact .inl rfl | exact .inr rfl)
    (hi2 : X.N[i2]? = some x2 := by rfl) (hx2 : Loc X.env.scope x2 := by first | exact Or.inl rfl | exact Or.inr rfl) (hf2 : X.fn x2 = true ∨ X.env.scope.names.lookup x2 = some .local := by first | exact .inl rfl | exact .inr rfl)
    (hi3 : X.N[i3]? = some x3 := by rfl) (hx3 : Loc X.env.scope x3 := by first | exact Or.inl rfl | exact Or.inr rfl) (hf3 : X.fn x3 = true ∨ X.env.scope.names.lookup x3 = some .local := by first | exact .inl rfl | exact .inr rfl) :
    DG X (.Tuple [.Name x1 q1, .Name x2 q2, .Name x3 q3] kk pos) (dat (.tuple [d1, d2, d3])) Γ (((Γ.set i1 (some (dat d1))).set i2 (some (dat d2))).set i3 (some (dat d3))) [i1, i2, i3] :=
  fun v σ Hb H e h s Q q => wg_of (pg_tup (n := 3) hc (pgs_cons (pg_name nd hi1 hx1 hf1) (pgs_cons (pg_name nd hi2 hx2 hf2) (pgs_cons (pg_name nd hi3 hx3 hf3) pgs_nil)))) (by
    obtain ⟨l, xs, rfl, h1, h2⟩ := dat_tup h
    cases h2 with
    | cons a1 h2 =>
      cases h2 with
      | cons a2 h2 =>
        cases h2 with
        | cons a3 h2 =>
          cases h2
          exact ⟨l, _, rfl, sqT_rd (rd_ext e h1), rfl, _, _, rfl, _, _, rfl, _, _, rfl, rfl, q _ (((s.set (t := dat d1) a1).set (t := dat d2) a2).set (t := dat d3) a3) ((out_set.trans out_set).trans out_set)⟩)
end
end G
set_option Elab.async false
set_option linter.all false
set_option maxRecDepth 100000
set_option maxHeartbeats 1000000
namespace G
open PySem PySem.Spec L2 LamX NdefX

/-! ### what is owned -/
structure OS where
  P : Hp → List (Addr × HO) → Prop
  mono : ∀ {H H' L}, Ex H H' → P H L → P H' L
def oN : OS := ⟨fun _ L => L = [], fun _ h => h⟩
/-- a list of one's own with these data, and more -/
def oC (a : Addr) (ds : List PyData) (O : OS) : OS := ⟨fun H L => ∃ vs L', L = (a, .lst vs) :: L' ∧ DqAll H vs ds ∧ O.P H L', fun e ⟨vs, L', h1, h2, h3⟩ => ⟨vs, L', h1, dqa_ext e _ _ h2, O.mono e h3⟩⟩
def FV (T : List NTab) (Hin : Hp) (Γ : Gam) (O : OS) (σ : L2.St) (H : Hp) (R : Hp → Prop) : Prop :=
  ∃ Hb L, H = addAll Hb L ∧ Fr L ∧ Apart Hb L ∧ Ge T Hin Hb ∧ Sat Γ σ Hb ∧ O.P Hb L ∧ R Hb
def FC (T : List NTab) (Hin : Hp) (Γ : Gam) (O : OS) (σ : L2.St) (H : Hp) : Prop := FV T Hin Γ O σ H fun _ => True

section
variable {T : List NTab} {X : Cx} {Γ Γ' : Gam} {O O' : OS} {Hin : Hp} {σ : L2.St} {H : Hp} {D : Ends} {a b c e tg iter : Expr} {es : List Expr} {st : Stmt} {rest body bl : List Stmt} {pos pos' p apos p2 : Pos} {t u : Ty} {x : Str} {i : Nat} {k : Bool}

/-! ### statements out of sight of what is owned -/
theorem ws_frame {L : List (Addr × HO)} (f : Fr L) (h : Apart H L) (k : WS X st { nx := fun σ' H' => Apart H' L → D.nx σ' (addAll H' L), rt := fun v H' => Apart H' L → D.rt v (addAll H' L), bk := fun σ' H' => Apart H' L → D.bk σ' (addAll H' L), ct := fun σ' H' => Apart H' L → D.ct σ' (addAll H' L) } σ H) : WS X st D σ (addAll H L) := fun pins s I => by
  obtain ⟨ps, I1, _, _, back⟩ := forgetL f h I
  refine thn (k ps s I1) fun fl s' q => ?_
  cases fl with
  | next =>
    obtain ⟨σ', H', I', q⟩ := q
    obtain ⟨h', J⟩ := back _ _ _ I'
    exact ⟨σ', _, J, q h'⟩
  | brk =>
    obtain ⟨σ', H', I', q⟩ := q
    obtain ⟨h', J⟩ := back _ _ _ I'
    exact ⟨σ', _, J, q h'⟩
  | cont =>
    obtain ⟨σ', H', I', q⟩ := q
    obtain ⟨h', J⟩ := back _ _ _ I'
    exact ⟨σ', _, J, q h'⟩
  | ret v =>
    obtain ⟨x, σ', H', I', r, q⟩ := q
    obtain ⟨h', J⟩ := back _ _ _ I'
    exact ⟨x, σ', _, J, r, q h'⟩
theorem wi_frame {L : List (Addr × HO)} {R : It → Hp → Prop} (f : Fr L) (h : Apart H L) (k : WI X tg iter σ H fun J H1 => Apart H1 L → R J (addAll H1 L)) : WI X tg iter σ (addAll H L) R := wi_of (pi_frame pi_wi) ⟨H, L, rfl, f, h, k⟩
theorem fc_we {Q : VK} (c : FC T Hin Γ O σ H) (h : DX T X Γ e t) (q : ∀ v H', FV T Hin Γ O σ H' (t.P v) → Q v H') : WE X e σ H Q := by
  obtain ⟨Hb, L, rfl, f, ap, g, s, o, _⟩ := c
  exact we_frame f ap (h σ Hb s _ fun v H' g' p ap' => q v _ ⟨H', L, rfl, f, ap', g.trans g', s.ext g'.ext, O.mono g'.ext o, p⟩)
theorem fc_wt {Q : Bool → Hp → Prop} (c : FC T Hin Γ O σ H) (h : DT T X Γ e k) (q : ∀ H', FC T Hin Γ O σ H' → Q k H') : WT X e σ H Q := by
  obtain ⟨Hb, L, rfl, f, ap, g, s, o, _⟩ := c
  exact wt_frame f ap (h σ Hb s _ fun H' g' ap' => q _ ⟨H', L, rfl, f, ap', g.trans g', s.ext g'.ext, O.mono g'.ext o, trivial⟩)
theorem FV.fc {R : Hp → Prop} (c : FV T Hin Γ O σ H R) : FC T Hin Γ O σ H := by
  obtain ⟨Hb, L, e, f, ap, g, s, o, _⟩ := c
  exact ⟨Hb, L, e, f, ap, g, s, o, trivial⟩
theorem FV.set {v : V} (c : FV T Hin Γ O σ H (t.P v)) (i : Nat) : FC T Hin (Γ.set i (some t)) O (σ.set i (some v)) H := by
  obtain ⟨Hb, L, e, f, ap, g, s, o, p⟩ := c
  exact ⟨Hb, L, e, f, ap, g, s.set p, o, trivial⟩
theorem FV.done {R : Hp → Prop} (c : FV T Hin Γ oN σ H R) : Ge T Hin H ∧ R H := by
  obtain ⟨Hb, L, e, f, ap, g, s, o, p⟩ := c
  cases o
  subst e
  exact ⟨g, p⟩
theorem FC.sub (c : FC T Hin Γ O σ H) (h : Sub Γ Γ') : FC T Hin Γ' O σ H := by
  obtain ⟨Hb, L, e, f, ap, g, s, o, _⟩ := c
  exact ⟨Hb, L, e, f, ap, g, s.sub h, o, trivial⟩
theorem FC.back {H0 : Hp} (c : FC T Hin Γ O σ H) (g : Ge T H0 Hin) : FC T H0 Γ O σ H := by
  obtain ⟨Hb, L, e, f, ap, g', s, o, _⟩ := c
  exact ⟨Hb, L, e, f, ap, g.trans g', s, o, trivial⟩
theorem fc_start (s : Sat Γ σ H) : FC T H Γ oN σ H := ⟨H, [], rfl, ⟨List.nodup_nil, fun p h => (nomatch h)⟩, fun p h => (nomatch h), Ge.refl H, s, rfl, trivial⟩

/-! ### statements -/
theorem fs_nil (h : D.nx σ H) : WSs X [] D σ H := wss_of pss_nil h
theorem fs_cons (h : WS X st { D with nx := fun σ' H' => WSs X rest D σ' H' } σ H) : WSs X (st :: rest) D σ H := wss_of (pss_cons ps_ws pss_wss) h
/-- the statement reaches C, C serves for what follows -/
theorem fs_seq (C : L2.St → Hp → Prop) (h : WS X st { D with nx := C } σ H) (q : ∀ σ' H', C σ' H' → WSs X rest D σ' H') : WSs X (st :: rest) D σ H :=
  wss_of (C8.pss_cut ps_ws pss_wss) ⟨C, h, q⟩
theorem fs_set (i : Nat) (nd : X.N.Nodup) (c : FC T Hin Γ O σ H) (h : DX T X Γ e t) (k : ∀ σ' H', FC T Hin (Γ.set i (some t)) O σ' H' → WSs X rest D σ' H') (hi : X.N[i]? = some x := by rfl) (hx : Loc X.env.scope x := by first | exact Or.inl rfl | exact Or.inr rfl)
    (hs : swapsWith e (some (.Name x pos')) pos.line X.env = pure false := by rfl) (hf : X.fn x = true ∨ X.env.scope.names.lookup x = some .local := by first | exact .inl rfl | exact .inr rfl) : WSs X (.Assign [.Name x pos'] e pos :: rest) D σ H :=
  fs_cons (ws_of (ps_set nd hi hx pe_we hs hf) (fc_we c h fun v H' c' => k _ _ (c'.set i)))
theorem fs_ret (c : FC T Hin Γ O σ H) (h : DX T X Γ e t) (q : ∀ v H', FV T Hin Γ O σ H' (t.P v) → D.rt v H') : WSs X (.Return (some e) pos :: rest) D σ H :=
  fs_cons (ws_of (ps_ret pe_we) (fc_we c h fun v H' c' => q v H' c'))
/-- the last return of a def -/
theorem fs_retE (c : FC T Hin Γ oN σ H) (h : DX T X Γ e t) (q : ∀ v H', Ge T Hin H' → t.P v H' → D.rt v H') : WSs X (.Return (some e) pos :: rest) D σ H :=
  fs_ret c h fun v H' c' => q v H' c'.done.1 c'.done.2
theorem fs_retN (q : D.rt .non H) : WSs X (.Return none pos :: rest) D σ H := fs_cons (ws_of ps_retN q)
theorem fs_expr (c : FC T Hin Γ O σ H) (h : DX T X Γ e t) (k : ∀ H', FC T Hin Γ O σ H' → WSs X rest D σ H') (hs : swapsWith e none pos.line X.env = pure false := by rfl) : WSs X (.Expr e pos :: rest) D σ H :=
  fs_cons (ws_of (ps_expr pe_we hs) (fc_we c h fun v H' c' => k _ c'.fc))
/-- if: both ways go on with the rest -/
theorem fs_if (c : FC T Hin Γ O σ H) (h : DT T X Γ e k) (q1 : k = true → ∀ H', FC T Hin Γ O σ H' → WSs X body { D with nx := fun σ' H' => WSs X rest D σ' H' } σ H') (q2 : k = false → ∀ H', FC T Hin Γ O σ H' → WSs X bl { D with nx := fun σ' H' => WSs X rest D σ' H' } σ H') : WSs X (.If e body bl pos :: rest) D σ H :=
  fs_cons (ws_of (ps_if pt_wt pss_wss pss_wss) (fc_wt c h fun H' c' => by
    cases k with
    | true => exact iteT (q1 rfl H' c')
    | false => exact iteF (q2 rfl H' c')))
/-- if without else -/
theorem fs_if1 (c : FC T Hin Γ O σ H) (h : DT T X Γ e k) (q1 : k = true → ∀ H', FC T Hin Γ O σ H' → WSs X body { D with nx := fun σ' H' => WSs X rest D σ' H' } σ H') (q2 : k = false → ∀ H', FC T Hin Γ O σ H' → WSs X rest D σ H') : WSs X (.If e body [] pos :: rest) D σ H :=
  fs_if c h q1 fun hk H' c' => fs_nil (q2 hk H' c')
/-- the test only -/
theorem fw_if (c : FC T Hin Γ O σ H) (h : DT T X Γ e k) (q1 : k = true → ∀ H', FC T Hin Γ O σ H' → WSs X body D σ H') (q2 : k = false → ∀ H', FC T Hin Γ O σ H' → WSs X bl D σ H') : WS X (.If e body bl pos) D σ H :=
  ws_of (ps_if pt_wt pss_wss pss_wss) (fc_wt c h fun H' c' => by
    cases k with
    | true => exact iteT (q1 rfl H' c')
    | false => exact iteF (q2 rfl H' c'))
theorem fs_aug (i : Nat) {m n : Int} (nd : X.N.Nodup) (c : FC T Hin Γ O σ H) (hm : Γ[i]? = some (some (dat (.int m)))) (h : DX T X Γ e (dat (.int n))) (k : ∀ σ' H', FC T Hin (Γ.set i (some (dat (.int (m + n))))) O σ' H' → WSs X rest D σ' H') (hi : X.N[i]? = some x := by rfl) (hx : Loc X.env.scope x := by first | exact Or.inl rfl | exact Or.inr rfl)
    (hf : X.fn x = true ∨ X.env.scope.names.lookup x = some .local := by first | exact .inl rfl | exact .inr rfl) : WSs X (.AugAssign (.Name x pos') .Add e pos :: rest) D σ H := by
  have c0 := c
  obtain ⟨Hb, L, eH, f, ap, g, s, o, _⟩ := c0
  obtain ⟨v, h1, h2⟩ := s.at_ i _ hm
  cases dat_int h2
  refine fs_cons (ws_of (ps_aug nd hi hx pe_we ip_add hf) ⟨_, h1, fc_we c h fun w H' c' => ?_⟩)
  have hw := c'
  obtain ⟨_, _, _, _, _, _, _, _, p⟩ := hw
  cases dat_int p
  exact ⟨m, n, rfl, rfl, k _ _ (FV.set (t := dat (.int (m + n))) (v := .int (m + n)) (by
    obtain ⟨Hb, L, eH, f, ap, g, s, o, _⟩ := c'
    exact ⟨Hb, L, eH, f, ap, g, s, o, .int _⟩) i)⟩
/-- a target that takes several names -/
theorem fs_asg {js : List Nat} (c : FC T Hin Γ O σ H) (h : DX T X Γ e t) (hg : DG X tg t Γ Γ' js) (k : ∀ σ' H', FC T Hin Γ' O σ' H' → WSs X rest D σ' H') (hs : swapsWithSole [tg] e pos.line X.env = pure false := by rfl) (hw : swappedStores [tg] e X.env = pure none := by rfl)
    (h1 : (assignEach [tg] X.env).map (·.2) = [assign tg X.env] := by rfl) : WSs X (.Assign [tg] e pos :: rest) D σ H :=
  fs_cons (ws_of (ps_asg pe_we pg_wg hs hw h1) (fc_we c h fun v H' c' => by
    obtain ⟨Hb, L, rfl, f, ap, g, s, o, p⟩ := c'
    exact hg v σ Hb _ (ge_addAll (T := T) f ap).ext p s _ fun σ' s' _ => k _ _ ⟨Hb, L, rfl, f, ap, g, s', o, trivial⟩))
/-! ### a list of one's own -/
theorem FC.rel {a : Addr} {ds : List PyData} (c : FC T Hin Γ (oC a ds O) σ H) (i : Nat) (hi : Γ[i]? = some (some (tyv (.ref a)))) : FC T Hin (Γ.set i (some (dat (.list ds)))) O σ H := by
  obtain ⟨Hb, L, rfl, f, ap, g, s, ⟨vs, L', rfl, h2, h3⟩, _⟩ := c
  have ha : Hb a = none := ap _ List.mem_cons_self
  have hn := (List.nodup_cons.mp f.nd).1
  have gn : Ge T Hb (upd Hb a (.lst vs)) := Ge.new ha
  obtain ⟨v, h4, h5⟩ := s.at_ i _ hi
  have hv : v = .ref a := h5
  subst hv
  have es : σ.set i (some (.ref a)) = σ := by
    obtain ⟨hlt, he⟩ := List.getElem?_eq_some_iff.mp h4
    rw [← he]
    exact List.set_getElem_self hlt
  have s2 := (s.ext gn.ext).set (i := i) (t := dat (.list ds)) (v := .ref a) (.lst upd_same (dqa_ext gn.ext _ _ h2))
  rw [es] at s2
  refine ⟨upd Hb a (.lst vs), L', (addAll_upd hn), f.tail, fun q hq => ?_, g.trans gn, s2, O.mono gn.ext h3, trivial⟩
  have nq : q.1 ≠ a := fun z => hn (z ▸ List.mem_map.mpr ⟨q, hq, rfl⟩)
  rw [upd_ne nq]
  exact ap q (List.mem_cons_of_mem _ hq)
/-- name = [] : a new list of one's own -/
theorem fs_own (i : Nat) (nd : X.N.Nodup) (c : FC T Hin Γ O σ H) (h : ∀ pos, PE X (.List [] pos) (tLst tNil)) (k : ∀ a σ' H', FC T Hin (Γ.set i (some (tyv (.ref a)))) (oC a [] O) σ' H' → WSs X rest D σ' H') (hi : X.N[i]? = some x := by rfl) (hx : Loc X.env.scope x := by first | exact Or.inl rfl | exact Or.inr rfl)
    (hs : swapsWith (.List [] p) (some (.Name x pos')) pos.line X.env = pure false := by rfl) (hf : X.fn x = true ∨ X.env.scope.names.lookup x = some .local := by first | exact .inl rfl | exact .inr rfl) : WSs X (.Assign [.Name x pos'] (.List [] p) pos :: rest) D σ H := by
  obtain ⟨Hb, L, rfl, f, ap, g, s, o, _⟩ := c
  refine fs_cons (ws_of (ps_set nd hi hx (h p) hs hf) ⟨Nat.zero_le _, fun r hr => ?_⟩)
  obtain ⟨h1, h2⟩ := addAll_none hr
  refine k r _ _ ⟨Hb, (r, .lst []) :: L, rfl, ⟨List.nodup_cons.mpr ⟨h2, f.nd⟩, fun q hq => ?_⟩, fun q hq => ?_, g, s.set (t := tyv (.ref r)) rfl, ⟨[], L, rfl, .nil, o⟩, trivial⟩
  · rcases List.mem_cons.mp hq with z | z
    · rw [z]
      rfl
    · exact f.pl q z
  · rcases List.mem_cons.mp hq with z | z
    · rw [z]
      exact h1
    · exact ap q z
/-- one's own list, found.append(e) -/
theorem fs_app (i : Nat) {a : Addr} {ds : List PyData} {d : PyData} (c : FC T Hin Γ (oC a ds O) σ H) (hi : Γ[i]? = some (some (tyv (.ref a)))) (hl : ds.length ≤ 100000) (h : DX T X Γ e (dat d)) (k : ∀ H', FC T Hin Γ (oC a (ds ++ [d]) O) σ H' → WSs X rest D σ H')
    (hN : X.N[i]? = some x := by rfl) (hv : Vis X.env.scope x := by first | exact Or.inl rfl | exact Or.inr (Or.inl rfl) | exact Or.inr (Or.inr rfl)) (hd : (x == ("__debug__" : Str)) = false := by decide) (hcd : (x == ("__classdict__" : Str)) = false := by decide)
    (hbase : attributeBase (.Name x p) "append" X.env (eval (.Name x p) X.env) = eval (.Name x p) X.env := by rfl)
    (hfew : ((backTo pos (starEach (e :: []) X.env)).all (fun x => !x.1) && (backToKw pos (keywordEach [] X.env)).all (fun x => x.1.isSome)
      && decide ((e :: []).length + ([] : List Keyword).length + (if ([] : List Keyword).isEmpty then 0 else 1) < 30)) = true := by rfl)
    (hline : (apos.endLine == pos.line) = true := by rfl) (hs : starEach (e :: []) X.env = (false, eval e X.env) :: starEach [] X.env := by rfl)
    (hsw : swapsWith (.Call (.Attribute (.Name x p) "append" apos) [e] [] pos) none p2.line X.env = pure false := by rfl) : WSs X (.Expr (.Call (.Attribute (.Name x p) "append" apos) [e] [] pos) p2 :: rest) D σ H := by
  have hsl : sizeLine > 100000 := by decide
  have c0 := c
  obtain ⟨Hb, L, rfl, f, ap, g, s, ⟨vs, L', rfl, h2, h3⟩, _⟩ := c0
  obtain ⟨v, h4, h5⟩ := s.at_ i _ hi
  have hv' : v = .ref a := h5
  subst hv'
  refine fs_cons (ws_of (ps_expr (pe_bm PySem.F.plainAttrs_list PySem.F.slot_list_append PySem.F.type_list_append mt_append (pe_var hN hv hd hcd) (pa_cons pe_we pa_nil hs) hbase hfew hline hs rfl) hsw) ⟨.ref a, h4, .inl ⟨rfl, _, .inl (.inl (show addAll Hb ((a, HO.lst vs) :: L') a = some (.lst vs) from upd_same))⟩, fc_we c h fun w H' c' => ?_⟩)
  obtain ⟨Hb', L2, rfl, f', ap', g', s', ⟨vs', L'', rfl, h2', h3'⟩, p'⟩ := c'
  have hlen := dqa_len h2'
  refine ⟨a, vs', w, rfl, rfl, upd_same, by omega, k _ ⟨Hb', (a, .lst (vs' ++ [w])) :: L'', ?_, ⟨f'.nd, fun q hq => ?_⟩, fun q hq => ?_, g', s', ⟨_, L'', rfl, dqa_app h2' (.cons p' .nil), h3'⟩, trivial⟩⟩
  · show upd (upd (addAll Hb' L'') a (.lst vs')) a _ = upd (addAll Hb' L'') a _
    exact upd_upd
  · rcases List.mem_cons.mp hq with z | z
    · rw [z]
      rfl
    · exact f'.pl q (List.mem_cons_of_mem _ z)
  · rcases List.mem_cons.mp hq with z | z
    · rw [z]
      exact ap' (a, .lst vs') List.mem_cons_self
    · exact ap' q (List.mem_cons_of_mem _ z)
end
end G
set_option Elab.async false
set_option linter.all false
set_option maxRecDepth 100000
set_option maxHeartbeats 1000000
namespace G
open PySem PySem.Spec L2 LamX NdefX

section
variable {T : List NTab} {X : Cx} {Γ : Gam} {O : OS} {Hin : Hp} {σ : L2.St} {H : Hp} {D : Ends} {a b c e elt tg iter tg1 iter1 : Expr} {es : List Expr} {st : Stmt} {rest body bl : List Stmt} {pos pos' p apos p2 spos : Pos} {t u : Ty} {x : Str} {k : Bool}

/-! ### for, while -/
theorem fs_for {ι : Type} {ts : List Ty} {js : List Nat} (Γf : Nat → ι → Gam) (Of : Nat → ι → OS) (Γx : Nat → ι → Gam) (i0 : ι) (c : FC T Hin (Γf 0 i0) (Of 0 i0) σ H) (hi : DI T X (Γf 0 i0) tg iter ts) (hc : X.calm = true)
    (hg : ∀ n t i, ts[n]? = some t → DG X tg t (Γf n i) (Γx n i) js)
    (hb : ∀ n t i H0, ts[n]? = some t → Ge T Hin H0 → ∀ σ' H', FC T H0 (Γx n i) (Of n i) σ' H' →
      WSs X body { nx := fun σ2 H2 => ∃ i', FC T H0 (Γf (n + 1) i') (Of (n + 1) i') σ2 H2, rt := D.rt, ct := fun σ2 H2 => ∃ i', FC T H0 (Γf (n + 1) i') (Of (n + 1) i') σ2 H2, bk := fun σ2 H2 => WSs X rest D σ2 H2 } σ' H')
    (k : ∀ i σ' H', FC T Hin (Γf ts.length i) (Of ts.length i) σ' H' → WSs X rest D σ' H') (hp : PassesOwn (model X.prog X.w) X.A X.env X.xe := by exact PassesOwn.never) (hs : ∀ x, foldedSetIterable iter X.env x = pure x := by intro _; rfl) :
    WSs X (.For tg iter body [] pos :: rest) D σ H := by
  obtain ⟨Hb, L, rfl, f, ap, g, s, o, _⟩ := c
  refine fs_cons (ws_of (ps_for hp hc pi_wi pg_wg pss_wss hs) (wi_frame f ap (hi σ Hb s _ fun J H1 g1 st ap1 => ⟨fun n m σ2 H2 => m = ts.length - n ∧ n ≤ ts.length ∧ ∃ i, FC T H1 (Γf n i) (Of n i) σ2 H2, ⟨ts.length, by simp, Nat.zero_le _, i0, H1, L, rfl, f, ap1, Ge.refl _, s.ext g1.ext, (Of 0 i0).mono g1.ext o, trivial⟩, ?_⟩)))
  rintro n m σ2 H2 ⟨rfl, hn, i, c2⟩
  obtain ⟨Hb2, L2, rfl, f2, ap2, g2, s2, o2, _⟩ := c2
  by_cases hlt : n < ts.length
  · have e : ts[n]? = some ts[n] := List.getElem?_eq_getElem hlt
    obtain ⟨go, y⟩ := st.go n _ e L2 Hb2 f2 ap2 g2
    refine .inr ⟨go, fun σ2 H2 => ∃ i', FC T H1 (Γf (n + 1) i') (Of (n + 1) i') σ2 H2, fun σ' H' q => ⟨_, by omega, rfl, hlt, q⟩, fun v H' hy => ?_⟩
    obtain ⟨Hc, rfl, apc, gc, px⟩ := y v H' hy
    exact hg n _ i e v σ2 Hc _ (ge_addAll (T := T) f2 apc).ext px (s2.ext gc.ext) _ fun σ' s' _ => hb n _ i H1 e (g.trans g1) σ' _ ⟨Hc, L2, rfl, f2, apc, g2.trans gc, s', (Of n i).mono gc.ext o2, trivial⟩
  · have e : n = ts.length := by omega
    subst e
    exact .inl ⟨st.stop L2 Hb2 f2 ap2 g2, k i _ _ ⟨Hb2, L2, rfl, f2, ap2, (g.trans g1).trans g2, s2, o2, trivial⟩⟩
theorem fs_while {ι : Type} (Γf : ι → Gam) (Of : ι → OS) (μ : ι → Nat) (bf : ι → Bool) (i0 : ι) (c : FC T Hin (Γf i0) (Of i0) σ H) (ht : ∀ i, DT T X (Γf i) e (bf i))
    (hb : ∀ i, bf i = true → ∀ σ' H', FC T Hin (Γf i) (Of i) σ' H' → WSs X body { nx := fun σ2 H2 => ∃ i', μ i' < μ i ∧ FC T Hin (Γf i') (Of i') σ2 H2, rt := D.rt, ct := fun σ2 H2 => ∃ i', μ i' < μ i ∧ FC T Hin (Γf i') (Of i') σ2 H2, bk := fun σ2 H2 => WSs X rest D σ2 H2 } σ' H')
    (k : ∀ i, bf i = false → ∀ σ' H', FC T Hin (Γf i) (Of i) σ' H' → WSs X rest D σ' H') (hp : PassesOwn (model X.prog X.w) X.A X.env X.xe := by exact PassesOwn.never) : WSs X (.While e body [] pos :: rest) D σ H := by
  refine fs_cons (ws_of (ps_while hp pt_wt pss_wss) ⟨fun m σ2 H2 => ∃ i, m = μ i ∧ FC T Hin (Γf i) (Of i) σ2 H2, ⟨_, i0, rfl, c⟩, ?_⟩)
  rintro m σ2 H2 ⟨i, rfl, c2⟩
  refine fc_wt c2 (ht i) fun H3 c3 => ?_
  cases hk : bf i with
  | true => exact iteT ⟨fun σ2 H2 => ∃ i', μ i' < μ i ∧ FC T Hin (Γf i') (Of i') σ2 H2, fun σ' H' ⟨i', h1, h2⟩ => ⟨_, h1, i', rfl, h2⟩, hb i hk _ _ c3⟩
  | false => exact iteF (k i hk _ _ c3)

/-! ### comprehensions -/
def WGb (X : Cx) (scope : Scope) (tg : Expr) : TG := fun v σ H Q => ∀ (s : Shared) (H0 : Hp) (C : Addr) (cl : List (Str × Addr)) (fp : List Addr), WG (X.blk s H0 scope (compEnvC scope cl C X.env) fp) tg v σ H Q
def WEb (X : Cx) (scope : Scope) (e : Expr) : TE := fun σ H Q => ∀ (s : Shared) (H0 : Hp) (C : Addr) (cl : List (Str × Addr)) (fp : List Addr), WE (X.blk s H0 scope (compEnvC scope cl C X.env) fp) e σ H Q
def WTb (X : Cx) (scope : Scope) (e : Expr) : TT := fun σ H Q => ∀ (s : Shared) (H0 : Hp) (C : Addr) (cl : List (Str × Addr)) (fp : List Addr), WT (X.blk s H0 scope (compEnvC scope cl C X.env) fp) e σ H Q
def WIb (X : Cx) (scope : Scope) (tg iter : Expr) : TI := fun σ H Q => ∀ (s : Shared) (H0 : Hp) (C : Addr) (cl : List (Str × Addr)) (fp : List Addr), WI (X.blk s H0 scope (compEnvC scope cl C X.env) fp) tg iter σ H Q
theorem wipe_get {σ : L2.St} {i : Nat} : ∀ {vs : List Nat}, i ∈ vs → (L2.wipe σ vs)[i]? = if i < σ.length then some none else none
  | v :: vs, h => by
    unfold L2.wipe
    by_cases hv : v = i
    · subst hv
      by_cases hl : v < σ.length
      · rw [List.getElem?_set_self (by rw [wipe_length]; exact hl), if_pos hl]
      · rw [List.getElem?_eq_none (by rw [List.length_set, wipe_length]; omega), if_neg hl]
    · rw [List.getElem?_set_ne hv]
      exact wipe_get ((List.mem_cons.mp h).elim (fun z => absurd z.symm hv) id)
theorem wipe_of_out {σ σ2 : L2.St} {js vs : List Nat} (h : ∀ j ∈ js, j ∈ vs) (o : Out js (L2.wipe σ vs) σ2) : L2.wipe σ2 vs = L2.wipe σ vs := by
  have hl : σ2.length = σ.length := o.1.trans (wipe_length _ _)
  refine List.ext_getElem? fun i => ?_
  by_cases hi : i ∈ vs
  · rw [wipe_get hi, wipe_get hi, hl]
  · rw [wipe_out hi]
    exact o.2 i fun z => hi (h i z)
theorem upd_add1 {Hb : Hp} {D : Addr} {o : HO} : addAll Hb [(D, o)] = upd Hb D o := rfl
theorem fr1 {D : Addr} {vs : List V} : Fr [(D, .lst vs)] := ⟨by simp, fun q hq => by
  rw [List.mem_singleton.mp hq]
  rfl⟩
theorem ap1 {Hb : Hp} {D : Addr} {o : HO} (h : Hb D = none) : Apart Hb [(D, o)] := fun q hq => by
  rw [List.mem_singleton.mp hq]
  exact h
theorem ap1' {Hb : Hp} {D : Addr} {o : HO} (h : Apart Hb [(D, o)]) : Hb D = none := h (D, o) (List.mem_singleton.mpr rfl)
section
variable {α β : Type} {xs : List α} {τ : α → Ty} {f : α → Bool} {r : α → PyData} {js : List Nat} {tt : TT} {scope : Scope} {Γ' : α → Gam} {own : List (Str × Nat)} {vs : List Nat}
theorem filter_take_succ {n : Nat} {x : α} (e : xs[n]? = some x) : ((xs.take (n + 1)).filter f).map r = ((xs.take n).filter f).map r ++ (if f x = true then [r x] else []) := by
  rw [List.take_succ, e, List.filter_append, List.map_append]
  congr 1
  simp only [Option.toList_some, List.filter_cons, List.filter_nil]
  split <;> rfl
theorem lc_go (hi : DI T X Γ tg iter (xs.map τ)) (hl : xs.length ≤ 100000)
    (hg : ∀ x ∈ xs, ∀ s H0 C cl fp, DG (X.blk s H0 scope (compEnvC scope cl C X.env) fp) tg (τ x) (wipeG Γ vs) (Γ' x) js) (hjs : ∀ j ∈ js, j ∈ vs)
    (ht : ∀ x ∈ xs, ∀ σ H L, Sat (Γ' x) σ H → Fr L → Apart H L → ∀ Q : Bool → Hp → Prop, (∀ H', Ge T H H' → Apart H' L → Q (f x) (addAll H' L)) → tt σ (addAll H L) Q)
    (he : ∀ x ∈ xs, f x = true → ∀ s H0 C cl fp, DX T (X.blk s H0 scope (compEnvC scope cl C X.env) fp) (Γ' x) elt (dat (r x))) :
    ∀ σ H, Sat Γ σ H → ∀ Q : VK, (∀ v H', Ge T H H' → (dat (.list ((xs.filter f).map r))).P v H' → Q v H') → tLc (WI X tg iter) (WGb X scope tg) tt (WEb X scope elt) vs σ H Q := by
  intro σ H s Q q
  refine hi σ H s _ fun J H1 g1 st D hD => ?_
  refine ⟨fun n m H2 => m = xs.length - n ∧ n ≤ xs.length ∧ ∃ Hb ws, H2 = upd Hb D (.lst ws) ∧ Hb D = none ∧ Ge T H1 Hb ∧ DqAll Hb ws (((xs.take n).filter f).map r), ⟨xs.length, by simp, Nat.zero_le _, H1, [], rfl, hD, Ge.refl _, by rw [List.take_zero]; exact .nil⟩, ?_⟩
  rintro n m H2 ⟨rfl, hn, Hb, ws, rfl, hb, g2, dq⟩
  by_cases hlt : n < xs.length
  · have e : xs[n]? = some xs[n] := List.getElem?_eq_getElem hlt
    have em : (xs.map τ)[n]? = some (τ xs[n]) := by rw [List.getElem?_map, e]; rfl
    have hmem : xs[n] ∈ xs := List.getElem_mem hlt
    generalize xs[n] = x at e em hmem
    obtain ⟨go, y⟩ := st.go n _ em [(D, .lst ws)] Hb fr1 (ap1 hb) g2
    refine .inr ⟨go, fun H' => ∃ Hb ws, H' = upd Hb D (.lst ws) ∧ Hb D = none ∧ Ge T H1 Hb ∧ DqAll Hb ws (((xs.take (n + 1)).filter f).map r), fun H' z => ⟨xs.length - (n + 1), by omega, rfl, hlt, z⟩, fun v H' hy s0 H0 C cl fp => ?_⟩
    obtain ⟨Hc, rfl, apc, gc, px⟩ := y v H' hy
    have sc : Sat (wipeG Γ vs) (L2.wipe σ vs) Hc := (s.ext (g1.trans (g2.trans gc)).ext).wipe vs
    refine hg x hmem s0 H0 C cl fp v _ Hc _ (ge_addAll (T := T) fr1 apc).ext px sc _ fun σ2 s2 out => ⟨wipe_of_out hjs out, ?_⟩
    refine ht x hmem σ2 Hc _ s2 fr1 apc _ fun H3 g3 ap3 => ?_
    have fl := filter_take_succ (f := f) (r := r) e
    cases hf : f x with
    | false =>
      refine iteF ⟨H3, ws, rfl, ap1' ap3, g2.trans (gc.trans g3), ?_⟩
      rw [fl, hf, if_neg Bool.false_ne_true, List.append_nil]
      exact dqa_ext (gc.trans g3).ext _ _ dq
    | true =>
      refine iteT fun s4 H4 C4 cl4 fp4 => we_frame fr1 ap3 (he x hmem hf s4 H4 C4 cl4 fp4 σ2 H3 (s2.ext g3.ext) _ fun w H5 g5 pw ap5 => ?_)
      have d5 := dqa_ext (gc.trans (g3.trans g5)).ext _ _ dq
      have hlen := dqa_len d5
      have hle : (((xs.take n).filter f).map r).length ≤ 100000 := by
        rw [List.length_map]
        exact Nat.le_trans (List.length_filter_le _ _) (Nat.le_trans (List.length_take_le _ _) (by omega))
      refine ⟨ws, upd_same, Nat.lt_of_le_of_lt (hlen ▸ hle) (by decide), H5, ws ++ [w], upd_upd, ap1' ap5, g2.trans (gc.trans (g3.trans g5)), ?_⟩
      rw [fl, hf, if_pos rfl]
      exact dqa_app d5 (.cons pw .nil)
  · have e : n = xs.length := by omega
    subst e
    have hm : (xs.map τ).length = xs.length := List.length_map _
    refine .inl ⟨hm ▸ st.stop [(D, .lst ws)] Hb fr1 (ap1 hb) g2, q _ _ (g1.trans (g2.trans (Ge.new hb))) ?_⟩
    rw [List.take_of_length_le (Nat.le_refl _)] at dq
    exact .lst upd_same (dqa_ext (Ge.new (T := T) hb).ext _ _ dq)
end
end
end G
set_option Elab.async false
set_option linter.all false
set_option maxRecDepth 100000
set_option maxHeartbeats 1000000
namespace G
open PySem PySem.Spec L2 LamX NdefX

section
variable {T : List NTab} {X : Cx} {Γ : Gam} {O : OS} {Hin : Hp} {σ : L2.St} {H : Hp} {D : Ends} {a b c e elt tg iter tg1 iter1 : Expr} {es : List Expr} {st : Stmt} {rest body bl : List Stmt} {pos pos' p apos p2 spos : Pos} {t u : Ty} {y : Str} {py : Pos} {k : Bool}
variable {α β : Type} {xs : List α} {τ : α → Ty} {f : α → Bool} {r : α → PyData} {js : List Nat} {tt : TT} {scope : Scope} {Γ' : α → Gam} {own : List (Str × Nat)} {vs : List Nat}
theorem filter_tt (xs : List α) : xs.filter (fun _ => true) = xs := List.filter_eq_self.mpr fun _ _ => rfl
/-- [elt for tg in iter] -/
theorem dx_lc (own : List (Str × Nat)) (xs : List α) (r : α → PyData) (nd : X.N.Nodup) (hc : X.calm = true) (ok : blkC X.N X.env.scope scope own = true) (hi : DI T X Γ tg iter (xs.map τ)) (hl : xs.length ≤ 100000)
    (hg : ∀ x ∈ xs, ∀ s H0 C cl fp, DG (X.blk s H0 scope (compEnvC scope cl C X.env) fp) tg (τ x) (wipeG Γ (own.map (·.2))) (Γ' x) js)
    (he : ∀ x ∈ xs, ∀ s H0 C cl fp, DX T (X.blk s H0 scope (compEnvC scope cl C X.env) fp) (Γ' x) elt (dat (r x))) (hjs : ∀ j ∈ js, j ∈ own.map (·.2) := by decide) (hs : ∀ x, foldedSetIterable iter X.env x = pure x := by intro _; rfl) : DX T X Γ (.ListComp elt [⟨tg, iter, [], 0⟩] scope pos) (dat (.list (xs.map r))) := fun σ H s Q q =>
  we_of (pe_lc (tt := tYes) (te := WEb X scope elt) (g := WGb X scope tg) hc nd pi_wi (blkOk_by ok) (fun s H C cl fp => ⟨fun pins s1 σ H v u Q I r h => h s _ C cl fp pins s1 u I r⟩) (fun s H C cl fp => pts_nil) (fun s H C cl fp => ⟨fun pins s1 σ H1 Q I h => h s H C cl fp pins s1 I⟩) hs)
    (lc_go (f := fun _ => true) hi hl hg hjs (fun x _ σ H L _ fr ap Q q => q H (Ge.refl H) ap) (fun x hx _ => he x hx) σ H s Q fun v H' g p => q v H' g (by rw [filter_tt] at p; exact p))
theorem wtb_ok {c : Expr} {Γx : Gam} {fx : Bool} (h : ∀ (s : Shared) (H0 : Hp) (C : Addr) (cl : List (Str × Addr)) (fp : List Addr), DT T (X.blk s H0 scope (compEnvC scope cl C X.env) fp) Γx c fx) {σ : L2.St} {H : Hp} {L : List (Addr × HO)} (s : Sat Γx σ H) (fr : Fr L) (ap : Apart H L) {Q : Bool → Hp → Prop} (q : ∀ H', Ge T H H' → Apart H' L → Q fx (addAll H' L)) : WTb X scope c σ (addAll H L) Q := fun s0 H0 C cl fp =>
  wt_frame fr ap (h s0 H0 C cl fp σ H s _ fun H' g a => q H' g a)
/-- [elt for tg in iter if c] -/
theorem dx_lcIf (own : List (Str × Nat)) (xs : List α) (f : α → Bool) (r : α → PyData) (nd : X.N.Nodup) (hc : X.calm = true) (ok : blkC X.N X.env.scope scope own = true) (hi : DI T X Γ tg iter (xs.map τ)) (hl : xs.length ≤ 100000)
    (hg : ∀ x ∈ xs, ∀ s H0 C cl fp, DG (X.blk s H0 scope (compEnvC scope cl C X.env) fp) tg (τ x) (wipeG Γ (own.map (·.2))) (Γ' x) js)
    (ht : ∀ x ∈ xs, ∀ s H0 C cl fp, DT T (X.blk s H0 scope (compEnvC scope cl C X.env) fp) (Γ' x) c (f x))
    (he : ∀ x ∈ xs, f x = true → ∀ s H0 C cl fp, DX T (X.blk s H0 scope (compEnvC scope cl C X.env) fp) (Γ' x) elt (dat (r x))) (hjs : ∀ j ∈ js, j ∈ own.map (·.2) := by decide) (hs : ∀ x, foldedSetIterable iter X.env x = pure x := by intro _; rfl) : DX T X Γ (.ListComp elt [⟨tg, iter, [c], 0⟩] scope pos) (dat (.list ((xs.filter f).map r))) := fun σ H s Q q =>
  we_of (pe_lc (tt := WTb X scope c) (te := WEb X scope elt) (g := WGb X scope tg) hc nd pi_wi (blkOk_by ok) (fun s H C cl fp => ⟨fun pins s1 σ H v u Q I r h => h s _ C cl fp pins s1 u I r⟩) (fun s H C cl fp => pts_one ⟨fun pins s1 σ H1 Q I h => h s H C cl fp pins s1 I⟩) (fun s H C cl fp => ⟨fun pins s1 σ H1 Q I h => h s H C cl fp pins s1 I⟩) hs)
    (lc_go hi hl hg hjs (fun x hx σ H L s fr ap Q q => wtb_ok (ht x hx) s fr ap q) he σ H s Q q)
/-- name = [..] on one line -/
theorem fs_lc (i : Nat) (own : List (Str × Nat)) (xs : List α) (r : α → PyData) (nd : X.N.Nodup) (hc : X.calm = true) (ok : blkC X.N X.env.scope scope own = true) (cc : FC T Hin Γ O σ H) (hi : DI T X Γ tg iter (xs.map τ)) (hl : xs.length ≤ 100000)
    (hg : ∀ x ∈ xs, ∀ s H0 C cl fp, DG (X.blk s H0 scope (compEnvC scope cl C X.env) fp) tg (τ x) (wipeG Γ (own.map (·.2))) (Γ' x) js)
    (he : ∀ x ∈ xs, ∀ s H0 C cl fp, DX T (X.blk s H0 scope (compEnvC scope cl C X.env) fp) (Γ' x) elt (dat (r x))) (kk : ∀ σ' H', FC T Hin (Γ.set i (some (dat (.list (xs.map r))))) O σ' H' → WSs X rest D σ' H')
    (hjs : ∀ j ∈ js, j ∈ own.map (·.2) := by decide) (hN : X.N[i]? = some y := by rfl) (hyl : X.env.scope.names.lookup y = some .local := by rfl) (hk : X.env.scope.kind = .function := by rfl) (hli : (py.line == pos.line) = true := by rfl)
    (ha : (scope.names.any fun (n, k) => n == y && (k == .local || k == .cell)) = false := by decide +kernel) (hs : ∀ x, foldedSetIterable iter X.env x = pure x := by intro _; rfl) : WSs X (.Assign [.Name y py] (.ListComp elt [⟨tg, iter, [], 0⟩] scope pos) spos :: rest) D σ H := by
  obtain ⟨Hb, L, rfl, fr, ap, g, s, o, _⟩ := cc
  refine fs_cons (ws_frame fr ap (ws_of (ps_setLc (tt := tYes) (te := WEb X scope elt) (g := WGb X scope tg) hc nd hN hyl (sw_true hk hyl hli ha) pi_wi (blkOk_by ok) (fun s H C cl fp => ⟨fun pins s1 σ H v u Q I r h => h s _ C cl fp pins s1 u I r⟩) (fun s H C cl fp => pts_nil) (fun s H C cl fp => ⟨fun pins s1 σ H1 Q I h => h s H C cl fp pins s1 I⟩) hs)
    (lc_go (f := fun _ => true) hi hl hg hjs (fun x _ σ H L _ fr ap Q q => q H (Ge.refl H) ap) (fun x hx _ => he x hx) σ Hb s _ fun v H' g' p ap' => kk _ _ ⟨H', L, rfl, fr, ap', g.trans g', (s.ext g'.ext).set (by rw [filter_tt] at p; exact p), O.mono g'.ext o, trivial⟩)))
/-! ### two clauses -/
theorem lc2_go {ys : α → List β} {τ1 : α → β → Ty} {Γ1 : α → β → Gam} {js1 vs1 : List Nat} {r : α → β → PyData} (hi : DI T X Γ tg iter (xs.map τ)) (hl : xs.length ≤ 2000) (hl1 : ∀ x ∈ xs, (ys x).length ≤ 2000) (hz : (xs.map fun x => (ys x).length).sum ≤ 100000)
    (hg : ∀ x ∈ xs, ∀ s H0 C cl fp, DG (X.blk s H0 scope (compEnvC scope cl C X.env) fp) tg (τ x) (wipeG Γ vs) (Γ' x) js) (hjs : ∀ j ∈ js, j ∈ vs)
    (hi1 : ∀ x ∈ xs, ∀ s H0 C cl fp, DI T (X.blk s H0 scope (compEnvC scope cl C X.env) fp) (Γ' x) tg1 iter1 ((ys x).map (τ1 x)))
    (hg1 : ∀ x ∈ xs, ∀ z ∈ ys x, ∀ s H0 C cl fp, DG (X.blk s H0 scope (compEnvC scope cl C X.env) fp) tg1 (τ1 x z) (wipeG (Γ' x) vs1) (Γ1 x z) js1) (hjs1 : ∀ j ∈ js1, j ∈ vs1)
    (he : ∀ x ∈ xs, ∀ z ∈ ys x, ∀ s H0 C cl fp, DX T (X.blk s H0 scope (compEnvC scope cl C X.env) fp) (Γ1 x z) elt (dat (r x z))) :
    ∀ σ H, Sat Γ σ H → ∀ Q : VK, (∀ v H', Ge T H H' → (dat (.list (xs.flatMap fun x => (ys x).map (r x)))).P v H' → Q v H') → tLc2 (WI X tg iter) (WGb X scope tg) tYes (WIb X scope tg1 iter1) (WGb X scope tg1) tYes (WEb X scope elt) vs vs1 σ H Q := by
  intro σ H s Q q
  refine hi σ H s _ fun J H1 g1 st D hD => ?_
  refine ⟨fun n m H2 => m = xs.length - n ∧ n ≤ xs.length ∧ ∃ Hb ws, H2 = upd Hb D (.lst ws) ∧ Hb D = none ∧ Ge T H1 Hb ∧ DqAll Hb ws ((xs.take n).flatMap fun x => (ys x).map (r x)), ⟨xs.length, by simp, Nat.zero_le _, H1, [], rfl, hD, Ge.refl _, by rw [List.take_zero]; exact .nil⟩, ?_⟩
  rintro n m H2 ⟨rfl, hn, Hb, ws, rfl, hb, g2, dq⟩
  by_cases hlt : n < xs.length
  · have e : xs[n]? = some xs[n] := List.getElem?_eq_getElem hlt
    have em : (xs.map τ)[n]? = some (τ xs[n]) := by rw [List.getElem?_map, e]; rfl
    have hmem : xs[n] ∈ xs := List.getElem_mem hlt
    have e3 : (xs.take (n + 1)).flatMap (fun x => (ys x).map (r x)) = (xs.take n).flatMap (fun x => (ys x).map (r x)) ++ (ys xs[n]).map (r xs[n]) := by
      rw [List.take_succ, e, List.flatMap_append]
      simp
    have e4 : ((xs.take n).map fun x => (ys x).length).sum + (ys xs[n]).length ≤ 100000 := by
      have z : xs.map (fun x => (ys x).length) = (xs.take n).map (fun x => (ys x).length) ++ (ys xs[n]).length :: (xs.drop (n + 1)).map (fun x => (ys x).length) := by
        rw [← List.map_cons (f := fun x => (ys x).length), ← List.drop_eq_getElem_cons hlt, ← List.map_append, List.take_append_drop]
      rw [z, List.sum_append, List.sum_cons] at hz
      omega
    generalize xs[n] = x at e em hmem e3 e4
    obtain ⟨go, y⟩ := st.go n _ em [(D, .lst ws)] Hb fr1 (ap1 hb) g2
    refine .inr ⟨go, fun H' => ∃ Hb ws, H' = upd Hb D (.lst ws) ∧ Hb D = none ∧ Ge T H1 Hb ∧ DqAll Hb ws ((xs.take (n + 1)).flatMap fun x => (ys x).map (r x)), fun H' z => ⟨xs.length - (n + 1), by omega, rfl, hlt, z⟩, fun v H' hy s0 H0 C cl fp => ?_⟩
    obtain ⟨Hc, rfl, apc, gc, px⟩ := y v H' hy
    have sc : Sat (wipeG Γ vs) (L2.wipe σ vs) Hc := (s.ext (g1.trans (g2.trans gc)).ext).wipe vs
    refine hg x hmem s0 H0 C cl fp v _ Hc _ (ge_addAll (T := T) fr1 apc).ext px sc _ fun σ2 s2 out => ⟨wipe_of_out hjs out, ?_⟩
    dsimp only [tYes]
    rw [if_pos rfl]
    refine fun s4 H4 C4 cl4 fp4 => wi_frame fr1 apc (hi1 x hmem s4 H4 C4 cl4 fp4 σ2 Hc s2 _ fun J1 H5 g5 st1 ap5 => ?_)
    have d5 := dqa_ext (gc.trans g5).ext _ _ dq
    refine ⟨fun j l H6 => l = (ys x).length - j ∧ j ≤ (ys x).length ∧ ∃ Hb ws, H6 = upd Hb D (.lst ws) ∧ Hb D = none ∧ Ge T H5 Hb ∧ DqAll Hb ws (((xs.take n).flatMap fun x => (ys x).map (r x)) ++ ((ys x).take j).map (r x)), ⟨(ys x).length, by simp, Nat.zero_le _, H5, ws, rfl, ap1' ap5, Ge.refl _, by rw [List.take_zero, List.map_nil, List.append_nil]; exact d5⟩, ?_⟩
    rintro j l H6 ⟨rfl, hj, Hd, wd, rfl, hd, g6, dq6⟩
    by_cases hjl : j < (ys x).length
    · have f1 : (ys x)[j]? = some (ys x)[j] := List.getElem?_eq_getElem hjl
      have fm : ((ys x).map (τ1 x))[j]? = some (τ1 x (ys x)[j]) := by rw [List.getElem?_map, f1]; rfl
      have fmem : (ys x)[j] ∈ ys x := List.getElem_mem hjl
      generalize (ys x)[j] = z at f1 fm fmem
      obtain ⟨go1, y1⟩ := st1.go j _ fm [(D, .lst wd)] Hd fr1 (ap1 hd) g6
      refine .inr ⟨go1, fun H' => ∃ Hb ws, H' = upd Hb D (.lst ws) ∧ Hb D = none ∧ Ge T H5 Hb ∧ DqAll Hb ws (((xs.take n).flatMap fun x => (ys x).map (r x)) ++ ((ys x).take (j + 1)).map (r x)), fun H' z => ⟨(ys x).length - (j + 1), by omega, rfl, hjl, z⟩, fun v1 H7 hy1 s7 H0' C7 cl7 fp7 => ?_⟩
      obtain ⟨Hc1, rfl, apc1, gc1, px1⟩ := y1 v1 H7 hy1
      have sc1 : Sat (wipeG (Γ' x) vs1) (L2.wipe σ2 vs1) Hc1 := (s2.ext (g5.trans (g6.trans gc1)).ext).wipe vs1
      refine hg1 x hmem z fmem s7 H0' C7 cl7 fp7 v1 _ Hc1 _ (ge_addAll (T := T) fr1 apc1).ext px1 sc1 _ fun σ3 s3 out1 => ⟨wipe_of_out hjs1 out1, ?_⟩
      dsimp only [tYes]
      rw [if_pos rfl]
      refine fun s8 H8 C8' cl8 fp8 => we_frame fr1 apc1 (he x hmem z fmem s8 H8 C8' cl8 fp8 σ3 Hc1 s3 _ fun w H9 g9 pw ap9 => ?_)
      have d9 := dqa_ext (gc1.trans g9).ext _ _ dq6
      have hlen := dqa_len d9
      have hle : (((xs.take n).flatMap fun x => (ys x).map (r x)) ++ ((ys x).take j).map (r x)).length ≤ 100000 := by
        rw [List.length_append, List.length_map, List.length_flatMap, List.length_take]
        simp only [List.length_map]
        omega
      refine ⟨wd, upd_same, Nat.lt_of_le_of_lt (hlen ▸ hle) (by decide), H9, wd ++ [w], upd_upd, ap1' ap9, g6.trans (gc1.trans g9), ?_⟩
      rw [List.take_succ, f1, List.map_append, ← List.append_assoc]
      exact dqa_app d9 (.cons pw .nil)
    · have ej : j = (ys x).length := by omega
      subst ej
      have hm : ((ys x).map (τ1 x)).length = (ys x).length := List.length_map _
      refine .inl ⟨hm ▸ st1.stop [(D, .lst wd)] Hd fr1 (ap1 hd) g6, Hd, wd, rfl, hd, g2.trans (gc.trans (g5.trans g6)), ?_⟩
      rw [List.take_of_length_le (Nat.le_refl _)] at dq6
      rw [e3]
      exact dq6
  · have e : n = xs.length := by omega
    subst e
    have hm : (xs.map τ).length = xs.length := List.length_map _
    refine .inl ⟨hm ▸ st.stop [(D, .lst ws)] Hb fr1 (ap1 hb) g2, q _ _ (g1.trans (g2.trans (Ge.new hb))) ?_⟩
    rw [List.take_of_length_le (Nat.le_refl _)] at dq
    exact .lst upd_same (dqa_ext (Ge.new (T := T) hb).ext _ _ dq)
/-- name = [elt for tg in iter for tg1 in iter1] -/
theorem fs_lc2 {ys : α → List β} {τ1 : α → β → Ty} {Γ1 : α → β → Gam} {js1 : List Nat} {r : α → β → PyData} (i : Nat) (own : List (Str × Nat)) (vs1 : List Nat) (nd : X.N.Nodup) (hc : X.calm = true) (ok : blkC X.N X.env.scope scope own = true) (cc : FC T Hin Γ O σ H)
    (hi : DI T X Γ tg iter (xs.map τ)) (hl : xs.length ≤ 2000) (hl1 : ∀ x ∈ xs, (ys x).length ≤ 2000) (hz : (xs.map fun x => (ys x).length).sum ≤ 100000)
    (hg : ∀ x ∈ xs, ∀ s H0 C cl fp, DG (X.blk s H0 scope (compEnvC scope cl C X.env) fp) tg (τ x) (wipeG Γ (own.map (·.2))) (Γ' x) js)
    (hi1 : ∀ x ∈ xs, ∀ s H0 C cl fp, DI T (X.blk s H0 scope (compEnvC scope cl C X.env) fp) (Γ' x) tg1 iter1 ((ys x).map (τ1 x)))
    (hg1 : ∀ x ∈ xs, ∀ z ∈ ys x, ∀ s H0 C cl fp, DG (X.blk s H0 scope (compEnvC scope cl C X.env) fp) tg1 (τ1 x z) (wipeG (Γ' x) vs1) (Γ1 x z) js1)
    (he : ∀ x ∈ xs, ∀ z ∈ ys x, ∀ s H0 C cl fp, DX T (X.blk s H0 scope (compEnvC scope cl C X.env) fp) (Γ1 x z) elt (dat (r x z))) (kk : ∀ σ' H', FC T Hin (Γ.set i (some (dat (.list (xs.flatMap fun x => (ys x).map (r x)))))) O σ' H' → WSs X rest D σ' H')
    (hjs : ∀ j ∈ js, j ∈ own.map (·.2) := by decide) (hjs1 : ∀ j ∈ js1, j ∈ vs1 := by decide) (hv : ∀ i ∈ vs1, i ∈ own.map (·.2) := by decide) (hN : X.N[i]? = some y := by rfl) (hyl : X.env.scope.names.lookup y = some .local := by rfl) (hk : X.env.scope.kind = .function := by rfl) (hli : (py.line == pos.line) = true := by rfl)
    (ha : (scope.names.any fun (n, k) => n == y && (k == .local || k == .cell)) = false := by decide +kernel) (hs : ∀ x, foldedSetIterable iter X.env x = pure x := by intro _; rfl) (hs1 : ∀ env x, foldedSetIterable iter1 env x = pure x := by intro _ _; rfl) : WSs X (.Assign [.Name y py] (.ListComp elt [⟨tg, iter, [], 0⟩, ⟨tg1, iter1, [], 0⟩] scope pos) spos :: rest) D σ H := by
  obtain ⟨Hb, L, rfl, fr, ap, g, s, o, _⟩ := cc
  refine fs_cons (ws_frame fr ap (ws_of (ps_setLc2 (tt := tYes) (tt1 := tYes) (te := WEb X scope elt) (g := WGb X scope tg) (g1 := WGb X scope tg1) (wi1 := WIb X scope tg1 iter1) hc nd hN hyl (sw_true hk hyl hli ha) pi_wi (blkOk_by ok) hv (fun s H C cl fp => ⟨fun pins s1 σ H v u Q I r h => h s _ C cl fp pins s1 u I r⟩) (fun s H C cl fp => pts_nil)
      (fun s H C cl fp => ⟨fun pins s1 σ H1 R I h => h s H C cl fp pins s1 I⟩) (fun s H C cl fp => ⟨fun pins s1 σ H v u Q I r h => h s _ C cl fp pins s1 u I r⟩) (fun s H C cl fp => pts_nil) (fun s H C cl fp => ⟨fun pins s1 σ H1 Q I h => h s H C cl fp pins s1 I⟩) hs hs1)
    (lc2_go hi hl hl1 hz hg hjs hi1 hg1 hjs1 he σ Hb s _ fun v H' g' p ap' => kk _ _ ⟨H', L, rfl, fr, ap', g.trans g', (s.ext g'.ext).set p, O.mono g'.ext o, trivial⟩)))

/-- over x in xs, by their types -/
theorem fs_forM {α ι : Type} {xs : List α} {τ : α → Ty} {js : List Nat} (Γf : Nat → ι → Gam) (Of : Nat → ι → OS) (Γx : Nat → α → ι → Gam) (i0 : ι) (c : FC T Hin (Γf 0 i0) (Of 0 i0) σ H) (hi : DI T X (Γf 0 i0) tg iter (xs.map τ)) (hc : X.calm = true)
    (hg : ∀ n x i, xs[n]? = some x → DG X tg (τ x) (Γf n i) (Γx n x i) js)
    (hb : ∀ n x i H0, xs[n]? = some x → Ge T Hin H0 → ∀ σ' H', FC T H0 (Γx n x i) (Of n i) σ' H' →
      WSs X body { nx := fun σ2 H2 => ∃ i', FC T H0 (Γf (n + 1) i') (Of (n + 1) i') σ2 H2, rt := D.rt, ct := fun σ2 H2 => ∃ i', FC T H0 (Γf (n + 1) i') (Of (n + 1) i') σ2 H2, bk := fun σ2 H2 => WSs X rest D σ2 H2 } σ' H')
    (k : ∀ i σ' H', FC T Hin (Γf xs.length i) (Of xs.length i) σ' H' → WSs X rest D σ' H') (hp : PassesOwn (model X.prog X.w) X.A X.env X.xe := by exact PassesOwn.never) (hs : ∀ x, foldedSetIterable iter X.env x = pure x := by intro _; rfl) :
    WSs X (.For tg iter body [] pos :: rest) D σ H := by
  refine fs_for (js := js) Γf Of (fun n i => match xs[n]? with | some x => Γx n x i | none => []) i0 c hi hc (fun n t i e => ?_) (fun n t i H0 e g σ' H' c => ?_) (fun i σ' H' c => k i σ' H' (by rw [List.length_map] at c; exact c)) hp hs
  · rw [List.getElem?_map] at e
    obtain ⟨x, hx, rfl⟩ := Option.map_eq_some_iff.mp e
    have q := hg n x i hx
    simp only [hx]
    exact q
  · rw [List.getElem?_map] at e
    obtain ⟨x, hx, rfl⟩ := Option.map_eq_some_iff.mp e
    simp only [hx] at c
    exact hb n x i H0 hx g σ' H' c
/-! ### calls of defs -/
/-- a pure def's promise: its arguments' types, its answer's -/
def spP {ι : Type} (T : List NTab) (args : ι → List Ty) (res : ι → Ty) : Sp := fun vs H Q _ => ∃ i, TyAll (args i) vs H ∧ ∀ v H', Ge T H H' → (res i).P v H' → Q v H'
theorem dx_call {ι : Type} {args : ι → List Ty} {res : ι → Ty} {k j : Nat} {x : Str} (c : C8.Cal X.prog X.w X.K X.mg X.base k x (spP T args res) []) (hr : Room j X.A) (i : ι) (ha : DA T X Γ (e :: es) (args i)) (ht : res i = t := by rfl) (hk : k ≤ j := by first | decide | omega) (hg : Gl X x := by rfl)
    (hdb : (x == ("__debug__" : Str)) = false := by decide) (he : starEach (e :: es) X.env = (false, eval e X.env) :: starEach es X.env := by rfl) (hpl : (backTo pos (starEach es X.env)).any (·.1) = false := by rfl) : DX T X Γ (.Call (.Name x p) (e :: es) [] pos) t := fun σ H s Q q =>
  we_of (C8.pe_c c hr hk hg pa_wa hdb he hpl) (ha σ H s _ fun vs H1 g1 p1 => ⟨i, by rw [List.append_nil]; exact p1, fun v H' g p => q v H' (g1.trans g) (ht ▸ p)⟩)
/-- the slots at the entry -/
def gam0 (N : List Str) (ts : List Ty) : Gam := ts.map some ++ List.replicate (N.length - ts.length) none
theorem sat0 {N : List Str} {ts : List Ty} {vs : List V} {H : Hp} (h : TyAll ts vs H) : Sat (gam0 N ts) (L2.start N vs) H := by
  have hl := tyAll_len h
  refine ⟨by unfold L2.start gam0; simp [hl], fun i t e => ?_⟩
  unfold gam0 at e
  unfold L2.start
  by_cases hi : i < ts.length
  · rw [List.getElem?_append_left (by simpa using hi), List.getElem?_map] at e
    obtain ⟨t', e1, e2⟩ := Option.map_eq_some_iff.mp e
    cases e2
    obtain ⟨v, h1, h2⟩ := tyAll_get2 h e1
    exact ⟨v, by rw [List.getElem?_append_left (by simp; omega), List.getElem?_map, h1]; rfl, h2⟩
  · rw [List.getElem?_append_right (by simpa using hi), List.getElem?_replicate] at e
    split at e <;> cases e
end
section
variable {T : List NTab} {P : Program} {w : World} {K : PySem.W.Frag} {mg : Str → Option Value} {base : Heap}
/-- a def stands in the module under its name -/
structure At (K : PySem.W.Frag) (mg : Str → Option Value) (x : Str) (ps : List Str) (st : Stmt) : Prop where
  ex : ∃ f fd, C8.Def K mg x st f fd ∧ Binds K fd ps []
/-- the context of the body -/
abbrev bodyX (P : Program) (w : World) (K : PySem.W.Frag) (mg : Str → Option Value) (base : Heap) (N : List Str) (x : Str) (st : Stmt) (f : Addr) (cdv : Value) (A : Around) (outer : List Env) (s : Shared) (H : Hp) (E : XK) : Cx := (cxOf CX0 P w K mg base N x (C8.fnScope st) f cdv A outer s H E).nox
theorem fn_mk {ι : Type} {args : ι → List Ty} {res : ι → Ty} {k : Nat} {x : Str} {ps : List Str} {st : Stmt} (F : At K mg x ps st) (N : List Str) (S : C8.scC N ps (C8.fnScope st) = true) (hlen : ∀ i, (args i).length = ps.length)
    (hb : ∀ i cdv A outer s H vs Q E f, Room k (bodyX P w K mg base N x st f cdv A outer s H E).A → (bodyX P w K mg base N x st f cdv A outer s H E).N.Nodup → (∀ v H', Ge T H H' → (res i).P v H' → Q v H') → FC T H (gam0 N (args i)) oN (L2.start N vs) H →
      WSs (bodyX P w K mg base N x st f cdv A outer s H E) (C8.fnBody st) { nx := fun _ H' => Q .non H', rt := Q } (L2.start N vs) H) : C8.Cal P w K mg base (k + 1) x (spP T args res) [] := by
  obtain ⟨f, fd, d, b⟩ := F.ex
  have S' := C8.fnScope_by S
  refine C8.cal0 d b .nil S' (fun vs H Q E h => ?_) fun cdv A outer s H vs Q E hr h => ?_
  · obtain ⟨i, h1, _⟩ := h
    rw [tyAll_len h1]
    exact hlen i
  · obtain ⟨i, h1, q⟩ := h
    exact ⟨_, pss_wss, hb i cdv A outer s H vs Q E f hr S'.nd q (fc_start (sat0 h1))⟩
end
end G
set_option Elab.async false
set_option linter.all false
set_option maxRecDepth 100000
set_option maxHeartbeats 1000000
namespace G
open PySem PySem.Spec L2 LamX NdefX

def top (i : Nat) : Stmt := PySem.Challenge.pw_untoldgames_k98_whole_one_hall_through_h.main.body.getD i (.Pass ⟨0, 0, 0, 0⟩)
/-- what stands in the module behind its top -/
structure Md (K : PySem.W.Frag) (mg : Str → Option Value) : Prop where
  b_all : mg "all" = none
  b_any : mg "any" = none
  b_bool : mg "bool" = none
  b_enumerate : mg "enumerate" = none
  b_int : mg "int" = none
  b_isinstance : mg "isinstance" = none
  b_len : mg "len" = none
  b_list : mg "list" = none
  b_max : mg "max" = none
  b_min : mg "min" = none
  b_range : mg "range" = none
  b_sorted : mg "sorted" = none
  b_str : mg "str" = none
  b_sum : mg "sum" = none
  b_tuple : mg "tuple" = none
  b_zip : mg "zip" = none
  s_LETTERS : ∃ tk, mg "LETTERS" = some (.str "abcdefghijklmnopqrstuvwxyz" tk)
  i_MOST_LETTERS : ∃ tk, mg "MOST_LETTERS" = some (.int 20 tk)
  i_MOST_NAME : ∃ tk, mg "MOST_NAME" = some (.int 8 tk)
  i_MOST_BEGUN : ∃ tk, mg "MOST_BEGUN" = some (.int 20 tk)
  d_is_integer : At K mg "is_integer" ["thing"] (top 13)
  d_is_within : At K mg "is_within" ["thing", "least", "most"] (top 14)
  d_is_letters : At K mg "is_letters" ["thing", "most"] (top 15)
  d_is_word : At K mg "is_word" ["thing"] (top 16)
  d_is_name : At K mg "is_name" ["thing"] (top 17)
  d_is_words : At K mg "is_words" ["thing", "most"] (top 18)
  d_is_ascending : At K mg "is_ascending" ["items"] (top 19)
  d_is_lot : At K mg "is_lot" ["thing", "many"] (top 20)
  d_mask_of : At K mg "mask_of" ["lot"] (top 21)
  d_lot_of : At K mg "lot_of" ["mask"] (top 22)
  d_bits_of : At K mg "bits_of" ["mask"] (top 23)
  i_MOST_AIMS : ∃ tk, mg "MOST_AIMS" = some (.int 24 tk)
  i_MOST_LEAST : ∃ tk, mg "MOST_LEAST" = some (.int 25 tk)
  i_MOST_DEEP : ∃ tk, mg "MOST_DEEP" = some (.int 8 tk)
  i_MOST_PARTS : ∃ tk, mg "MOST_PARTS" = some (.int 200 tk)
  d_aims_in : At K mg "aims_in" ["thing"] (top 29)
  d_parts_of : At K mg "parts_of" ["thing", "most", "deep"] (top 30)
  d_is_any_aim : At K mg "is_any_aim" ["thing", "most"] (top 31)
  d_is_aim : At K mg "is_aim" ["hall", "thing"] (top 32)
  d_check_aim : At K mg "check_aim" ["hall", "thing"] (top 33)
  d_holds : At K mg "holds" ["aim", "mask"] (top 34)
  d_dual_of : At K mg "dual_of" ["aim"] (top 35)
  d_moved_by : At K mg "moved_by" ["aim", "by"] (top 36)
  d_mover_of : At K mg "mover_of" ["row"] (top 38)
  i_MOST_BOARDS_halls : ∃ tk, mg "MOST_BOARDS_halls" = some (.int 12 tk)
  d_is_board : At K mg "is_board" ["thing"] (top 41)
  d_turned : At K mg "turned" ["hall"] (top 44)
  d_joined : At K mg "joined" ["one", "other"] (top 45)
  d_only : At K mg "only" ["hall", "lot"] (top 46)
  i_MOST_BOARDS_pairs : ∃ tk, mg "MOST_BOARDS_pairs" = some (.int 24 tk)
  i_MOST_PAIRINGS : ∃ tk, mg "MOST_PAIRINGS" = some (.int 2000 tk)
  d_is_ahead : At K mg "is_ahead" ["longer", "shorter"] (top 50)
  d_are_pair : At K mg "are_pair" ["one", "other"] (top 51)
  d_all_pairs : At K mg "all_pairs" ["hall"] (top 52)
  d_is_pairing : At K mg "is_pairing" ["hall", "thing"] (top 53)
  d_partners : At K mg "partners" ["pairing"] (top 54)
  d_greatest_of : At K mg "greatest_of" ["hall", "some", "most"] (top 56)
  d_check_size : At K mg "check_size" ["hall"] (top 57)
  d_greatest : At K mg "greatest" ["hall", "some"] (top 58)
  d_pairings : At K mg "pairings" ["hall"] (top 59)
  d_outcomes : At K mg "outcomes" ["pairing"] (top 60)
  d_spoiling : At K mg "spoiling" ["aim", "pairing"] (top 62)
  d_sure_of : At K mg "sure_of" ["hall", "aim", "some"] (top 63)
  d_sure : At K mg "sure" ["hall", "aim"] (top 64)
  i_MOST_BOARDS_house : ∃ tk, mg "MOST_BOARDS_house" = some (.int 12 tk)
  i_MOST_PAIRS : ∃ tk, mg "MOST_PAIRS" = some (.int 12 tk)
  i_MOST_PRICE : ∃ tk, mg "MOST_PRICE" = some (.int 1000000 tk)
  d_least_lots : At K mg "least_lots" ["many", "is_good"] (top 69)
  d_later_partners : At K mg "later_partners" ["some"] (top 70)
  d_full_pairings : At K mg "full_pairings" ["later", "lot"] (top 71)
  d_check_boards : At K mg "check_boards" ["hall", "most"] (top 72)
  d_enough_lots : At K mg "enough_lots" ["hall", "aim"] (top 73)
  d_enough : At K mg "enough" ["hall", "aim"] (top 74)
  d_are_prices : At K mg "are_prices" ["hall", "thing"] (top 75)
  d_cheapest : At K mg "cheapest" ["hall", "aim", "prices"] (top 76)
  d_sure_lots : At K mg "sure_lots" ["hall", "aim", "some"] (top 77)
  d_bars : At K mg "bars" ["hall", "aim"] (top 78)
  d_facing : At K mg "facing" ["one", "other"] (top 80)
  d_goal_between : At K mg "goal_between" ["one", "aim", "goal"] (top 81)
  d_check_aims : At K mg "check_aims" ["one", "aim", "other", "goal"] (top 82)
  d_between : At K mg "between" ["one", "aim", "other", "goal"] (top 83)
  d_following : At K mg "following" ["one", "aim", "other", "goal"] (top 84)
  d_is_following : At K mg "is_following" ["one", "aim", "other", "goal", "thing"] (top 85)
  i_MOST_POINTS : ∃ tk, mg "MOST_POINTS" = some (.int 1000000000 tk)
  d_check_points : At K mg "check_points" ["hall", "points"] (top 88)
  d_sum_of : At K mg "sum_of" ["points", "pairing"] (top 89)
  d_most_points : At K mg "most_points" ["hall", "points"] (top 90)
  d__law_is_int : At K mg "_law_is_int" ["_law_thing"] (top 92)
  d__law_same : At K mg "_law_same" ["_law_found", "_law_due"] (top 93)
  d__law_source : At K mg "_law_source" ["_law_script", "_law_at"] (top 94)
  d__law_take : At K mg "_law_take" ["_law_source_here", "_law_many"] (top 95)
  d__law_is_ahead : At K mg "_law_is_ahead" ["_law_longer", "_law_shorter"] (top 96)
  d__law_are_pair : At K mg "_law_are_pair" ["_law_one", "_law_other"] (top 97)
  d__law_pairs : At K mg "_law_pairs" ["_law_boards_here"] (top 98)
  d__law_pairings : At K mg "_law_pairings" ["_law_pairs_here"] (top 99)
  d__law_reaches : At K mg "_law_reaches" ["_law_aim_here", "_law_won"] (top 100)
  d__law_outcomes : At K mg "_law_outcomes" ["_law_pairing"] (top 101)
  d__law_aim : At K mg "_law_aim" ["_law_source_here", "_law_many", "_law_deep"] (top 102)
  d__law_boards : At K mg "_law_boards" ["_law_source_here", "_law_many", "_law_names_here", "_law_is_fresh"] (top 103)
  d__law_names : At K mg "_law_names" ["_law_source_here", "_law_many"] (top 104)
  d__law_within : At K mg "_law_within" ["_law_aim_here", "_law_lot"] (top 105)
  d__law_lots : At K mg "_law_lots" ["_law_many"] (top 106)
  d__law_is_sure_in : At K mg "_law_is_sure_in" ["_law_hall", "_law_aim_here", "_law_lot"] (top 107)
  d__law_least : At K mg "_law_least" ["_law_lots_here"] (top 108)
  d__law_enough_fits : At K mg "_law_enough_fits" ["_law_hall", "_law_aim_here", "_law_prices"] (top 109)
  d__law_bars_fit : At K mg "_law_bars_fit" ["_law_hall", "_law_aim_here"] (top 110)
  d__law_points_fit : At K mg "_law_points_fit" ["_law_hall"] (top 111)
  d__law_follows : At K mg "_law_follows" ["_law_hall", "_law_aim_here", "_law_lot"] (top 112)
  d_law : At K mg "law" ["_law_script"] (top 113)
end G
set_option Elab.async false
set_option linter.all false
set_option maxRecDepth 100000
set_option maxHeartbeats 1000000
namespace G
open PySem PySem.Spec L2 LamX NdefX
local macro_rules | `(tactic| fail "sub") => `(tactic| first | exact Sub.nil | (refine Sub.drop ?_; fail "sub") | (refine Sub.same ?_; fail "sub"))
local macro_rules | `(tactic| fail "side") => `(tactic| first | assumption | rfl | omega | decide)

section
variable {P : Program} {w : World} {K : PySem.W.Frag} {mg : Str → Option Value} {base : Heap} {T : List NTab}
def isIntD : PyData → Bool
  | .int _ => true
  | _ => false
theorem kit_int (d : PyData) : ∃ k l, kitB (tyName d) "int" = some k ∧ kitB (tyName d) "bool" = some l ∧ (k && !l) = isIntD d := by
  cases d <;> exact ⟨_, _, rfl, rfl, rfl⟩

theorem fn_is_integer (G : Md K mg) : C8.Cal P w K mg base 1 "is_integer" (spP T (fun d => [dat d]) fun d => dat (.bool (isIntD d))) [] := by
  refine fn_mk G.d_is_integer ["thing"] (by decide +kernel) (fun _ => rfl) fun d cdv A outer s H vs Q E f hr nd q c => ?_
  obtain ⟨k, l, h1, h2, h3⟩ := kit_int d
  exact fs_retE c (DX.dat (dx_and (dx_isi G.b_isinstance G.b_int (by rfl) (dx_var 0) h1) fun _ => (DX.one (dx_not (dx_isi G.b_isinstance G.b_bool (by rfl) (dx_var 0) h2)))) (by rw [h3])) q
def isWithin (d : PyData) (lo hi : Int) : Bool := match d with
  | .int i => decide (lo ≤ i ∧ i ≤ hi)
  | _ => false
theorem fn_is_within (G : Md K mg) : C8.Cal P w K mg base 2 "is_within" (spP T (fun (i : PyData × Int × Int) => [dat i.1, dat (.int i.2.1), dat (.int i.2.2)]) fun i => dat (.bool (isWithin i.1 i.2.1 i.2.2))) [] := by
  refine fn_mk G.d_is_within ["thing", "least", "most"] (by decide +kernel) (fun _ => rfl) fun ⟨d, lo, hi⟩ cdv A outer s H vs Q E f hr nd q c => ?_
  cases d with
  | int i => exact fs_retE c (DX.dat (dx_and (dx_call (fn_is_integer G) hr _ (da_cons (dx_var 0) da_nil)) fun _ => (DX.one (dx_chain (dx_var 1) (dx_var 0) (dx_var 2)))) (by simp [isIntD, isWithin])) q
  | _ => exact fs_retE c (DX.dat (dx_and (l := false) (dx_call (fn_is_integer G) hr _ (da_cons (dx_var 0) da_nil)) (fun hk => absurd hk (by simp [isIntD]))) (by simp [isIntD, isWithin])) q
def letters : Str := "abcdefghijklmnopqrstuvwxyz"
structure OkName (s : Str) (m : Int) : Prop where
  lo : 1 ≤ (s.length : Int)
  hi : (s.length : Int) ≤ m
  mx : m ≤ 1000
  ok : ∀ c ∈ s.cps.toList, c ∈ letters.cps.toList
theorem OkName.sz {s : Str} {m : Int} (h : OkName s m) : s.length ≤ sizeLine := Nat.le_trans (show s.length ≤ 1000 by have := h.hi; have := h.mx; omega) (by decide)
theorem all_true {α : Type} (xs : List α) : (xs.map fun _ => true).all id = true := by
  rw [List.all_map, List.all_eq_true]
  intro _ _
  rfl
theorem fn_is_letters (G : Md K mg) : C8.Cal P w K mg base 1 "is_letters" (spP T (fun (i : {p : Str × Int // OkName p.1 p.2}) => [dat (.str i.1.1), dat (.int i.1.2)]) fun i => dat (.bool true)) [] := by
  refine fn_mk G.d_is_letters ["thing", "most", "sign"] (by decide +kernel) (fun _ => rfl) fun ⟨⟨z, m⟩, ok⟩ cdv A outer s H vs Q E f hr nd q c => ?_
  have hz := ok.sz
  have h1 : 1 ≤ (z.length : Int) := ok.lo
  have h2 : (z.length : Int) ≤ m := ok.hi
  have h3 : m ≤ 1000 := ok.mx
  refine fs_if1 c (by exact (DW.dt (dw_or (dt_not (dt_val (dx_isi G.b_isinstance G.b_str (by rfl) (dx_var 0) (by rfl)))) fun _ => (dw_one (dt_not (dt_chain dx_int (dx_lenS G.b_len (dx_var 0) (by fail "side")) (dx_var 1))))))) (fun hk => ?_) fun _ H' c => ?_
  · exact absurd hk (by simp; omega)
  have hcs : (z.cps.toList).length ≤ 100000 := by
    have h4 : z.cps.toList.length = z.length := by rw [Array.length_toList]; rfl
    omega
  exact fs_retE c (DX.dat (dx_all (bs := z.cps.toList.map fun _ => true) rfl G.b_all (DX.dat (dx_lc [("sign", 2)] z.cps.toList (fun _ => .bool true) nd rfl (by rfl) (di_str (dx_var 0)) hcs (fun x hx s0 H0 C cl fp => dg_name 2 nd) (fun x hx s0 H0 C cl fp => DX.dat (DC.dx (dc_inC (by rfl) (dx_var 2) (dx_globS G.s_LETTERS.choose_spec))) (congrArg PyData.bool (decide_eq_true (ok.ok x hx))))) (by rw [List.map_map]; rfl))) (by rw [all_true])) q
theorem fn_is_word (G : Md K mg) : C8.Cal P w K mg base 2 "is_word" (spP T (fun (i : {p : Str // OkName p 20}) => [dat (.str i.1)]) fun i => dat (.bool true)) [] := by
  refine fn_mk G.d_is_word ["thing"] (by decide +kernel) (fun _ => rfl) fun ⟨z, ok⟩ cdv A outer s H vs Q E f hr nd q c => ?_
  exact fs_retE c (dx_call (fn_is_letters G) hr ⟨(z, 20), ok⟩ (da_cons (dx_var 0) (da_cons (dx_globI G.i_MOST_LETTERS.choose_spec) da_nil))) q
theorem fn_is_name (G : Md K mg) : C8.Cal P w K mg base 2 "is_name" (spP T (fun (i : {p : Str // OkName p 8}) => [dat (.str i.1)]) fun i => dat (.bool true)) [] := by
  refine fn_mk G.d_is_name ["thing"] (by decide +kernel) (fun _ => rfl) fun ⟨z, ok⟩ cdv A outer s H vs Q E f hr nd q c => ?_
  exact fs_retE c (dx_call (fn_is_letters G) hr ⟨(z, 8), ok⟩ (da_cons (dx_var 0) (da_cons (dx_globI G.i_MOST_NAME.choose_spec) da_nil))) q
theorem fn_is_words (G : Md K mg) : C8.Cal P w K mg base 3 "is_words" (spP T (fun (i : {p : List Str × Int // (p.1.length : Int) ≤ p.2 ∧ p.2 ≤ 1000 ∧ ∀ z ∈ p.1, OkName z 20}) => [dat (.tuple (i.1.1.map .str)), dat (.int i.1.2)]) fun i => dat (.bool true)) [] := by
  refine fn_mk G.d_is_words ["thing", "most", "word"] (by decide +kernel) (fun _ => rfl) fun ⟨⟨zs, m⟩, ok1, ok2, ok3⟩ cdv A outer s H vs Q E f hr nd q c => ?_
  have ok1' : (zs.length : Int) ≤ m := ok1
  have ok2' : m ≤ 1000 := ok2
  have hl : zs.length ≤ 100000 := by omega
  refine fs_retE c (DX.dat (dx_and (dx_isi G.b_isinstance G.b_tuple (by rfl) (dx_var 0) (by rfl)) fun _ => dx_and (DC.dx (dc_le (dx_lenT G.b_len (dx_var 0)) (dx_var 1))) fun _ => DX.one (dx_all (bs := zs.map fun _ => true) rfl G.b_all (DX.dat (dx_lc [("word", 2)] zs (fun _ => .bool true) nd rfl (by rfl) (di_tupM (dx_var 0)) hl (fun x hx s0 H0 C cl fp => dg_name 2 nd) (fun x hx s0 H0 C cl fp => dx_call (fn_is_word G) hr ⟨x, ok3 x hx⟩ (da_cons (dx_var 2) da_nil))) (by rw [List.map_map]; rfl)))) ?_) q
  rw [all_true, List.length_map, decide_eq_true ok1']
  rfl
theorem dc_ltT {X : Cx} {Γ : Gam} {a b : Expr} {ns ms : List Int} (hu : X.A.units < cLine) (ha : DX T X Γ a (dat (.tuple (ns.map .int)))) (hb : DX T X Γ b (dat (.tuple (ms.map .int)))) : DC T X Γ a .Lt b (dat (.bool (HT.lexLt ns ms))) :=
  dc_mk (op_ltT hu) (nomark _) ha hb fun x y H Q h1 h2 q => by
    obtain ⟨l, xs, rfl, e1, f1⟩ := dat_tup h1
    obtain ⟨l2, ys, rfl, e2, f2⟩ := dat_tup h2
    cases dqa_ints f1
    cases dqa_ints f2
    exact ⟨l, l2, ns, ms, rfl, rfl, sqT_rd e1, sqT_rd e2, q _ H (Ge.refl H) (.bl _)⟩
theorem cut1 {α : Type} (xs : List α) : cutD xs (some 1) none = xs.drop 1 := cutD_from xs 1
def ascI (ns : List Int) : Bool := ((ns.zip (ns.drop 1)).map fun p => decide (p.1 < p.2)).all id
def ascL (ns : List (List Int)) : Bool := ((ns.zip (ns.drop 1)).map fun p => HT.lexLt p.1 p.2).all id
def ascArg : List Int ⊕ List (List Int) → List PyData
  | .inl ns => ns.map .int
  | .inr ps => ps.map fun p => .tuple (p.map .int)
def ascRes : List Int ⊕ List (List Int) → Bool
  | .inl ns => ascI ns
  | .inr ps => ascL ps
theorem fn_is_ascending (G : Md K mg) : C8.Cal P w K mg base 1 "is_ascending" (spP T (fun (i : {p : List Int ⊕ List (List Int) // (ascArg p).length ≤ 1000}) => [dat (.tuple (ascArg i.1))]) fun i => dat (.bool (ascRes i.1))) [] := by
  refine fn_mk G.d_is_ascending ["items", "one", "other"] (by decide +kernel) (fun _ => rfl) fun ⟨i, hl⟩ cdv A outer s H vs Q E f hr nd q c => ?_
  cases i with
  | inl ns =>
    have this : (((ns.map PyData.int).zip (cutD (ns.map PyData.int) (some 1) none)).map fun q => dat (.tuple [q.1, q.2])) = (ns.zip (ns.drop 1)).map fun p => dat (.tuple [.int p.1, .int p.2]) := by
      rw [cut1, ← List.map_drop, List.zip_map, List.map_map]
      rfl
    exact fs_retE (t := dat (.bool (ascI ns))) c (DX.dat (dx_all (bs := (ns.zip (ns.drop 1)).map fun p => decide (p.1 < p.2)) rfl G.b_all (DX.dat (dx_lc [("one", 1), ("other", 2)] (ns.zip (ns.drop 1)) (fun p => .bool (decide (p.1 < p.2))) nd rfl (by rfl) (τ := fun p => dat (.tuple [.int p.1, .int p.2])) (by rw [← this]; exact di_zipT G.b_zip (dx_var 0) (dx_slT (dx_var 0) (do_some dx_int) do_none)) (by rw [List.length_zip]; simp only [ascArg, List.length_map] at hl; omega) (fun x hx s0 H0 C cl fp => dg_tup2 (i1 := 1) (i2 := 2) rfl nd) (fun x hx s0 H0 C cl fp => (by exact DC.dx (dc_lt (dx_var 1) (dx_var 2))))) (by rw [List.map_map]; rfl))) rfl) q
  | inr ps =>
    have hu : (bodyX P w K mg base ["items", "one", "other"] "is_ascending" (top 19) f cdv A outer s H E).A.units < cLine := hr.units0
    have this : (((ps.map fun p => PyData.tuple (p.map .int)).zip (cutD (ps.map fun p => PyData.tuple (p.map .int)) (some 1) none)).map fun q => dat (.tuple [q.1, q.2])) = (ps.zip (ps.drop 1)).map fun p => dat (.tuple [.tuple (p.1.map .int), .tuple (p.2.map .int)]) := by
      rw [cut1, ← List.map_drop, List.zip_map, List.map_map]
      rfl
    exact fs_retE (t := dat (.bool (ascL ps))) c (DX.dat (dx_all (bs := (ps.zip (ps.drop 1)).map fun p => HT.lexLt p.1 p.2) rfl G.b_all (DX.dat (dx_lc [("one", 1), ("other", 2)] (ps.zip (ps.drop 1)) (fun p => .bool (HT.lexLt p.1 p.2)) nd rfl (by rfl) (τ := fun p => dat (.tuple [.tuple (p.1.map .int), .tuple (p.2.map .int)])) (by rw [← this]; exact di_zipT G.b_zip (dx_var 0) (dx_slT (dx_var 0) (do_some dx_int) do_none)) (by rw [List.length_zip]; simp only [ascArg, List.length_map] at hl; omega) (fun x hx s0 H0 C cl fp => dg_tup2 (i1 := 1) (i2 := 2) rfl nd) (fun x hx s0 H0 C cl fp => (by exact DC.dx (dc_ltT hu (dx_var 1) (dx_var 2))))) (by rw [List.map_map]; rfl))) rfl) q
end
end G
set_option Elab.async false
set_option linter.all false
set_option maxRecDepth 100000
set_option maxHeartbeats 1000000
namespace G
open PySem PySem.Spec L2 LamX NdefX
local macro_rules | `(tactic| fail "sub") => `(tactic| first | exact Sub.nil | (refine Sub.drop ?_; fail "sub") | (refine Sub.same ?_; fail "sub"))
local macro_rules | `(tactic| fail "side") => `(tactic| first | assumption | rfl | omega | decide)

section
variable {P : Program} {w : World} {K : PySem.W.Frag} {mg : Str → Option Value} {base : Heap} {T : List NTab}
def cs (ns : List Nat) : List Int := ns.map fun (n : Nat) => (n : Int)
theorem cs_len (ns : List Nat) : (cs ns).length = ns.length := List.length_map _
theorem cs_app (xs ys : List Nat) : cs (xs ++ ys) = cs xs ++ cs ys := List.map_append
theorem cs_get {ns : List Nat} {i : Nat} {x : Int} (h : (cs ns)[i]? = some x) : ∃ n, ns[i]? = some n ∧ x = (n : Int) := by
  unfold cs at h
  rw [List.getElem?_map] at h
  obtain ⟨n, h1, h2⟩ := Option.map_eq_some_iff.mp h
  exact ⟨n, h1, h2.symm⟩
theorem cs_mem {ns : List Nat} {x : Int} (h : x ∈ cs ns) : ∃ n ∈ ns, x = (n : Int) := by
  obtain ⟨n, h1, h2⟩ := List.mem_map.mp h
  exact ⟨n, h1, h2.symm⟩
def lotD (ns : List Nat) : PyData := .tuple ((cs ns).map .int)
theorem lexOk : True := trivial
theorem asc_cs : ∀ {ns : List Nat}, ns.Pairwise (· < ·) → ascI (cs ns) = true := by
  intro ns h
  unfold ascI cs
  rw [List.all_map, List.all_eq_true]
  intro p hp
  obtain ⟨i, hi⟩ := List.mem_iff_getElem?.mp hp
  obtain ⟨h1, h2⟩ := List.getElem?_zip_eq_some.mp hi
  rw [List.getElem?_drop] at h2
  rw [List.getElem?_map] at h1 h2
  obtain ⟨a, ha, e1⟩ := Option.map_eq_some_iff.mp h1
  obtain ⟨b, hb, e2⟩ := Option.map_eq_some_iff.mp h2
  obtain ⟨la, ea⟩ := List.getElem?_eq_some_iff.mp ha
  obtain ⟨lb, eb⟩ := List.getElem?_eq_some_iff.mp hb
  have q := (List.pairwise_iff_getElem.mp h) i (1 + i) la lb (by omega)
  rw [ea, eb] at q
  show decide (p.1 < p.2) = true
  rw [← e1, ← e2]
  exact decide_eq_true (by omega)

structure OkLot (p : List Nat × Nat) : Prop where
  lt : ∀ x ∈ p.1, x < p.2
  asc : p.1.Pairwise (· < ·)
  len : p.1.length ≤ 1000
theorem fn_is_lot (G : Md K mg) : C8.Cal P w K mg base 3 "is_lot" (spP T (fun (i : {p : List Nat × Nat // OkLot p}) => [dat (lotD i.1.1), dat (.int i.1.2)]) fun i => dat (.bool true)) [] := by
  refine fn_mk G.d_is_lot ["thing", "many", "item"] (by decide +kernel) (fun _ => rfl) fun ⟨⟨ns, m⟩, ok⟩ cdv A outer s H vs Q E f hr nd q c => ?_
  have hlen : ns.length ≤ 1000 := ok.len
  have hl : (cs ns).length ≤ 100000 := by rw [cs_len]; omega
  refine fs_if1 (k := false) c (by exact DT.to (DW.dt (dw_or (dt_not (dt_val (dx_isi G.b_isinstance G.b_tuple (by rfl) (dx_var 0) (by rfl)))) fun _ => dw_one (dt_not (dt_val (dx_all (bs := (cs ns).map fun _ => true) rfl G.b_all (DX.dat (dx_lc [("item", 2)] (cs ns) (fun _ => .bool true) nd rfl (by rfl) (di_tupM (dx_var 0)) hl (fun x hx s0 H0 C cl fp => dg_name 2 nd) (fun x hx s0 H0 C cl fp => DX.dat (by exact (dx_call (fn_is_within G) hr ⟨_, _, _⟩ (da_cons (dx_var 2) (da_cons dx_int (da_cons (dx_sub (dx_var 1) dx_int) da_nil))))) (by
    obtain ⟨n, hn, rfl⟩ := cs_mem hx
    have q : n < m := ok.lt n hn
    exact congrArg PyData.bool (decide_eq_true (by show (0 : Int) ≤ n ∧ (n : Int) ≤ m - 1; omega))))) (by rw [List.map_map]; rfl))))))) (by rw [all_true]; rfl)) (fun hk => by cases hk) fun _ H' c => ?_
  exact fs_retE c (DX.dat (dx_call (fn_is_ascending G) hr ⟨.inl (cs ns), by show ((cs ns).map PyData.int).length ≤ 1000; rw [List.length_map, cs_len]; exact hlen⟩ (da_cons (dx_var 0) da_nil)) (congrArg PyData.bool (asc_cs ok.asc))) q
def maskOf (ns : List Nat) : Nat := ns.foldl (fun m i => m ||| 2 ^ i) 0
theorem bor1 (m i : Nat) : Builtin.bitOr (m : Int) (1 * 2 ^ ((i : Int)).toNat) = ((m ||| 2 ^ i : Nat) : Int) := by
  have e : (1 * 2 ^ ((i : Int)).toNat : Int) = ((2 ^ i : Nat) : Int) := by
    rw [Int.one_mul, Int.toNat_natCast, Int.natCast_pow]
    rfl
  rw [e, bitOr_nn (Int.natCast_nonneg _) (Int.natCast_nonneg _), Int.toNat_natCast, Int.toNat_natCast]
theorem maskOf_take {ns : List Nat} {n i : Nat} (e : ns[n]? = some i) : maskOf (ns.take (n + 1)) = maskOf (ns.take n) ||| 2 ^ i := by
  unfold maskOf
  rw [List.take_succ, e, List.foldl_append]
  rfl
theorem fn_mask_of (G : Md K mg) : C8.Cal P w K mg base 1 "mask_of" (spP T (fun (i : {p : List Nat // ∀ x ∈ p, x ≤ 1000}) => [dat (lotD i.1)]) fun i => dat (.int (maskOf i.1))) [] := by
  refine fn_mk G.d_mask_of ["lot", "found", "item"] (by decide +kernel) (fun _ => rfl) fun ⟨ns, ok⟩ cdv A outer s H vs Q E f hr nd q c => ?_
  refine fs_set 1 nd c (by exact dx_int) fun σ H' c => ?_
  refine fs_for (ι := Unit) (js := [2]) (fun n _ => [some (dat (lotD ns)), some (dat (.int (maskOf (ns.take n)))), none]) (fun _ _ => oN) (fun n _ => [some (dat (lotD ns)), some (dat (.int (maskOf (ns.take n)))), some (dat (.int ((ns.getD n 0 : Nat) : Int)))]) () c (di_tupM (dx_var 0)) rfl (fun n t i e => ?_) (fun n t i H0 e g σ' H' c => ?_) (fun i σ' H' c => ?_)
  · rw [List.getElem?_map] at e
    obtain ⟨a, ha, e1⟩ := Option.map_eq_some_iff.mp e
    obtain ⟨a', ha', e2⟩ := cs_get ha
    subst e2 e1
    rw [List.getD_eq_getElem?_getD, ha']
    exact dg_name 2 nd
  · rw [List.getElem?_map] at e
    obtain ⟨a, ha, e1⟩ := Option.map_eq_some_iff.mp e
    obtain ⟨a', ha', e2⟩ := cs_get ha
    have hok := ok a' (List.mem_of_getElem? ha')
    have eg : ns.getD n 0 = a' := by rw [List.getD_eq_getElem?_getD, ha']; rfl
    rw [eg] at c
    refine fs_set 1 nd c (by exact DX.dat (dx_or2 (dx_var 1) (dx_shl dx_int (dx_var 2) ⟨Int.natCast_nonneg _, by omega, by decide⟩)) (congrArg PyData.int (bor1 _ _))) fun σ H' c => fs_nil ⟨(), ?_⟩
    rw [← maskOf_take ha'] at c
    exact c.sub (by fail "sub")
  · rw [List.length_map, cs_len, List.take_of_length_le (Nat.le_refl _)] at c
    exact fs_retE c (dx_var 1) q
def lotFrom (a m : Nat) : List Nat := if h : m = 0 then [] else if m % 2 = 1 then a :: lotFrom (a + 1) (m / 2) else lotFrom (a + 1) (m / 2)
termination_by m
decreasing_by all_goals omega
def lotOf (m : Nat) : List Nat := lotFrom 0 m
structure LotSt (M : Nat) (p : Nat × List Nat × Nat) : Prop where
  len : p.2.1.length ≤ p.2.2
  le : p.1 * 2 ^ p.2.2 ≤ M
  eq : p.2.1 ++ lotFrom p.2.2 p.1 = lotOf M
theorem lotSt_lt {M : Nat} (hM : M < 2 ^ 1000) {p : Nat × List Nat × Nat} (h : LotSt M p) (hp : 0 < p.1) : p.2.2 < 1000 := by
  have q := h.le
  have z : 2 ^ p.2.2 < 2 ^ 1000 := Nat.lt_of_le_of_lt (Nat.le_trans (Nat.le_mul_of_pos_left _ hp) q) hM
  exact (Nat.pow_lt_pow_iff_right (by decide)).mp z
theorem band1 (m : Nat) : (Builtin.bitAnd (m : Int) 1 != 0) = decide (m % 2 = 1) := by
  rw [PyProof.Rows.bitAnd_m1]
  have e : ((m : Int) % 2) = ((m % 2 : Nat) : Int) := by omega
  rw [e]
  rcases Nat.mod_two_eq_zero_or_one m with h | h <;> rw [h] <;> rfl
theorem shr1 (m : Nat) : (m : Int) / 2 ^ ((1 : Int)).toNat = ((m / 2 : Nat) : Int) := by
  show (m : Int) / 2 = _
  omega
theorem fn_lot_of (G : Md K mg) : C8.Cal P w K mg base 1 "lot_of" (spP T (fun (i : {m : Nat // m < 2 ^ 1000}) => [dat (.int (i.1 : Nat))]) fun i => dat (lotD (lotOf i.1))) [] := by
  refine fn_mk G.d_lot_of ["mask", "found", "at"] (by decide +kernel) (fun _ => rfl) fun ⟨M, hM⟩ cdv A outer s H vs Q E f hr nd q c => ?_
  refine fs_own 1 nd c (fun _ => pe_lst pa_nil) fun a σ H' c => ?_
  refine fs_set 2 nd c (by exact dx_int) fun σ H' c => ?_
  refine fs_while (ι := {p : Nat × List Nat × Nat // LotSt M p}) (fun i => [some (dat (.int (i.1.1 : Nat))), some (tyv (.ref a)), some (dat (.int (i.1.2.2 : Nat)))]) (fun i => oC a ((cs i.1.2.1).map .int) oN) (fun i => i.1.1) (fun i => decide ((0 : Int) < (i.1.1 : Nat))) ⟨(M, [], 0), ⟨Nat.le_refl _, by show M * 2 ^ 0 ≤ M; omega, rfl⟩⟩ c (fun i => (by exact (DC.dt (dc_gt (dx_var 0) dx_int)))) (fun i hk σ' H' c => ?_) (fun i hk σ' H' c => ?_)
  · obtain ⟨⟨m, ds, n⟩, ok⟩ := i
    have hm : 0 < m := by
      have z : (0 : Int) < (m : Int) := of_decide_eq_true hk
      omega
    have hn : n < 1000 := lotSt_lt hM ok hm
    have hd : ds.length ≤ n := ok.len
    have he : ds ++ lotFrom n m = lotOf M := ok.eq
    rw [lotFrom, dif_neg (by omega)] at he
    refine fs_seq (fun σ' H' => ∃ ds2 : List Nat, ds2.length ≤ n + 1 ∧ ds2 ++ lotFrom (n + 1) (m / 2) = lotOf M ∧ FC T H [some (dat (.int (m : Nat))), some (tyv (.ref a)), some (dat (.int (n : Nat)))] (oC a ((cs ds2).map .int) oN) σ' H') (fw_if c (by exact DT.to (dt_int (dx_and2 (dx_var 0) dx_int)) (band1 m)) (fun hk H' c => ?_) fun hk H' c => ?_) fun σ' H' hc => ?_
    · rw [if_pos (of_decide_eq_true hk)] at he
      exact fs_app 1 c rfl (by rw [List.length_map, cs_len]; show ds.length ≤ 100000; omega) (by exact (dx_var 2)) fun H' c => fs_nil ⟨ds ++ [n], by rw [List.length_append, List.length_singleton]; omega, by rw [List.append_assoc]; exact he, by rw [cs_app, List.map_append]; exact c⟩
    · rw [if_neg (of_decide_eq_false hk)] at he
      exact fs_nil ⟨ds, by omega, he, c⟩
    · obtain ⟨ds2, h1, h2, c⟩ := hc
      refine fs_set 0 nd c (by exact DX.dat (dx_shr (dx_var 0) dx_int (by decide)) (congrArg PyData.int (shr1 m))) fun σ H' c => ?_
      refine fs_aug 2 (n := 1) nd c rfl (by exact dx_int) fun σ H' c => fs_nil ⟨⟨(m / 2, ds2, n + 1), ⟨h1, ?_, h2⟩⟩, ?_, c⟩
      · have z := ok.le
        show m / 2 * 2 ^ (n + 1) ≤ M
        have z2 : m * 2 ^ n ≤ M := z
        have z3 : m / 2 * 2 ^ (n + 1) ≤ m * 2 ^ n := by
          rw [Nat.pow_succ, Nat.mul_comm (2 ^ n) 2, ← Nat.mul_assoc]
          exact Nat.mul_le_mul_right _ (by omega)
        exact Nat.le_trans z3 z2
      · show m / 2 < m
        omega
  · obtain ⟨⟨m, ds, n⟩, ok⟩ := i
    have hm : m = 0 := by
      have z : ¬ (0 : Int) < (m : Int) := of_decide_eq_false hk
      omega
    subst hm
    have he : ds ++ lotFrom n 0 = lotOf M := ok.eq
    rw [lotFrom, dif_pos rfl, List.append_nil] at he
    refine fs_retE (c.rel 1 rfl) (by exact (dx_tupOfL G.b_tuple (dx_var 1))) ?_
    rw [lotD, ← he] at q
    exact q
theorem fn_bits_of (G : Md K mg) : C8.Cal P w K mg base 2 "bits_of" (spP T (fun (i : {m : Nat // m < 2 ^ 1000}) => [dat (.int (i.1 : Nat))]) fun i => dat (.int (lotOf i.1).length)) [] := by
  refine fn_mk G.d_bits_of ["mask"] (by decide +kernel) (fun _ => rfl) fun ⟨M, hM⟩ cdv A outer s H vs Q E f hr nd q c => ?_
  exact fs_retE c (DX.dat (dx_lenT G.b_len (dx_call (fn_lot_of G) hr ⟨M, hM⟩ (da_cons (dx_var 0) da_nil))) (by rw [List.length_map, cs_len])) q
end
end G
set_option Elab.async false
set_option linter.all false
set_option maxRecDepth 100000
set_option maxHeartbeats 1000000
namespace G
open PySem PySem.Spec L2 LamX NdefX
local macro_rules | `(tactic| fail "sub") => `(tactic| first | exact Sub.nil | (refine Sub.drop ?_; fail "sub") | (refine Sub.same ?_; fail "sub"))
local macro_rules | `(tactic| fail "side") => `(tactic| first | assumption | rfl | omega | decide)

/-! ### aims -/
inductive Kd | all | some | least (k : Nat)
def Kd.ok : Kd → Prop
  | .least k => k ≤ 25
  | _ => True
inductive Aim | bd (n : Nat) | node (kd : Kd) (as : List Aim)
mutual
def Aim.enc : Aim → PyData
  | .bd n => .int (n : Nat)
  | .node .all as => .tuple [.str "all", .tuple (Aim.encs as)]
  | .node .some as => .tuple [.str "some", .tuple (Aim.encs as)]
  | .node (.least k) as => .tuple [.str "least", .int (k : Nat), .tuple (Aim.encs as)]
def Aim.encs : List Aim → List PyData
  | [] => []
  | a :: as => a.enc :: Aim.encs as
end
mutual
def Aim.size : Aim → Nat
  | .bd _ => 1
  | .node _ as => 1 + Aim.sizes as
def Aim.sizes : List Aim → Nat
  | [] => 0
  | a :: as => a.size + Aim.sizes as
end
mutual
def Aim.depth : Aim → Nat
  | .bd _ => 1
  | .node _ as => 1 + Aim.depths as
def Aim.depths : List Aim → Nat
  | [] => 0
  | a :: as => max a.depth (Aim.depths as)
end
mutual
def Aim.ok (m : Nat) : Aim → Prop
  | .bd n => n < m
  | .node kd as => kd.ok ∧ as.length ≤ 24 ∧ Aim.oks m as
def Aim.oks (m : Nat) : List Aim → Prop
  | [] => True
  | a :: as => a.ok m ∧ Aim.oks m as
end
mutual
def Aim.holds (m : Nat) : Aim → Bool
  | .bd n => m.testBit n
  | .node .all as => (Aim.holdss m as).all id
  | .node .some as => (Aim.holdss m as).any id
  | .node (.least k) as => decide (k ≤ (Aim.holdss m as).countP id)
def Aim.holdss (m : Nat) : List Aim → List Bool
  | [] => []
  | a :: as => a.holds m :: Aim.holdss m as
end
mutual
def Aim.dual : Aim → Aim
  | .bd n => .bd n
  | .node .all as => .node .some (Aim.duals as)
  | .node .some as => .node .all (Aim.duals as)
  | .node (.least k) as => .node (.least (as.length + 1 - k)) (Aim.duals as)
def Aim.duals : List Aim → List Aim
  | [] => []
  | a :: as => a.dual :: Aim.duals as
end
mutual
def Aim.moved (b : Nat) : Aim → Aim
  | .bd n => .bd (n + b)
  | .node kd as => .node kd (Aim.moveds b as)
def Aim.moveds (b : Nat) : List Aim → List Aim
  | [] => []
  | a :: as => a.moved b :: Aim.moveds b as
end
theorem encs_map : ∀ as : List Aim, Aim.encs as = as.map Aim.enc
  | [] => rfl
  | a :: as => by rw [Aim.encs, encs_map as]; rfl
theorem holdss_map (m : Nat) : ∀ as : List Aim, Aim.holdss m as = as.map (Aim.holds m)
  | [] => rfl
  | a :: as => by rw [Aim.holdss, holdss_map m as]; rfl
theorem duals_map : ∀ as : List Aim, Aim.duals as = as.map Aim.dual
  | [] => rfl
  | a :: as => by rw [Aim.duals, duals_map as]; rfl
theorem moveds_map (b : Nat) : ∀ as : List Aim, Aim.moveds b as = as.map (Aim.moved b)
  | [] => rfl
  | a :: as => by rw [Aim.moveds, moveds_map b as]; rfl
theorem oks_iff {m : Nat} : ∀ {as : List Aim}, Aim.oks m as ↔ ∀ a ∈ as, a.ok m
  | [] => ⟨fun _ _ h => (nomatch h), fun _ => trivial⟩
  | a :: as => by
    rw [Aim.oks, oks_iff (as := as)]
    exact ⟨fun h b hb => (List.mem_cons.mp hb).elim (fun e => e ▸ h.1) (h.2 b), fun h => ⟨h a List.mem_cons_self, fun b hb => h b (List.mem_cons_of_mem _ hb)⟩⟩
theorem depths_le {d : Nat} : ∀ {as : List Aim}, Aim.depths as ≤ d ↔ ∀ a ∈ as, a.depth ≤ d
  | [] => ⟨fun _ _ h => (nomatch h), fun _ => Nat.zero_le _⟩
  | a :: as => by
    rw [Aim.depths, Nat.max_le, depths_le (as := as)]
    exact ⟨fun h b hb => (List.mem_cons.mp hb).elim (fun e => e ▸ h.1) (h.2 b), fun h => ⟨h a List.mem_cons_self, fun b hb => h b (List.mem_cons_of_mem _ hb)⟩⟩
theorem depth_pos : ∀ a : Aim, 1 ≤ a.depth
  | .bd _ => Nat.le_refl _
  | .node _ as => by rw [Aim.depth]; omega
theorem depths0 {as : List Aim} (h : Aim.depths as = 0) : as = [] := by
  cases as with
  | nil => rfl
  | cons a as =>
    have q := depth_pos a
    rw [Aim.depths] at h
    have z := Nat.le_max_left a.depth (Aim.depths as)
    omega
theorem sizes_app : ∀ {as bs : List Aim}, Aim.sizes (as ++ bs) = Aim.sizes as + Aim.sizes bs
  | [], bs => by rw [List.nil_append, Aim.sizes, Nat.zero_add]
  | a :: as, bs => by rw [List.cons_append, Aim.sizes, Aim.sizes, sizes_app]; omega
theorem sizes_take {as : List Aim} {n : Nat} {a : Aim} (e : as[n]? = some a) : Aim.sizes (as.take (n + 1)) = Aim.sizes (as.take n) + a.size := by
  rw [List.take_succ, e, sizes_app]
  show _ + (a.size + 0) = _
  omega
theorem sizes_take_le (as : List Aim) (n : Nat) : Aim.sizes (as.take n) ≤ Aim.sizes as := by
  have q := sizes_app (as := as.take n) (bs := as.drop n)
  rw [List.take_append_drop] at q
  omega
theorem size_le {as : List Aim} {a : Aim} (h : a ∈ as) : a.size ≤ Aim.sizes as := by
  obtain ⟨n, hn⟩ := List.mem_iff_getElem?.mp h
  have q := sizes_take hn
  have z := sizes_take_le as (n + 1)
  omega
theorem enc_tup (kd : Kd) (as : List Aim) : ∃ ds, (Aim.node kd as).enc = .tuple ds := by
  cases kd <;> exact ⟨_, rfl⟩
/-- a node's last item -/
theorem enc_last (kd : Kd) (as : List Aim) : ∃ ds, (Aim.node kd as).enc = .tuple ds ∧ atI ds (-1) = some (.tuple (as.map Aim.enc)) := by
  cases kd <;> exact ⟨_, rfl, by rw [encs_map] <;> rfl⟩
section
variable {P : Program} {w : World} {K : PySem.W.Frag} {mg : Str → Option Value} {base : Heap} {T : List NTab}
theorem fn_aims_in (G : Md K mg) : C8.Cal P w K mg base 3 "aims_in" (spP T (fun (i : {p : Kd × List Aim // p.1.ok ∧ p.2.length ≤ 24}) => [dat (Aim.node i.1.1 i.1.2).enc]) fun i => dat (.tuple (i.1.2.map Aim.enc))) [] := by
  refine fn_mk G.d_aims_in ["thing"] (by decide +kernel) (fun _ => rfl) fun ⟨⟨kd, as⟩, ok⟩ cdv A outer s H vs Q E f hr nd q c => ?_
  have hl : as.length ≤ 24 := ok.2
  cases kd with
  | all =>
    refine fs_if1 (k := false) c (by exact DT.to (DW.dt (dw_or (dt_not (dt_val (dx_isi G.b_isinstance G.b_tuple (by rfl) (dx_var 0) (by rfl)))) fun _ => dw_or (DC.dt (dc_notInIT (ns := [2, 3]) (by rfl) (dx_lenT G.b_len (dx_var 0)) (DX.dat (dx_tup (da_cons dx_int (da_cons dx_int da_nil))) rfl))) fun _ => dw_one (dt_not (dt_val (dx_isi G.b_isinstance G.b_str (by rfl) (dx_ixT (dx_var 0) dx_int (by fail "side")) (by rfl)))))) (by rfl)) (fun hk => by cases hk) fun _ H' c => ?_
    refine fs_if1 (k := false) c (by exact DT.to (DW.dt (dw_and (DC.dt (dc_eqI (dx_lenT G.b_len (dx_var 0)) dx_int)) fun _ => dw_one (DC.dt (dc_notInST (ns := ["all", "some"]) (by rfl) (dx_ixT (dx_var 0) dx_int (by fail "side")) (DX.dat (dx_tup (da_cons dx_str (da_cons dx_str da_nil))) rfl))))) (by rfl)) (fun hk => by cases hk) fun _ H' c => ?_
    refine fs_if1 (k := false) c (by exact DT.to (DW.dt (dw_and (l := false) (DC.dt (dc_eqI (dx_lenT G.b_len (dx_var 0)) dx_int)) fun hk => absurd hk (by exact Bool.false_ne_true))) (by rfl)) (fun hk => by cases hk) fun _ H' c => ?_
    refine fs_if1 (k := false) c (by exact DT.to (DW.dt (dw_or (dt_not (dt_val (dx_isi G.b_isinstance G.b_tuple (by rfl) (dx_ixT (dx_var 0) (dx_neg dx_int) (by fail "side")) (by rfl)))) fun _ => dw_one (DC.dt (dc_gt (dx_lenT G.b_len (dx_ixT (dx_var 0) (dx_neg dx_int) (by fail "side"))) (dx_globI G.i_MOST_AIMS.choose_spec))))) (by rw [encs_map, List.length_map]; show (!true || decide ((24 : Int) < as.length)) = false; simp; omega)) (fun hk => by cases hk) fun _ H' c => ?_
    exact fs_retE c (DX.dat (by exact (dx_ixT (dx_var 0) (dx_neg dx_int) (by fail "side"))) (by rw [encs_map])) q
  | some =>
    refine fs_if1 (k := false) c (by exact DT.to (DW.dt (dw_or (dt_not (dt_val (dx_isi G.b_isinstance G.b_tuple (by rfl) (dx_var 0) (by rfl)))) fun _ => dw_or (DC.dt (dc_notInIT (ns := [2, 3]) (by rfl) (dx_lenT G.b_len (dx_var 0)) (DX.dat (dx_tup (da_cons dx_int (da_cons dx_int da_nil))) rfl))) fun _ => dw_one (dt_not (dt_val (dx_isi G.b_isinstance G.b_str (by rfl) (dx_ixT (dx_var 0) dx_int (by fail "side")) (by rfl)))))) (by rfl)) (fun hk => by cases hk) fun _ H' c => ?_
    refine fs_if1 (k := false) c (by exact DT.to (DW.dt (dw_and (DC.dt (dc_eqI (dx_lenT G.b_len (dx_var 0)) dx_int)) fun _ => dw_one (DC.dt (dc_notInST (ns := ["all", "some"]) (by rfl) (dx_ixT (dx_var 0) dx_int (by fail "side")) (DX.dat (dx_tup (da_cons dx_str (da_cons dx_str da_nil))) rfl))))) (by rfl)) (fun hk => by cases hk) fun _ H' c => ?_
    refine fs_if1 (k := false) c (by exact DT.to (DW.dt (dw_and (l := false) (DC.dt (dc_eqI (dx_lenT G.b_len (dx_var 0)) dx_int)) fun hk => absurd hk (by exact Bool.false_ne_true))) (by rfl)) (fun hk => by cases hk) fun _ H' c => ?_
    refine fs_if1 (k := false) c (by exact DT.to (DW.dt (dw_or (dt_not (dt_val (dx_isi G.b_isinstance G.b_tuple (by rfl) (dx_ixT (dx_var 0) (dx_neg dx_int) (by fail "side")) (by rfl)))) fun _ => dw_one (DC.dt (dc_gt (dx_lenT G.b_len (dx_ixT (dx_var 0) (dx_neg dx_int) (by fail "side"))) (dx_globI G.i_MOST_AIMS.choose_spec))))) (by rw [encs_map, List.length_map]; show (!true || decide ((24 : Int) < as.length)) = false; simp; omega)) (fun hk => by cases hk) fun _ H' c => ?_
    exact fs_retE c (DX.dat (by exact (dx_ixT (dx_var 0) (dx_neg dx_int) (by fail "side"))) (by rw [encs_map])) q
  | least k =>
    have hk25 : k ≤ 25 := ok.1
    refine fs_if1 (k := false) c (by exact DT.to (DW.dt (dw_or (dt_not (dt_val (dx_isi G.b_isinstance G.b_tuple (by rfl) (dx_var 0) (by rfl)))) fun _ => dw_or (DC.dt (dc_notInIT (ns := [2, 3]) (by rfl) (dx_lenT G.b_len (dx_var 0)) (DX.dat (dx_tup (da_cons dx_int (da_cons dx_int da_nil))) rfl))) fun _ => dw_one (dt_not (dt_val (dx_isi G.b_isinstance G.b_str (by rfl) (dx_ixT (dx_var 0) dx_int (by fail "side")) (by rfl)))))) (by rfl)) (fun hk => by cases hk) fun _ H' c => ?_
    refine fs_if1 (k := false) c (by exact DT.to (DW.dt (dw_and (l := false) (DC.dt (dc_eqI (dx_lenT G.b_len (dx_var 0)) dx_int)) fun hk => absurd hk (by exact Bool.false_ne_true))) (by rfl)) (fun hk => by cases hk) fun _ H' c => ?_
    refine fs_if1 (k := false) c (by exact DT.to (DW.dt (dw_and (DC.dt (dc_eqI (dx_lenT G.b_len (dx_var 0)) dx_int)) fun _ => dw_one (DW.dt (dw_or (DC.dt (dc_neS (dx_ixT (dx_var 0) dx_int (by fail "side")) dx_str)) fun _ => dw_one (dt_not (dt_val (dx_call (fn_is_within G) hr ⟨_, _, _⟩ (da_cons (dx_ixT (dx_var 0) dx_int (by fail "side")) (da_cons dx_int (da_cons (dx_globI G.i_MOST_LEAST.choose_spec) da_nil)))))))))) (by show (true && (!true || !(isWithin (.int (k : Nat)) 0 25))) = false; simp [isWithin]; omega)) (fun hk => by cases hk) fun _ H' c => ?_
    refine fs_if1 (k := false) c (by exact DT.to (DW.dt (dw_or (dt_not (dt_val (dx_isi G.b_isinstance G.b_tuple (by rfl) (dx_ixT (dx_var 0) (dx_neg dx_int) (by fail "side")) (by rfl)))) fun _ => dw_one (DC.dt (dc_gt (dx_lenT G.b_len (dx_ixT (dx_var 0) (dx_neg dx_int) (by fail "side"))) (dx_globI G.i_MOST_AIMS.choose_spec))))) (by rw [encs_map, List.length_map]; show (!true || decide ((24 : Int) < as.length)) = false; simp; omega)) (fun hk => by cases hk) fun _ H' c => ?_
    exact fs_retE c (DX.dat (by exact (dx_ixT (dx_var 0) (dx_neg dx_int) (by fail "side"))) (by rw [encs_map])) q
end
end G
set_option Elab.async false
set_option linter.all false
set_option maxRecDepth 100000
set_option maxHeartbeats 1000000
namespace G
open PySem PySem.Spec L2 LamX NdefX
local macro_rules | `(tactic| fail "sub") => `(tactic| first | exact Sub.nil | (refine Sub.drop ?_; fail "sub") | (refine Sub.same ?_; fail "sub"))
local macro_rules | `(tactic| fail "side") => `(tactic| first | assumption | rfl | omega | decide)

section
variable {P : Program} {w : World} {K : PySem.W.Frag} {mg : Str → Option Value} {base : Heap} {T : List NTab}
structure OkParts (d : Nat) (p : Aim × Nat × Nat) : Prop where
  ok : p.1.ok p.2.1
  dep : p.1.depth ≤ p.2.2
  lev : p.1.depth ≤ d
  siz : p.1.size ≤ 200
theorem within_node (kd : Kd) (as : List Aim) (lo hi : Int) : isWithin (Aim.node kd as).enc lo hi = false := by cases kd <;> rfl
theorem fn_parts_of (G : Md K mg) (d : Nat) : C8.Cal P w K mg base (d + 4) "parts_of" (spP T (fun (i : {p : Aim × Nat × Nat // OkParts d p}) => [dat i.1.1.enc, dat (.int ((i.1.2.1 : Nat) - 1)), dat (.int (i.1.2.2 : Nat))]) fun i => dat (.int (i.1.1.size : Nat))) [] := by
  induction d with
  | zero =>
    refine fn_mk G.d_parts_of ["thing", "most", "deep", "inner", "found", "aim", "more"] (by decide +kernel) (fun _ => rfl) fun ⟨⟨a, m, dp⟩, ok⟩ cdv A outer s H vs Q E f hr nd q c => ?_
    have z := ok.lev
    have z2 := depth_pos a
    exact absurd z (by show ¬ a.depth ≤ 0; omega)
  | succ d c_rec =>
    refine fn_mk G.d_parts_of ["thing", "most", "deep", "inner", "found", "aim", "more"] (by decide +kernel) (fun _ => rfl) fun ⟨⟨a, m, dp⟩, ok⟩ cdv A outer s H vs Q E f hr nd q c => ?_
    cases a with
    | bd n =>
      have hn : n < m := ok.ok
      refine fs_if1 (k := true) c (by exact DT.to (dt_val (dx_call (fn_is_within G) hr ⟨(Aim.bd n).enc, 0, (m : Nat) - 1⟩ (da_cons (dx_var 0) (da_cons dx_int (da_cons (dx_var 1) da_nil))))) (by show isWithin (.int (n : Nat)) 0 ((m : Nat) - 1) = true; simp [isWithin]; omega)) (fun _ H' c => ?_) fun hk => by cases hk
      exact fs_retE c (by exact dx_int) q
    | node kd as =>
      have hok := ok.ok
      rw [Aim.ok] at hok
      obtain ⟨hok1, hok2, hok3⟩ := hok
      have hdep : 1 + Aim.depths as ≤ dp := ok.dep
      have hlev : 1 + Aim.depths as ≤ d + 1 := ok.lev
      have hsiz : 1 + Aim.sizes as ≤ 200 := ok.siz
      refine fs_if1 (k := false) c (by exact DT.to (dt_val (dx_call (fn_is_within G) hr ⟨(Aim.node kd as).enc, 0, (m : Nat) - 1⟩ (da_cons (dx_var 0) (da_cons dx_int (da_cons (dx_var 1) da_nil))))) (within_node _ _ _ _)) (fun hk => by cases hk) fun _ H' c => ?_
      refine fs_set 3 nd c (by exact dx_call (fn_aims_in G) hr ⟨(kd, as), hok1, hok2⟩ (da_cons (dx_var 0) da_nil)) fun σ H' c => ?_
      refine fs_if1 (k := false) c (by exact DT.to (DW.dt (dw_or (DC.dt (dc_isN (dx_var 3) dx_non)) fun _ => dw_one (DW.dt (dw_and (DC.dt (dc_eqI (dx_var 2) dx_int)) fun _ => dw_one (DC.dt (dc_gt (dx_lenT G.b_len (dx_var 3)) dx_int)))))) (by
        show (false || (decide (((dp : Nat) : Int) = 1) && decide ((0 : Int) < ((as.map Aim.enc).length : Nat)))) = false
        rw [List.length_map, Bool.false_or, Bool.and_eq_false_iff]
        by_cases h1 : dp = 1
        · have e := depths0 (as := as) (by omega)
          subst e
          exact .inr rfl
        · exact .inl (decide_eq_false (by omega)))) (fun hk => by cases hk) fun _ H' c => ?_
      refine fs_set 4 nd c (by exact dx_int) fun σ H' c => ?_
      refine fs_forM (ι := Unit) (xs := as) (js := [5]) (fun n _ => [some (dat (Aim.node kd as).enc), some (dat (.int ((m : Nat) - 1))), some (dat (.int (dp : Nat))), some (dat (.tuple (as.map Aim.enc))), some (dat (.int ((1 + Aim.sizes (as.take n) : Nat)))), none, none]) (fun _ _ => oN) (fun n x _ => [some (dat (Aim.node kd as).enc), some (dat (.int ((m : Nat) - 1))), some (dat (.int (dp : Nat))), some (dat (.tuple (as.map Aim.enc))), some (dat (.int ((1 + Aim.sizes (as.take n) : Nat)))), some (dat x.enc), none]) () (c.sub (by fail "sub")) (di_tupM (dx_var 3)) rfl (fun n x i e => dg_name 5 nd) (fun n x i H0 e g σ' H' c => ?_) (fun i σ' H' c => ?_)
      · have hx : x ∈ as := List.mem_of_getElem? e
        have z1 := sizes_take e
        have z2 := sizes_take_le as (n + 1)
        refine fs_set 6 nd c (by exact dx_call c_rec hr ⟨(x, m, dp - 1), ⟨oks_iff.mp hok3 x hx, by have := depths_le.mp (Nat.le_refl _) x hx; show x.depth ≤ dp - 1; omega, by have := depths_le.mp (Nat.le_refl _) x hx; show x.depth ≤ d; omega, by have := size_le hx; show x.size ≤ 200; omega⟩⟩ (da_cons (dx_var 5) (da_cons (dx_var 1) (da_cons (DX.dat (dx_sub (dx_var 2) dx_int) (congrArg PyData.int (by show ((dp : Nat) : Int) - 1 = ((dp - 1 : Nat) : Int); omega))) da_nil)))) fun σ H' c => ?_
        refine fs_if1 (k := false) c (by exact DT.to (DW.dt (dw_or (DC.dt (dc_isN (dx_var 6) dx_non)) fun _ => dw_one (DC.dt (dc_gt (dx_add (dx_var 4) (dx_var 6)) (dx_globI G.i_MOST_PARTS.choose_spec))))) (by
          show (false || decide ((200 : Int) < ((1 + Aim.sizes (as.take n) : Nat) : Int) + ((x.size : Nat) : Int))) = false
          rw [Bool.false_or]
          exact decide_eq_false (by omega))) (fun hk => by cases hk) fun _ H' c => ?_
        refine fs_aug 4 (n := (x.size : Nat)) nd c rfl (by exact dx_var 6) fun σ H' c => fs_nil ⟨(), ?_⟩
        have e3 : (((1 + Aim.sizes (as.take n) : Nat) : Int) + ((x.size : Nat) : Int)) = ((1 + Aim.sizes (as.take (n + 1)) : Nat) : Int) := by omega
        rw [e3] at c
        exact c.sub (by fail "sub")
      · rw [List.take_of_length_le (Nat.le_refl _)] at c
        exact fs_retE c (by exact dx_var 4) q
structure OkAim (p : Aim × Nat) : Prop where
  ok : p.1.ok p.2
  dep : p.1.depth ≤ 8
  siz : p.1.size ≤ 200
theorem fn_is_any_aim (G : Md K mg) : C8.Cal P w K mg base 13 "is_any_aim" (spP T (fun (i : {p : Aim × Nat // OkAim p}) => [dat i.1.1.enc, dat (.int ((i.1.2 : Nat) - 1))]) fun i => dat (.bool true)) [] := by
  refine fn_mk G.d_is_any_aim ["thing", "most"] (by decide +kernel) (fun _ => rfl) fun ⟨⟨a, m⟩, ok⟩ cdv A outer s H vs Q E f hr nd q c => ?_
  exact fs_retE c (by exact DX.dat (DC.dx (dc_notN (dx_call (fn_parts_of G 8) hr ⟨(a, m, 8), ⟨ok.ok, ok.dep, ok.dep, ok.siz⟩⟩ (da_cons (dx_var 0) (da_cons (dx_var 1) (da_cons (dx_globI G.i_MOST_DEEP.choose_spec) da_nil)))) dx_non)) rfl) q
theorem tb_int (m n : Nat) : decide (Builtin.bitAnd ((m : Int) / 2 ^ ((n : Int)).toNat) 1 = 1) = m.testBit n := by
  rw [PyProof.Rows.bitAnd_m1, Int.toNat_natCast, Nat.testBit_eq_decide_div_mod_eq]
  have e : ((m : Int) / 2 ^ n) = ((m / 2 ^ n : Nat) : Int) := by
    rw [Int.natCast_ediv, Int.natCast_pow]
    rfl
  rw [e]
  have e2 : (((m / 2 ^ n : Nat) : Int) % 2) = ((m / 2 ^ n % 2 : Nat) : Int) := by omega
  rw [e2, Bool.eq_iff_iff, decide_eq_true_iff, decide_eq_true_iff]
  omega
theorem countP_le' (p : Bool → Bool) (l : List Bool) : l.countP p ≤ l.length := List.countP_le_length
theorem fn_holds (G : Md K mg) (d : Nat) : C8.Cal P w K mg base (d + 1) "holds" (spP T (fun (i : {p : Aim × Nat // p.1.depth ≤ d ∧ (∃ m, p.1.ok m)}) => [dat i.1.1.enc, dat (.int (i.1.2 : Nat))]) fun i => dat (.bool (i.1.1.holds i.1.2))) [] := by
  induction d with
  | zero =>
    refine fn_mk G.d_holds ["aim", "mask", "told", "one"] (by decide +kernel) (fun _ => rfl) fun ⟨⟨a, m⟩, ok⟩ cdv A outer s H vs Q E f hr nd q c => ?_
    have z := ok.1
    have z2 := depth_pos a
    exact absurd z (by show ¬ a.depth ≤ 0; omega)
  | succ d c_rec =>
    refine fn_mk G.d_holds ["aim", "mask", "told", "one"] (by decide +kernel) (fun _ => rfl) fun ⟨⟨a, m⟩, ok⟩ cdv A outer s H vs Q E f hr nd q c => ?_
    cases a with
    | bd n =>
      refine fs_if1 (k := true) c (by exact DT.to (dt_not (dt_val (dx_isi G.b_isinstance G.b_tuple (by rfl) (dx_var 0) (by rfl)))) rfl) (fun _ H' c => ?_) fun hk => by cases hk
      exact fs_retE c (by exact DX.dat (DC.dx (dc_eqI (dx_and2 (dx_shr (dx_var 1) (dx_var 0) (Int.natCast_nonneg _)) dx_int) dx_int)) (congrArg PyData.bool (tb_int m n))) q
    | node kd as =>
      obtain ⟨hdep, mo, hok⟩ := ok
      have hdep : 1 + Aim.depths as ≤ d + 1 := hdep
      rw [Aim.ok] at hok
      obtain ⟨ok1, ok2, ok3⟩ := hok
      have hd : ∀ x ∈ as, x.depth ≤ d := depths_le.mp (by omega)
      have hm : (Aim.holdss m as).map PyData.bool = as.map (fun x => PyData.bool (x.holds m)) := by rw [holdss_map, List.map_map]; rfl
      cases kd with
      | all =>
        refine fs_if1 (k := false) c (by exact DT.to (dt_not (dt_val (dx_isi G.b_isinstance G.b_tuple (by rfl) (dx_var 0) (by rfl)))) rfl) (fun hk => by cases hk) fun _ H' c => ?_
        refine fs_lc 2 [("one", 3)] as (fun x => .bool (x.holds m)) nd rfl (by rfl) c (di_tupM (r := Aim.enc) (dx_ixT (dx_var 0) (dx_neg dx_int) (by rw [encs_map]; rfl))) (by omega) (fun x hx s0 H0 C cl fp => dg_name 3 nd) (fun x hx s0 H0 C cl fp => by exact dx_call c_rec hr ⟨(x, m), hd x hx, mo, oks_iff.mp ok3 x hx⟩ (da_cons (dx_var 3) (da_cons (dx_var 1) da_nil))) fun σ H' c => ?_
        rw [← hm] at c
        refine fs_if1 (k := true) c (by exact DT.to (DC.dt (dc_eqS (dx_ixT (dx_var 0) dx_int (by fail "side")) dx_str)) rfl) (fun _ H' c => ?_) fun hk => by cases hk
        exact fs_retE c (by exact (dx_all rfl G.b_all (dx_var 2))) q
      | some =>
        refine fs_if1 (k := false) c (by exact DT.to (dt_not (dt_val (dx_isi G.b_isinstance G.b_tuple (by rfl) (dx_var 0) (by rfl)))) rfl) (fun hk => by cases hk) fun _ H' c => ?_
        refine fs_lc 2 [("one", 3)] as (fun x => .bool (x.holds m)) nd rfl (by rfl) c (di_tupM (r := Aim.enc) (dx_ixT (dx_var 0) (dx_neg dx_int) (by rw [encs_map]; rfl))) (by omega) (fun x hx s0 H0 C cl fp => dg_name 3 nd) (fun x hx s0 H0 C cl fp => by exact dx_call c_rec hr ⟨(x, m), hd x hx, mo, oks_iff.mp ok3 x hx⟩ (da_cons (dx_var 3) (da_cons (dx_var 1) da_nil))) fun σ H' c => ?_
        rw [← hm] at c
        refine fs_if1 (k := false) c (by exact DT.to (DC.dt (dc_eqS (dx_ixT (dx_var 0) dx_int (by fail "side")) dx_str)) rfl) (fun hk => by cases hk) fun _ H' c => ?_
        refine fs_if1 (k := true) c (by exact DT.to (DC.dt (dc_eqS (dx_ixT (dx_var 0) dx_int (by fail "side")) dx_str)) rfl) (fun _ H' c => ?_) fun hk => by cases hk
        exact fs_retE c (by exact (dx_any rfl G.b_any (dx_var 2))) q
      | least k =>
        refine fs_if1 (k := false) c (by exact DT.to (dt_not (dt_val (dx_isi G.b_isinstance G.b_tuple (by rfl) (dx_var 0) (by rfl)))) rfl) (fun hk => by cases hk) fun _ H' c => ?_
        refine fs_lc 2 [("one", 3)] as (fun x => .bool (x.holds m)) nd rfl (by rfl) c (di_tupM (r := Aim.enc) (dx_ixT (dx_var 0) (dx_neg dx_int) (by rw [encs_map]; rfl))) (by omega) (fun x hx s0 H0 C cl fp => dg_name 3 nd) (fun x hx s0 H0 C cl fp => by exact dx_call c_rec hr ⟨(x, m), hd x hx, mo, oks_iff.mp ok3 x hx⟩ (da_cons (dx_var 3) (da_cons (dx_var 1) da_nil))) fun σ H' c => ?_
        rw [← hm] at c
        refine fs_if1 (k := false) c (by exact DT.to (DC.dt (dc_eqS (dx_ixT (dx_var 0) dx_int (by fail "side")) dx_str)) rfl) (fun hk => by cases hk) fun _ H' c => ?_
        refine fs_if1 (k := false) c (by exact DT.to (DC.dt (dc_eqS (dx_ixT (dx_var 0) dx_int (by fail "side")) dx_str)) rfl) (fun hk => by cases hk) fun _ H' c => ?_
        exact fs_retE c (by exact DX.dat (DC.dx (dc_ge (dx_countB (dx_var 2) dx_bl) (dx_ixT (dx_var 0) dx_int (by fail "side")))) (congrArg PyData.bool (by show decide (((k : Nat) : Int) ≤ _) = decide (k ≤ _); rw [Bool.eq_iff_iff, decide_eq_true_iff, decide_eq_true_iff]; exact Int.ofNat_le))) q
theorem duals_len (as : List Aim) : (Aim.duals as).length = as.length := by rw [duals_map, List.length_map]
theorem fn_dual_of (G : Md K mg) (d : Nat) : C8.Cal P w K mg base (d + 1) "dual_of" (spP T (fun (i : {p : Aim // p.depth ≤ d ∧ (∃ m, p.ok m)}) => [dat i.1.enc]) fun i => dat i.1.dual.enc) [] := by
  induction d with
  | zero =>
    refine fn_mk G.d_dual_of ["aim", "inner", "one"] (by decide +kernel) (fun _ => rfl) fun ⟨a, ok⟩ cdv A outer s H vs Q E f hr nd q c => ?_
    have z := ok.1
    have z2 := depth_pos a
    exact absurd z (by omega)
  | succ d c_rec =>
    refine fn_mk G.d_dual_of ["aim", "inner", "one"] (by decide +kernel) (fun _ => rfl) fun ⟨a, ok⟩ cdv A outer s H vs Q E f hr nd q c => ?_
    cases a with
    | bd n =>
      refine fs_if1 (k := true) c (by exact DT.to (dt_not (dt_val (dx_isi G.b_isinstance G.b_tuple (by rfl) (dx_var 0) (by rfl)))) rfl) (fun _ H' c => ?_) fun hk => by cases hk
      exact fs_retE c (by exact (dx_var 0)) q
    | node kd as =>
      obtain ⟨hdep, mo, hok⟩ := ok
      have hdep : 1 + Aim.depths as ≤ d + 1 := hdep
      rw [Aim.ok] at hok
      obtain ⟨ok1, ok2, ok3⟩ := hok
      have hd : ∀ x ∈ as, x.depth ≤ d := depths_le.mp (by omega)
      have hm : Aim.encs (Aim.duals as) = as.map (fun x => x.dual.enc) := by rw [encs_map, duals_map, List.map_map]; rfl
      cases kd with
      | all =>
        refine fs_if1 (k := false) c (by exact DT.to (dt_not (dt_val (dx_isi G.b_isinstance G.b_tuple (by rfl) (dx_var 0) (by rfl)))) rfl) (fun hk => by cases hk) fun _ H' c => ?_
        refine fs_set 1 nd c (by exact DX.dat (dx_tupOfL G.b_tuple (dx_lc [("one", 2)] as (fun x => x.dual.enc) nd rfl (by rfl) (di_tupM (r := Aim.enc) (dx_ixT (dx_var 0) (dx_neg dx_int) (by rw [encs_map]; rfl))) (by omega) (fun x hx s0 H0 C cl fp => dg_name 2 nd) (fun x hx s0 H0 C cl fp => by exact dx_call c_rec hr ⟨x, hd x hx, mo, oks_iff.mp ok3 x hx⟩ (da_cons (dx_var 2) da_nil)))) (congrArg PyData.tuple hm.symm)) fun σ H' c => ?_
        refine fs_if1 (k := true) c (by exact DT.to (DC.dt (dc_eqS (dx_ixT (dx_var 0) dx_int (by fail "side")) dx_str)) rfl) (fun _ H' c => ?_) fun hk => by cases hk
        exact fs_retE c (by exact dx_tup (da_cons dx_str (da_cons (dx_var 1) da_nil))) q
      | some =>
        refine fs_if1 (k := false) c (by exact DT.to (dt_not (dt_val (dx_isi G.b_isinstance G.b_tuple (by rfl) (dx_var 0) (by rfl)))) rfl) (fun hk => by cases hk) fun _ H' c => ?_
        refine fs_set 1 nd c (by exact DX.dat (dx_tupOfL G.b_tuple (dx_lc [("one", 2)] as (fun x => x.dual.enc) nd rfl (by rfl) (di_tupM (r := Aim.enc) (dx_ixT (dx_var 0) (dx_neg dx_int) (by rw [encs_map]; rfl))) (by omega) (fun x hx s0 H0 C cl fp => dg_name 2 nd) (fun x hx s0 H0 C cl fp => by exact dx_call c_rec hr ⟨x, hd x hx, mo, oks_iff.mp ok3 x hx⟩ (da_cons (dx_var 2) da_nil)))) (congrArg PyData.tuple hm.symm)) fun σ H' c => ?_
        refine fs_if1 (k := false) c (by exact DT.to (DC.dt (dc_eqS (dx_ixT (dx_var 0) dx_int (by fail "side")) dx_str)) rfl) (fun hk => by cases hk) fun _ H' c => ?_
        refine fs_if1 (k := true) c (by exact DT.to (DC.dt (dc_eqS (dx_ixT (dx_var 0) dx_int (by fail "side")) dx_str)) rfl) (fun _ H' c => ?_) fun hk => by cases hk
        exact fs_retE c (by exact dx_tup (da_cons dx_str (da_cons (dx_var 1) da_nil))) q
      | least k =>
        refine fs_if1 (k := false) c (by exact DT.to (dt_not (dt_val (dx_isi G.b_isinstance G.b_tuple (by rfl) (dx_var 0) (by rfl)))) rfl) (fun hk => by cases hk) fun _ H' c => ?_
        refine fs_set 1 nd c (by exact DX.dat (dx_tupOfL G.b_tuple (dx_lc [("one", 2)] as (fun x => x.dual.enc) nd rfl (by rfl) (di_tupM (r := Aim.enc) (dx_ixT (dx_var 0) (dx_neg dx_int) (by rw [encs_map]; rfl))) (by omega) (fun x hx s0 H0 C cl fp => dg_name 2 nd) (fun x hx s0 H0 C cl fp => by exact dx_call c_rec hr ⟨x, hd x hx, mo, oks_iff.mp ok3 x hx⟩ (da_cons (dx_var 2) da_nil)))) (congrArg PyData.tuple hm.symm)) fun σ H' c => ?_
        refine fs_if1 (k := false) c (by exact DT.to (DC.dt (dc_eqS (dx_ixT (dx_var 0) dx_int (by fail "side")) dx_str)) rfl) (fun hk => by cases hk) fun _ H' c => ?_
        refine fs_if1 (k := false) c (by exact DT.to (DC.dt (dc_eqS (dx_ixT (dx_var 0) dx_int (by fail "side")) dx_str)) rfl) (fun hk => by cases hk) fun _ H' c => ?_
        exact fs_retE c (by exact DX.dat (dx_tup (ds := [.str "least", .int _, .tuple (Aim.encs (Aim.duals as))]) (da_cons dx_str (da_cons (dx_max2 rfl G.b_max (da_cons dx_int (da_cons (dx_add (dx_sub (dx_lenT G.b_len (dx_var 1)) (dx_ixT (dx_var 0) dx_int (by fail "side"))) dx_int) da_nil))) (da_cons (dx_var 1) da_nil)))) (by
          show PyData.tuple [_, PyData.int _, _] = PyData.tuple [_, PyData.int ((as.length + 1 - k : Nat) : Int), _]
          rw [encs_map, List.length_map, duals_len]
          have e : (if ((as.length : Nat) : Int) - ((k : Nat) : Int) + 1 > 0 then ((as.length : Nat) : Int) - ((k : Nat) : Int) + 1 else 0) = ((as.length + 1 - k : Nat) : Int) := by
            split <;> omega
          rw [e])) q
theorem fn_moved_by (G : Md K mg) (d : Nat) : C8.Cal P w K mg base (d + 1) "moved_by" (spP T (fun (i : {p : Aim × Nat // p.1.depth ≤ d ∧ (∃ m, p.1.ok m)}) => [dat i.1.1.enc, dat (.int (i.1.2 : Nat))]) fun i => dat (i.1.1.moved i.1.2).enc) [] := by
  induction d with
  | zero =>
    refine fn_mk G.d_moved_by ["aim", "by", "one"] (by decide +kernel) (fun _ => rfl) fun ⟨⟨a, m⟩, ok⟩ cdv A outer s H vs Q E f hr nd q c => ?_
    have z := ok.1
    have z2 := depth_pos a
    exact absurd z (by show ¬ a.depth ≤ 0; omega)
  | succ d c_rec =>
    refine fn_mk G.d_moved_by ["aim", "by", "one"] (by decide +kernel) (fun _ => rfl) fun ⟨⟨a, m⟩, ok⟩ cdv A outer s H vs Q E f hr nd q c => ?_
    cases a with
    | bd n =>
      refine fs_if1 (k := true) c (by exact DT.to (dt_not (dt_val (dx_isi G.b_isinstance G.b_tuple (by rfl) (dx_var 0) (by rfl)))) rfl) (fun _ H' c => ?_) fun hk => by cases hk
      exact fs_retE c (by exact DX.dat (dx_add (dx_var 0) (dx_var 1)) rfl) q
    | node kd as =>
      obtain ⟨hdep, mo, hok⟩ := ok
      have hdep : 1 + Aim.depths as ≤ d + 1 := hdep
      rw [Aim.ok] at hok
      obtain ⟨ok1, ok2, ok3⟩ := hok
      have hd : ∀ x ∈ as, x.depth ≤ d := depths_le.mp (by omega)
      have hm : Aim.encs (Aim.moveds m as) = as.map (fun x => (x.moved m).enc) := by rw [encs_map, moveds_map, List.map_map]; rfl
      cases kd with
      | all =>
        refine fs_if1 (k := false) c (by exact DT.to (dt_not (dt_val (dx_isi G.b_isinstance G.b_tuple (by rfl) (dx_var 0) (by rfl)))) rfl) (fun hk => by cases hk) fun _ H' c => ?_
        exact fs_retE c (by exact DX.dat (dx_catT (dx_slT (dx_var 0) do_none (do_some (dx_neg dx_int))) (dx_tup (ds := [.tuple (as.map (fun x => (x.moved m).enc))]) (da_cons (dx_tupOfL G.b_tuple (dx_lc [("one", 2)] as (fun x => (x.moved m).enc) nd rfl (by rfl) (di_tupM (r := Aim.enc) (dx_ixT (dx_var 0) (dx_neg dx_int) (by rw [encs_map]; rfl))) (by omega) (fun x hx s0 H0 C cl fp => dg_name 2 nd) (fun x hx s0 H0 C cl fp => by exact dx_call c_rec hr ⟨(x, m), hd x hx, mo, oks_iff.mp ok3 x hx⟩ (da_cons (dx_var 2) (da_cons (dx_var 1) da_nil))))) da_nil)) (by rw [cutD_last]; show _ ≤ 100000; simp)) (by rw [cutD_last, ← hm]; rfl)) q
      | some =>
        refine fs_if1 (k := false) c (by exact DT.to (dt_not (dt_val (dx_isi G.b_isinstance G.b_tuple (by rfl) (dx_var 0) (by rfl)))) rfl) (fun hk => by cases hk) fun _ H' c => ?_
        exact fs_retE c (by exact DX.dat (dx_catT (dx_slT (dx_var 0) do_none (do_some (dx_neg dx_int))) (dx_tup (ds := [.tuple (as.map (fun x => (x.moved m).enc))]) (da_cons (dx_tupOfL G.b_tuple (dx_lc [("one", 2)] as (fun x => (x.moved m).enc) nd rfl (by rfl) (di_tupM (r := Aim.enc) (dx_ixT (dx_var 0) (dx_neg dx_int) (by rw [encs_map]; rfl))) (by omega) (fun x hx s0 H0 C cl fp => dg_name 2 nd) (fun x hx s0 H0 C cl fp => by exact dx_call c_rec hr ⟨(x, m), hd x hx, mo, oks_iff.mp ok3 x hx⟩ (da_cons (dx_var 2) (da_cons (dx_var 1) da_nil))))) da_nil)) (by rw [cutD_last]; show _ ≤ 100000; simp)) (by rw [cutD_last, ← hm]; rfl)) q
      | least k =>
        refine fs_if1 (k := false) c (by exact DT.to (dt_not (dt_val (dx_isi G.b_isinstance G.b_tuple (by rfl) (dx_var 0) (by rfl)))) rfl) (fun hk => by cases hk) fun _ H' c => ?_
        exact fs_retE c (by exact DX.dat (dx_catT (dx_slT (dx_var 0) do_none (do_some (dx_neg dx_int))) (dx_tup (ds := [.tuple (as.map (fun x => (x.moved m).enc))]) (da_cons (dx_tupOfL G.b_tuple (dx_lc [("one", 2)] as (fun x => (x.moved m).enc) nd rfl (by rfl) (di_tupM (r := Aim.enc) (dx_ixT (dx_var 0) (dx_neg dx_int) (by rw [encs_map]; rfl))) (by omega) (fun x hx s0 H0 C cl fp => dg_name 2 nd) (fun x hx s0 H0 C cl fp => by exact dx_call c_rec hr ⟨(x, m), hd x hx, mo, oks_iff.mp ok3 x hx⟩ (da_cons (dx_var 2) (da_cons (dx_var 1) da_nil))))) da_nil)) (by rw [cutD_last]; show _ ≤ 100000; simp)) (by rw [cutD_last, ← hm]; rfl)) q
end
end G
set_option Elab.async false
set_option linter.all false
set_option maxRecDepth 100000
set_option maxHeartbeats 1000000
namespace G
open PySem PySem.Spec L2 LamX NdefX

/-! ### sorted texts -/
def leS (a b : Str) : Bool := !ltCps b.cps.toList a.cps.toList
theorem leS_iff {a b : Str} : leS a b = true ↔ ¬ b.cps.toList < a.cps.toList := by
  unfold leS
  rw [PyProof.Rows.ltCps_eq]
  simp
theorem str_inj {a b : Str} (h : a.cps.toList = b.cps.toList) : a = b := by
  cases a; cases b
  simp only [Str.mk.injEq]
  exact Array.toList_inj.mp h
theorem leS_trans (a b c : Str) (h1 : leS a b = true) (h2 : leS b c = true) : leS a c = true := by
  rw [leS_iff] at *
  exact List.le_trans (l₁ := a.cps.toList) (l₂ := b.cps.toList) (l₃ := c.cps.toList) h1 h2
theorem leS_total (a b : Str) : (leS a b || leS b a) = true := by
  rw [Bool.or_eq_true, leS_iff, leS_iff]
  rcases List.le_total a.cps.toList b.cps.toList with h | h
  · exact .inl h
  · exact .inr h
theorem leS_anti {a b : Str} (h1 : leS a b = true) (h2 : leS b a = true) : a = b := by
  rw [leS_iff] at *
  exact str_inj (List.le_antisymm h1 h2)
def sortS (xs : List Str) : List Str := xs.mergeSort leS
theorem risingS_pw : ∀ {p : Str} {l : List Str}, PyProof.Rows.risingS p l = true → (p :: l).Pairwise (fun a b => leS a b = true)
  | p, [], _ => List.pairwise_singleton _ _
  | p, x :: r, h => by
    have h' : (leS p x && PyProof.Rows.risingS x r) = true := h
    rw [Bool.and_eq_true] at h'
    have ih := risingS_pw h'.2
    refine List.pairwise_cons.mpr ⟨fun y hy => ?_, ih⟩
    rcases List.mem_cons.mp hy with e | hy
    · rw [e]
      exact h'.1
    · exact leS_trans _ _ _ h'.1 ((List.pairwise_cons.mp ih).1 y hy)
theorem sortedS_pw : ∀ {l : List Str}, PyProof.Rows.sortedS l = true → l.Pairwise (fun a b => leS a b = true)
  | [], _ => .nil
  | _ :: _, h => risingS_pw h
theorem sortS_uniq {ys xs : List Str} (hp : ys.Perm xs) (h : PyProof.Rows.sortedS ys = true) : ys = sortS xs := by
  have h1 := sortedS_pw h
  have h2 : (sortS xs).Pairwise (fun a b => leS a b = true) := List.pairwise_mergeSort leS_trans leS_total xs
  have hp2 : ys.Perm (sortS xs) := hp.trans (List.mergeSort_perm xs leS).symm
  exact hp2.eq_of_pairwise (fun a b _ _ p q => leS_anti p q) h1 h2
/-! ### a dict's keys -/
def keyAdd (ks : List Str) (n : Str) : List Str := if n ∈ ks then ks else ks ++ [n]
theorem putK_keys {kvs : List (Key × V)} {ks : List Str} (h : kvs.map (·.1) = ks.map Sum.inr) (n : Str) (v : V) : (putK kvs (.inr n) v).map (·.1) = (keyAdd ks n).map Sum.inr := by
  have e : (kvs.any fun kv => decide (kv.1 = (Sum.inr n : Key))) = decide (n ∈ ks) := by
    have e1 : (kvs.any fun kv => decide (kv.1 = (Sum.inr n : Key))) = (kvs.map (·.1)).any (fun k => decide (k = (Sum.inr n : Key))) := by rw [List.any_map]; rfl
    rw [e1, h, List.any_map, Bool.eq_iff_iff, List.any_eq_true, decide_eq_true_iff]
    constructor
    · rintro ⟨x, h1, h2⟩
      have e2 : (Sum.inr x : Key) = Sum.inr n := of_decide_eq_true h2
      cases e2
      exact h1
    · intro hn
      exact ⟨n, hn, decide_eq_true rfl⟩
  unfold putK keyAdd
  rw [e]
  by_cases hn : n ∈ ks
  · rw [if_pos (decide_eq_true hn), if_pos hn, List.map_map, ← h]
    refine List.map_congr_left fun p _ => ?_
    show (if p.1 = Sum.inr n then ((p.1, v) : Key × V) else p).1 = p.1
    split <;> rfl
  · rw [if_neg (by rw [decide_eq_false hn]; exact Bool.false_ne_true), if_neg hn, List.map_append, List.map_append, h]
    rfl
def dKT (ks : List Str) : Ty := ⟨fun v H => ∃ a kvs, v = .ref a ∧ H a = some (.dK kvs) ∧ kvs.map (·.1) = ks.map Sum.inr, fun e ⟨a, kvs, h1, h2, h3⟩ => ⟨a, kvs, h1, e _ _ h2 (fun _ z => by cases z), h3⟩⟩
section
variable {T : List NTab} {X : Cx} {Γ : Gam} {σ : L2.St} {H : Hp} {a b c e kx vx tg iter : Expr} {pos pos' p apos p2 : Pos} {t u : Ty} {x : Str} {α : Type} {xs : List α} {τ : α → Ty} {r : α → Str} {js vs : List Nat} {scope : Scope} {Γ' : α → Gam}
theorem frD {D : Addr} {kvs : List (Key × V)} : Fr [(D, .dK kvs)] := ⟨by simp, fun q hq => by
  rw [List.mem_singleton.mp hq]
  rfl⟩
theorem keyAdd_len (ks : List Str) (n : Str) : (keyAdd ks n).length ≤ ks.length + 1 := by
  unfold keyAdd
  split
  · omega
  · rw [List.length_append, List.length_singleton]
    exact Nat.le_refl _
theorem keysOf_len : ∀ (l ks : List Str), (l.foldl keyAdd ks).length ≤ ks.length + l.length
  | [], ks => Nat.le_refl _
  | n :: l, ks => by
    have h1 := keysOf_len l (keyAdd ks n)
    have h2 := keyAdd_len ks n
    rw [List.foldl_cons, List.length_cons]
    omega
/-- {kx: vx for tg in iter}, the keys texts -/
theorem dx_dcS (own : List (Str × Nat)) (xs : List α) (r : α → Str) (nd : X.N.Nodup) (hc : X.calm = true) (ok : blkC X.N X.env.scope scope own = true) (hi : DI T X Γ tg iter (xs.map τ)) (hl : xs.length ≤ 100000)
    (hg : ∀ x ∈ xs, ∀ s H0 C cl fp, DG (X.blk s H0 scope (compEnvC scope cl C X.env) fp) tg (τ x) (wipeG Γ (own.map (·.2))) (Γ' x) js)
    (hk : ∀ x ∈ xs, ∀ s H0 C cl fp, DX T (X.blk s H0 scope (compEnvC scope cl C X.env) fp) (Γ' x) kx (dat (.str (r x))))
    (hv : ∀ x ∈ xs, ∀ s H0 C cl fp, DX T (X.blk s H0 scope (compEnvC scope cl C X.env) fp) (Γ' x) vx tyany) (hjs : ∀ j ∈ js, j ∈ own.map (·.2) := by decide) (hs : ∀ x, foldedSetIterable iter X.env x = pure x := by intro _; rfl) : DX T X Γ (.DictComp kx vx [⟨tg, iter, [], 0⟩] scope pos) (dKT ((xs.map r).foldl keyAdd [])) := fun σ H s Q q => by
  refine we_of (pe_dc (tt := tYes) (tk := WEb X scope kx) (tv := WEb X scope vx) (g := WGb X scope tg) hc nd pi_wi (blkOk_by ok) (fun s H C cl fp => ⟨fun pins s1 σ H v u Q I r h => h s _ C cl fp pins s1 u I r⟩) (fun s H C cl fp => pts_nil) (fun s H C cl fp => ⟨fun pins s1 σ H1 Q I h => h s H C cl fp pins s1 I⟩) (fun s H C cl fp => ⟨fun pins s1 σ H1 Q I h => h s H C cl fp pins s1 I⟩) hs) ?_
  refine hi σ H s _ fun J H1 g1 st D hD => ?_
  refine ⟨fun n m H2 => m = xs.length - n ∧ n ≤ xs.length ∧ ∃ Hb kvs, H2 = upd Hb D (.dK kvs) ∧ Hb D = none ∧ Ge T H1 Hb ∧ kvs.map (·.1) = (((xs.take n).map r).foldl keyAdd []).map Sum.inr, ⟨xs.length, by simp, Nat.zero_le _, H1, [], rfl, hD, Ge.refl _, by rw [List.take_zero]; rfl⟩, ?_⟩
  rintro n m H2 ⟨rfl, hn, Hb, kvs, rfl, hb, g2, dq⟩
  by_cases hlt : n < xs.length
  · have e : xs[n]? = some xs[n] := List.getElem?_eq_getElem hlt
    have em : (xs.map τ)[n]? = some (τ xs[n]) := by rw [List.getElem?_map, e]; rfl
    have hmem : xs[n] ∈ xs := List.getElem_mem hlt
    generalize xs[n] = x at e em hmem
    obtain ⟨go, y⟩ := st.go n _ em [(D, .dK kvs)] Hb frD (ap1 hb) g2
    refine .inr ⟨go, fun H' => ∃ Hb kvs, H' = upd Hb D (.dK kvs) ∧ Hb D = none ∧ Ge T H1 Hb ∧ kvs.map (·.1) = (((xs.take (n + 1)).map r).foldl keyAdd []).map Sum.inr, fun H' z => ⟨xs.length - (n + 1), by omega, rfl, hlt, z⟩, fun v H' hy s0 H0 C cl fp => ?_⟩
    obtain ⟨Hc, rfl, apc, gc, px⟩ := y v H' hy
    have sc : Sat (wipeG Γ (own.map (·.2))) (L2.wipe σ (own.map (·.2))) Hc := (s.ext (g1.trans (g2.trans gc)).ext).wipe _
    refine hg x hmem s0 H0 C cl fp v _ Hc _ (ge_addAll (T := T) frD apc).ext px sc _ fun σ2 s2 out => ⟨wipe_of_out hjs out, ?_⟩
    dsimp only [tYes]
    rw [if_pos rfl]
    refine fun s4 H4 C4 cl4 fp4 => we_frame frD apc (hk x hmem s4 H4 C4 cl4 fp4 σ2 Hc s2 _ fun w H5 g5 pw ap5 => ?_)
    refine fun s6 H6 C6 cl6 fp6 => we_frame frD ap5 (hv x hmem s6 H6 C6 cl6 fp6 σ2 H5 (s2.ext g5.ext) _ fun w2 H7 g7 _ ap7 => ?_)
    cases dat_str pw
    have hlen : kvs.length ≤ 100000 := by
      have z1 := congrArg List.length dq
      rw [List.length_map, List.length_map] at z1
      have z2 := keysOf_len ((xs.take n).map r) []
      rw [List.length_map, List.length_take] at z2
      have z3 : ([] : List Str).length = 0 := rfl
      omega
    refine ⟨kvs, .inr (r x), rfl, upd_same, Nat.lt_of_le_of_lt hlen (by decide), H7, putK kvs (.inr (r x)) w2, upd_upd, ap1' ap7, g2.trans (gc.trans (g5.trans g7)), ?_⟩
    rw [putK_keys dq, List.take_succ, e, List.map_append, List.foldl_append]
    rfl
  · have e : n = xs.length := by omega
    subst e
    have hm : (xs.map τ).length = xs.length := List.length_map _
    refine .inl ⟨hm ▸ st.stop [(D, .dK kvs)] Hb frD (ap1 hb) g2, q _ _ (g1.trans (g2.trans (Ge.new hb))) ?_⟩
    rw [List.take_of_length_le (Nat.le_refl _)] at dq
    exact ⟨D, kvs, rfl, upd_same, dq⟩
theorem dx_sortedD {ks : List Str} (hc : X.calm = true) (hm : X.mg "sorted" = none) (ha : DX T X Γ a (dKT ks)) (hl : ks.length < 64) (hg : Gl X "sorted" := by rfl) (hs : starEach [a] X.env = (false, eval a X.env) :: starEach [] X.env := by rfl) : DX T X Γ (.Call (.Name "sorted" p) [a] [] pos) (dat (.list ((sortS ks).map .str))) :=
  dx_callB (call_sortedD hc) hm (by decide +kernel) (da_cons ha da_nil hs) (fun vs H Q h q => by
    obtain ⟨v, rfl, l, kvs, rfl, h1, h2⟩ := tyAll1 h
    refine ⟨l, kvs, ks, rfl, .inl h1, h2, hl, fun ys p hp hs' hn => ?_⟩
    rw [sortS_uniq hp hs']
    refine q _ _ (Ge.new hn) (.lst upd_same ?_)
    have e : ∀ zs : List Str, DqAll (upd H p (.lst ((sortS ks).map V.str))) (zs.map V.str) (zs.map .str) := fun zs => by
      induction zs with
      | nil => exact .nil
      | cons z zs ih => exact .cons (.str _) ih
    exact e _) hg (by decide) (by decide) hs
end
/-! ### boards, halls -/
structure Board where
  name : Str
  side : Nat
  row : List Str
def Board.enc (b : Board) : PyData := .tuple [.str b.name, .int (b.side : Nat), .tuple (b.row.map .str)]
structure OkBoard (b : Board) : Prop where
  nm : OkName b.name 8
  sd : b.side ≤ 1
  len : b.row.length ≤ 20
  wd : ∀ z ∈ b.row, OkName z 20
def namesOf (bs : List Board) : List Str := sortS ((bs.map (·.name)).foldl keyAdd [])
/-- what is asked of the two classes -/
structure HallC (K : PySem.W.Frag) (C : Addr) : Prop where
  cls : Cls K C
  n1 : NoAttr K C "boards"
  n2 : NoAttr K C "names"
def hallT (K : PySem.W.Frag) (bs : List Board) : Ty := ⟨fun v H => ∃ a C dx fs vb vn, v = .ref a ∧ H a = some (.ins C dx fs) ∧ HallC K C ∧ fs.lookup ("boards" : Str) = some vb ∧ Dq H vb (.tuple (bs.map Board.enc)) ∧ fs.lookup ("names" : Str) = some vn ∧ Dq H vn (.tuple ((namesOf bs).map .str)),
  fun e ⟨a, C, dx, fs, vb, vn, h1, h2, h3, h4, h5, h6, h7⟩ => ⟨a, C, dx, fs, vb, vn, h1, e _ _ h2 (fun _ z => by cases z), h3, h4, dq_ext e _ _ h5, h6, dq_ext e _ _ h7⟩⟩
section
variable {T : List NTab} {X : Cx} {Γ : Gam} {a e : Expr} {pos : Pos} {bs : List Board}
theorem dx_boards (ha : DX T X Γ e (hallT X.K bs)) (hb : attributeBase e "boards" X.env (eval e X.env) = eval e X.env := by rfl) : DX T X Γ (.Attribute e "boards" pos) (dat (.tuple (bs.map Board.enc))) := fun σ H s Q q =>
  we_of (pe_fld pe_we hb) (ha σ H s _ fun v H1 g1 ⟨a, C, dx, fs, vb, vn, h1, h2, h3, h4, h5, h6, h7⟩ => ⟨a, C, dx, fs, vb, h1, h2, h3.cls, h3.n1, h4, q vb H1 g1 h5⟩)
theorem dx_names (ha : DX T X Γ e (hallT X.K bs)) (hb : attributeBase e "names" X.env (eval e X.env) = eval e X.env := by rfl) : DX T X Γ (.Attribute e "names" pos) (dat (.tuple ((namesOf bs).map .str))) := fun σ H s Q q =>
  we_of (pe_fld pe_we hb) (ha σ H s _ fun v H1 g1 ⟨a, C, dx, fs, vb, vn, h1, h2, h3, h4, h5, h6, h7⟩ => ⟨a, C, dx, fs, vn, h1, h2, h3.cls, h3.n2, h6, q vn H1 g1 h7⟩)
end
/-- a class of halls as it stands in the module -/
structure AtHall (K : PySem.W.Frag) (mg : Str → Option Value) (x qual : Str) (ist : Stmt) : Prop where
  ex : ∃ C fi fdi fk fdk, mg x = some (.ref C) ∧ Mk K C fi ∧ C8.Fun K "__init__" qual ist fi fdi ∧ Binds K fdi ["self", "boards"] [] ∧ HallC K C ∧ Meth K C "keep" fk ∧ C8.Fun K "keep" "Hall.keep" (inClass (top 42) 1) fk fdk ∧ Binds K fdk ["self", "boards"] []
end G
set_option Elab.async false
set_option linter.all false
set_option maxRecDepth 100000
set_option maxHeartbeats 1000000
namespace G
open PySem PySem.Spec L2 LamX NdefX
open AutoSeq1 (wpAny_loadPart')
open PyProof.Rows (Call_ boot_enumerate)

/-! ### enumerate over a tuple -/
theorem enum_newT (tp : Addr) (its : Array Value) (n : Nat) (dd : Option Addr) (sl : Array (Option Value)) :
    Meets (Builtin.«enumerate.__new__» ⟨[.type "enumerate", .ref tp], []⟩) (fun _ R z => z.heap.get? tp = some { cls := .type "tuple", dict := dd, data := .seq its n, slots := sl } ∧
      R (.ok (.ret (.ref (z.heap.push { cls := .type "tuple_iterator", data := .fields #[.ref tp, .int 0 0] }).objs.size)))
        { z with heap := (z.heap.push { cls := .type "tuple_iterator", data := .fields #[.ref tp, .int 0 0] }).push { cls := .type "enumerate", data := .fields #[.none, .bool false, .ref z.heap.objs.size, rawInt 0, .none, .none] } }) :=
  .of_wp fun prog w A R z hz => by
    obtain ⟨h0, gg, dr, tok, oss⟩ := z
    obtain ⟨ht, hz⟩ := hz
    have hsub := sub_enumerate
    have hT : Heap.IsTuple (Shared.heap ⟨h0, gg, dr, tok, oss⟩) tp its := ⟨_, ht, rfl, n, rfl⟩
    wp_walk using wpAny_loadPart' ht
    refine wpAny_stack_any fun stk => wpAny_pure ?_
    split
    · rename_i c0 _ _ _ _ _
      cases (c0 == Value.type "enumerate")
      · wp_walk using wpAny_loadPart' ht, wpAny_pyIter_tuple hT
        exact ⟨_, rfl, hz⟩
      · wp_walk using wpAny_loadPart' ht, wpAny_pyIter_tuple hT
        exact ⟨_, rfl, hz⟩
    · wp_walk using wpAny_loadPart' ht, wpAny_pyIter_tuple hT
      exact ⟨_, rfl, hz⟩
theorem enum_callT {prog : Program} {w : World} {A : Around} {E : Value → Shared → Prop} {z : Shared} {tp : Addr} {its : Array Value} {Q : Value → Shared → Prop} (hT : z.heap.IsTuple tp its)
    (hq : ∀ h', IsEnum h' (z.heap.objs.size + 1) z.heap.objs.size 0 .none → h'.IsTupleIter z.heap.objs.size tp 0 → h'.objs.size = z.heap.objs.size + 2 →
      (∀ b o, z.heap.get? b = some o → h'.get? b = some o) → Q (.ref (z.heap.objs.size + 1)) { z with heap := h' }) :
    wpAny (model prog w) A (call (.type "enumerate") [.ref tp]) Q E z := by
  obtain ⟨⟨c0, dd, dt, sl⟩, hl, hc, n, hd⟩ := hT
  obtain rfl : c0 = .type "tuple" := hc
  obtain rfl : dt = .seq its n := hd
  refine callType_new F.called_enumerate (by decide) (F.typeCall_enumerate_1 _) (F.newCall_enumerate_1 _) (fun ob => F.args_object_init_2 ob _) F.entry_enumerate_new (enum_newT tp its n dd sl) ⟨hl, ?_⟩
  have e1 : (z.heap.push { cls := .type "tuple_iterator", data := .fields #[.ref tp, .int 0 0] }).objs.size = z.heap.objs.size + 1 := Heap.size_push ..
  show _ ∧ _
  rw [e1]
  have e2 : IsEnum ((z.heap.push { cls := .type "tuple_iterator", data := .fields #[.ref tp, .int 0 0] }).push
      { cls := .type "enumerate", data := .fields #[.none, .bool false, .ref z.heap.objs.size, rawInt 0, .none, .none] }) (z.heap.objs.size + 1) z.heap.objs.size 0 .none := by
    have q := Heap.get?_push_size (z.heap.push { cls := .type "tuple_iterator", data := .fields #[.ref tp, .int 0 0] })
      (o := { cls := .type "enumerate", data := .fields #[.none, .bool false, .ref z.heap.objs.size, rawInt 0, .none, .none] }) rfl
    rw [e1] at q
    exact q
  refine ⟨⟨_, e2, rfl⟩, hq _ e2 ⟨_, Heap.get?_push_of_some _ (Heap.get?_push_size _ rfl), rfl, rfl⟩ (by rw [Heap.size_push, e1]) fun b o y => Heap.get?_push_of_some _ (Heap.get?_push_of_some _ y)⟩
theorem enum_endT {prog : Program} {w : World} {A : Around} {E : Value → Shared → Prop} {z : Shared} {en it tp : Addr} {i : Nat} {its : Array Value} {old : Value} {Q : Option Value → Shared → Prop} (hh : A.handled = none)
    (he : IsEnum z.heap en it i old) (hit : z.heap.IsTupleIter it tp i) (ht : z.heap.IsTuple tp its) (hx : its[i]? = none) (hQ : ∀ h', Heap.ExtBut it z.heap h' → Q none { z with heap := h' }) : wpAny (model prog w) A (pyNext (.ref en)) Q E z := by
  have ty : z.TypeIs (.ref en) "enumerate" := ⟨_, he, rfl⟩
  unfold pyNext
  refine wpAny_bind (wpAny_attempt (wpAny_callSpecial?_slot (name := Str.ofString "__next__") ty F.slot_enumerate_next (wpAny_call_entry F.slot_enumerate_next ty F.entry_enumerate_next ?_ (F.args_enumerate_next_1 _))))
  show wpAny _ _ (field (.ref en) 2 >>= _) _ _ _
  refine wpAny_bind (wpAny_field he rfl (x := .ref it) rfl (wpAny_bind (wpAny_nextOf_tuple_end (A := A.in1) hh hit ht hx fun h' x eb hx' => ?_)))
  obtain ⟨o, ho, hc⟩ := hx'
  refine wpAny_bind (wpAny_isInstance (T := "StopIteration") (b := true) ⟨o, ho, hc⟩ isSubtype_stop ?_)
  exact wpAny_pure (hQ _ eb)
def ItE (K : PySem.W.Frag) (a : Addr) : It where
  go := fun i H => ∃ (xs : List V) (x : V), SqT K H a xs ∧ xs[i]? = some x
  yld := fun i H v H' => ∃ N x, v = .ref N ∧ H N = none ∧ H' = upd H N (.tup [.int (i : Nat), x]) ∧ ∀ xs, SqT K H a xs → xs[i]? = some x
  stop := fun i H => ∃ xs : List V, SqT K H a xs ∧ xs.length ≤ i
theorem turn_enumT {P : Program} {w : World} {K : PySem.W.Frag} {elts : List Expr} {kk : Nat} {tpos : Pos} (a e it : Addr) :
    Turn P w K (.Tuple elts kk tpos) (ItE K a) [e, it] e (fun i h => (∃ old, IsEnum h e it ((i : Nat) : Int) old) ∧ h.IsTupleIter it a i ∧ e ≠ it ∧ a ≠ it ∧ a ≠ e) where
  mem := List.mem_cons_self
  obj := fun i h st b hb => by
    obtain ⟨⟨old, he⟩, ⟨o, ho, hc, hd⟩, _⟩ := st
    rcases List.mem_cons.mp hb with z | z
    · rw [z]; exact ⟨_, he, fun v q => nomatch q⟩
    · rw [List.mem_singleton.mp z]; exact ⟨o, ho, fun v q => by rw [hd] at q; cases q⟩
  keep := fun i h h' st k => ⟨let ⟨old, he⟩ := st.1; ⟨old, k e (by simp) _ he⟩, st.2.1.at fun o q => k it (by simp) o q, st.2.2⟩
  item := by
    intro X hP hw hK hc i pins s σ H E I hf st hg
    subst hP hw hK
    obtain ⟨⟨old, he⟩, hit, hne, ha1, ha2⟩ := st
    obtain ⟨xs, x, hq, hx⟩ := hg
    obtain ⟨its, rv, p, hz⟩ := I.tuple hq
    obtain ⟨u, hu, ru⟩ := rv.get hx
    have hel : e < s.heap.objs.size := Heap.lt_size he
    have hil : it < s.heap.objs.size := by obtain ⟨_, q, _⟩ := hit; exact Heap.lt_size q
    have hlt : i < its.toArray.size := by
      rw [List.size_toArray]
      exact (List.getElem?_eq_some_iff.mp hu).1
    refine wpAny_pyNext_enum_itemD (Draws.tuple (A := X.A.in1) (I.ok.hd hc) it a ha1 its.toArray) he ⟨hit, p⟩ hlt hne (by simp [hne, ha2.symm]) fun y h' tk hy ho hst hT hsz hk => ?_
    have ey : y = u := by
      have q : its.toArray[i]? = some y := hy
      rw [List.getElem?_toArray, hu] at q
      exact (Option.some.inj q).symm
    subst ey
    refine ⟨_, rfl, wpAny_letOwnedTupleGo_enum (s := { s with heap := h', toks := tk + 1 }) ho fun h'' he' sb => ?_⟩
    have hT2 : h''.get? s.heap.objs.size = some { cls := .type "tuple", data := .seq #[.int i tk, y] } := (sb.2 _ (Nat.ne_of_gt hel)).trans hT
    have new : ObjOk X.prog X.w (upd H s.heap.objs.size (.tup [.int (i : Nat), x])) h'' s.heap.objs.size (.tup [.int (i : Nat), x]) :=
      ⟨by show 2 ≤ sizeLine; decide, [.int i tk, y], .cons ⟨_, rfl⟩ (.cons ru .nil), ⟨_, hT2, rfl, _, rfl⟩⟩
    have I1 : Inv X pins σ (upd H s.heap.objs.size (.tup [.int (i : Nat), x])) { s with heap := h'', toks := tk + 1 } :=
      I.turnedNew (ch := [e, it]) (fun b ob hb q => (sb.2 b (fun z => hb (by simp [z]))).trans (hk b ob (fun z => hb (by simp [z])) (fun z => hb (by simp [z])) q)) hf (Nat.le_refl _) new
    refine ⟨.ref s.heap.objs.size, _, I1, rfl, ⟨_, x, rfl, I.hok.fresh (Nat.le_refl _), rfl, fun ys hy => by rw [I.tuple_inj hy hq]; exact hx⟩, ⟨⟨y, ?_⟩, hst.1.at fun o q => (sb.2 it (Ne.symm hne)).trans q, hne, ha1, ha2⟩, fun b hb => ?_⟩
    · have e1 : ((i + 1 : Nat) : Int) = (i : Int) + 1 := by omega
      rw [e1]
      exact he'
    · have hb' : b < s.heap.objs.size := by
        rcases List.mem_cons.mp hb with z | z
        · rw [z]; exact hel
        · rw [List.mem_singleton.mp z]; exact hil
      rw [upd_ne (Nat.ne_of_lt hb')]
      exact (hf b hb).1
  done := by
    intro X hP hw hK hc i pins s σ H E I hf st hg
    subst hP hw hK
    obtain ⟨⟨old, he⟩, hit, hne, ha1, ha2⟩ := st
    obtain ⟨xs, hq, hx⟩ := hg
    obtain ⟨its, rv, p, hz⟩ := I.tuple hq
    obtain ⟨f0, f1, f2, f3, f4, f5⟩ := hf it (by simp)
    have hl := rv.length
    exact enum_endT (I.ok.hd hc) he hit p (by simp; omega) fun h' eb => ⟨rfl, I.turned (t' := s.toks) (fun b o hb q => eb b o hb q) f0 f1 f3 f4 f5⟩
  self := fun A i s Q E st h => let ⟨⟨_, he⟩, _⟩ := st; wpAny_pyIter_enum he h
section
variable {T : List NTab} {X : Cx} {Γ : Gam} {a e : Expr} {p pos tpos : Pos} {elts : List Expr} {kk : Nat}
theorem pi_enumT {e : Expr} {ta : TA} (hg : Gl X "enumerate") (hm : X.mg "enumerate" = none) (ha : PA X [e] ta) (hs : starEach [e] X.env = [(false, eval e X.env)] := by rfl) :
    PI X (.Tuple elts kk tpos) (.Call (.Name "enumerate" p) [e] [] pos) (fun σ H R => ta σ H fun vs H1 => ∃ a xs, vs = [.ref a] ∧ SqT X.K H1 a xs ∧ R (ItE X.K a) H1) := ⟨fun pins s σ H R I h => by
  refine Call_ (ld_blt I hg hm boot_enumerate (PyProof.Rows.callWith_type1 (thn (ha.run pos pins s σ H _ I h) fun us s1 ⟨vs, H1, I1, r1, q1⟩ => ?_) hs rfl))
  obtain ⟨a, xs, ex, hq, q⟩ := q1
  subst ex
  cases r1 with
  | cons r rr =>
    cases rr
    cases r
    obtain ⟨its, rv, p', hz⟩ := I1.tuple hq
    have hlt : a < s1.heap.objs.size := p'.lt
    refine enum_callT p' fun h' he hit hsz hk => wpAny_pyIter_enum he ?_
    have I2 : Inv X pins σ H1 { s1 with heap := h' } := I1.kept (t' := s1.toks) hk
    refine ⟨s1.heap.objs.size + 1, [s1.heap.objs.size + 1, s1.heap.objs.size], _, _, H1, rfl, I2, turn_enumT a (s1.heap.objs.size + 1) s1.heap.objs.size, ⟨⟨.none, he⟩, hit, Nat.succ_ne_self _, Nat.ne_of_lt hlt, Nat.ne_of_lt (Nat.lt_succ_of_lt hlt)⟩, fun b hb => ?_, q⟩
    have hle : s1.heap.objs.size ≤ b := by
      rcases List.mem_cons.mp hb with z | z
      · rw [z]; exact Nat.le_add_right _ _
      · rw [List.mem_singleton.mp z]; exact Nat.le_refl _
    exact I1.fpOk hle (I1.hok.fresh hle)⟩
theorem di_enumT {α : Type} {xs : List α} {r : α → PyData} (hm : X.mg "enumerate" = none) (h : DX T X Γ a (dat (.tuple (xs.map r)))) (hg : Gl X "enumerate" := by rfl) (hs : starEach [a] X.env = [(false, eval a X.env)] := by rfl) :
    DI T X Γ (.Tuple elts kk tpos) (.Call (.Name "enumerate" p) [a] [] pos) (xs.zipIdx.map fun q => dat (.tuple [.int (q.2 : Nat), r q.1])) := fun σ H s R q =>
  wi_of (pi_enumT hg hm (pa_cons pe_we pa_nil hs) hs) (h σ H s _ fun v H1 g p => by
    obtain ⟨l, vs, rfl, h1, h2⟩ := dat_tup p
    refine ⟨l, vs, rfl, sqT_rd h1, q _ H1 g ⟨fun i t e L Hb f ap g => ?_, fun L Hb f ap g => ?_⟩⟩
    · have k1 : Rd (addAll Hb L) l (.tup vs) := rd_ext (g.trans (ge_addAll (T := T) f ap)).ext h1
      rw [List.getElem?_map] at e
      obtain ⟨⟨x, j⟩, e1, rfl⟩ := Option.map_eq_some_iff.mp e
      rw [List.getElem?_zipIdx] at e1
      obtain ⟨x', e2, e3⟩ := Option.map_eq_some_iff.mp e1
      obtain ⟨v, hv, pv⟩ := dqa_get h2 (show (xs.map r)[i]? = some (r x') by rw [List.getElem?_map, e2]; rfl)
      have e4 : x' = x := congrArg Prod.fst e3
      have e5 : j = i := by
        have z := congrArg Prod.snd e3
        simp at z
        exact z.symm
      subst e4 e5
      refine ⟨⟨vs, v, sqT_rd k1, hv⟩, fun y H'' hy => ?_⟩
      obtain ⟨N, y1, rfl, hN, rfl, ey⟩ := hy
      have e6 := ey vs (sqT_rd k1)
      rw [hv] at e6
      cases e6
      obtain ⟨n1, n2, n3, n4⟩ := new_over (T := T) (o := .tup [.int (j : Nat), v]) ap hN
      exact ⟨_, n1, n2, n3, .tup (.inl upd_same) (.cons (.int _) (.cons ((dat _).mono (g.trans n3).ext pv) .nil))⟩
    · have k1 : Rd (addAll Hb L) l (.tup vs) := rd_ext (g.trans (ge_addAll (T := T) f ap)).ext h1
      refine ⟨vs, sqT_rd k1, ?_⟩
      rw [List.length_map, List.length_zipIdx, dqa_len h2, List.length_map]
      exact Nat.le_refl _)
end
end G
set_option Elab.async false
set_option linter.all false
set_option maxRecDepth 100000
set_option maxHeartbeats 1000000
namespace G
open PySem PySem.Spec L2 LamX NdefX
local macro_rules | `(tactic| fail "sub") => `(tactic| first | exact Sub.nil | (refine Sub.drop ?_; fail "sub") | (refine Sub.same ?_; fail "sub"))
local macro_rules | `(tactic| fail "side") => `(tactic| first | assumption | rfl | omega | decide)

/-! ### an instance is written -/
mutual
theorem dq_keep {H H' : Hp} (h1 : ∀ b xs, H b = some (.lst xs) → H' b = some (.lst xs)) (h2 : ∀ b xs, Rd H b (.tup xs) → Rd H' b (.tup xs)) : ∀ (d : PyData) (v : V), Dq H v d → Dq H' v d
  | .none, _, h => by cases h; exact .non
  | .bool b, _, h => by cases h; exact .bl b
  | .int i, _, h => by cases h; exact .int i
  | .str x, _, h => by cases h; exact .str x
  | .list ds, _, h => by
    cases h with
    | lst a b => exact .lst (h1 _ _ a) (dqa_keep h1 h2 ds _ b)
  | .tuple ds, _, h => by
    cases h with
    | tup a b => exact .tup (h2 _ _ a) (dqa_keep h1 h2 ds _ b)
  | .dict _, _, h => by cases h
theorem dqa_keep {H H' : Hp} (h1 : ∀ b xs, H b = some (.lst xs) → H' b = some (.lst xs)) (h2 : ∀ b xs, Rd H b (.tup xs) → Rd H' b (.tup xs)) : ∀ (ds : List PyData) (vs : List V), DqAll H vs ds → DqAll H' vs ds
  | [], _, h => by cases h; exact .nil
  | d :: ds, _, h => by
    cases h with
    | cons a b => exact .cons (dq_keep h1 h2 d _ a) (dqa_keep h1 h2 ds _ b)
end
theorem dq_ins {H : Hp} {a C dx : Addr} {fs : List (Str × V)} {o : HO} {v : V} {d : PyData} (e : H a = some (.ins C dx fs)) (h : Dq H v d) : Dq (upd H a o) v d :=
  dq_keep (fun b xs q => by rw [upd_ne (ne_of q e (fun z => nomatch z))]; exact q) (fun b xs q => q.elim (fun q => .inl (by rw [upd_ne (ne_of q e (fun z => nomatch z))]; exact q)) fun ⟨o, q⟩ => .inr ⟨o, by rw [upd_ne (ne_of q e (fun z => nomatch z))]; exact q⟩) d v h
/-- keep, and what it promises -/
def spKeep (T : List NTab) (K : PySem.W.Frag) (C : Addr) : Sp := fun vs H Q _ => ∃ a dx bs vb H0, vs = [.ref a, vb] ∧ H a = some (.ins C dx []) ∧ HallC K C ∧ Dq H vb (.tuple (bs.map Board.enc)) ∧ bs.length ≤ 50 ∧ Ge T H0 H ∧ H0 a = none ∧ ∀ H', Ge T H0 H' → (hallT K bs).P (.ref a) H' → Q .non H'
structure Mc (K : PySem.W.Frag) (mg : Str → Option Value) : Prop where
  hall : AtHall K mg "Hall" "Hall.__init__" (inClass (top 42) 0)
  raw : AtHall K mg "RawHall" "RawHall.__init__" (inClass (top 43) 0)
theorem len_keys (bs : List Board) : ((bs.map (·.name)).foldl keyAdd []).length ≤ bs.length := by
  have z := keysOf_len (bs.map (·.name)) []
  rw [List.length_map] at z
  have z3 : ([] : List Str).length = 0 := rfl
  omega
theorem putF_1 (v w : V) : putF ("names" : Str) w [(("boards" : Str), v)] = [(("boards" : Str), v), (("names" : Str), w)] := by
  show (if (("boards" : Str) = ("names" : Str)) then _ else _) = _
  rw [if_neg (by decide +kernel)]
  rfl
section
variable {P : Program} {w : World} {K : PySem.W.Frag} {mg : Str → Option Value} {base : Heap} {T : List NTab}
/-- the body of keep -/
theorem keep_fn {fk C : Addr} {fdk : FuncData} (G : Md K mg) (F : C8.Fun K "keep" "Hall.keep" (inClass (top 42) 1) fk fdk) : FnOk P w K mg base CX0 1 fk fdk ["self", "boards"] (spKeep T K C) := by
  have S := C8.fnScope_by (N := ["self", "boards", "name", "side", "begun"]) (P := ["self", "boards"]) (sc := C8.fnScope (inClass (top 42) 1)) (by decide +kernel)
  refine C8.fn0 F S (fun vs H Q E h => ?_) fun cdv A outer s H vs Q E hr h => ⟨_, pss_wss, ?_⟩
  · obtain ⟨a, dx, bs, vb, H0, rfl, _⟩ := h
    rfl
  obtain ⟨a, dx, bs, vb, H0, rfl, ha, hC, hb, hl, g, h0, q⟩ := h
  have nd := S.nd
  have gs := g.mut (o := .ins C dx [(("boards" : Str), vb)]) h0 ha rfl
  have hb1 : Dq (upd H a (.ins C dx [(("boards" : Str), vb)])) vb (.tuple (bs.map Board.enc)) := dq_ins ha hb
  have st : Sat [some (tyv (.ref a)), some (dat (.tuple (bs.map Board.enc))), none, none, none] (L2.start ["self", "boards", "name", "side", "begun"] [.ref a, vb]) (upd H a (.ins C dx [(("boards" : Str), vb)])) := by
    have z := sat0 (N := ["self", "boards", "name", "side", "begun"]) (ts := [tyv (.ref a), dat (.tuple (bs.map Board.enc))]) (vs := [.ref a, vb]) (H := upd H a (.ins C dx [(("boards" : Str), vb)])) ⟨rfl, hb1, trivial⟩
    exact z
  refine fs_cons (ws_of (ps_fld (pv 0) (pv 1) rfl) ⟨vb, rfl, .ref a, rfl, a, C, dx, [], rfl, ha, hC.cls, hC.n1, by decide, ?_⟩)
  refine fs_cons (ws_of (ps_fld (pv 0) pe_we rfl) ((show DX T _ _ _ (dat (.tuple ((namesOf bs).map .str))) from (by exact dx_tupOfL G.b_tuple (dx_sortedD rfl G.b_sorted (dx_dcS [("name", 2), ("side", 3), ("begun", 4)] bs (·.name) nd rfl (by rfl) (di_tupM (dx_var 1)) (by omega) (fun x hx s0 H0 C cl fp => dg_tup3 (i1 := 2) (i2 := 3) (i3 := 4) rfl nd) (fun x hx s0 H0 C cl fp => by exact (dx_var 2)) (fun x hx s0 H0 C cl fp => by exact DX.to dx_bl (fun _ _ _ => trivial))) (by have := len_keys bs; omega)))) _ _ st _ fun vn H2 g2 pn => ?_))
  have e2 : H2 a = some (.ins C dx [(("boards" : Str), vb)]) := g2.ext _ _ upd_same fun _ z => by cases z
  refine ⟨.ref a, rfl, a, C, dx, _, rfl, e2, hC.cls, hC.n2, (by show 1 < 1000; decide), fs_nil (q _ ((gs.trans g2).mut h0 e2 rfl) ⟨a, C, dx, _, vb, vn, rfl, upd_same, hC, ?_, dq_ins e2 (dq_ext g2.ext _ _ hb1), ?_, dq_ins e2 pn⟩)⟩
  · rw [putF_1]
    rfl
  · rw [putF_1]
    rfl

theorem fn_is_board (G : Md K mg) : C8.Cal P w K mg base 4 "is_board" (spP T (fun (i : {b : Board // OkBoard b}) => [dat i.1.enc]) fun i => dat (.bool true)) [] := by
  refine fn_mk G.d_is_board ["thing"] (by decide +kernel) (fun _ => rfl) fun ⟨b, ok⟩ cdv A outer s H vs Q E f hr nd q c => ?_
  have hs := ok.sd
  have hlen := ok.len
  refine fs_if1 (k := false) c (by exact DT.to (DW.dt (dw_or (dt_not (dt_val (dx_isi G.b_isinstance G.b_tuple (by rfl) (dx_var 0) (by rfl)))) fun _ => (dw_one (DC.dt (dc_neI (dx_lenT G.b_len (dx_var 0)) dx_int))))) (by rfl)) (fun hk => by cases hk) fun _ H' c => ?_
  exact fs_retE c (by exact DX.dat (dx_and (dx_call (fn_is_name G) hr ⟨b.name, ok.nm⟩ (da_cons (dx_ixT (dx_var 0) dx_int (by fail "side")) da_nil)) fun _ => dx_and (dx_call (fn_is_within G) hr ⟨.int (b.side : Nat), 0, 1⟩ (da_cons (dx_ixT (dx_var 0) dx_int (by fail "side")) (da_cons dx_int (da_cons dx_int da_nil)))) fun _ => DX.one (dx_call (fn_is_words G) hr ⟨(b.row, 20), by show (b.row.length : Int) ≤ 20; omega, by show (20 : Int) ≤ 1000; decide, ok.wd⟩ (da_cons (dx_ixT (dx_var 0) dx_int (by fail "side")) (da_cons (dx_globI G.i_MOST_BEGUN.choose_spec) da_nil)))) (congrArg PyData.bool (by show (true && (decide ((0 : Int) ≤ (b.side : Nat) ∧ ((b.side : Nat) : Int) ≤ 1) && true)) = true; rw [decide_eq_true (by omega)]; rfl))) q

theorem mak_raw (G : Md K mg) (M : Mc K mg) : ∃ C, HallC K C ∧ C8.Mak P w K mg base 2 "RawHall" C (spKeep T K C) [] := by
  obtain ⟨C, fi, fdi, fk, fdk, hm, mk, Fi, bi, hC, me, Fk, bk⟩ := M.raw.ex
  have kf := keep_fn (P := P) (w := w) (base := base) (T := T) (C := C) G Fk
  have S := C8.fnScope_by (N := ["self", "boards"]) (P := ["self", "boards"]) (sc := C8.fnScope (inClass (top 43) 0)) (by decide +kernel)
  refine ⟨C, hC, C8.mak0 mk hm Fi bi .nil S (fun vs H Q E h => ?_) fun cdv A outer s H vs Q E hr h => ⟨_, pss_wss, ?_⟩⟩
  · obtain ⟨a, dx, bs, vb, H0, rfl, _⟩ := h
    rfl
  obtain ⟨a, dx, bs, vb, H0, rfl, ha, hC', hb, hl, g, h0, q⟩ := h
  refine fs_cons (ws_of (ps_expr (C8.pe_mt (C := C) ⟨fk, fdk, ["self", "boards"], [], hC.cls, me, kf, bk, .nil⟩ hr (by decide) (pv 0) (pa_cons (pv 1) pa_nil))) ?_)
  exact ⟨.ref a, rfl, a, dx, [], rfl, ha, rfl, vb, rfl, a, dx, bs, vb, H0, rfl, ha, hC', hb, hl, g, h0, fun H' g' p' => fs_nil (q H' g' p')⟩
structure OkBoards (bs : List Board) : Prop where
  lo : 1 ≤ bs.length
  hi : bs.length ≤ 12
  ok : ∀ b ∈ bs, OkBoard b
def spHall (T : List NTab) (K : PySem.W.Frag) (C : Addr) : Sp := fun vs H Q _ => ∃ a dx bs vb H0, vs = [.ref a, vb] ∧ H a = some (.ins C dx []) ∧ HallC K C ∧ Dq H vb (.tuple (bs.map Board.enc)) ∧ OkBoards bs ∧ Ge T H0 H ∧ H0 a = none ∧ ∀ H', Ge T H0 H' → (hallT K bs).P (.ref a) H' → Q .non H'

theorem mak_hall (G : Md K mg) (M : Mc K mg) : ∃ C, HallC K C ∧ C8.Mak P w K mg base 5 "Hall" C (spHall T K C) [] := by
  obtain ⟨C, fi, fdi, fk, fdk, hm, mk, Fi, bi, hC, me, Fk, bk⟩ := M.hall.ex
  have kf := keep_fn (P := P) (w := w) (base := base) (T := T) (C := C) G Fk
  have S := C8.fnScope_by (N := ["self", "boards", "at", "board"]) (P := ["self", "boards"]) (sc := C8.fnScope (inClass (top 42) 0)) (by decide +kernel)
  refine ⟨C, hC, C8.mak0 mk hm Fi bi .nil S (fun vs H Q E h => ?_) fun cdv A outer s H vs Q E hr h => ⟨_, pss_wss, ?_⟩⟩
  · obtain ⟨a, dx, bs, vb, H0, rfl, _⟩ := h
    rfl
  obtain ⟨a, dx, bs, vb, H0, rfl, ha, hC', hb, hok, g, h0, q⟩ := h
  have nd := S.nd
  have hlo := hok.lo
  have hhi := hok.hi
  have c : FC T H [some (tyv (.ref a)), some (dat (.tuple (bs.map Board.enc))), none, none] oN (L2.start ["self", "boards", "at", "board"] [.ref a, vb]) H := fc_start (sat0 (N := ["self", "boards", "at", "board"]) (ts := [tyv (.ref a), dat (.tuple (bs.map Board.enc))]) ⟨rfl, hb, trivial⟩)
  refine fs_if1 (k := false) c (by exact DT.to (DW.dt (dw_or (dt_not (dt_val (dx_isi G.b_isinstance G.b_tuple (by rfl) (dx_var 1) (by rfl)))) fun _ => dw_one (dt_not (dt_chain dx_int (dx_lenT G.b_len (dx_var 1)) (dx_globI G.i_MOST_BOARDS_halls.choose_spec))))) (by rw [List.length_map]; show (!true || !decide ((1 : Int) ≤ (bs.length : Nat) ∧ ((bs.length : Nat) : Int) ≤ 12)) = false; rw [decide_eq_true (by omega)]; rfl)) (fun hk => by cases hk) fun _ H1 c => ?_
  refine fs_forM (ι := Unit) (xs := bs.zipIdx) (js := [2, 3]) (fun n _ => [some (tyv (.ref a)), some (dat (.tuple (bs.map Board.enc))), none, none]) (fun _ _ => oN) (fun n x _ => [some (tyv (.ref a)), some (dat (.tuple (bs.map Board.enc))), some (dat (.int (x.2 : Nat))), some (dat x.1.enc)]) () c (di_enumT G.b_enumerate (dx_var 1)) rfl (fun n x i e => dg_tup2 (i1 := 2) (i2 := 3) rfl nd) (fun n x i H0 e g σ' H' c => ?_) (fun i σ' H' c => ?_)
  · have hx : x.1 ∈ bs := by
      obtain ⟨x1, x2⟩ := x
      rw [List.getElem?_zipIdx] at e
      obtain ⟨y, e1, e2⟩ := Option.map_eq_some_iff.mp e
      cases e2
      exact List.mem_of_getElem? e1
    refine fs_if1 (k := false) c (by exact DT.to (dt_not (dt_val (dx_call (fn_is_board G) hr ⟨x.1, hok.ok _ hx⟩ (da_cons (dx_var 3) da_nil)))) rfl) (fun hk => by cases hk) fun _ H' c => fs_nil ⟨(), c.sub (by fail "sub")⟩
  · obtain ⟨Hb, L, rfl, _, _, g2, st, rfl, _⟩ := c
    obtain ⟨v0, e0, p0⟩ := st.at_ 0 _ rfl
    obtain ⟨v1, e1, p1⟩ := st.at_ 1 _ rfl
    have p0' : v0 = .ref a := p0
    subst p0'
    have ha2 : addAll Hb [] a = some (.ins C dx []) := g2.ext _ _ ha fun _ z => by cases z
    refine fs_cons (ws_of (ps_expr (C8.pe_mt (C := C) ⟨fk, fdk, ["self", "boards"], [], hC.cls, me, kf, bk, .nil⟩ hr (by decide) (pv 0) (pa_cons (pv 1) pa_nil))) ?_)
    exact ⟨.ref a, e0, a, dx, [], rfl, ha2, rfl, v1, e1, a, dx, bs, v1, H0, rfl, ha2, hC', p1, by omega, g.trans g2, h0, fun H' g' p' => fs_nil (q H' g' p')⟩
theorem dx_raw {X : Cx} {Γ : Gam} {e : Expr} {p pos : Pos} {bs : List Board} {j : Nat} (Gm : Md X.K X.mg) (M : Mc X.K X.mg) (hr : Room j X.A) (ha : DX T X Γ e (dat (.tuple (bs.map Board.enc)))) (hl : bs.length ≤ 50) (hk : 3 ≤ j := by decide) (hg : Gl X "RawHall" := by rfl)
    (hdb : (("RawHall" : Str) == ("__debug__" : Str)) = false := by decide) (he : starEach (e :: []) X.env = (false, eval e X.env) :: starEach [] X.env := by rfl) (hpl : (backTo pos (starEach [] X.env)).any (·.1) = false := by rfl) : DX T X Γ (.Call (.Name "RawHall" p) [e] [] pos) (hallT X.K bs) := fun σ H s Q q => by
  obtain ⟨C, hC, mk⟩ := mak_raw (P := X.prog) (w := X.w) (base := X.base) (T := T) Gm M
  exact we_of (C8.pe_mk mk hr hk hg (pa_cons pe_we pa_nil he) hdb he hpl) (ha σ H s _ fun v H1 g1 p1 => fun x dx hx hdx ne => by
    have g2 : Ge T H1 (upd (upd H1 dx (.own x)) x (.ins C dx [])) := (Ge.new (T := T) hdx).trans (Ge.new (by rw [upd_ne (Ne.symm ne)]; exact hx))
    exact ⟨x, dx, bs, v, H1, rfl, upd_same, hC, dq_ext g2.ext _ _ p1, hl, g2, hx, fun H' g' p' => ⟨rfl, q _ H' (g1.trans g') p'⟩⟩)
theorem dx_hall {X : Cx} {Γ : Gam} {e : Expr} {p pos : Pos} {bs : List Board} {j : Nat} (Gm : Md X.K X.mg) (M : Mc X.K X.mg) (hr : Room j X.A) (ha : DX T X Γ e (dat (.tuple (bs.map Board.enc)))) (hl : OkBoards bs) (hk : 6 ≤ j := by decide) (hg : Gl X "Hall" := by rfl)
    (hdb : (("Hall" : Str) == ("__debug__" : Str)) = false := by decide) (he : starEach (e :: []) X.env = (false, eval e X.env) :: starEach [] X.env := by rfl) (hpl : (backTo pos (starEach [] X.env)).any (·.1) = false := by rfl) : DX T X Γ (.Call (.Name "Hall" p) [e] [] pos) (hallT X.K bs) := fun σ H s Q q => by
  obtain ⟨C, hC, mk⟩ := mak_hall (P := X.prog) (w := X.w) (base := X.base) (T := T) Gm M
  exact we_of (C8.pe_mk mk hr hk hg (pa_cons pe_we pa_nil he) hdb he hpl) (ha σ H s _ fun v H1 g1 p1 => fun x dx hx hdx ne => by
    have g2 : Ge T H1 (upd (upd H1 dx (.own x)) x (.ins C dx [])) := (Ge.new (T := T) hdx).trans (Ge.new (by rw [upd_ne (Ne.symm ne)]; exact hx))
    exact ⟨x, dx, bs, v, H1, rfl, upd_same, hC, dq_ext g2.ext _ _ p1, hl, g2, hx, fun H' g' p' => ⟨rfl, q _ H' (g1.trans g') p'⟩⟩)

end
end G
set_option Elab.async false
set_option linter.all false
set_option maxRecDepth 100000
set_option maxHeartbeats 1000000
namespace G
open PySem PySem.Spec L2 LamX NdefX
local macro_rules | `(tactic| fail "sub") => `(tactic| first | exact Sub.nil | (refine Sub.drop ?_; fail "sub") | (refine Sub.same ?_; fail "sub"))
local macro_rules | `(tactic| fail "side") => `(tactic| first | assumption | rfl | omega | decide)

def Board.turn (b : Board) : Board := ⟨b.name, 1 - b.side, b.row⟩
def board0 : Board := ⟨"", 0, []⟩
def pick (bs : List Board) (lot : List Nat) : List Board := lot.map fun i => bs.getD i board0
theorem getD_of {α : Type} {xs : List α} {i : Nat} {d x : α} (h : xs[i]? = some x) : xs.getD i d = x := by rw [List.getD_eq_getElem?_getD, h]; rfl
theorem get_enc {bs : List Board} {i : Nat} (h : i < bs.length) : atI (bs.map Board.enc) (i : Int) = some (bs.getD i board0).enc := by
  have e : bs[i]? = some bs[i] := List.getElem?_eq_getElem h
  refine atI_nat ?_
  rw [List.getElem?_map, e, getD_of e]
  rfl
/-- texts side by side -/
theorem eqvAll_strs0 : ∀ xs ys : List Str, PyData.eqvAll (xs.map .str) (ys.map .str) = decide (xs = ys)
  | [], [] => by simp [PyData.eqvAll]
  | [], _ :: _ => by simp [PyData.eqvAll]
  | _ :: _, [] => by simp [PyData.eqvAll]
  | x :: xs, y :: ys => by
    rw [List.map_cons, List.map_cons, PyData.eqvAll, eqvAll_strs0 xs ys, PyData.eqv, Bool.eq_iff_iff, Bool.and_eq_true, decide_eq_true_iff, decide_eq_true_iff, List.cons.injEq, beq_iff_eq]
theorem eqvAll_strs (xs ys : List Str) : PyData.eqv (.tuple (xs.map .str)) (.tuple (ys.map .str)) = decide (xs = ys) := by
  rw [PyData.eqv]
  exact eqvAll_strs0 xs ys
def RowOk (b : Board) : Prop := ∀ z ∈ b.row, PyData.strOk z = true
theorem canLay_strs : ∀ {xs : List Str}, (∀ z ∈ xs, PyData.strOk z = true) → PyData.canLayAll0 (xs.map .str) = true
  | [], _ => by rw [List.map_nil, PyData.canLayAll0]
  | x :: xs, h => by
    rw [List.map_cons, PyData.canLayAll0, PyData.canLay0, h x List.mem_cons_self, canLay_strs fun z hz => h z (List.mem_cons_of_mem _ hz)]
    rfl
theorem depth_strs : ∀ xs : List Str, PyData.depthAll (xs.map .str) = 0
  | [] => by rw [List.map_nil, PyData.depthAll]
  | x :: xs => by
    rw [List.map_cons, PyData.depthAll, depth_strs xs, PyData.depth]
    rfl
theorem shaped_strs {xs : List Str} (h : ∀ z ∈ xs, PyData.strOk z = true) : SeqAt.shaped (.tuple (xs.map .str)) = true := by
  unfold SeqAt.shaped
  rw [PyData.canLay0, canLay_strs h, PyData.depth, depth_strs]
  rfl
def isAhead (a b : Board) : Bool := if a.row.length ≠ b.row.length + 1 ∨ a.row.dropLast ≠ b.row then false else decide (b.row.length % 2 ≠ a.side)
def arePair (a b : Board) : Bool := if a.name ≠ b.name ∨ a.side = b.side then false else decide (a.row = b.row) || isAhead a b || isAhead b a
def pD (p : Nat × Nat) : PyData := .tuple [.int (p.1 : Nat), .int (p.2 : Nat)]
def pairsAt (bs : List Board) (b : Board) (i k : Nat) : List (Nat × Nat) := ((List.range k).filter fun k => arePair b (bs.getD (i + 1 + k) board0)).map fun k => (i, i + 1 + k)
def allPairs (bs : List Board) : List (Nat × Nat) := bs.zipIdx.flatMap fun q => pairsAt bs q.1 q.2 (bs.length - (q.2 + 1))
section
variable {P : Program} {w : World} {K : PySem.W.Frag} {mg : Str → Option Value} {base : Heap} {T : List NTab}
structure OkTurn (bs : List Board) : Prop where
  len : bs.length ≤ 50
  sd : ∀ b ∈ bs, b.side ≤ 1
theorem fn_turned (G : Md K mg) (M : Mc K mg) : C8.Cal P w K mg base 4 "turned" (spP T (fun (i : {bs : List Board // OkTurn bs}) => [hallT K i.1]) fun i => hallT K (i.1.map Board.turn)) [] := by
  refine fn_mk G.d_turned ["hall", "name", "side", "begun"] (by decide +kernel) (fun _ => rfl) fun ⟨bs, ok⟩ cdv A outer s H vs Q E f hr nd q c => ?_
  have hl := ok.len
  exact fs_retE c (by exact dx_raw G M hr (DX.dat (dx_tupOfL G.b_tuple (dx_lc [("name", 1), ("side", 2), ("begun", 3)] bs (fun b => b.turn.enc) nd rfl (by rfl) (di_tupM (dx_boards (dx_var 0))) (by omega) (fun x hx s0 H0 C cl fp => dg_tup3 (i1 := 1) (i2 := 2) (i3 := 3) rfl nd) (fun x hx s0 H0 C cl fp => by exact DX.dat (dx_tup (ds := [.str x.name, .int (1 - (x.side : Nat)), .tuple (x.row.map .str)]) (da_cons (dx_var 1) (da_cons (dx_sub dx_int (dx_var 2)) (da_cons (dx_var 3) da_nil)))) (by
    have hs := ok.sd x hx
    have e : (1 : Int) - ((x.side : Nat) : Int) = ((1 - x.side : Nat) : Int) := by omega
    rw [e]
    rfl)))) (by rw [List.map_map]; rfl)) (by rw [List.length_map]; exact ok.len)) q
theorem fn_joined (G : Md K mg) (M : Mc K mg) : C8.Cal P w K mg base 4 "joined" (spP T (fun (i : {p : List Board × List Board // p.1.length + p.2.length ≤ 50}) => [hallT K i.1.1, hallT K i.1.2]) fun i => hallT K (i.1.1 ++ i.1.2)) [] := by
  refine fn_mk G.d_joined ["one", "other"] (by decide +kernel) (fun _ => rfl) fun ⟨⟨bs, cs⟩, ok⟩ cdv A outer s H vs Q E f hr nd q c => ?_
  have hl : bs.length + cs.length ≤ 50 := ok
  exact fs_retE c (by exact dx_raw G M hr (DX.dat (dx_catT (dx_boards (dx_var 0)) (dx_boards (dx_var 1)) (by rw [List.length_map, List.length_map]; exact Nat.le_trans ok (by decide))) (by rw [List.map_append])) (by rw [List.length_append]; exact ok)) q
structure OkOnly (p : List Board × List Nat) : Prop where
  lot : OkLot (p.2, p.1.length)
  ne : p.2 ≠ []
  len : p.1.length ≤ 50
theorem lot_len : ∀ {ns : List Nat} {m : Nat}, OkLot (ns, m) → ns.length ≤ m := by
  intro ns m h
  have go : ∀ (ns : List Nat) (k : Nat), ns.Pairwise (· < ·) → (∀ x ∈ ns, k ≤ x) → (∀ x ∈ ns, x < m) → k ≤ m → ns.length + k ≤ m := by
    intro ns
    induction ns with
    | nil => intro k _ _ _ hk; simpa using hk
    | cons x ns ih =>
      intro k hp h1 h2 hk
      obtain ⟨p1, p2⟩ := List.pairwise_cons.mp hp
      have q := ih (x + 1) p2 (fun y hy => p1 y hy) (fun y hy => h2 y (List.mem_cons_of_mem _ hy)) (h2 x List.mem_cons_self)
      have q2 := h1 x List.mem_cons_self
      rw [List.length_cons]
      omega
  exact go ns 0 h.asc (fun _ _ => Nat.zero_le _) h.lt (Nat.zero_le _)
theorem fn_only (G : Md K mg) (M : Mc K mg) : C8.Cal P w K mg base 4 "only" (spP T (fun (i : {p : List Board × List Nat // OkOnly p}) => [hallT K i.1.1, dat (lotD i.1.2)]) fun i => hallT K (pick i.1.1 i.1.2)) [] := by
  refine fn_mk G.d_only ["hall", "lot", "board"] (by decide +kernel) (fun _ => rfl) fun ⟨⟨bs, lot⟩, ok⟩ cdv A outer s H vs Q E f hr nd q c => ?_
  have hlen : lot.length ≤ bs.length := lot_len ok.lot
  have hl : bs.length ≤ 50 := ok.len
  refine fs_if1 (k := false) c (by exact DT.to (DW.dt (dw_or (dt_not (dt_val (dx_call (fn_is_lot G) hr ⟨(lot, bs.length), ok.lot⟩ (da_cons (dx_var 1) (da_cons (DX.dat (dx_lenT G.b_len (dx_boards (dx_var 0))) (by rw [List.length_map])) da_nil))))) fun _ => dw_one (DC.dt (dc_eqI (dx_lenT G.b_len (dx_var 1)) dx_int)))) (by
    rw [List.length_map, cs_len]
    have e : lot.length ≠ 0 := fun z => ok.ne (List.eq_nil_of_length_eq_zero z)
    show (!true || decide (((lot.length : Nat) : Int) = 0)) = false
    rw [decide_eq_false (by omega)]
    rfl)) (fun hk => by cases hk) fun _ H' c => ?_
  exact fs_retE c (by exact dx_raw G M hr (DX.dat (dx_tupOfL G.b_tuple (dx_lc [("board", 2)] (cs lot) (fun i => (bs.getD i.toNat board0).enc) nd rfl (by rfl) (di_tupM (dx_var 1)) (by rw [cs_len]; omega) (fun x hx s0 H0 C cl fp => dg_name 2 nd) (fun x hx s0 H0 C cl fp => by exact dx_ixT (dx_boards (dx_var 0)) (dx_var 2) (by
    obtain ⟨n, hn, rfl⟩ := cs_mem hx
    exact get_enc (ok.lot.lt n hn))))) (by unfold cs pick; rw [List.map_map, List.map_map]; rfl)) (by unfold pick; rw [List.length_map]; show lot.length ≤ 50; omega)) q
theorem fn_is_aim (G : Md K mg) : C8.Cal P w K mg base 14 "is_aim" (spP T (fun (i : {p : List Board × Aim // OkAim (p.2, p.1.length)}) => [hallT K i.1.1, dat i.1.2.enc]) fun i => dat (.bool true)) [] := by
  refine fn_mk G.d_is_aim ["hall", "thing"] (by decide +kernel) (fun _ => rfl) fun ⟨⟨bs, a⟩, ok⟩ cdv A outer s H vs Q E f hr nd q c => ?_
  exact fs_retE c (by exact dx_call (fn_is_any_aim G) hr ⟨(a, bs.length), ok⟩ (da_cons (dx_var 1) (da_cons (DX.dat (dx_sub (dx_lenT G.b_len (dx_boards (dx_var 0))) dx_int) (by rw [List.length_map])) da_nil))) q
theorem fn_check_aim (G : Md K mg) : C8.Cal P w K mg base 15 "check_aim" (spP T (fun (i : {p : List Board × Aim // OkAim (p.2, p.1.length)}) => [hallT K i.1.1, dat i.1.2.enc]) fun i => dat .none) [] := by
  refine fn_mk G.d_check_aim ["hall", "thing"] (by decide +kernel) (fun _ => rfl) fun ⟨⟨bs, a⟩, ok⟩ cdv A outer s H vs Q E f hr nd q c => ?_
  exact fs_if1 (k := false) c (by exact DT.to (dt_not (dt_val (dx_call (fn_is_aim G) hr ⟨(bs, a), ok⟩ (da_cons (dx_var 0) (da_cons (dx_var 1) da_nil))))) rfl) (fun hk => by cases hk) fun _ H' c => fs_nil (q _ _ c.done.1 .non)
theorem fn_mover_of (G : Md K mg) : C8.Cal P w K mg base 1 "mover_of" (spP T (fun (i : List Str) => [dat (.tuple (i.map .str))]) fun i => dat (.int (i.length % 2 : Nat))) [] := by
  refine fn_mk G.d_mover_of ["row"] (by decide +kernel) (fun _ => rfl) fun row cdv A outer s H vs Q E f hr nd q c => ?_
  exact fs_retE c (by exact DX.dat (dx_mod (dx_lenT G.b_len (dx_var 0)) dx_int (by decide)) (by rw [List.length_map]; exact congrArg PyData.int (by omega))) q
theorem fn_is_ahead (G : Md K mg) : C8.Cal P w K mg base 2 "is_ahead" (spP T (fun (i : {p : Board × Board // RowOk p.1 ∧ RowOk p.2}) => [dat i.1.1.enc, dat i.1.2.enc]) fun i => dat (.bool (isAhead i.1.1 i.1.2))) [] := by
  refine fn_mk G.d_is_ahead ["longer", "shorter"] (by decide +kernel) (fun _ => rfl) fun ⟨⟨a, b⟩, ok1, ok2⟩ cdv A outer s H vs Q E f hr nd q c => ?_
  have hu : (bodyX P w K mg base ["longer", "shorter"] "is_ahead" (top 50) f cdv A outer s H E).A.units + 64 < cLine := hr.units
  refine fs_if1 (k := decide (a.row.length ≠ b.row.length + 1 ∨ a.row.dropLast ≠ b.row)) c (by exact DT.to (DW.dt (dw_or (DC.dt (dc_neI (dx_lenT G.b_len (dx_ixT (dx_var 0) dx_int (by fail "side"))) (dx_add (dx_lenT G.b_len (dx_ixT (dx_var 1) dx_int (by fail "side"))) dx_int))) fun _ => dw_one (DC.dt (dc_neD hu (dx_slT (dx_ixT (dx_var 0) dx_int (by fail "side")) do_none (do_some (dx_neg dx_int))) (dx_ixT (dx_var 1) dx_int (by fail "side")) (by rw [cutD_last, ← List.map_dropLast]; exact shaped_strs fun z hz => ok1 z (List.dropLast_subset _ hz)) (shaped_strs ok2))))) (by
    rw [List.length_map, List.length_map, cutD_last, ← List.map_dropLast, eqvAll_strs, Bool.eq_iff_iff, decide_eq_true_iff, Bool.or_eq_true, Bool.not_eq_true', Bool.not_eq_true', decide_eq_false_iff_not, decide_eq_false_iff_not]
    show (¬ (((a.row.length : Nat) : Int) = ((b.row.length : Nat) : Int) + 1) ∨ ¬ (a.row.dropLast = b.row)) ↔ _
    exact ⟨fun h => h.imp (fun h => by omega) id, fun h => h.imp (fun h => by omega) id⟩)) (fun hk H' c => ?_) fun hk H' c => ?_
  · refine fs_retE c dx_bl ?_
    have e : isAhead a b = false := if_pos (of_decide_eq_true hk)
    rw [e] at q
    exact q
  · have e : isAhead a b = decide (b.row.length % 2 ≠ a.side) := if_neg (of_decide_eq_false hk)
    rw [e] at q
    exact fs_retE c (by exact DX.dat (DC.dx (dc_neI (dx_call (fn_mover_of G) hr b.row (da_cons (dx_ixT (dx_var 1) dx_int (by fail "side")) da_nil)) (dx_ixT (dx_var 0) dx_int (by fail "side")))) (congrArg PyData.bool (by
      rw [Bool.eq_iff_iff, decide_eq_true_iff, Bool.not_eq_true', decide_eq_false_iff_not]
      show ¬ (((b.row.length % 2 : Nat) : Int) = ((a.side : Nat) : Int)) ↔ _
      omega))) q
theorem fn_are_pair (G : Md K mg) : C8.Cal P w K mg base 3 "are_pair" (spP T (fun (i : {p : Board × Board // RowOk p.1 ∧ RowOk p.2}) => [dat i.1.1.enc, dat i.1.2.enc]) fun i => dat (.bool (arePair i.1.1 i.1.2))) [] := by
  refine fn_mk G.d_are_pair ["one", "other"] (by decide +kernel) (fun _ => rfl) fun ⟨⟨a, b⟩, ok1, ok2⟩ cdv A outer s H vs Q E f hr nd q c => ?_
  have hu : (bodyX P w K mg base ["one", "other"] "are_pair" (top 51) f cdv A outer s H E).A.units + 64 < cLine := hr.units
  refine fs_if1 (k := decide (a.name ≠ b.name ∨ a.side = b.side)) c (by exact DT.to (DW.dt (dw_or (DC.dt (dc_neS (dx_ixT (dx_var 0) dx_int (by fail "side")) (dx_ixT (dx_var 1) dx_int (by fail "side")))) fun _ => dw_one (DC.dt (dc_eqI (dx_ixT (dx_var 0) dx_int (by fail "side")) (dx_ixT (dx_var 1) dx_int (by fail "side")))))) (by
    rw [Bool.eq_iff_iff, decide_eq_true_iff, Bool.or_eq_true, Bool.not_eq_true', decide_eq_false_iff_not, decide_eq_true_iff]
    show (¬ (a.name = b.name) ∨ (((a.side : Nat) : Int) = ((b.side : Nat) : Int))) ↔ _
    exact ⟨fun h => h.imp id (fun h => by omega), fun h => h.imp id (fun h => by omega)⟩)) (fun hk H' c => ?_) fun hk H' c => ?_
  · refine fs_retE c dx_bl ?_
    have e : arePair a b = false := if_pos (of_decide_eq_true hk)
    rw [e] at q
    exact q
  · have e : arePair a b = (decide (a.row = b.row) || (isAhead a b || isAhead b a)) := (if_neg (of_decide_eq_false hk)).trans (Bool.or_assoc _ _ _)
    rw [e] at q
    exact fs_retE c (by exact DX.dat (dx_or (DC.dx (dc_eqD hu (dx_ixT (dx_var 0) dx_int (by fail "side")) (dx_ixT (dx_var 1) dx_int (by fail "side")) (shaped_strs ok1) (shaped_strs ok2))) fun _ => dx_or (dx_call (fn_is_ahead G) hr ⟨(a, b), ok1, ok2⟩ (da_cons (dx_var 0) (da_cons (dx_var 1) da_nil))) fun _ => DX.one (dx_call (fn_is_ahead G) hr ⟨(b, a), ok2, ok1⟩ (da_cons (dx_var 1) (da_cons (dx_var 0) da_nil)))) (by rw [eqvAll_strs])) q
end
end G
set_option Elab.async false
set_option linter.all false
set_option maxRecDepth 100000
set_option maxHeartbeats 1000000
namespace G
open PySem PySem.Spec L2 LamX NdefX
local macro_rules | `(tactic| fail "sub") => `(tactic| first | exact Sub.nil | (refine Sub.drop ?_; fail "sub") | (refine Sub.same ?_; fail "sub"))
local macro_rules | `(tactic| fail "side") => `(tactic| first | assumption | rfl | omega | decide)

/-! ### a dict of one's own, its values whole numbers -/
def oK (a : Addr) (kvs : List (Key × V)) (O : OS) : OS := ⟨fun H L => ∃ L', L = (a, .dK kvs) :: L' ∧ O.P H L', fun e ⟨L', h1, h2⟩ => ⟨L', h1, O.mono e h2⟩⟩
def dKV (kvs : List (Key × V)) : Ty := ⟨fun v H => ∃ a, v = .ref a ∧ H a = some (.dK kvs), fun e ⟨a, h1, h2⟩ => ⟨a, h1, e _ _ h2 (fun _ z => by cases z)⟩⟩
section
variable {T : List NTab} {X : Cx} {Γ Γ' : Gam} {O O' : OS} {Hin : Hp} {σ : L2.St} {H : Hp} {D : Ends} {a b c e tg iter : Expr} {es : List Expr} {st : Stmt} {rest body bl : List Stmt} {pos pos' p apos p2 : Pos} {t u : Ty} {x : Str} {i : Nat} {k : Bool}
theorem FC.relK {a : Addr} {kvs : List (Key × V)} (c : FC T Hin Γ (oK a kvs O) σ H) (i : Nat) (hi : Γ[i]? = some (some (tyv (.ref a)))) : FC T Hin (Γ.set i (some (dKV kvs))) O σ H := by
  obtain ⟨Hb, L, rfl, f, ap, g, s, ⟨L', rfl, h3⟩, _⟩ := c
  have ha : Hb a = none := ap _ List.mem_cons_self
  have hn := (List.nodup_cons.mp f.nd).1
  have gn : Ge T Hb (upd Hb a (.dK kvs)) := Ge.new ha
  obtain ⟨v, h4, h5⟩ := s.at_ i _ hi
  have hv : v = .ref a := h5
  subst hv
  have es : σ.set i (some (.ref a)) = σ := by
    obtain ⟨hlt, he⟩ := List.getElem?_eq_some_iff.mp h4
    rw [← he]
    exact List.set_getElem_self hlt
  have s2 := (s.ext gn.ext).set (i := i) (t := dKV kvs) (v := .ref a) ⟨a, rfl, upd_same⟩
  rw [es] at s2
  refine ⟨upd Hb a (.dK kvs), L', (addAll_upd hn), f.tail, fun q hq => ?_, g.trans gn, s2, O.mono gn.ext h3, trivial⟩
  have nq : q.1 ≠ a := fun z => hn (z ▸ List.mem_map.mpr ⟨q, hq, rfl⟩)
  rw [upd_ne nq]
  exact ap q (List.mem_cons_of_mem _ hq)
/-- name = {} -/
theorem fs_ownK (i : Nat) (nd : X.N.Nodup) (c : FC T Hin Γ O σ H) (k : ∀ a σ' H', FC T Hin (Γ.set i (some (tyv (.ref a)))) (oK a [] O) σ' H' → WSs X rest D σ' H') (hi : X.N[i]? = some x := by rfl) (hx : Loc X.env.scope x := by first | exact Or.inl rfl | exact Or.inr rfl)
    (hs : swapsWith (.Dict [] [] p) (some (.Name x pos')) pos.line X.env = pure false := by rfl) (hf : X.fn x = true ∨ X.env.scope.names.lookup x = some .local := by first | exact .inl rfl | exact .inr rfl) : WSs X (.Assign [.Name x pos'] (.Dict [] [] p) pos :: rest) D σ H := by
  obtain ⟨Hb, L, rfl, f, ap, g, s, o, _⟩ := c
  refine fs_cons (ws_of (ps_set nd hi hx pe_dnewK hs hf) fun r hr => ?_)
  obtain ⟨h1, h2⟩ := addAll_none hr
  refine k r _ _ ⟨Hb, (r, .dK []) :: L, rfl, ⟨List.nodup_cons.mpr ⟨h2, f.nd⟩, fun q hq => ?_⟩, fun q hq => ?_, g, s.set (t := tyv (.ref r)) rfl, ⟨L, rfl, o⟩, trivial⟩
  · rcases List.mem_cons.mp hq with z | z
    · rw [z]
      rfl
    · exact f.pl q z
  · rcases List.mem_cons.mp hq with z | z
    · rw [z]
      exact h1
    · exact ap q z
/-- found[e1] = e2, both whole numbers -/
theorem fs_dputI (i : Nat) {a : Addr} {kvs : List (Key × V)} {m n : Int} (hu : X.A.units + 1 < cLine) (c : FC T Hin Γ (oK a kvs O) σ H) (hi : Γ[i]? = some (some (tyv (.ref a)))) (hl : kvs.length ≤ 100000) (h1 : DX T X Γ e (dat (.int m))) (h2 : DX T X Γ b (dat (.int n))) (k : ∀ H', FC T Hin Γ (oK a (putK kvs (.inl m) (.int n)) O) σ H' → WSs X rest D σ H')
    (hN : X.N[i]? = some x := by rfl) (hv : Vis X.env.scope x := by first | exact Or.inl rfl | exact Or.inr (Or.inl rfl) | exact Or.inr (Or.inr rfl)) (hd : (x == ("__debug__" : Str)) = false := by decide) (hcd : (x == ("__classdict__" : Str)) = false := by decide)
    (hs : swapsWith b (some (.Subscript (.Name x p) e pos')) pos.line X.env = pure false := by rfl) : WSs X (.Assign [.Subscript (.Name x p) e pos'] b pos :: rest) D σ H := by
  refine fs_cons (ws_of (ps_dput hu (pe_var hN hv hd hcd) pe_we pe_we hs) (fc_we c h2 fun w H' c' => ?_))
  have w1 : w = .int n := by
    obtain ⟨_, _, _, _, _, _, _, _, p⟩ := c'
    exact dat_int p
  subst w1
  obtain ⟨v, h4, h5⟩ : ∃ v, σ[i]? = some (some v) ∧ v = .ref a := by
    obtain ⟨_, _, _, _, _, _, s, _, _⟩ := c'
    exact s.at_ i _ hi
  subst h5
  refine ⟨.ref a, h4, fc_we c'.fc h1 fun w2 H2 c2 => ?_⟩
  obtain ⟨Hb, L, rfl, f, ap, g, s, ⟨L', rfl, h3⟩, p⟩ := c2
  cases dat_int p
  refine ⟨a, _, rfl, DPut.k (k := .inl m) upd_same (Nat.lt_of_le_of_lt hl (by decide)), k _ ⟨Hb, (a, .dK (putK kvs (.inl m) (.int n))) :: L', ?_, ⟨f.nd, fun q hq => ?_⟩, fun q hq => ?_, g, s, ⟨L', rfl, h3⟩, trivial⟩⟩
  · show upd (upd (addAll Hb L') a (.dK kvs)) a _ = upd (addAll Hb L') a _
    exact upd_upd
  · rcases List.mem_cons.mp hq with z | z
    · rw [z]
      rfl
    · exact f.pl q (List.mem_cons_of_mem _ z)
  · rcases List.mem_cons.mp hq with z | z
    · rw [z]
      exact ap (a, .dK kvs) List.mem_cons_self
    · exact ap q (List.mem_cons_of_mem _ z)
theorem dx_lenD {kvs : List (Key × V)} (hm : X.mg "len" = none) (ha : DX T X Γ b (dKV kvs)) (hg : Gl X "len" := by rfl) (hs : starEach [b] X.env = (false, eval b X.env) :: starEach [] X.env := by rfl) : DX T X Γ (.Call (.Name "len" p) [b] [] pos) (dat (.int kvs.length)) :=
  dx_callB call_lenD hm PySem.boot_len (da_cons ha da_nil hs) (fun vs H Q h q => by
    obtain ⟨v, rfl, a, rfl, h1⟩ := tyAll1 h
    exact ⟨a, kvs, rfl, h1, q _ H (Ge.refl H) (.int _)⟩) hg (by decide) (by decide) hs
end
section
variable {P : Program} {w : World} {K : PySem.W.Frag} {mg : Str → Option Value} {base : Heap} {T : List NTab}
structure OkPairs (bs : List Board) : Prop where
  len : bs.length ≤ 50
  row : ∀ b ∈ bs, RowOk b
theorem pairsAt_succ (bs : List Board) (b : Board) (i k : Nat) : pairsAt bs b i (k + 1) = pairsAt bs b i k ++ (if arePair b (bs.getD (i + 1 + k) board0) = true then [(i, i + 1 + k)] else []) := by
  unfold pairsAt
  rw [List.range_succ, List.filter_append, List.map_append]
  congr 1
  rw [List.filter_cons, List.filter_nil]
  split <;> rfl
theorem pairsAt_len (bs : List Board) (b : Board) (i k : Nat) : (pairsAt bs b i k).length ≤ k := by
  unfold pairsAt
  rw [List.length_map]
  exact Nat.le_trans (List.length_filter_le _ _) (by rw [List.length_range]; exact Nat.le_refl _)
theorem flat_len (bs : List Board) : ∀ qs : List (Board × Nat), (qs.flatMap fun q => pairsAt bs q.1 q.2 (bs.length - (q.2 + 1))).length ≤ qs.length * bs.length
  | [] => by simp
  | q :: qs => by
    rw [List.flatMap_cons, List.length_append, List.length_cons, Nat.succ_mul]
    have h1 := flat_len bs qs
    have h2 := pairsAt_len bs q.1 q.2 (bs.length - (q.2 + 1))
    omega
theorem flat_take (bs : List Board) {n : Nat} {x : Board × Nat} (e : bs.zipIdx[n]? = some x) : (bs.zipIdx.take (n + 1)).flatMap (fun q => pairsAt bs q.1 q.2 (bs.length - (q.2 + 1))) = (bs.zipIdx.take n).flatMap (fun q => pairsAt bs q.1 q.2 (bs.length - (q.2 + 1))) ++ pairsAt bs x.1 x.2 (bs.length - (x.2 + 1)) := by
  rw [List.take_succ, e, List.flatMap_append]
  simp
theorem zi_get {bs : List Board} {n : Nat} {x : Board × Nat} (e : bs.zipIdx[n]? = some x) : bs[n]? = some x.1 ∧ x.2 = n ∧ n < bs.length := by
  obtain ⟨x1, x2⟩ := x
  rw [List.getElem?_zipIdx] at e
  obtain ⟨y, e1, e2⟩ := Option.map_eq_some_iff.mp e
  have e3 : y = x1 := congrArg Prod.fst e2
  have e4 : 0 + n = x2 := congrArg Prod.snd e2
  subst e3
  exact ⟨e1, by simp at e4; exact e4.symm, (List.getElem?_eq_some_iff.mp e1).1⟩
theorem pD_eq {i j : Nat} {x y : Int} (h1 : x = (i : Int)) (h2 : y = (j : Int)) : PyData.tuple [.int x, .int y] = pD (i, j) := by rw [h1, h2]; rfl
theorem di_range2N {X : Cx} {Γ : Gam} {tg a b : Expr} {p pos : Pos} {m n : Int} {N : Nat} (hm : X.mg "range" = none) (ha : DX T X Γ a (dat (.int m))) (hb : DX T X Γ b (dat (.int n))) (h1 : -1000000 ≤ m ∧ m ≤ 1000000) (hn : -1000000 ≤ n ∧ n ≤ 1000000) (hN : n - m = (N : Int)) (hg : Gl X "range" := by rfl)
    (hs : starEach [a, b] X.env = [(false, eval a X.env), (false, eval b X.env)] := by rfl) (hs2 : starEach [b] X.env = [(false, eval b X.env)] := by rfl) : DI T X Γ tg (.Call (.Name "range" p) [a, b] [] pos) ((List.range N).map fun (k : Nat) => dat (.int (m + (k : Int)))) := by
  have z := di_range2 (tg := tg) (p := p) (pos := pos) hm h1 hn ha hb hg hs hs2
  rw [hN, Int.toNat_natCast] at z
  exact z
theorem di_range1N {X : Cx} {Γ : Gam} {tg a : Expr} {p pos : Pos} {N : Nat} (hm : X.mg "range" = none) (ha : DX T X Γ a (dat (.int (N : Nat)))) (hN : N ≤ 1000000) (hg : Gl X "range" := by rfl) (hs : starEach [a] X.env = [(false, eval a X.env)] := by rfl) : DI T X Γ tg (.Call (.Name "range" p) [a] [] pos) ((List.range N).map fun (k : Nat) => dat (.int (k : Int))) := by
  have z := di_range1 (tg := tg) (p := p) (pos := pos) hm ⟨Int.natCast_nonneg _, by omega⟩ ha hg hs
  rw [Int.toNat_natCast] at z
  have e : ((List.range N).map fun (k : Nat) => dat (.int (0 + (k : Int)))) = (List.range N).map fun (k : Nat) => dat (.int (k : Int)) := List.map_congr_left fun k _ => by rw [Int.zero_add]
  rw [e] at z
  exact z
theorem fn_all_pairs (G : Md K mg) : C8.Cal P w K mg base 4 "all_pairs" (spP T (fun (i : {bs : List Board // OkPairs bs}) => [hallT K i.1]) fun i => dat (.list ((allPairs i.1).map pD))) [] := by
  refine fn_mk G.d_all_pairs ["hall", "found", "one", "board", "other"] (by decide +kernel) (fun _ => rfl) fun ⟨bs, ok⟩ cdv A outer s H vs Q E f hr nd q c => ?_
  have hl := ok.len
  refine fs_own 1 nd c (fun _ => pe_lst pa_nil) fun a σ H' c => ?_
  refine fs_forM (ι := Unit) (xs := bs.zipIdx) (js := [2, 3]) (fun n _ => [some (hallT K bs), some (tyv (.ref a)), none, none, none]) (fun n _ => oC a (((bs.zipIdx.take n).flatMap fun q => pairsAt bs q.1 q.2 (bs.length - (q.2 + 1))).map pD) oN) (fun n x _ => [some (hallT K bs), some (tyv (.ref a)), some (dat (.int (x.2 : Nat))), some (dat x.1.enc), none]) () c (di_enumT G.b_enumerate (dx_boards (dx_var 0))) rfl (fun n x i e => dg_tup2 (i1 := 2) (i2 := 3) rfl nd) (fun n x i H0 e g σ' H' c => ?_) (fun i σ' H' c => ?_)
  · obtain ⟨e1, e2, e3⟩ := zi_get e
    obtain ⟨b, j⟩ := x
    have e2 : j = n := e2
    subst e2
    have hb : b ∈ bs := List.mem_of_getElem? e1
    have hK : ((bs.length : Nat) : Int) - (((j : Nat) : Int) + 1) = ((bs.length - (j + 1) : Nat) : Int) := by omega
    refine fs_forM (ι := Unit) (xs := List.range (bs.length - (j + 1))) (js := [4]) (fun m _ => [some (hallT K bs), some (tyv (.ref a)), some (dat (.int (j : Nat))), some (dat b.enc), none]) (fun m _ => oC a (((bs.zipIdx.take j).flatMap (fun q => pairsAt bs q.1 q.2 (bs.length - (q.2 + 1))) ++ pairsAt bs b j m).map pD) oN) (fun m k _ => [some (hallT K bs), some (tyv (.ref a)), some (dat (.int (j : Nat))), some (dat b.enc), some (dat (.int (((j : Nat) : Int) + 1 + (k : Int))))]) () (by
      have z : pairsAt bs b j 0 = [] := rfl
      rw [z, List.append_nil]
      exact c) (by exact di_range2N G.b_range (dx_add (dx_var 2) dx_int) (DX.dat (dx_lenT G.b_len (dx_boards (dx_var 0))) (by rw [List.length_map])) (by omega) (by omega) hK) rfl (fun m k i e => dg_name 4 nd) (fun m k i H0 ek g σ' H' c => ?_) (fun i σ' H' c => ?_)
    · have hkm : k = m ∧ m < bs.length - (j + 1) := by
        have hm : m < (List.range (bs.length - (j + 1))).length := (List.getElem?_eq_some_iff.mp ek).1
        rw [List.length_range] at hm
        rw [List.getElem?_range hm] at ek
        exact ⟨(Option.some.inj ek).symm, hm⟩
      obtain ⟨rfl, hm⟩ := hkm
      have hlt : j + 1 + k < bs.length := by omega
      have eo : bs.getD (j + 1 + k) board0 ∈ bs := by
        rw [List.getD_eq_getElem?_getD, List.getElem?_eq_getElem hlt]
        exact List.getElem_mem hlt
      have hlen : ((bs.zipIdx.take j).flatMap (fun q => pairsAt bs q.1 q.2 (bs.length - (q.2 + 1))) ++ pairsAt bs b j k).length ≤ 100000 := by
        have z1 := flat_len bs (bs.zipIdx.take j)
        have z2 := pairsAt_len bs b j k
        have z3 : (bs.zipIdx.take j).length ≤ 50 := by rw [List.length_take, List.length_zipIdx]; omega
        have z4 : (bs.zipIdx.take j).length * bs.length ≤ 50 * 50 := Nat.mul_le_mul z3 hl
        rw [List.length_append]
        omega
      have ex := pairsAt_succ bs b j k
      refine fs_if1 (k := arePair b (bs.getD (j + 1 + k) board0)) c (by exact dt_val (dx_call (fn_are_pair G) hr ⟨(b, bs.getD (j + 1 + k) board0), ok.row b hb, ok.row _ eo⟩ (da_cons (dx_var 3) (da_cons (dx_ixT (dx_boards (dx_var 0)) (dx_var 4) (get_enc hlt)) da_nil)))) (fun hk H' c => ?_) fun hk H' c => ?_
      · refine fs_app 1 (d := pD (j, j + 1 + k)) c rfl (by rw [List.length_map]; exact hlen) (by exact DX.dat (dx_tup (ds := [.int (j : Nat), .int (((j : Nat) : Int) + 1 + (k : Int))]) (da_cons (dx_var 2) (da_cons (dx_var 4) da_nil))) (pD_eq rfl (by omega))) fun H' c => fs_nil (fs_nil ⟨(), ?_⟩)
        rw [ex, if_pos hk, ← List.append_assoc, List.map_append]
        exact c.sub (by fail "sub")
      · refine fs_nil ⟨(), ?_⟩
        rw [ex, if_neg (by rw [hk]; exact Bool.false_ne_true), List.append_nil]
        exact c.sub (by fail "sub")
    · rw [List.length_range] at c
      refine fs_nil ⟨(), ?_⟩
      rw [flat_take bs e]
      exact c.sub (by fail "sub")
  · have z := c.rel 1 rfl
    rw [List.take_of_length_le (Nat.le_refl _)] at z
    exact fs_retE z (by exact (dx_var 1)) q
end
end G
set_option Elab.async false
set_option linter.all false
set_option maxRecDepth 100000
set_option maxHeartbeats 1000000
namespace G
open PySem PySem.Spec L2 LamX NdefX
local macro_rules | `(tactic| fail "sub") => `(tactic| first | exact Sub.nil | (refine Sub.drop ?_; fail "sub") | (refine Sub.same ?_; fail "sub"))
local macro_rules | `(tactic| fail "side") => `(tactic| first | assumption | rfl | omega | decide)

/-! ### a plain fact that is carried along -/
def oP (p : Prop) (O : OS) : OS := ⟨fun H L => p ∧ O.P H L, fun e h => ⟨h.1, O.mono e h.2⟩⟩
theorem FC.get {T : List NTab} {Hin : Hp} {Γ : Gam} {O : OS} {σ : L2.St} {H : Hp} {p : Prop} (c : FC T Hin Γ (oP p O) σ H) : p ∧ FC T Hin Γ O σ H := by
  obtain ⟨Hb, L, e, f, ap, g, s, ⟨hp, o⟩, _⟩ := c
  exact ⟨hp, Hb, L, e, f, ap, g, s, o, trivial⟩
theorem FC.put {T : List NTab} {Hin : Hp} {Γ : Gam} {O : OS} {σ : L2.St} {H : Hp} {p : Prop} (c : FC T Hin Γ O σ H) (hp : p) : FC T Hin Γ (oP p O) σ H := by
  obtain ⟨Hb, L, e, f, ap, g, s, o, _⟩ := c
  exact ⟨Hb, L, e, f, ap, g, s, ⟨hp, o⟩, trivial⟩
/-! ### partners -/
def keyAddA {α : Type} [DecidableEq α] (ks : List α) (n : α) : List α := if n ∈ ks then ks else ks ++ [n]
theorem putK_map (kvs : List (Key × V)) (n : Key) (v : V) : (putK kvs n v).map Prod.fst = keyAddA (kvs.map Prod.fst) n := by
  unfold putK keyAddA
  by_cases hn : n ∈ kvs.map Prod.fst
  · have e : (kvs.any fun kv => decide (kv.1 = n)) = true := by
      obtain ⟨x, h1, h2⟩ := List.mem_map.mp hn
      exact List.any_eq_true.mpr ⟨x, h1, decide_eq_true h2⟩
    rw [if_pos e, if_pos hn, List.map_map]
    refine List.map_congr_left fun p _ => ?_
    show (if p.1 = n then ((p.1, v) : Key × V) else p).1 = p.1
    split <;> rfl
  · have e : ¬ (kvs.any fun kv => decide (kv.1 = n)) = true := fun h => by
      obtain ⟨x, h1, h2⟩ := List.any_eq_true.mp h
      exact hn (List.mem_map.mpr ⟨x, h1, of_decide_eq_true h2⟩)
    rw [if_neg e, if_neg hn, List.map_append]
    rfl
def partK (ps : List (Nat × Nat)) : List (Key × V) := ps.foldl (fun kvs p => putK (putK kvs (.inl (p.1 : Nat)) (.int (p.2 : Nat))) (.inl (p.2 : Nat)) (.int (p.1 : Nat))) []
def flatP (ps : List (Nat × Nat)) : List Nat := ps.flatMap fun p => [p.1, p.2]
theorem partK_keys (ps : List (Nat × Nat)) : (partK ps).map (·.1) = (flatP ps).foldl (fun ks n => keyAddA ks (Sum.inl ((n : Nat) : Int))) ([] : List Key) := by
  unfold partK flatP
  have go : ∀ (ps : List (Nat × Nat)) (kvs : List (Key × V)), (ps.foldl (fun kvs p => putK (putK kvs (.inl (p.1 : Nat)) (.int (p.2 : Nat))) (.inl (p.2 : Nat)) (.int (p.1 : Nat))) kvs).map (·.1) = (ps.flatMap fun p => [p.1, p.2]).foldl (fun ks n => keyAddA ks (Sum.inl ((n : Nat) : Int))) (kvs.map (·.1)) := by
    intro ps
    induction ps with
    | nil => intro kvs; rfl
    | cons p ps ih =>
      intro kvs
      rw [List.foldl_cons, ih, List.flatMap_cons, List.foldl_append, putK_map, putK_map]
      rfl
  exact go ps []
theorem foldAdd_len : ∀ (l : List Nat) (ks : List Key), (l.foldl (fun ks n => keyAddA ks (Sum.inl ((n : Nat) : Int))) ks).length ≤ ks.length + l.length
  | [], ks => Nat.le_refl _
  | n :: l, ks => by
    have h1 := foldAdd_len l (keyAddA ks (Sum.inl ((n : Nat) : Int)))
    have h2 : (keyAddA ks (Sum.inl ((n : Nat) : Int))).length ≤ ks.length + 1 := by
      unfold keyAddA
      split
      · omega
      · rw [List.length_append, List.length_singleton]; exact Nat.le_refl _
    rw [List.foldl_cons, List.length_cons]
    omega
theorem foldAdd_iff : ∀ (l : List Nat) (ks : List Key), (l.foldl (fun ks n => keyAddA ks (Sum.inl ((n : Nat) : Int))) ks).length = ks.length + l.length ↔ l.Nodup ∧ ∀ n ∈ l, (Sum.inl ((n : Nat) : Int) : Key) ∉ ks
  | [], ks => by simp
  | n :: l, ks => by
    rw [List.foldl_cons, List.length_cons, List.nodup_cons]
    by_cases hn : (Sum.inl ((n : Nat) : Int) : Key) ∈ ks
    · have e : keyAddA ks (Sum.inl ((n : Nat) : Int)) = ks := if_pos hn
      rw [e]
      have h1 := foldAdd_len l ks
      exact ⟨fun h => by omega, fun h => absurd hn (h.2 n List.mem_cons_self)⟩
    · have e : keyAddA ks (Sum.inl ((n : Nat) : Int)) = ks ++ [Sum.inl ((n : Nat) : Int)] := if_neg hn
      rw [e]
      have h1 := foldAdd_iff l (ks ++ [Sum.inl ((n : Nat) : Int)])
      rw [List.length_append, List.length_singleton] at h1
      have e2 : ks.length + (l.length + 1) = ks.length + 1 + l.length := by omega
      rw [e2, h1]
      constructor
      · rintro ⟨h2, h3⟩
        refine ⟨⟨fun hm => h3 n hm (by simp), h2⟩, fun m hm => ?_⟩
        rcases List.mem_cons.mp hm with z | z
        · rw [z]; exact hn
        · exact fun q => h3 m z (List.mem_append_left _ q)
      · rintro ⟨⟨h2, h3⟩, h4⟩
        refine ⟨h3, fun m hm q => ?_⟩
        rcases List.mem_append.mp q with z | z
        · exact h4 m (List.mem_cons_of_mem _ hm) z
        · have z2 := List.mem_singleton.mp z
          have z3 : ((m : Nat) : Int) = ((n : Nat) : Int) := Sum.inl.inj z2
          have z4 : m = n := by omega
          exact h2 (z4 ▸ hm)
theorem flatP_len (ps : List (Nat × Nat)) : (flatP ps).length = 2 * ps.length := by
  induction ps with
  | nil => rfl
  | cons p ps ih =>
    unfold flatP at *
    rw [List.flatMap_cons, List.length_append, ih]
    simp
    omega
theorem partK_len (ps : List (Nat × Nat)) : (partK ps).length ≤ 2 * ps.length := by
  have h := congrArg List.length (partK_keys ps)
  rw [List.length_map] at h
  have h2 := foldAdd_len (flatP ps) []
  rw [flatP_len] at h2
  have h3 : ([] : List Key).length = 0 := rfl
  omega
theorem partK_iff (ps : List (Nat × Nat)) : (partK ps).length = 2 * ps.length ↔ (flatP ps).Nodup := by
  have h := congrArg List.length (partK_keys ps)
  rw [List.length_map] at h
  have h2 := foldAdd_iff (flatP ps) []
  rw [flatP_len] at h2
  have h3 : ([] : List Key).length = 0 := rfl
  rw [h]
  constructor
  · intro q
    exact (h2.mp (by omega)).1
  · intro q
    have z := h2.mpr ⟨q, fun _ _ hm => (nomatch hm)⟩
    omega
theorem partK_take {ps : List (Nat × Nat)} {n : Nat} {p : Nat × Nat} (e : ps[n]? = some p) : partK (ps.take (n + 1)) = putK (putK (partK (ps.take n)) (.inl (p.1 : Nat)) (.int (p.2 : Nat))) (.inl (p.2 : Nat)) (.int (p.1 : Nat)) := by
  unfold partK
  rw [List.take_succ, e, List.foldl_append]
  rfl
theorem putK_le (kvs : List (Key × V)) (k : Key) (v : V) : (putK kvs k v).length ≤ kvs.length + 1 := by
  unfold putK
  split
  · rw [List.length_map]; omega
  · rw [List.length_append, List.length_singleton]; exact Nat.le_refl _
section
variable {P : Program} {w : World} {K : PySem.W.Frag} {mg : Str → Option Value} {base : Heap} {T : List NTab}
theorem fn_partners (G : Md K mg) : C8.Cal P w K mg base 1 "partners" (spP T (fun (i : {ps : List (Nat × Nat) // ps.length ≤ 1000}) => [dat (.tuple (i.1.map pD))]) fun i => dKV (partK i.1)) [] := by
  refine fn_mk G.d_partners ["pairing", "found", "one", "other"] (by decide +kernel) (fun _ => rfl) fun ⟨ps, ok⟩ cdv A outer s H vs Q E f hr nd q c => ?_
  have hu : (bodyX P w K mg base ["pairing", "found", "one", "other"] "partners" (top 54) f cdv A outer s H E).A.units + 1 < cLine := hu_of hr
  refine fs_ownK 1 nd c fun a σ H' c => ?_
  refine fs_forM (ι := Unit) (xs := ps) (js := [2, 3]) (fun n _ => [some (dat (.tuple (ps.map pD))), some (tyv (.ref a)), none, none]) (fun n _ => oK a (partK (ps.take n)) oN) (fun n x _ => [some (dat (.tuple (ps.map pD))), some (tyv (.ref a)), some (dat (.int (x.1 : Nat))), some (dat (.int (x.2 : Nat)))]) () c (di_tupM (dx_var 0)) rfl (fun n x i e => dg_tup2 (i1 := 2) (i2 := 3) rfl nd) (fun n x i H0 e g σ' H' c => ?_) (fun i σ' H' c => ?_)
  · have h1 := partK_len (ps.take n)
    have h2 : (ps.take n).length ≤ 1000 := Nat.le_trans (List.length_take_le _ _) (by have := (List.getElem?_eq_some_iff.mp e).1; omega)
    refine fs_dputI 1 hu c rfl (by omega) (by exact (dx_var 2)) (by exact (dx_var 3)) fun H' c => ?_
    refine fs_dputI 1 hu c rfl (by have := putK_le (partK (ps.take n)) (.inl (x.1 : Nat)) (.int (x.2 : Nat)); omega) (by exact (dx_var 3)) (by exact (dx_var 2)) fun H' c => fs_nil ⟨(), ?_⟩
    rw [partK_take e]
    exact c.sub (by fail "sub")
  · have z := c.relK 1 rfl
    rw [List.take_of_length_le (Nat.le_refl _)] at z
    exact fs_retE z (by exact (dx_var 1)) q
/-! ### outcomes -/
def outStep (ms : List Nat) (p : Nat × Nat) : List Nat := (ms.map fun m => m ||| 2 ^ p.1) ++ (ms.map fun m => m ||| 2 ^ p.2)
def outs (ps : List (Nat × Nat)) : List Nat := ps.foldl outStep [0]
theorem outs_take {ps : List (Nat × Nat)} {n : Nat} {p : Nat × Nat} (e : ps[n]? = some p) : outs (ps.take (n + 1)) = outStep (outs (ps.take n)) p := by
  unfold outs
  rw [List.take_succ, e, List.foldl_append]
  rfl
theorem outs_len : ∀ (ps : List (Nat × Nat)) (ms : List Nat), (ps.foldl outStep ms).length = 2 ^ ps.length * ms.length
  | [], ms => by simp
  | p :: ps, ms => by
    rw [List.foldl_cons, outs_len ps, List.length_cons, Nat.pow_succ]
    unfold outStep
    rw [List.length_append, List.length_map, List.length_map, Nat.mul_assoc]
    congr 1
    omega
structure OkOut (ps : List (Nat × Nat)) : Prop where
  len : ps.length ≤ 13
  le : ∀ p ∈ ps, p.1 ≤ 1000 ∧ p.2 ≤ 1000
theorem OkOut.sz {ps : List (Nat × Nat)} (h : OkOut ps) (n : Nat) : (outs (ps.take n)).length ≤ 8192 := by
  unfold outs
  rw [outs_len]
  have h1 : (ps.take n).length ≤ 13 := Nat.le_trans (List.length_take_le' _ _) h.len
  have h2 : 2 ^ (ps.take n).length ≤ 2 ^ 13 := Nat.pow_le_pow_right (by decide) h1
  simp only [List.length_singleton, Nat.mul_one]
  exact Nat.le_trans h2 (by decide)
theorem fn_outcomes (G : Md K mg) : C8.Cal P w K mg base 1 "outcomes" (spP T (fun (i : {ps : List (Nat × Nat) // OkOut ps}) => [dat (.tuple (i.1.map pD))]) fun i => dat (.list ((cs (outs i.1)).map .int))) [] := by
  refine fn_mk G.d_outcomes ["pairing", "found", "one", "other", "mask"] (by decide +kernel) (fun _ => rfl) fun ⟨ps, ok⟩ cdv A outer s H vs Q E f hr nd q c => ?_
  refine fs_set 1 nd c (t := dat (.list ((cs (outs (ps.take 0))).map .int))) (by exact (dx_lst (da_cons dx_int da_nil))) fun σ H' c => ?_
  refine fs_forM (ι := Unit) (xs := ps) (js := [2, 3]) (fun n _ => [some (dat (.tuple (ps.map pD))), some (dat (.list ((cs (outs (ps.take n))).map .int))), none, none, none]) (fun n _ => oN) (fun n x _ => [some (dat (.tuple (ps.map pD))), some (dat (.list ((cs (outs (ps.take n))).map .int))), some (dat (.int (x.1 : Nat))), some (dat (.int (x.2 : Nat))), none]) () c (di_tupM (dx_var 0)) rfl (fun n x i e => dg_tup2 (i1 := 2) (i2 := 3) rfl nd) (fun n x i H0 e g σ' H' c => ?_) (fun i σ' H' c => ?_)
  · have hsz := ok.sz n
    have hle := ok.le x (List.mem_of_getElem? e)
    obtain ⟨hle1, hle2⟩ := hle
    refine fs_set 1 (t := dat (.list ((cs (outs (ps.take (n + 1)))).map .int))) nd c (by exact DX.dat (dx_catL (dx_lc [("mask", 4)] (outs (ps.take n)) (fun m => .int ((m ||| 2 ^ x.1 : Nat) : Int)) nd rfl (by rfl) (di_listM (r := fun (m : Nat) => PyData.int (m : Int)) (DX.dat (dx_var 1) (by unfold cs; rw [List.map_map]; rfl))) (by omega) (fun m hm s0 H0 C cl fp => dg_name 4 nd) (fun m hm s0 H0 C cl fp => by exact DX.dat (dx_or2 (dx_var 4) (dx_shl dx_int (dx_var 2) ⟨Int.natCast_nonneg _, by omega, by decide⟩)) (congrArg PyData.int (bor1 _ _)))) (dx_lc [("mask", 4)] (outs (ps.take n)) (fun m => .int ((m ||| 2 ^ x.2 : Nat) : Int)) nd rfl (by rfl) (di_listM (r := fun (m : Nat) => PyData.int (m : Int)) (DX.dat (dx_var 1) (by unfold cs; rw [List.map_map]; rfl))) (by omega) (fun m hm s0 H0 C cl fp => dg_name 4 nd) (fun m hm s0 H0 C cl fp => by exact DX.dat (dx_or2 (dx_var 4) (dx_shl dx_int (dx_var 3) ⟨Int.natCast_nonneg _, by omega, by decide⟩)) (congrArg PyData.int (bor1 _ _)))) (by rw [List.length_map, List.length_map]; omega)) (by
      rw [outs_take e]
      unfold outStep cs
      rw [List.map_map, List.map_append, List.map_map, List.map_map]
      rfl)) fun σ H' c => fs_nil ⟨(), c.sub (by fail "sub")⟩
  · rw [List.take_of_length_le (Nat.le_refl _)] at c
    exact fs_retE c (by exact (dx_var 1)) q
def optD : Option Nat → PyData
  | .none => .none
  | .some m => .int (m : Nat)
def spoil (a : Aim) (ps : List (Nat × Nat)) : Option Nat := (outs ps).find? fun m => !a.holds m
theorem find_take {α : Type} {p : α → Bool} : ∀ {l : List α} {n : Nat} {x : α}, l[n]? = some x → (∀ y ∈ l.take n, p y = false) → p x = true → l.find? p = some x
  | y :: l, 0, x, e, _, hx => by
    cases e
    exact List.find?_cons_of_pos hx
  | y :: l, n + 1, x, e, h, hx => by
    rw [List.find?_cons_of_neg (by rw [h y (by simp)]; exact Bool.false_ne_true)]
    exact find_take (n := n) (by simpa using e) (fun z hz => h z (by rw [List.take_succ_cons]; exact List.mem_cons_of_mem _ hz)) hx
structure OkSpoil (p : Aim × List (Nat × Nat)) : Prop where
  dep : p.1.depth ≤ 8
  ok : ∃ m, p.1.ok m
  out : OkOut p.2
theorem fn_spoiling (G : Md K mg) : C8.Cal P w K mg base 10 "spoiling" (spP T (fun (i : {p : Aim × List (Nat × Nat) // OkSpoil p}) => [dat i.1.1.enc, dat (.tuple (i.1.2.map pD))]) fun i => dat (optD (spoil i.1.1 i.1.2))) [] := by
  refine fn_mk G.d_spoiling ["aim", "pairing", "mask"] (by decide +kernel) (fun _ => rfl) fun ⟨⟨a, ps⟩, ok⟩ cdv A outer s H vs Q E f hr nd q c => ?_
  refine fs_forM (ι := Unit) (xs := outs ps) (js := [2]) (fun n i => [some (dat a.enc), some (dat (.tuple (ps.map pD))), none]) (fun n _ => oP (∀ m ∈ (outs ps).take n, (!a.holds m) = false) oN) (fun n x _ => [some (dat a.enc), some (dat (.tuple (ps.map pD))), some (dat (.int (x : Nat)))]) () (FC.put c (fun _ h => (by rw [List.take_zero] at h; cases h))) (di_listM (r := fun (m : Nat) => PyData.int (m : Int)) (DX.dat (dx_call (fn_outcomes G) hr ⟨ps, ok.out⟩ (da_cons (dx_var 1) da_nil)) (by unfold cs; rw [List.map_map]; rfl))) rfl (fun n x i e => dg_name 2 nd) (fun n x i H0 e g σ' H' c => ?_) (fun i σ' H' c => ?_)
  · obtain ⟨hp, c⟩ := c.get
    refine fs_if1 (k := !a.holds x) c (by exact dt_not (dt_val (dx_call (fn_holds G 8) hr ⟨(a, x), ok.dep, ok.ok⟩ (da_cons (dx_var 0) (da_cons (dx_var 2) da_nil))))) (fun hk H' c => ?_) fun hk H' c => fs_nil ⟨(), FC.put (c.sub (by fail "sub")) (fun m hm => ?_)⟩
    · have z : spoil a ps = some x := find_take e hp hk
      rw [z] at q
      exact fs_retE c (by exact (dx_var 2)) fun v H' g' p => q v H' (g.trans g') p
    · rw [List.take_succ, e] at hm
      rcases List.mem_append.mp hm with h | h
      · exact hp m h
      · rw [Option.toList_some, List.mem_singleton] at h
        rw [h]
        exact hk
  · obtain ⟨hp, c⟩ := c.get
    have z : spoil a ps = none := List.find?_eq_none.mpr fun m hm => by
      rw [List.take_of_length_le (Nat.le_refl _)] at hp
      rw [hp m hm]
      exact Bool.false_ne_true
    rw [z] at q
    exact fs_retE c (by exact dx_non) q
end
end G
set_option Elab.async false
set_option linter.all false
set_option maxRecDepth 100000
set_option maxHeartbeats 1000000
namespace G
open PySem PySem.Spec L2 LamX NdefX

/-! ### a dict from whole numbers to lists of whole numbers -/
abbrev Near := List (Nat × List Nat)
def kvz : Near → List Addr → List (Key × V)
  | p :: nm, a :: as => (Sum.inl ((p.1 : Nat) : Int), .ref a) :: kvz nm as
  | _, _ => []
def lsV (l : List Nat) : List V := (cs l).map V.int
def Lsz (H : Hp) : Near → List Addr → Prop
  | p :: nm, a :: as => H a = some (.lst (lsV p.2)) ∧ Lsz H nm as
  | [], [] => True
  | _, _ => False
theorem Lsz.len {H : Hp} : ∀ {nm : Near} {as : List Addr}, Lsz H nm as → as.length = nm.length
  | [], [], _ => rfl
  | _ :: _, _ :: _, h => congrArg (· + 1) (Lsz.len h.2)
  | [], _ :: _, h => h.elim
  | _ :: _, [], h => h.elim
theorem Lsz.imp {H H' : Hp} : ∀ {nm : Near} {as : List Addr}, Lsz H nm as → (∀ b ∈ as, ∀ xs, H b = some (.lst xs) → H' b = some (.lst xs)) → Lsz H' nm as
  | [], [], _, _ => trivial
  | _ :: _, a :: _, h, k => ⟨k a List.mem_cons_self _ h.1, Lsz.imp h.2 fun b hb => k b (List.mem_cons_of_mem _ hb)⟩
  | [], _ :: _, h, _ => h.elim
  | _ :: _, [], h, _ => h.elim
def addNear : Near → Nat → Nat → Near
  | [], k, x => [(k, [x])]
  | p :: nm, k, x => if p.1 = k then (p.1, p.2 ++ [x]) :: nm else p :: addNear nm k x
def look : Near → Nat → Option (List Nat)
  | [], _ => none
  | p :: nm, k => if p.1 = k then some p.2 else look nm k
theorem key_ne {m k : Nat} (h : m ≠ k) : ¬ ((Sum.inl ((m : Nat) : Int) : Key) = Sum.inl ((k : Nat) : Int)) := fun e => h (by
  have z : ((m : Nat) : Int) = ((k : Nat) : Int) := Sum.inl.inj e
  omega)
/-- the key stands there -/
theorem kvz_some {H : Hp} : ∀ {nm : Near} {as : List Addr} {k : Nat} {v : V}, Lsz H nm as → as.Nodup → valV (kvz nm as) (Sum.inl ((k : Nat) : Int)) = some v →
    ∃ b l, v = .ref b ∧ b ∈ as ∧ look nm k = some l ∧ H b = some (.lst (lsV l)) ∧ ∀ x, kvz (addNear nm k x) as = kvz nm as ∧ Lsz (upd H b (.lst (lsV (l ++ [x])))) (addNear nm k x) as
  | [], [], k, v, _, _, e => by cases e
  | p :: nm, a :: as, k, v, h, nd, e => by
    by_cases hk : p.1 = k
    · have e1 : valV (kvz (p :: nm) (a :: as)) (Sum.inl ((k : Nat) : Int)) = some (.ref a) := valV_pos (by rw [← hk])
      rw [e1] at e
      cases e
      refine ⟨a, p.2, rfl, List.mem_cons_self, if_pos hk, h.1, fun x => ⟨?_, ?_⟩⟩
      · rw [addNear, if_pos hk]
        rfl
      · rw [addNear, if_pos hk]
        refine ⟨upd_same, Lsz.imp h.2 fun b hb xs q => ?_⟩
        have nb : b ≠ a := fun z => (List.nodup_cons.mp nd).1 (z ▸ hb)
        rw [upd_ne nb]
        exact q
    · have e1 : valV (kvz (p :: nm) (a :: as)) (Sum.inl ((k : Nat) : Int)) = valV (kvz nm as) (Sum.inl ((k : Nat) : Int)) := valV_neg (key_ne hk)
      rw [e1] at e
      obtain ⟨b, l, h1, h2, h3, h4, h5⟩ := kvz_some h.2 (List.nodup_cons.mp nd).2 e
      refine ⟨b, l, h1, List.mem_cons_of_mem _ h2, (if_neg hk).trans h3, h4, fun x => ⟨?_, ?_⟩⟩
      · rw [addNear, if_neg hk]
        exact congrArg _ (h5 x).1
      · rw [addNear, if_neg hk]
        refine ⟨?_, (h5 x).2⟩
        have nb : a ≠ b := fun z => (List.nodup_cons.mp nd).1 (z ▸ h2)
        rw [upd_ne nb]
        exact h.1
  | [], _ :: _, _, _, h, _, _ => h.elim
  | _ :: _, [], _, _, h, _, _ => h.elim
theorem kvz_none {H : Hp} : ∀ {nm : Near} {as : List Addr} {k : Nat}, Lsz H nm as → valV (kvz nm as) (Sum.inl ((k : Nat) : Int)) = none →
    look nm k = none ∧ ∀ x r, kvz (addNear nm k x) (as ++ [r]) = kvz nm as ++ [(Sum.inl ((k : Nat) : Int), .ref r)] ∧ ∀ H', (∀ b ∈ as, ∀ xs, H b = some (.lst xs) → H' b = some (.lst xs)) → H' r = some (.lst (lsV [x])) → Lsz H' (addNear nm k x) (as ++ [r])
  | [], [], k, _, _ => ⟨rfl, fun x r => ⟨rfl, fun H' _ h => ⟨h, trivial⟩⟩⟩
  | p :: nm, a :: as, k, h, e => by
    by_cases hk : p.1 = k
    · have e1 : valV (kvz (p :: nm) (a :: as)) (Sum.inl ((k : Nat) : Int)) = some (.ref a) := valV_pos (by rw [← hk])
      rw [e1] at e
      cases e
    · have e1 : valV (kvz (p :: nm) (a :: as)) (Sum.inl ((k : Nat) : Int)) = valV (kvz nm as) (Sum.inl ((k : Nat) : Int)) := valV_neg (key_ne hk)
      rw [e1] at e
      obtain ⟨h1, h2⟩ := kvz_none h.2 e
      refine ⟨(if_neg hk).trans h1, fun x r => ⟨?_, fun H' k1 k2 => ?_⟩⟩
      · rw [addNear, if_neg hk]
        exact congrArg _ (h2 x r).1
      · rw [addNear, if_neg hk]
        exact ⟨k1 a List.mem_cons_self _ h.1, (h2 x r).2 H' (fun b hb => k1 b (List.mem_cons_of_mem _ hb)) k2⟩
  | [], _ :: _, _, h, _ => h.elim
  | _ :: _, [], _, h, _ => h.elim
structure NearOk (T : List NTab) (H0 H : Hp) (a : Addr) (nm : Near) (as : List Addr) : Prop where
  g : Ge T H0 H
  a0 : H0 a = none
  d : H a = some (.dK (kvz nm as))
  ls : Lsz H nm as
  nd : as.Nodup
  na : a ∉ as
  n0 : ∀ b ∈ as, H0 b = none
theorem Lsz.at_ {H : Hp} : ∀ {nm : Near} {as : List Addr} {b : Addr}, Lsz H nm as → b ∈ as → ∃ xs, H b = some (.lst xs)
  | _ :: _, a :: as, b, h, hb => by
    rcases List.mem_cons.mp hb with z | z
    · rw [z]; exact ⟨_, h.1⟩
    · exact Lsz.at_ h.2 z
  | [], [], _, _, hb => by cases hb
  | [], _ :: _, _, h, _ => h.elim
  | _ :: _, [], _, h, _ => h.elim
/-- near.setdefault(k, []).append(x), as the heap changes -/
theorem near_step {T : List NTab} {H0 H : Hp} {a r : Addr} {nm : Near} {as : List Addr} (N : NearOk T H0 H a nm as) (hr : H r = none) (k x : Nat) :
    (∀ v, valV (kvz nm as) (Sum.inl ((k : Nat) : Int)) = some v → ∃ b l, v = .ref b ∧ upd H r (.lst []) b = some (.lst (lsV l)) ∧ ∃ as', NearOk T H0 (upd (upd H r (.lst [])) b (.lst (lsV l ++ [.int (x : Nat)]))) a (addNear nm k x) as') ∧
    (valV (kvz nm as) (Sum.inl ((k : Nat) : Int)) = none → ∃ as', NearOk T H0 (upd (upd (upd H r (.lst [])) a (.dK (putK (kvz nm as) (Sum.inl ((k : Nat) : Int)) (.ref r)))) r (.lst ([] ++ [.int (x : Nat)]))) a (addNear nm k x) as') := by
  have ar : a ≠ r := ne_of_none N.d hr
  have asr : ∀ b ∈ as, b ≠ r := fun b hb => by
    obtain ⟨xs, e⟩ := N.ls.at_ hb
    exact ne_of_none e hr
  have r0 : H0 r = none := N.g.bk r hr
  have g1 : Ge T H0 (upd H r (.lst [])) := N.g.trans (Ge.new hr)
  have d1 : upd H r (.lst []) a = some (.dK (kvz nm as)) := by rw [upd_ne ar]; exact N.d
  have ls1 : Lsz (upd H r (.lst [])) nm as := N.ls.imp fun b hb xs q => by rw [upd_ne (asr b hb)]; exact q
  refine ⟨fun v hv => ?_, fun hn => ?_⟩
  · obtain ⟨b, l, h1, h2, h3, h4, h5⟩ := kvz_some ls1 N.nd hv
    have ba : a ≠ b := fun z => N.na (z ▸ h2)
    have el : lsV l ++ [.int (x : Nat)] = lsV (l ++ [x]) := by unfold lsV; rw [cs_app, List.map_append]; rfl
    refine ⟨b, l, h1, h4, as, g1.mut (N.n0 b h2) h4 rfl, N.a0, ?_, ?_, N.nd, N.na, N.n0⟩
    · rw [upd_ne ba, (h5 x).1]
      exact d1
    · rw [el]
      exact (h5 x).2
  · obtain ⟨h1, h2⟩ := kvz_none ls1 hn
    have e1 : putK (kvz nm as) (Sum.inl ((k : Nat) : Int)) (.ref r) = kvz nm as ++ [(Sum.inl ((k : Nat) : Int), .ref r)] := putK_new _ hn
    have g2 : Ge T H0 (upd (upd H r (.lst [])) a (.dK (putK (kvz nm as) (Sum.inl ((k : Nat) : Int)) (.ref r)))) := g1.mut N.a0 d1 rfl
    have hr2 : upd (upd H r (.lst [])) a (.dK (putK (kvz nm as) (Sum.inl ((k : Nat) : Int)) (.ref r))) r = some (.lst []) := by rw [upd_ne (Ne.symm ar), upd_same]
    refine ⟨as ++ [r], g2.mut r0 hr2 rfl, N.a0, ?_, ?_, ?_, ?_, ?_⟩
    · rw [upd_ne ar, upd_same, e1, (h2 x r).1]
    · refine (h2 x r).2 _ (fun b hb xs q => ?_) upd_same
      have nb : b ≠ a := fun z => N.na (z ▸ hb)
      rw [upd_ne (asr b hb), upd_ne nb]
      exact q
    · exact List.nodup_append.mpr ⟨N.nd, by simp, fun b hb c hc => by
        rw [List.mem_singleton.mp hc]
        exact asr b hb⟩
    · intro hm
      rcases List.mem_append.mp hm with z | z
      · exact N.na z
      · exact ar (List.mem_singleton.mp z)
    · intro b hb
      rcases List.mem_append.mp hb with z | z
      · exact N.n0 b z
      · rw [List.mem_singleton.mp z]
        exact r0
/-- as a value -/
def nearT (nm : Near) : Ty := ⟨fun v H => ∃ a as, v = .ref a ∧ H a = some (.dK (kvz nm as)) ∧ as.Nodup ∧ Lsz H nm as, fun e ⟨a, as, h1, h2, h3, h4⟩ => ⟨a, as, h1, e _ _ h2 (fun _ z => by cases z), h3, h4.imp fun b _ xs q => e _ _ q (fun _ z => by cases z)⟩⟩
theorem dqa_lsV {H : Hp} (l : List Nat) : DqAll H (lsV l) ((cs l).map .int) := by
  unfold lsV
  generalize cs l = ns
  induction ns with
  | nil => exact .nil
  | cons n ns ih => exact .cons (.int n) ih
theorem kvz_look {H : Hp} : ∀ {nm : Near} {as : List Addr} {k : Nat}, Lsz H nm as → (∃ b l, valV (kvz nm as) (Sum.inl ((k : Nat) : Int)) = some (.ref b) ∧ look nm k = some l ∧ H b = some (.lst (lsV l))) ∨ (valV (kvz nm as) (Sum.inl ((k : Nat) : Int)) = none ∧ look nm k = none)
  | [], [], k, _ => .inr ⟨rfl, rfl⟩
  | p :: nm, a :: as, k, h => by
    by_cases hk : p.1 = k
    · exact .inl ⟨a, p.2, valV_pos (by rw [← hk]), if_pos hk, h.1⟩
    · have e1 : valV (kvz (p :: nm) (a :: as)) (Sum.inl ((k : Nat) : Int)) = valV (kvz nm as) (Sum.inl ((k : Nat) : Int)) := valV_neg (key_ne hk)
      rw [e1]
      show (∃ b l, _ ∧ (if p.1 = k then some p.2 else look nm k) = some l ∧ _) ∨ (_ ∧ (if p.1 = k then some p.2 else look nm k) = none)
      rw [if_neg hk]
      exact kvz_look h.2
  | [], _ :: _, _, h => h.elim
  | _ :: _, [], _, h => h.elim
section
variable {T : List NTab} {X : Cx} {Γ : Gam} {a b c e : Expr} {pos apos cpos : Pos} {nm : Near} {k : Nat} {l : List Nat}
theorem dx_nearIx (hu : X.A.units + 1 < cLine) (ha : DX T X Γ a (nearT nm)) (hb : DX T X Γ b (dat (.int (k : Nat)))) (hl : look nm k = some l) (hs : NoSl b := by intro _ _; rfl) : DX T X Γ (.Subscript a b pos) (dat (.list ((cs l).map .int))) := fun σ H s Q q =>
  we_of (pe_dget hu pe_we pe_we hs) (ha σ H s _ fun x H1 g1 p1 => hb σ H1 (s.ext g1.ext) _ fun y H2 g2 p2 => by
    obtain ⟨d, as, rfl, h1, h2, h3⟩ := (nearT nm).mono g2.ext p1
    cases dat_int p2
    rcases kvz_look (k := k) h3 with ⟨b, l', e1, e2, e3⟩ | ⟨e1, e2⟩
    · rw [hl] at e2
      cases e2
      exact ⟨d, .ref b, rfl, .inl ⟨_, _, .inl h1, rfl, e1.symm⟩, q _ H2 (g1.trans g2) (.lst e3 (dqa_lsV l))⟩
    · rw [hl] at e2
      cases e2)
/-- d.get(k, []) -/
theorem dx_nearGet (hu : X.A.units + 1 < cLine) (ha : DX T X Γ a (nearT nm)) (hb : DX T X Γ b (dat (.int (k : Nat)))) (hc : DX T X Γ c (dat (.list []))) (m : M2 X a "get" apos b c cpos) : DX T X Γ (.Call (.Attribute a "get" apos) [b, c] [] cpos) (dat (.list ((cs ((look nm k).getD [])).map .int))) := fun σ H s Q q =>
  we_of (pe_dget2 hu pe_we pe_we pe_we m) (ha σ H s _ fun x H1 g1 p1 => by
    obtain ⟨d, as, rfl, h1, h2, h3⟩ := p1
    refine ⟨d, rfl, .inl ⟨_, .inl h1⟩, hb σ H1 (s.ext g1.ext) _ fun y H2 g2 p2 => hc σ H2 (s.ext (g1.trans g2).ext) _ fun z H3 g3 p3 => ?_⟩
    cases dat_int p2
    have h1' := (g2.trans g3).ext _ _ h1 (fun _ z => by cases z)
    have h3' : Lsz H3 nm as := h3.imp fun b _ xs q => (g2.trans g3).ext _ _ q (fun _ z => by cases z)
    have gg := (g1.trans g2).trans g3
    rcases kvz_look (k := k) h3' with ⟨b, l', e1, e2, e3⟩ | ⟨e1, e2⟩
    · refine ⟨some (.ref b), .inl ⟨_, _, .inl h1', rfl, e1.symm⟩, q _ H3 gg ?_⟩
      rw [e2]
      exact .lst e3 (dqa_lsV l')
    · refine ⟨none, .inl ⟨_, _, .inl h1', rfl, e1.symm⟩, q _ H3 gg ?_⟩
      rw [e2]
      exact p3)
end
end G
set_option Elab.async false
set_option linter.all false
set_option maxRecDepth 100000
set_option maxHeartbeats 1000000
namespace G
open PySem PySem.Spec L2 LamX NdefX
section
variable {T : List NTab} {X : Cx} {Γ Γ' : Gam} {H0 : Hp} {σ : L2.St} {H : Hp} {D : Ends} {st : Stmt} {rest body : List Stmt} {pos p1 p2 p3 p4 p5 a1 a2 c1 c2 q1 q2 q3 q4 : Pos} {nn kn xn sn : Str} {a : Addr} {nm : Near} {as : List Addr} {k x : Nat}
theorem kvz_len : ∀ (nm : Near) (as : List Addr), (kvz nm as).length ≤ nm.length
  | [], _ => by simp [kvz]
  | _ :: _, [] => by simp [kvz]
  | p :: nm, a :: as => by
    rw [kvz, List.length_cons, List.length_cons]
    exact Nat.succ_le_succ (kvz_len nm as)
/-- near.setdefault(k, []).append(x) -/
theorem fs_near (i j l : Nat) (hi : σ[i]? = some (some (.ref a))) (hj : σ[j]? = some (some (.int ((k : Nat) : Int)))) (hl : σ[l]? = some (some (.int ((x : Nat) : Int)))) (N : NearOk T H0 H a nm as) (hz : nm.length ≤ 1000) (hls : ∀ k l, look nm k = some l → l.length ≤ 1000)
    (kk : ∀ H' as', NearOk T H0 H' a (addNear nm k x) as' → WSs X rest D σ H') (e1 : PE X (.Name nn p1) (tVar i)) (e2 : PE X (.Name kn p2) (tVar j)) (e3 : PE X (.Name xn p4) (tVar l)) (m : M2 X (.Name nn p1) "setdefault" a1 (.Name kn p2) (.List [] p3) c1)
    (hbase : attributeBase (.Call (.Attribute (.Name nn p1) "setdefault" a1) [.Name kn p2, .List [] p3] [] c1) "append" X.env (eval (.Call (.Attribute (.Name nn p1) "setdefault" a1) [.Name kn p2, .List [] p3] [] c1) X.env) = eval (.Call (.Attribute (.Name nn p1) "setdefault" a1) [.Name kn p2, .List [] p3] [] c1) X.env := by rfl)
    (hfew : ((backTo c2 (starEach (.Name xn p4 :: []) X.env)).all (fun x => !x.1) && (backToKw c2 (keywordEach [] X.env)).all (fun x => x.1.isSome)
      && decide ((Expr.Name xn p4 :: []).length + ([] : List Keyword).length + (if ([] : List Keyword).isEmpty then 0 else 1) < 30)) = true := by rfl)
    (hline : (a2.endLine == c2.line) = true := by rfl) (hs : starEach (.Name xn p4 :: []) X.env = (false, eval (.Name xn p4) X.env) :: starEach [] X.env := by rfl)
    (hsw : swapsWith (.Call (.Attribute (.Call (.Attribute (.Name nn p1) "setdefault" a1) [.Name kn p2, .List [] p3] [] c1) "append" a2) [.Name xn p4] [] c2) none p5.line X.env = pure false := by rfl) :
    WSs X (.Expr (.Call (.Attribute (.Call (.Attribute (.Name nn p1) "setdefault" a1) [.Name kn p2, .List [] p3] [] c1) "append" a2) [.Name xn p4] [] c2) p5 :: rest) D σ H := by
  have hsl : sizeLine > 100000 := by decide
  refine fs_cons (ws_of (ps_expr (pe_bm PySem.F.plainAttrs_list PySem.F.slot_list_append PySem.F.type_list_append mt_append (pe_dsetd e1 e2 (pe_lst pa_nil) m) (pa_cons e3 pa_nil hs) hbase hfew hline hs rfl) hsw) ?_)
  refine ⟨.ref a, hi, a, rfl, .inl ⟨_, .inl N.d⟩, .int ((k : Nat) : Int), hj, Nat.zero_le _, fun r hr => ?_⟩
  have ar : a ≠ r := ne_of_none N.d hr
  obtain ⟨s1, s2⟩ := near_step N hr k x
  refine ⟨_, .inl ((k : Nat) : Int), by rw [upd_ne ar]; exact N.d, rfl, Nat.lt_of_le_of_lt (Nat.le_trans (kvz_len _ _) hz) (by omega), fun v hv => ?_, fun hn => ?_⟩
  · obtain ⟨b, l', rfl, h2, as', h3⟩ := s1 v hv
    have hll : (lsV l').length ≤ 1000 := by
      have hls1 : Lsz (upd H r (.lst [])) nm as := N.ls.imp fun b hb xs q => by
        have nb : b ≠ r := ne_of_none q hr
        rw [upd_ne nb]
        exact q
      rcases kvz_look (k := k) hls1 with ⟨b2, l2, e1, e2, e3⟩ | ⟨e1, _⟩
      · rw [hv] at e1
        cases e1
        rw [e3] at h2
        have z : lsV l2 = lsV l' := by
          have z2 := Option.some.inj h2
          injection z2
        rw [← z]
        unfold lsV
        rw [List.length_map, cs_len]
        exact hls k l2 e2
      · rw [hv] at e1
        cases e1
    refine ⟨.inl ⟨rfl, _, .inl (.inl h2)⟩, .int ((x : Nat) : Int), hl, b, _, _, rfl, rfl, h2, by omega, kk _ as' h3⟩
  · obtain ⟨as', h3⟩ := s2 hn
    have er : upd (upd H r (.lst [])) a (.dK (putK (kvz nm as) (.inl ((k : Nat) : Int)) (.ref r))) r = some (.lst []) := by rw [upd_ne (Ne.symm ar), upd_same]
    exact ⟨.inl ⟨rfl, _, .inl (.inl er)⟩, .int ((x : Nat) : Int), hl, r, _, _, rfl, rfl, er, by show 0 < sizeLine; omega, kk _ as' h3⟩
/-- for one, other in some: over a list of pairs, the dict grows -/
theorem fs_nearFor (is i1 i2 : Nat) {ps : List (Nat × Nat)} {kk0 : Nat} {n1 n2 : Str} (f : Near → Nat × Nat → Near) (nd : X.N.Nodup) (hc : X.calm = true) (s : Sat Γ σ H0) (hs0 : Γ[is]? = some (some (dat (.list (ps.map pD))))) (N : NearOk T H0 H a [] [])
    (hΓ : ∀ v w σ', Sat Γ σ' H0 → Sat Γ ((σ'.set i1 (some v)).set i2 (some w)) H0)
    (hb : ∀ n x nm as σ' H', ps[n]? = some x → nm = (ps.take n).foldl f [] → NearOk T H0 H' a nm as → Sat Γ σ' H0 → i1 < σ'.length → i2 < σ'.length → WSs X body { nx := fun σ2 H2 => Sat Γ σ2 H0 ∧ ∃ as', NearOk T H0 H2 a (f nm x) as', rt := D.rt, ct := fun σ2 H2 => Sat Γ σ2 H0 ∧ ∃ as', NearOk T H0 H2 a (f nm x) as', bk := fun σ2 H2 => WSs X rest D σ2 H2 } ((σ'.set i1 (some (.int (x.1 : Nat)))).set i2 (some (.int (x.2 : Nat)))) H')
    (k : ∀ as' σ' H', Sat Γ σ' H0 → NearOk T H0 H' a (ps.foldl f []) as' → WSs X rest D σ' H') (e0 : PE X (.Name sn p1) (tVar is)) (hg1 : PG X (.Name n1 q1) (gName i1)) (hg2 : PG X (.Name n2 q2) (gName i2)) (hl1 : i1 < Γ.length) (hl2 : i2 < Γ.length)
    (hp : PassesOwn (model X.prog X.w) X.A X.env X.xe := by exact PassesOwn.never) (hsf : ∀ x, foldedSetIterable (.Name sn p1) X.env x = pure x := by intro _; rfl) :
    WSs X (.For (.Tuple [.Name n1 q1, .Name n2 q2] kk0 q3) (.Name sn p1) body [] pos :: rest) D σ H := by
  obtain ⟨v, hv, pv⟩ := s.at_ is _ hs0
  obtain ⟨l, xs, rfl, hl0, hq⟩ := dat_lst pv
  have inH : ∀ {H' nm as}, NearOk T H0 H' a nm as → H' l = some (.lst xs) := fun N => N.g.ext _ _ hl0 (fun _ z => by cases z)
  refine fs_cons (ws_of (ps_for hp hc (pi_list e0) (pg_tup (n := 2) hc (pgs_cons hg1 (pgs_cons hg2 pgs_nil))) pss_wss hsf) ⟨.ref l, hv, l, rfl, ⟨xs, SqL.of (inH N)⟩, fun n m σ2 H2 => m = ps.length - n ∧ n ≤ ps.length ∧ Sat Γ σ2 H0 ∧ ∃ as', NearOk T H0 H2 a ((ps.take n).foldl f []) as', ⟨ps.length, by simp, Nat.zero_le _, s, [], by rw [List.take_zero]; exact N⟩, ?_⟩)
  rintro n m σ2 H2 ⟨rfl, hn, s2, as2, N2⟩
  by_cases hlt : n < ps.length
  · have e : ps[n]? = some ps[n] := List.getElem?_eq_getElem hlt
    generalize ps[n] = x at e
    obtain ⟨w, hw, pw⟩ := dqa_get hq (show (ps.map pD)[n]? = some (pD x) by rw [List.getElem?_map, e]; rfl)
    refine .inr ⟨⟨xs, w, SqL.of (inH N2), hw⟩, fun σ3 H3 => Sat Γ σ3 H0 ∧ ∃ as', NearOk T H0 H3 a (f ((ps.take n).foldl f []) x) as', fun σ3 H3 ⟨z1, as', z2⟩ => ⟨_, by omega, rfl, hlt, z1, as', ?_⟩, fun y H' hy => ?_⟩
    · rw [List.take_succ, e, List.foldl_append]
      exact z2
    · obtain ⟨rfl, hy⟩ := hy
      have ey := hy xs (SqL.of (inH N2))
      rw [hw] at ey
      cases ey
      obtain ⟨b, ys, rfl, hb1, hb2⟩ := dat_tup (show (dat (.tuple [.int (x.1 : Nat), .int (x.2 : Nat)])).P w H0 from pw)
      cases hb2 with
      | cons a1 hb2 =>
        cases hb2 with
        | cons a2 hb2 =>
          cases hb2
          cases a1
          cases a2
          exact ⟨b, _, rfl, sqT_rd (rd_ext N2.g.ext hb1), rfl, _, _, rfl, _, _, rfl, rfl, hb n x _ as2 σ2 _ e rfl N2 s2 (by rw [s2.len]; exact hl1) (by rw [s2.len]; exact hl2)⟩
  · have e : n = ps.length := by omega
    subst e
    rw [List.take_of_length_le (Nat.le_refl _)] at N2
    exact .inl ⟨⟨xs, SqL.of (inH N2), by rw [dqa_len hq, List.length_map]; exact Nat.le_refl _⟩, k as2 _ _ s2 N2⟩
end
end G
set_option Elab.async false
set_option linter.all false
set_option maxRecDepth 100000
set_option maxHeartbeats 1000000
namespace G
open PySem PySem.Spec L2 LamX NdefX

/-! ### a dict of one's own is walked by its keys -/
def Stab (t : Ty) : Prop := ∀ v H H', (∀ b o, H b = some o → (∀ x y, o ≠ .frz x (.dK y)) → H' b = some o) → t.P v H → t.P v H'
theorem stab_dat (d : PyData) : Stab (dat d) := fun v H H' k h => dq_keep (fun b xs q => k b _ q fun _ _ z => by cases z) (fun b xs q => q.elim (fun q => .inl (k b _ q fun _ _ z => by cases z)) fun ⟨o, q⟩ => .inr ⟨o, k b _ q fun _ _ z => by cases z⟩) d v h
theorem stab_tyv (x : V) : Stab (tyv x) := fun _ _ _ _ h => h
def StabG (Γ : Gam) : Prop := ∀ (i : Nat) (t : Ty), Γ[i]? = some (some t) → Stab t
theorem stabG_nil : StabG [] := fun i t e => by simp at e
theorem stabG_cons {t : Ty} {Γ : Gam} (h : Stab t) (r : StabG Γ) : StabG (some t :: Γ) := fun i u e => by
  cases i with
  | zero => cases e; exact h
  | succ i => exact r i u (by simpa using e)
theorem stabG_none {Γ : Gam} (r : StabG Γ) : StabG (none :: Γ) := fun i u e => by
  cases i with
  | zero => cases e
  | succ i => exact r i u (by simpa using e)
section
variable {T : List NTab} {X : Cx} {Γ : Gam} {O : OS} {Hin : Hp} {σ : L2.St} {H : Hp} {D : Ends} {e tg : Expr} {st : Stmt} {rest body : List Stmt} {pos p1 p2 : Pos} {t u : Ty} {x : Str} {k : Bool} {d : Addr} {kvs : List (Key × V)}
theorem fs_forKeys {ι : Type} {ks : List Nat} {js : List Nat} (is : Nat) (Γf : Nat → ι → Gam) (Of : Nat → ι → OS) (Γx : Nat → Nat → ι → Gam) (i0 : ι) (hk : kvs.map (·.1) = ks.map fun (n : Nat) => (Sum.inl (n : Int) : Key)) (c : FC T Hin (Γf 0 i0) (oK d kvs (Of 0 i0)) σ H) (h0 : (Γf 0 i0)[is]? = some (some (tyv (.ref d)))) (hc : X.calm = true)
    (hg : ∀ n x i, ks[n]? = some x → DG X tg (dat (.int (x : Nat))) (Γf n i) (Γx n x i) js)
    (hb : ∀ n x i H0, ks[n]? = some x → Ge T Hin H0 → ∀ σ' H', FC T H0 (Γx n x i) (Of n i) σ' H' →
      WSs X body { nx := fun σ2 H2 => ∃ i', FC T H0 (Γf (n + 1) i') (Of (n + 1) i') σ2 H2, rt := fun _ _ => False, ct := fun σ2 H2 => ∃ i', FC T H0 (Γf (n + 1) i') (Of (n + 1) i') σ2 H2, bk := fun _ _ => False } σ' H')
    (hst : ∀ i, StabG (Γf ks.length i)) (hO : ∀ i H H' L, (Of ks.length i).P H L → (Of ks.length i).P H' L)
    (q : ∀ i σ' H', FC T Hin ((Γf ks.length i).set is (some (dKV kvs))) (Of ks.length i) σ' H' → WSs X rest D σ' H') (hv : ∀ i, (Γf ks.length i)[is]? = some (some (tyv (.ref d)))) (hN : PE X (.Name x p1) (tVar is)) (hp : PassesOwn (model X.prog X.w) X.A X.env X.xe := by exact PassesOwn.never) (hs : ∀ z, foldedSetIterable (.Name x p1) X.env z = pure z := by intro _; rfl) :
    WSs X (.For tg (.Name x p1) body [] pos :: rest) D σ H := by
  obtain ⟨Hb, L, rfl, f, ap, g, s, ⟨L', rfl, o⟩, _⟩ := c
  have hd0 : Hb d = none := ap (d, .dK kvs) List.mem_cons_self
  have hn := (List.nodup_cons.mp f.nd).1
  have hlen : kvs.length = ks.length := by
    have z := congrArg List.length hk
    rw [List.length_map, List.length_map] at z
    exact z
  obtain ⟨v, hv1, hv2⟩ := s.at_ is _ h0
  have hv2 : v = .ref d := hv2
  subst hv2
  have hin : Hin d = none := g.bk d hd0
  refine fs_cons (ws_of (ps_lock (ps_for hp hc (pi_keys hN) pg_wg pss_wss hs)) ⟨d, .dK kvs, upd_same, trivial, fun od => ?_⟩)
  have gn : Ge T Hb (upd Hb d (.frz od (.dK kvs))) := Ge.new hd0
  have eH : upd (addAll Hb ((d, .dK kvs) :: L')) d (.frz od (.dK kvs)) = addAll (upd Hb d (.frz od (.dK kvs))) L' := by
    show upd (upd (addAll Hb L') d _) d _ = _
    rw [upd_upd]
    exact addAll_upd hn
  rw [eH]
  have apL : Apart (upd Hb d (.frz od (.dK kvs))) L' := fun p hp => by
    have np : p.1 ≠ d := fun z => hn (z ▸ List.mem_map.mpr ⟨p, hp, rfl⟩)
    rw [upd_ne np]
    exact ap p (List.mem_cons_of_mem _ hp)
  have at_d : ∀ {Hb2 : Hp} {L2 : List (Addr × HO)}, Fr L2 → Apart Hb2 L2 → Ge T (upd Hb d (.frz od (.dK kvs))) Hb2 → Hb2 d = some (.frz od (.dK kvs)) ∧ d ∉ L2.map (·.1) ∧ addAll Hb2 L2 d = some (.frz od (.dK kvs)) := fun {Hb2 L2} f2 ap2 g2 => by
    have e1 : Hb2 d = some (.frz od (.dK kvs)) := g2.ext _ _ upd_same fun _ z => by cases z
    have e2 : d ∉ L2.map (·.1) := fun z => by
      obtain ⟨p, hp, ep⟩ := List.mem_map.mp z
      have q := ap2 p hp
      rw [ep, e1] at q
      cases q
    exact ⟨e1, e2, by rw [addAll_no e2]; exact e1⟩
  refine ⟨.ref d, hv1, d, od, rfl, .inl ⟨kvs, (at_d f.tail apL (Ge.refl _)).2.2, fun n m σ2 H2 => m = ks.length - n ∧ n ≤ ks.length ∧ ∃ i, FC T (upd Hb d (.frz od (.dK kvs))) (Γf n i) (Of n i) σ2 H2, ⟨ks.length, by simp, Nat.zero_le _, i0, _, L', rfl, f.tail, apL, Ge.refl _, s.ext gn.ext, (Of 0 i0).mono gn.ext o, trivial⟩, ?_⟩⟩
  rintro n m σ2 H2 ⟨rfl, hn2, i, c2⟩
  obtain ⟨Hb2, L2, rfl, f2, ap2, g2, s2, o2, _⟩ := c2
  obtain ⟨d1, d2, d3⟩ := at_d f2 ap2 g2
  by_cases hlt : n < ks.length
  · have ek : ks[n]? = some ks[n] := List.getElem?_eq_getElem hlt
    generalize ks[n] = y at ek
    have ekv : ∃ v, kvs[n]? = some (Sum.inl ((y : Nat) : Int), v) := by
      have z := congrArg (fun l : List Key => l[n]?) hk
      simp only [List.getElem?_map, ek] at z
      obtain ⟨p, h1, h2⟩ := Option.map_eq_some_iff.mp z
      exact ⟨p.2, by rw [h1]; exact congrArg some (Prod.ext h2 rfl)⟩
    obtain ⟨w, ekv⟩ := ekv
    refine .inr ⟨⟨d3, by omega⟩, fun σ3 H3 => ∃ i', FC T (upd Hb d (.frz od (.dK kvs))) (Γf (n + 1) i') (Of (n + 1) i') σ3 H3, fun σ' H' q => ⟨_, by omega, rfl, hlt, q⟩, fun v H' hy => ?_⟩
    obtain ⟨rfl, k', v', e1, rfl⟩ := hy
    rw [ekv] at e1
    cases e1
    refine hg n y i ek _ σ2 Hb2 _ (ge_addAll (T := T) f2 ap2).ext (.int _) s2 _ fun σ' s' _ => ?_
    have z := hb n y i _ ek (g.trans gn) σ' _ ⟨Hb2, L2, rfl, f2, ap2, g2, s', o2, trivial⟩
    exact fun pins sh I => thn (z pins sh I) fun fl s' hq => by
      cases fl with
      | next => exact hq
      | cont => exact hq
      | brk =>
        obtain ⟨_, _, _, q⟩ := hq
        exact q.elim
      | ret v =>
        obtain ⟨_, _, _, _, _, q⟩ := hq
        exact q.elim
  · have e : n = ks.length := by omega
    subst e
    refine .inl ⟨⟨d3, by omega⟩, d3, ?_⟩
    have keep : ∀ b o, Hb2 b = some o → (∀ x y, o ≠ .frz x (.dK y)) → upd Hb2 d (.dK kvs) b = some o := fun b o e1 e2 => by
      have nb : b ≠ d := fun z => by
        rw [z, d1] at e1
        cases e1
        exact e2 _ _ rfl
      rw [upd_ne nb]
      exact e1
    have s3 : Sat (Γf ks.length i) σ2 (upd Hb2 d (.dK kvs)) := ⟨s2.len, fun j t hj => by
      obtain ⟨v, h1, h2⟩ := s2.at_ j t hj
      exact ⟨v, h1, hst i j t hj v _ _ keep h2⟩⟩
    obtain ⟨v, h4, h5⟩ := s2.at_ is _ (hv i)
    have h5 : v = .ref d := h5
    subst h5
    have es : σ2.set is (some (.ref d)) = σ2 := by
      obtain ⟨hl2, he⟩ := List.getElem?_eq_some_iff.mp h4
      rw [← he]
      exact List.set_getElem_self hl2
    have s4 := s3.set (i := is) (t := dKV kvs) (v := .ref d) ⟨d, rfl, upd_same⟩
    rw [es] at s4
    have g3 : Ge T Hin (upd Hb2 d (.dK kvs)) := ((g.trans gn).trans g2).mut hin d1 rfl
    rw [addAll_upd d2]
    exact q i _ _ ⟨_, L2, rfl, f2, fun p hp => by
      have np : p.1 ≠ d := fun z => d2 (z ▸ List.mem_map.mpr ⟨p, hp, rfl⟩)
      rw [upd_ne np]
      exact ap2 p hp, g3, s4, hO i _ _ _ o2, trivial⟩
/-- two dicts of one's own, the other way round -/
theorem FC.swapK {a b : Addr} {k1 k2 : List (Key × V)} (c : FC T Hin Γ (oK a k1 (oK b k2 O)) σ H) : FC T Hin Γ (oK b k2 (oK a k1 O)) σ H := by
  obtain ⟨Hb, L, rfl, f, ap, g, s, ⟨L', rfl, L'', rfl, o⟩, _⟩ := c
  have nd := f.nd
  rw [List.map_cons, List.map_cons, List.nodup_cons, List.nodup_cons] at nd
  obtain ⟨n1, n2, n3⟩ := nd
  have nab : a ≠ b := fun z => n1 (by rw [z]; exact List.mem_cons_self)
  refine ⟨Hb, (b, .dK k2) :: (a, .dK k1) :: L'', ?_, ⟨?_, fun p hp => ?_⟩, fun p hp => ?_, g, s, ⟨_, rfl, L'', rfl, o⟩, trivial⟩
  · show upd (upd (addAll Hb L'') b _) a _ = upd (upd (addAll Hb L'') a _) b _
    exact (upd_comm nab).symm
  · rw [List.map_cons, List.map_cons, List.nodup_cons, List.nodup_cons]
    refine ⟨fun z => ?_, fun z => n1 (List.mem_cons_of_mem _ z), n3⟩
    rcases List.mem_cons.mp z with z | z
    · exact nab z.symm
    · exact n2 z
  · rcases List.mem_cons.mp hp with z | z
    · rw [z]; rfl
    · rcases List.mem_cons.mp z with z | z
      · rw [z]; rfl
      · exact f.pl p (List.mem_cons_of_mem _ (List.mem_cons_of_mem _ z))
  · rcases List.mem_cons.mp hp with z | z
    · rw [z]; exact ap (b, .dK k2) (List.mem_cons_of_mem _ List.mem_cons_self)
    · rcases List.mem_cons.mp z with z | z
      · rw [z]; exact ap (a, .dK k1) List.mem_cons_self
      · exact ap p (List.mem_cons_of_mem _ (List.mem_cons_of_mem _ z))
/-- found[e1] = e2, the key a whole number, the value whatever it is -/
theorem fs_dputV (i : Nat) {a : Addr} {b : Expr} {m : Int} {y : V} {pos' p : Pos} (hu : X.A.units + 1 < cLine) (c : FC T Hin Γ (oK a kvs O) σ H) (hi : Γ[i]? = some (some (tyv (.ref a)))) (hl : kvs.length ≤ 100000) (h1 : DX T X Γ e (dat (.int m))) (h2 : DX T X Γ b (tyv y)) (k : ∀ H', FC T Hin Γ (oK a (putK kvs (.inl m) y) O) σ H' → WSs X rest D σ H')
    (hN : X.N[i]? = some x := by rfl) (hv : Vis X.env.scope x := by first | exact Or.inl rfl | exact Or.inr (Or.inl rfl) | exact Or.inr (Or.inr rfl)) (hd : (x == ("__debug__" : Str)) = false := by decide) (hcd : (x == ("__classdict__" : Str)) = false := by decide)
    (hs : swapsWith b (some (.Subscript (.Name x p) e pos')) pos.line X.env = pure false := by rfl) : WSs X (.Assign [.Subscript (.Name x p) e pos'] b pos :: rest) D σ H := by
  refine fs_cons (ws_of (ps_dput hu (pe_var hN hv hd hcd) pe_we pe_we hs) (fc_we c h2 fun w H' c' => ?_))
  have w1 : w = y := by
    obtain ⟨_, _, _, _, _, _, _, _, p⟩ := c'
    exact p
  subst w1
  obtain ⟨v, h4, h5⟩ : ∃ v, σ[i]? = some (some v) ∧ v = .ref a := by
    obtain ⟨_, _, _, _, _, _, s, _, _⟩ := c'
    exact s.at_ i _ hi
  subst h5
  refine ⟨.ref a, h4, fc_we c'.fc h1 fun w2 H2 c2 => ?_⟩
  obtain ⟨Hb, L, rfl, f, ap, g, s, ⟨L', rfl, h3⟩, p⟩ := c2
  cases dat_int p
  refine ⟨a, _, rfl, DPut.k (k := .inl m) upd_same (Nat.lt_of_le_of_lt hl (by decide)), k _ ⟨Hb, (a, .dK (putK kvs (.inl m) w)) :: L', ?_, ⟨f.nd, fun q hq => ?_⟩, fun q hq => ?_, g, s, ⟨L', rfl, h3⟩, trivial⟩⟩
  · show upd (upd (addAll Hb L') a (.dK kvs)) a _ = upd (addAll Hb L') a _
    exact upd_upd
  · rcases List.mem_cons.mp hq with z | z
    · rw [z]
      rfl
    · exact f.pl q (List.mem_cons_of_mem _ z)
  · rcases List.mem_cons.mp hq with z | z
    · rw [z]
      exact ap (a, .dK kvs) List.mem_cons_self
    · exact ap q (List.mem_cons_of_mem _ z)
end
end G
set_option Elab.async false
set_option linter.all false
set_option maxRecDepth 100000
set_option maxHeartbeats 1000000
namespace G
open PySem PySem.Spec L2 LamX NdefX
open PySem.W (AllAlike Sortable dataLe alike keyToks EachIs sortVals)

/-! ### sorted of data -/
def leD (a b : PyData) : Bool := !PySem.W.dataLt b a
def sortD (ds : List PyData) : List PyData := ds.mergeSort leD
theorem sortD_len (ds : List PyData) : (sortD ds).length = ds.length := List.length_mergeSort _
theorem sortD_short {ds : List PyData} (h : ds.length ≤ 1) : sortD ds = ds := by
  match ds, h with
  | [], _ => simp [sortD]
  | [d], _ => simp [sortD]
  | _ :: _ :: _, h => simp at h
def RVD (H : Hp) (v : Value) (d : PyData) : Prop := ∃ x, RelV x v ∧ Dq H x d
theorem each_rvd {H : Hp} : ∀ {ds : List PyData} {xs : List V} {us : List Value}, DqAll H xs ds → Vals xs us → EachIs (RVD H) us ds
  | [], _, _, .nil, .nil => .nil
  | _ :: _, _, _, .cons a b, .cons r t => .cons ⟨_, r, a⟩ (each_rvd b t)
theorem rvd_each {H : Hp} : ∀ {ds : List PyData} {us : List Value}, EachIs (RVD H) us ds → ∃ xs, Vals xs us ∧ DqAll H xs ds
  | _, _, .nil => ⟨[], .nil, .nil⟩
  | _, _, .cons ⟨x, r, d⟩ t => by
    obtain ⟨xs, h1, h2⟩ := rvd_each t
    exact ⟨x :: xs, .cons r h1, .cons d h2⟩
section
variable {prog : Program} {w : World} {A : Around} {E : Value → Shared → Prop} {s : Shared}
open PyProof.Rows
theorem collect_tuple {l : Addr} {vs : List Value} {Q : List Value → Shared → Prop} (hl : s.heap.IsTuple l vs.toArray)
    (h : Q vs { s with heap := (s.heap.push (seqObj "list" #[] 0)).update s.heap.objs.size (Obj.mapSeq (· ++ vs.toArray)) }) (hsz : vs.length ≤ sizeLine) :
    wpAny (model prog w) A (collect (.ref l)) Q E s := by
  obtain ⟨o, ho, hc, n, hd⟩ := id hl
  unfold collect
  refine wpAny_bind (wpAny_runValue (codeAny_builtin entry_proto_collect' ?_))
  show wpAny _ _ (do again (.builtin "list.__iadd__" ⟨[← newList [], .ref l], []⟩)) _ _ s
  refine wpAny_bind (wpAny_newList (wpAny_pure ⟨Code.quiet_builtin _ (by decide +kernel), codeAny_builtin entry_list_iadd' ?_⟩))
  show wpAny _ _ (Builtin.List.listExtendWith (.ref s.heap.objs.size) (.ref l) (.ref s.heap.objs.size)) _ _ { s with heap := s.heap.push (seqObj "list" #[] 0) }
  unfold Builtin.List.listExtendWith
  have ho' : (s.heap.push (seqObj "list" #[] 0)).get? l = some o := Heap.get?_push_of_some _ ho
  refine wpAny_bind (wpAny_typeOf (T := "tuple") ⟨o, ho', hc⟩ ?_)
  have ht : (Value.type "tuple" == Value.type "tuple") = true := by rfl
  rw [if_pos (by rw [ht]; simp)]
  refine wpAny_bind (listItems_at ho' hd ?_)
  refine wpAny_bind (listItems_at (xs := #[]) (n := 0) (Heap.get?_push_size _ rfl) rfl ?_)
  rw [if_neg (by simp)]
  refine wpAny_bind (listUpdate_at (xs := #[]) (n := 0) (Heap.get?_push_size _ rfl) rfl ?_ (Nat.zero_le _) (by show (#[] ++ vs.toArray).size ≤ sizeLine + 1; simp only [Array.size_append, List.size_toArray, List.length_nil]; omega))
  refine wpAny_pure ?_
  show wpAny (model prog w) A (do
      let o ← load s.heap.objs.size
      match o.data with
      | .seq xs _ => pure xs.toList
      | _ => unsupported "internal:collect") Q E { s with heap := (s.heap.push (seqObj "list" #[] 0)).update s.heap.objs.size (Obj.mapSeq (· ++ vs.toArray)) }
  refine wpAny_bind (wpAny_load (get?_update_seq (Heap.get?_push_size _ rfl) _) ?_)
  show wpAny _ _ (pure ((#[] : Array Value) ++ vs.toArray).toList) Q E _
  rw [show ((#[] : Array Value) ++ vs.toArray).toList = vs by simp]
  exact wpAny_pure h
/-- sorted over a tuple -/
theorem sorted_of_sortT {l : Addr} {vs : List Value} {Q : Value → Shared → Prop} (hl : s.heap.IsTuple l vs.toArray) (hL : vs.length ≤ sizeLine)
    (body : ∀ E' : Value → Shared → Prop, wpAny (model prog w) A.in1.in1 (Builtin.«list.sort» ⟨[.ref (s.heap.objs.size + 1)], []⟩) (fun f s' => f = .done (.ret .none) ∧ Q (.ref (s.heap.objs.size + 1)) s') E' { s with heap := PySem.W.copyHeap s.heap vs }) :
    wpAny (model prog w) A (call (.builtin "sorted") [.ref l]) Q E s := by
  refine Calls.call_function_entry kind_sorted plain_sorted entry_sorted (args_sorted1 _) ?_
  unfold Builtin.«sorted»
  refine wpAny_bind (m := checkCount "sorted" 1 1 _) (wpAny_pure ?_)
  refine wpAny_bind (collect_tuple hl ?_ hL)
  refine wpAny_bind (wpAny_newList ?_ hL)
  have hsz : ((s.heap.push (seqObj "list" #[] 0)).update s.heap.objs.size (Obj.mapSeq (· ++ vs.toArray))).objs.size = s.heap.objs.size + 1 := by
    rw [Heap.size_update, size_push']
  show wpAny _ _ _ _ _ { s with heap := PySem.W.copyHeap s.heap vs }
  rw [hsz]
  refine wpAny_bind (wpAny_holding (wpAny_call_entry slot_list_sort ⟨_, PySem.W.copyHeap_at s.heap vs, rfl⟩ entry_list_sort ?body (args_list_sort _)))
  case body =>
    show wpAny (model prog w) A.in1.in1 (Builtin.«list.sort» ⟨[.ref (s.heap.objs.size + 1)], []⟩) _ _ _
    refine wpAny_mono (body _) (fun f s' hf => ?_) fun _ _ e => e
    obtain ⟨rfl, hq⟩ := hf
    exact ⟨_, rfl, wpAny_pure ⟨_, rfl, hq⟩⟩
theorem sorted_dataT {β : Type} {R : Value → β → Prop} {vs : List Value} {bs : List β} {enc : β → PyData} {l : Addr} {Q : Value → Shared → Prop} (hl : s.heap.IsTuple l vs.toArray) (e : EachIs R vs bs) (er : EachIs (fun v b => ∃ as, Reads s.heap v (enc b) as) vs bs) (hal : AllAlike (bs.map enc)) (hk : Sortable (bs.map enc)) (hL : bs.length ≤ sizeLine)
    (hu : ∀ b, b ∈ bs → A.units + 2 + (enc b).depth < cLine) (h : ∀ out, out.length = bs.length → EachIs R out (bs.mergeSort (dataLe false enc)) → Q (.ref (s.heap.objs.size + 1)) { s with heap := PyProof.Rows.sortedAll s.heap vs (List.toArray out) }) :
    wpAny (model prog w) A (call (.builtin "sorted") [.ref l]) Q E s := by
  have er' : EachIs (fun v b => ∃ as, Reads (PySem.W.sortingHeap (PySem.W.copyHeap s.heap vs) (s.heap.objs.size + 1) vs) v (enc b) as) vs bs := er.mono fun _ _ ⟨as, r⟩ => ⟨as, PyProof.Rows.Reads.keeps (fun _ _ => PySem.W.sorting_copy_old) r⟩
  have S := PySem.W.SortsAt.data (prog := prog) (w := w) (A := A.in1.in1) (s := { s with heap := PySem.W.sortingHeap (PySem.W.copyHeap s.heap vs) (s.heap.objs.size + 1) vs }) (PySem.W.each_map (R := fun v d => ∃ as, Reads (PySem.W.sortingHeap (PySem.W.copyHeap s.heap vs) (s.heap.objs.size + 1) vs) v d as) enc er') hal hk (PySem.W.bound_map hu)
  exact sorted_of_sortT hl (by rw [e.length]; exact hL) fun _ => PySem.W.list_sort_vals (s := { s with heap := PySem.W.copyHeap s.heap vs }) (PySem.W.copyHeap_at s.heap vs) S (by rw [e.length]; exact hL) ⟨rfl, h _ (by rw [PySem.W.sortVals_length false rfl]; exact e.length) (PySem.W.sortVals_data false e er' hal)⟩
theorem swo_no : SrtO.Swo (fun _ _ : Value => false) := ⟨fun _ _ _ => rfl, fun _ _ _ _ _ => rfl⟩
theorem stb_one {vs out : List Value} (h : SrtO.Stb (fun _ _ : Value => false) out vs) (hl : vs.length ≤ 1) : out = vs := by
  have p := h.perm
  match vs, hl with
  | [], _ => exact List.Perm.eq_nil p
  | [v], _ => exact List.perm_singleton.mp p
  | _ :: _ :: _, hl => simp at hl
end
def rSortD (K : PySem.W.Frag) : List V → Hp → VK → Prop := fun vs H Q => ∃ (a : Addr) (xs : List V) (ds : List PyData), vs = [V.ref a] ∧ ((H a = some (.lst xs) ∧ (Sortable ds ∨ ds.length ≤ 1)) ∨ (Rd H a (.tup xs) ∧ Sortable ds)) ∧ DqAll H xs ds ∧ AllAlike ds ∧ (∀ d ∈ ds, d.depth ≤ 60) ∧
  ∀ ys p, H p = none → DqAll H ys (sortD ds) → Q (.ref p) (upd H p (.lst ys))
section
variable {X : Cx}
theorem mapid (ds : List PyData) : ds.map (fun d => d) = ds := List.map_id' ds
theorem cr_sortedD (hu : X.A.units + 64 < cLine) : CallR X (.builtin "sorted") (rSortD X.K) := by
  intro pins s σ H vs us Q I r h
  obtain ⟨a, xs, ds, rfl, hs, hd, hal, hdep, q⟩ := h
  obtain ⟨u, rfl, ru⟩ := vals1 r
  obtain rfl : u = Value.ref a := ru
  have fin : ∀ (its : List Value) (out : List Value), xs.length ≤ sizeLine → Vals xs its → out.length = ds.length → EachIs (RVD H) out (sortD ds) → EP X pins σ Q (.ref (s.heap.objs.size + 1)) { s with heap := PyProof.Rows.sortedAll s.heap its (List.toArray out) } := fun its out hz rv ho eo => by
    obtain ⟨ys, h1, h2⟩ := rvd_each eo
    obtain ⟨ep, he'⟩ := PyProof.Rows.sortedAll_at s.heap its (List.toArray out)
    have hlen : ys.length ≤ sizeLine := by
      rw [h1.length, ho, ← dqa_len hd]
      exact hz
    exact ⟨.ref _, upd H (s.heap.objs.size + 1) (.lst ys), I.laid (t' := s.toks) (fun _ _ => PyProof.Rows.sortedAll_old) (Nat.le_succ _) ⟨hlen, out, ep, h1, he'⟩, rfl, q _ _ (I.hok.fresh (Nat.le_succ _)) h2⟩
  have rd : ∀ its, Vals xs its → EachIs (fun v b => ∃ as, Reads s.heap v b as) its ds := fun its rv => by
    obtain ⟨as, hr⟩ := Dp.readsAll I ds xs its (dqa_dpa ds xs hd) rv
    have hr2 : ReadsAll s.heap its (ds.map fun d => d) as := by rw [mapid]; exact hr
    exact PySem.W.readsAll_each (fun d => d) hr2
  have room : ∀ b ∈ ds, X.A.units + 2 + b.depth < cLine := fun b hb => by
    have := hdep b hb
    omega
  have e0 : (sortD ds) = ds.mergeSort (dataLe false fun d => d) := rfl
  rcases hs with ⟨hs, hk⟩ | ⟨hs, hk⟩
  · obtain ⟨its, rv, hl, hz⟩ := I.list (SqL.of hs)
    have hz2 : ds.length ≤ sizeLine := by rw [← dqa_len hd]; exact hz
    rcases hk with hk | hk
    · exact PySem.W.sorted_data (enc := fun d => d) hl.isList (each_rvd hd rv) (rd its rv) (by rw [mapid]; exact hal) (by rw [mapid]; exact hk) hz2 room fun out ho eo => fin its out hz rv ho (by rw [e0]; exact eo)
    · have hil : its.length ≤ 1 := by rw [← rv.length, dqa_len hd]; exact hk
      refine SrtO.sorted_ord swo_no hl.isList (by rw [← rv.length]; exact hz) (fun h2 => absurd h2 (by omega)) fun out h1 h2 => ?_
      rw [stb_one h2 hil]
      refine fin its its hz rv (by rw [← rv.length, dqa_len hd]) ?_
      rw [sortD_short hk]
      exact each_rvd hd rv
  · obtain ⟨its, rv, ht, hz⟩ := I.tuple (sqT_rd hs)
    have hz2 : ds.length ≤ sizeLine := by rw [← dqa_len hd]; exact hz
    exact sorted_dataT (enc := fun d => d) ht (each_rvd hd rv) (rd its rv) (by rw [mapid]; exact hal) (by rw [mapid]; exact hk) hz2 room fun out ho eo => fin its out hz rv ho (by rw [e0]; exact eo)
end
section
variable {T : List NTab} {X : Cx} {Γ : Gam} {a : Expr} {p pos kpos kp : Pos} {ds : List PyData}
theorem dx_sortedL (hu : X.A.units + 64 < cLine) (hm : X.mg "sorted" = none) (ha : DX T X Γ a (dat (.list ds))) (hal : AllAlike ds) (hk : Sortable ds ∨ ds.length ≤ 1) (hdep : ∀ d ∈ ds, d.depth ≤ 60) (hg : Gl X "sorted" := by rfl) (hs : starEach [a] X.env = (false, eval a X.env) :: starEach [] X.env := by rfl) : DX T X Γ (.Call (.Name "sorted" p) [a] [] pos) (dat (.list (sortD ds))) :=
  dx_callB (cr_sortedD hu) hm (by decide +kernel) (da_cons ha da_nil hs) (fun vs H Q h q => by
    obtain ⟨v, rfl, h0⟩ := tyAll1 h
    obtain ⟨l, xs, rfl, h1, h2⟩ := dat_lst h0
    exact ⟨l, xs, ds, rfl, .inl ⟨h1, hk⟩, h2, hal, hdep, fun ys p hp hy => q _ _ (Ge.new hp) (.lst upd_same (dqa_ext (Ge.new (T := T) hp).ext _ _ hy))⟩) hg (by decide) (by decide) hs
theorem dx_sortedT (hu : X.A.units + 64 < cLine) (hm : X.mg "sorted" = none) (ha : DX T X Γ a (dat (.tuple ds))) (hal : AllAlike ds) (hk : Sortable ds) (hdep : ∀ d ∈ ds, d.depth ≤ 60) (hg : Gl X "sorted" := by rfl) (hs : starEach [a] X.env = (false, eval a X.env) :: starEach [] X.env := by rfl) : DX T X Γ (.Call (.Name "sorted" p) [a] [] pos) (dat (.list (sortD ds))) :=
  dx_callB (cr_sortedD hu) hm (by decide +kernel) (da_cons ha da_nil hs) (fun vs H Q h q => by
    obtain ⟨v, rfl, h0⟩ := tyAll1 h
    obtain ⟨l, xs, rfl, h1, h2⟩ := dat_tup h0
    exact ⟨l, xs, ds, rfl, .inr ⟨h1, hk⟩, h2, hal, hdep, fun ys p hp hy => q _ _ (Ge.new hp) (.lst upd_same (dqa_ext (Ge.new (T := T) hp).ext _ _ hy))⟩) hg (by decide) (by decide) hs
/-! ### min(.., default=None) -/
def minDef : List PyData → PyData
  | [] => .none
  | d :: ds => PySem.W.minD d ds
theorem minD_mem (d : PyData) (ds : List PyData) : PySem.W.minD d ds ∈ d :: ds := by
  unfold PySem.W.minD
  induction ds generalizing d with
  | nil => exact List.mem_cons_self
  | cons e ds ih =>
    rw [List.foldl_cons]
    split
    · exact List.mem_cons_of_mem _ (ih e)
    · rcases List.mem_cons.mp (ih d) with z | z
      · rw [z]; exact List.mem_cons_self
      · exact List.mem_cons_of_mem _ (List.mem_cons_of_mem _ z)
theorem cr_minD (hc : X.calm = true) (hu : X.A.units + 64 < cLine) : CallRK X (.builtin "min") [Str.ofString "default"] (fun vs zs H Q => ∃ (a : Addr) (xs : List V) (ds : List PyData), vs = [V.ref a] ∧ zs = [.non] ∧ H a = some (.lst xs) ∧ DqAll H xs ds ∧ PySem.W.AlikeAll ds ∧ PyData.depthAll ds ≤ 60 ∧
    ∀ v, Dq H v (minDef ds) → Q v H) := by
  intro pins s σ H vs zs us ws Q I r rz h
  obtain ⟨a, xs, ds, rfl, rfl, hs, hd, hal, hdep, q⟩ := h
  obtain rfl := Vals.ref1 r
  obtain ⟨w1, rfl, e1⟩ := vals1 rz
  obtain rfl : w1 = Value.none := e1
  obtain ⟨its, rv, hl, hz⟩ := I.list (SqL.of hs)
  obtain ⟨as, hr⟩ := Dp.readsAll I ds xs its (dqa_dpa ds xs hd) rv
  refine PySem.W.min_list_default (vs := its.toArray) (xs := ds) (as := as) (I.ok.hd hc) hl.isList (by simpa using hr) hal (by omega) (fun h0 h' tk kp => ?_) fun y ys i v h' tk bs e hv hrd kp => ?_
  · subst h0
    exact ⟨.non, H, I.kept (t' := tk) kp, rfl, q _ .non⟩
  · have hv' : its[i]? = some v := by simpa using hv
    have hi : i < xs.length := by
      have z := (List.getElem?_eq_some_iff.mp hv').1
      rw [rv.length]
      exact z
    have ex : xs[i]? = some xs[i] := List.getElem?_eq_getElem hi
    generalize xs[i] = x at ex
    obtain ⟨u, hu2, ru⟩ := rv.get ex
    rw [hv'] at hu2
    cases hu2
    obtain ⟨d, ed, hdq⟩ := dqa_get' hd ex
    obtain ⟨as1, r1⟩ := Dp.reads I d x v (dq_dp _ _ hdq) ru
    have hmem : d ∈ ds := List.mem_of_getElem? ed
    have hm2 : PySem.W.minD y ys ∈ ds := by rw [e]; exact minD_mem y ys
    have eq : d = PySem.W.minD y ys := PySem.W.alike_unique _ _ _ _ _ (hal.1 d hmem _ hm2) (PyProof.Rows.Reads.keeps kp r1) hrd
    refine ⟨x, H, I.kept (t' := tk) kp, ru, q x ?_⟩
    rw [e]
    show Dq H x (PySem.W.minD y ys)
    rw [← eq]
    exact hdq
theorem dx_minDef (hc : X.calm = true) (hu : X.A.units + 64 < cLine) (hm : X.mg "min" = none) {j} (ha : DX T X Γ a (dat (.list ds))) (hal : PySem.W.AlikeAll ds) (hdep : PyData.depthAll ds ≤ 60) (hg : Gl X "min" := by rfl) (hs : starEach [a] X.env = (false, eval a X.env) :: starEach [] X.env := by rfl)
    (he : backTo pos (starEach [a] X.env) = (false, eval a X.env) :: backTo pos (starEach [] X.env) := by rfl) (hpl : (backTo pos (starEach [a] X.env)).any (·.1) = false := by rfl)
    (hall : (backToKw pos (keywordEach [⟨some "default", .Constant .none j kp, kpos⟩] X.env)).all (·.1.isSome) = true := by rfl) (hnone : (backToKw pos (keywordEach [⟨some "default", .Constant .none j kp, kpos⟩] X.env)).any (·.1.isNone) = false := by rfl) (hks : (backToKw pos (keywordEach [⟨some "default", .Constant .none j kp, kpos⟩] X.env)).filterMap (·.1) = [Str.ofString "default"] := by rfl) :
    DX T X Γ (.Call (.Name "min" p) [a] [⟨some "default", .Constant .none j kp, kpos⟩] pos) (dat (minDef ds)) := fun σ H s Q q =>
  we_of (pe_callBK (cr_minD hc hu) hg hm (by decide +kernel) (pa_cons pe_we pa_nil hs) (pk_cons pe_non pk_nil) (by decide) (by decide) he hpl hall hnone hks) (ha σ H s _ fun v H1 g1 p1 => by
    obtain ⟨l, xs, rfl, h1, h2⟩ := dat_lst p1
    exact ⟨l, xs, ds, rfl, rfl, h1, h2, hal, hdep, fun v hv => q v H1 g1 hv⟩)
end
end G
set_option Elab.async false
set_option linter.all false
set_option maxRecDepth 100000
set_option maxHeartbeats 1000000
namespace G
open PySem PySem.Spec L2 LamX NdefX
local macro_rules | `(tactic| fail "sub") => `(tactic| first | exact Sub.nil | (refine Sub.drop ?_; fail "sub") | (refine Sub.same ?_; fail "sub"))
local macro_rules | `(tactic| fail "side") => `(tactic| first | assumption | rfl | omega | decide)

/-! ### Search -/
structure SrC (K : PySem.W.Frag) (C : Addr) : Prop where
  cls : Cls K C
  n1 : NoAttr K C "near"
  n2 : NoAttr K C "boards"
  n3 : NoAttr K C "most"
  n4 : NoAttr K C "found"
structure AtSearch (K : PySem.W.Frag) (mg : Str → Option Value) : Prop where
  ex : ∃ C fi fdi fs fds fg fdg, mg "Search" = some (.ref C) ∧ Mk K C fi ∧ C8.Fun K "__init__" "Search.__init__" (inClass (top 55) 0) fi fdi ∧ Binds K fdi ["self", "near", "most"] [] ∧ SrC K C ∧
    Meth K C "is_stuck" fs ∧ C8.Fun K "is_stuck" "Search.is_stuck" (inClass (top 55) 1) fs fds ∧ Binds K fds ["self", "taken", "out"] [] ∧
    Meth K C "go" fg ∧ C8.Fun K "go" "Search.go" (inClass (top 55) 2) fg fdg ∧ Binds K fdg ["self", "at", "taken", "out", "chosen"] []
abbrev srF (vn vb : V) (most : Int) (fa : Addr) : List (Str × V) := [(("near" : Str), vn), (("boards" : Str), vb), (("most" : Str), .int most), (("found" : Str), .ref fa)]
def srchT (C : Addr) (nm : Near) (bds : List Nat) (most : Int) (fa : Addr) : Ty := ⟨fun v H => ∃ p dx vn vb, v = .ref p ∧ H p = some (.ins C dx (srF vn vb most fa)) ∧ (nearT nm).P vn H ∧ Dq H vb (.list ((cs bds).map .int)),
  fun e ⟨p, dx, vn, vb, h1, h2, h3, h4⟩ => ⟨p, dx, vn, vb, h1, e _ _ h2 (fun _ z => by cases z), (nearT nm).mono e h3, dq_ext e _ _ h4⟩⟩
theorem stab_near (nm : Near) : Stab (nearT nm) := fun v H H' k ⟨a, as, h1, h2, h3, h4⟩ => ⟨a, as, h1, k _ _ h2 (fun _ _ z => by cases z), h3, h4.imp fun b _ xs q => k _ _ q (fun _ _ z => by cases z)⟩
theorem stab_srch (C : Addr) (nm : Near) (bds : List Nat) (most : Int) (fa : Addr) : Stab (srchT C nm bds most fa) := fun v H H' k ⟨p, dx, vn, vb, h1, h2, h3, h4⟩ => ⟨p, dx, vn, vb, h1, k _ _ h2 (fun _ _ z => by cases z), stab_near nm _ _ _ k h3, stab_dat _ _ _ _ k h4⟩
section
variable {T : List NTab} {X : Cx} {Γ : Gam} {e o : Expr} {es : List Expr} {pos apos : Pos} {C fa : Addr} {nm : Near} {bds : List Nat} {most : Int}
theorem dx_srNear (hC : SrC X.K C) (ha : DX T X Γ e (srchT C nm bds most fa)) (hb : attributeBase e "near" X.env (eval e X.env) = eval e X.env := by rfl) : DX T X Γ (.Attribute e "near" pos) (nearT nm) := fun σ H s Q q =>
  we_of (pe_fld pe_we hb) (ha σ H s _ fun v H1 g1 ⟨p, dx, vn, vb, h1, h2, h3, h4⟩ => ⟨p, C, dx, _, vn, h1, h2, hC.cls, hC.n1, rfl, q vn H1 g1 h3⟩)
theorem dx_srBoards (hC : SrC X.K C) (ha : DX T X Γ e (srchT C nm bds most fa)) (hb : attributeBase e "boards" X.env (eval e X.env) = eval e X.env := by rfl) : DX T X Γ (.Attribute e "boards" pos) (dat (.list ((cs bds).map .int))) := fun σ H s Q q =>
  we_of (pe_fld pe_we hb) (ha σ H s _ fun v H1 g1 ⟨p, dx, vn, vb, h1, h2, h3, h4⟩ => ⟨p, C, dx, _, vb, h1, h2, hC.cls, hC.n2, rfl, q vb H1 g1 h4⟩)
theorem dx_srMost (hC : SrC X.K C) (ha : DX T X Γ e (srchT C nm bds most fa)) (hb : attributeBase e "most" X.env (eval e X.env) = eval e X.env := by rfl) : DX T X Γ (.Attribute e "most" pos) (dat (.int most)) := fun σ H s Q q =>
  we_of (pe_fld pe_we hb) (ha σ H s _ fun v H1 g1 ⟨p, dx, vn, vb, h1, h2, h3, h4⟩ => ⟨p, C, dx, _, .int most, h1, h2, hC.cls, hC.n3, rfl, q _ H1 g1 (.int _)⟩)
theorem dx_srFound (hC : SrC X.K C) (ha : DX T X Γ e (srchT C nm bds most fa)) (hb : attributeBase e "found" X.env (eval e X.env) = eval e X.env := by rfl) : DX T X Γ (.Attribute e "found" pos) (tyv (.ref fa)) := fun σ H s Q q =>
  we_of (pe_fld pe_we hb) (ha σ H s _ fun v H1 g1 ⟨p, dx, vn, vb, h1, h2, h3, h4⟩ => ⟨p, C, dx, _, .ref fa, h1, h2, hC.cls, hC.n4, rfl, q _ H1 g1 rfl⟩)
/-- o.m(..), a pure method -/
theorem dx_meth {ι : Type} {args : ι → List Ty} {res : ι → Ty} {k j : Nat} {m : Str} {t0 t : Ty} {ts : List Ty} {pl : Sem Bool} (c : C8.Met X.prog X.w X.K X.mg X.base k C m (spP T args res) []) (hr : Room j X.A) (i : ι) (ho : DX T X Γ o t0) (ha : DA T X Γ (e :: es) ts) (hargs : args i = t0 :: ts) (ht : res i = t)
    (hin : ∀ v H, t0.P v H → ∃ a dx fs, v = .ref a ∧ H a = some (.ins C dx fs) ∧ fs.lookup m = none) (hk : k ≤ j := by first | decide | omega)
    (hst : starEach (e :: es) X.env = (false, eval e X.env) :: starEach es X.env := by rfl) (hpl : (backTo pos (starEach es X.env)).any (·.1) = false := by rfl)
    (hev : eval (.Call (.Attribute o m apos) (e :: es) [] pos) X.env = (do
      let ov ← eval o X.env
      standAt apos.atName
      let (f, first) ← holding [ov] (getMethod ov m pl)
      callWith pos f first (backTo pos (starEach (e :: es) X.env)) (backToKw pos (keywordEach [] X.env))) := by rfl) : DX T X Γ (.Call (.Attribute o m apos) (e :: es) [] pos) t := fun σ H s Q q =>
  we_of (C8.pe_mt (pl := pl) c hr hk pe_we pa_wa hst hpl hev) (ho σ H s _ fun v H1 g1 p1 => by
    obtain ⟨a, dx, fs, h1, h2, h3⟩ := hin v H1 p1
    refine ⟨a, dx, fs, h1, h2, h3, ha σ H1 (s.ext g1.ext) _ fun vs H2 g2 p2 => ⟨i, ?_, fun w H' g p => q w H' ((g1.trans g2).trans g) (ht ▸ p)⟩⟩
    rw [List.append_nil, hargs]
    exact ⟨t0.mono g2.ext p1, p2⟩)
end
/-- a plain fact, under what is owned -/
theorem FC.under {T : List NTab} {Hin : Hp} {Γ : Gam} {O : OS} {σ : L2.St} {H : Hp} {a : Addr} {kvs : List (Key × V)} {p : Prop} (c : FC T Hin Γ (oK a kvs O) σ H) (h : p) : FC T Hin Γ (oK a kvs (oP p O)) σ H := by
  obtain ⟨Hb, L, e, f, ap, g, s, ⟨L', e2, o⟩, _⟩ := c
  exact ⟨Hb, L, e, f, ap, g, s, ⟨L', e2, h, o⟩, trivial⟩
/-! ### is_stuck -/
def keyAddN (ks : List Nat) (n : Nat) : List Nat := if n ∈ ks then ks else ks ++ [n]
def kT (ks : List Nat) : List (Key × V) := ks.map fun (n : Nat) => (Sum.inl (n : Int), .bl true)
theorem kT_len (ks : List Nat) : (kT ks).length = ks.length := List.length_map _
theorem kT_keys (ks : List Nat) : (kT ks).map (·.1) = ks.map fun (n : Nat) => (Sum.inl (n : Int) : Key) := by unfold kT; rw [List.map_map]; rfl
theorem putK_kT (ks : List Nat) (n : Nat) : putK (kT ks) (.inl (n : Int)) (.bl true) = kT (keyAddN ks n) := by
  unfold putK keyAddN
  by_cases hn : n ∈ ks
  · have e : ((kT ks).any fun kv => decide (kv.1 = (Sum.inl (n : Int) : Key))) = true := List.any_eq_true.mpr ⟨(Sum.inl (n : Int), .bl true), List.mem_map.mpr ⟨n, hn, rfl⟩, decide_eq_true rfl⟩
    rw [if_pos e, if_pos hn]
    unfold kT
    rw [List.map_map]
    refine List.map_congr_left fun m _ => ?_
    show (if (Sum.inl (m : Int) : Key) = Sum.inl (n : Int) then ((Sum.inl (m : Int) : Key), V.bl true) else (Sum.inl (m : Int), .bl true)) = _
    split <;> rfl
  · have e : ¬ ((kT ks).any fun kv => decide (kv.1 = (Sum.inl (n : Int) : Key))) = true := fun h => by
      obtain ⟨x, h1, h2⟩ := List.any_eq_true.mp h
      obtain ⟨m, hm, rfl⟩ := List.mem_map.mp h1
      have z : (Sum.inl ((m : Nat) : Int) : Key) = Sum.inl ((n : Nat) : Int) := of_decide_eq_true h2
      have z2 : ((m : Nat) : Int) = ((n : Nat) : Int) := Sum.inl.inj z
      have z3 : m = n := by omega
      exact hn (z3 ▸ hm)
    rw [if_neg e, if_neg hn]
    unfold kT
    rw [List.map_append]
    rfl
theorem keyAddN_len (ks : List Nat) (n : Nat) : (keyAddN ks n).length ≤ ks.length + 1 := by
  unfold keyAddN
  split
  · omega
  · rw [List.length_append, List.length_singleton]; exact Nat.le_refl _
def needStep (taken : List Nat) (ks : List Nat) (o : Nat) : List Nat := if o ∈ taken then ks else keyAddN ks o
def freeStep (taken out : List Nat) (ks : List Nat) (o : Nat) : List Nat := if o ∈ taken then ks else if o ∈ out then ks else keyAddN ks o
def nb (nm : Near) (b : Nat) : List Nat := (look nm b).getD []
def needL (nm : Near) (taken out : List Nat) : List Nat := out.foldl (fun ks b => (nb nm b).foldl (needStep taken) ks) []
def freeL (nm : Near) (taken out need : List Nat) : List Nat := need.foldl (fun ks b => (nb nm b).foldl (freeStep taken out) ks) []
def hitOut (nm : Near) (out : List Nat) : Bool := out.any fun b => (nb nm b).any fun o => decide (o ∈ out)
def stuck (nm : Near) (taken out : List Nat) : Bool := hitOut nm out || decide ((freeL nm taken out (needL nm taken out)).length < (needL nm taken out).length)
theorem needStep_len (taken ks : List Nat) (o : Nat) : (needStep taken ks o).length ≤ ks.length + 1 := by
  unfold needStep
  split
  · omega
  · exact keyAddN_len _ _
theorem freeStep_len (taken out ks : List Nat) (o : Nat) : (freeStep taken out ks o).length ≤ ks.length + 1 := by
  unfold freeStep
  split
  · omega
  · split
    · omega
    · exact keyAddN_len _ _
structure OkNear (nm : Near) : Prop where
  len : ∀ k l, look nm k = some l → l.length ≤ 30
  has : ∀ k l, look nm k = some l → ∀ o ∈ l, ∃ l', look nm o = some l'
theorem need_mem {nm : Near} {taken : List Nat} (N : OkNear nm) : ∀ {out ks : List Nat}, (∀ b ∈ ks, ∃ l, look nm b = some l) → ∀ b ∈ out.foldl (fun ks b => (nb nm b).foldl (needStep taken) ks) ks, ∃ l, look nm b = some l
  | [], ks, h => h
  | b :: out, ks, h => by
    rw [List.foldl_cons]
    refine need_mem N (fun c hc => ?_)
    have go : ∀ (l ks : List Nat), (∀ o ∈ l, ∃ l', look nm o = some l') → (∀ b ∈ ks, ∃ l, look nm b = some l) → ∀ c ∈ l.foldl (needStep taken) ks, ∃ l, look nm c = some l := by
      intro l
      induction l with
      | nil => intro ks _ h; exact h
      | cons o l ih =>
        intro ks h1 h2
        rw [List.foldl_cons]
        refine ih _ (fun o ho => h1 o (List.mem_cons_of_mem _ ho)) fun c hc => ?_
        unfold needStep keyAddN at hc
        split at hc
        · exact h2 c hc
        · split at hc
          · exact h2 c hc
          · rcases List.mem_append.mp hc with z | z
            · exact h2 c z
            · rw [List.mem_singleton.mp z]; exact h1 o List.mem_cons_self
    refine go (nb nm b) ks (fun o ho => ?_) h c hc
    unfold nb at ho
    cases e : look nm b with
    | none => rw [e] at ho; cases ho
    | some l => rw [e] at ho; exact N.has b l e o ho
section
variable {P : Program} {w : World} {K : PySem.W.Frag} {mg : Str → Option Value} {base : Heap} {T : List NTab}
theorem mem_cs {l : List Nat} {o : Nat} : decide (((o : Nat) : Int) ∈ cs l) = decide (o ∈ l) := by
  unfold cs
  rw [Bool.eq_iff_iff, decide_eq_true_iff, decide_eq_true_iff, List.mem_map]
  exact ⟨fun ⟨n, h1, h2⟩ => by have e : n = o := by omega
                               exact e ▸ h1, fun h => ⟨o, h, rfl⟩⟩
theorem listM (l : List Nat) : PyData.list ((cs l).map .int) = .list (l.map fun (n : Nat) => PyData.int (n : Int)) := by unfold cs; rw [List.map_map]; rfl
structure OkStuck (p : Near × List Nat × Int × List Nat × List Nat) : Prop where
  near : OkNear p.1
  out : ∀ b ∈ p.2.2.2.2, ∃ l, look p.1 b = some l
  len : p.2.2.2.2.length ≤ 30
/-- is_stuck -/
theorem met_stuck {C fs fa : Addr} {fds : FuncData} (G : Md K mg) (hC : SrC K C) (me : Meth K C "is_stuck" fs) (F : C8.Fun K "is_stuck" "Search.is_stuck" (inClass (top 55) 1) fs fds) (bi : Binds K fds ["self", "taken", "out"] []) :
    C8.Met P w K mg base 1 C "is_stuck" (spP T (fun (i : {p : Near × List Nat × Int × List Nat × List Nat // OkStuck p}) => [srchT C i.1.1 i.1.2.1 i.1.2.2.1 fa, dat (.list ((cs i.1.2.2.2.1).map .int)), dat (.list ((cs i.1.2.2.2.2).map .int))]) fun i => dat (.bool (stuck i.1.1 i.1.2.2.2.1 i.1.2.2.2.2))) [] := by
  have S := C8.fnScope_by (N := ["self", "taken", "out", "needed", "free", "board", "other"]) (P := ["self", "taken", "out"]) (sc := C8.fnScope (inClass (top 55) 1)) (by decide +kernel)
  refine C8.met0 hC.cls me F bi S (fun vs H Q E h => ?_) fun cdv A outer s H vs Q E hr h => ⟨_, pss_wss, ?_⟩
  · obtain ⟨i, h1, _⟩ := h
    rw [tyAll_len h1]
    rfl
  obtain ⟨⟨⟨nm, bds, most, taken, out⟩, ok⟩, h1, q⟩ := h
  have nd := S.nd
  have hu : (cxOf CX0 P w K mg base ["self", "taken", "out", "needed", "free", "board", "other"] "Search.is_stuck" (C8.fnScope (inClass (top 55) 1)) fs cdv A outer s H E).nox.A.units + 1 < cLine := hu_of hr
  have c := fc_start (T := T) (sat0 (N := ["self", "taken", "out", "needed", "free", "board", "other"]) h1)
  have hol : out.length ≤ 30 := ok.len
  have hout : ∀ b ∈ out, ∃ l, look nm b = some l := ok.out
  have hnear : OkNear nm := ok.near
  refine fs_ownK 3 nd c fun an σ H1 c => ?_
  refine fs_ownK 4 nd c fun af σ H1 c => ?_
  refine fs_forM (ι := Unit) (xs := out) (js := [5]) (fun n _ => [some (srchT C nm bds most fa), some (dat (.list ((cs taken).map .int))), some (dat (.list ((cs out).map .int))), some (tyv (.ref an)), some (tyv (.ref af)), none, none]) (fun n _ => oP (((out.take n).foldl (fun ks b => (nb nm b).foldl (needStep taken) ks) []).length ≤ n * 30 ∧ ∀ b ∈ out.take n, ∀ o ∈ nb nm b, o ∉ out) (oK an (kT ((out.take n).foldl (fun ks b => (nb nm b).foldl (needStep taken) ks) [])) (oK af [] oN))) (fun n x _ => [some (srchT C nm bds most fa), some (dat (.list ((cs taken).map .int))), some (dat (.list ((cs out).map .int))), some (tyv (.ref an)), some (tyv (.ref af)), some (dat (.int (x : Nat))), none]) () (FC.put c.swapK ⟨by rw [List.take_zero]; exact Nat.zero_le _, fun b h => (by rw [List.take_zero] at h; cases h)⟩) (di_listM (r := fun (n : Nat) => PyData.int (n : Int)) (DX.dat (dx_var 2) (listM out))) rfl (fun n x i e => dg_name 5 nd) (fun n x i H0 e g σ' H' c => ?_) (fun i σ' H' c => ?_)
  · have hx : x ∈ out := List.mem_of_getElem? e
    have hlt : n < out.length := (List.getElem?_eq_some_iff.mp e).1
    obtain ⟨l, hl⟩ := hout x hx
    have hnb : nb nm x = l := by unfold nb; rw [hl]; rfl
    have hll := hnear.len x l hl
    obtain ⟨⟨hp1, hp2⟩, c⟩ := c.get
    refine fs_forM (ι := Unit) (xs := l) (js := [6]) (fun m _ => [some (srchT C nm bds most fa), some (dat (.list ((cs taken).map .int))), some (dat (.list ((cs out).map .int))), some (tyv (.ref an)), some (tyv (.ref af)), some (dat (.int (x : Nat))), none]) (fun m _ => oP (((l.take m).foldl (needStep taken) ((out.take n).foldl (fun ks b => (nb nm b).foldl (needStep taken) ks) [])).length ≤ n * 30 + m ∧ ∀ o ∈ l.take m, o ∉ out) (oK an (kT ((l.take m).foldl (needStep taken) ((out.take n).foldl (fun ks b => (nb nm b).foldl (needStep taken) ks) []))) (oK af [] oN))) (fun m y _ => [some (srchT C nm bds most fa), some (dat (.list ((cs taken).map .int))), some (dat (.list ((cs out).map .int))), some (tyv (.ref an)), some (tyv (.ref af)), some (dat (.int (x : Nat))), some (dat (.int (y : Nat)))]) () (FC.put c ⟨by rw [List.take_zero]; exact hp1, fun b h => (by rw [List.take_zero] at h; cases h)⟩) (di_listM (r := fun (n : Nat) => PyData.int (n : Int)) (DX.dat (dx_nearIx hu (dx_srNear hC (dx_var 0)) (dx_var 5) hl) (listM l))) rfl (fun n x i e => dg_name 6 nd) (fun m y i H0 e2 g2 σ' H' c => ?_) (fun i σ' H' c => ?_)
    · obtain ⟨⟨hp3, hp4⟩, c⟩ := c.get
      have hmlt : m < l.length := (List.getElem?_eq_some_iff.mp e2).1
      have hy : y ∈ l := List.mem_of_getElem? e2
      have et : ∀ ks : List Nat, (l.take (m + 1)).foldl (needStep taken) ks = needStep taken ((l.take m).foldl (needStep taken) ks) y := fun ks => by
        rw [List.take_succ, e2, List.foldl_append]
        rfl
      refine fs_if1 (k := decide (y ∈ out)) c (by exact DT.to (DC.dt (dc_inIL (by rfl) (dx_var 6) (dx_var 2))) mem_cs) (fun hk H' c => ?_) fun hk H' c => ?_
      · refine fs_ret c (by exact dx_bl) fun v H2 c2 => ?_
        obtain ⟨Hb, L, rfl, f2, ap2, g3, s3, o3, p3⟩ := c2
        have hst : stuck nm taken out = true := by
          unfold stuck
          rw [Bool.or_eq_true]
          exact .inl (List.any_eq_true.mpr ⟨x, hx, List.any_eq_true.mpr ⟨y, by rw [hnb]; exact hy, hk⟩⟩)
        have q' : ∀ v H', Ge T H H' → (dat (.bool true)).P v H' → Q v H' := by
          have z : ∀ v H', Ge T H H' → (dat (.bool (stuck nm taken out))).P v H' → Q v H' := q
          rw [hst] at z
          exact z
        exact q' v _ (((g.trans g2).trans g3).trans (ge_addAll f2 ap2)) ((dat (.bool true)).mono (ge_addAll (T := T) f2 ap2).ext p3)
      · have hyo : y ∉ out := of_decide_eq_false hk
        have hfw : ∀ o ∈ l.take (m + 1), o ∉ out := fun o ho => by
          rw [List.take_succ, e2] at ho
          rcases List.mem_append.mp ho with z | z
          · exact hp4 o z
          · rw [Option.toList_some, List.mem_singleton] at z
            rw [z]; exact hyo
        refine fs_if1 (k := !decide (y ∈ taken)) c (by exact DT.to (DC.dt (dc_notInIL (by rfl) (dx_var 6) (dx_var 1))) (congrArg (!·) mem_cs)) (fun hk2 H' c => ?_) fun hk2 H' c => ?_
        · have hyt : y ∉ taken := of_decide_eq_false (by simpa using hk2)
          refine fs_dputV 3 (y := .bl true) hu c rfl (by rw [kT_len]; omega) (by exact (dx_var 6)) (by exact DX.to dx_bl (fun v H h => dat_bl h)) fun H' c => fs_nil (fs_nil ⟨(), ?_⟩)
          rw [putK_kT] at c
          have ek := et ((out.take n).foldl (fun ks b => (nb nm b).foldl (needStep taken) ks) [])
          rw [needStep, if_neg hyt] at ek
          have z := keyAddN_len ((l.take m).foldl (needStep taken) ((out.take n).foldl (fun ks b => (nb nm b).foldl (needStep taken) ks) [])) y
          rw [ek]
          exact FC.put (c.sub (by fail "sub")) ⟨by omega, hfw⟩
        · have hyt : y ∈ taken := by
            have z : (!decide (y ∈ taken)) = false := hk2
            rw [Bool.not_eq_false'] at z
            exact of_decide_eq_true z
          have ek := et ((out.take n).foldl (fun ks b => (nb nm b).foldl (needStep taken) ks) [])
          rw [needStep, if_pos hyt] at ek
          refine fs_nil ⟨(), ?_⟩
          rw [ek]
          exact FC.put (c.sub (by fail "sub")) ⟨by omega, hfw⟩
    · obtain ⟨⟨hp3, hp4⟩, c⟩ := c.get
      rw [List.take_of_length_le (Nat.le_refl _)] at hp3 hp4 c
      have ek : (out.take (n + 1)).foldl (fun ks b => (nb nm b).foldl (needStep taken) ks) [] = l.foldl (needStep taken) ((out.take n).foldl (fun ks b => (nb nm b).foldl (needStep taken) ks) []) := by
        rw [List.take_succ, e, List.foldl_append]
        show (nb nm x).foldl _ _ = _
        rw [hnb]
      refine fs_nil ⟨(), ?_⟩
      rw [ek]
      refine FC.put (c.sub (by fail "sub")) ⟨by omega, fun b hb o ho => ?_⟩
      rw [List.take_succ, e] at hb
      rcases List.mem_append.mp hb with z | z
      · exact hp2 b z o ho
      · rw [Option.toList_some, List.mem_singleton] at z
        rw [z, hnb] at ho
        exact hp4 o ho
  · obtain ⟨⟨hp1, hp2⟩, c⟩ := c.get
    rw [List.take_of_length_le (Nat.le_refl _)] at hp1 hp2 c
    have hno : hitOut nm out = false := by
      unfold hitOut
      rw [List.any_eq_false]
      intro b hb
      rw [Bool.not_eq_true, List.any_eq_false]
      intro o ho
      rw [decide_eq_true_iff]
      exact hp2 b hb o ho
    have hneed : ∀ b ∈ needL nm taken out, ∃ l, look nm b = some l := need_mem hnear (fun b h => (nomatch h))
    have hnl : (needL nm taken out).length ≤ 900 := by
      have z : (needL nm taken out).length ≤ out.length * 30 := hp1
      omega
    refine fs_forKeys (ι := Unit) (ks := needL nm taken out) (js := [5]) 3 (fun n _ => [some (srchT C nm bds most fa), some (dat (.list ((cs taken).map .int))), some (dat (.list ((cs out).map .int))), some (tyv (.ref an)), some (tyv (.ref af)), none, none]) (fun n _ => oP ((((needL nm taken out).take n).foldl (fun ks b => (nb nm b).foldl (freeStep taken out) ks) []).length ≤ n * 30) (oK af (kT (((needL nm taken out).take n).foldl (fun ks b => (nb nm b).foldl (freeStep taken out) ks) [])) oN)) (fun n x _ => [some (srchT C nm bds most fa), some (dat (.list ((cs taken).map .int))), some (dat (.list ((cs out).map .int))), some (tyv (.ref an)), some (tyv (.ref af)), some (dat (.int (x : Nat))), none]) () (kT_keys _) (FC.under (p := (([] : List Nat)).length ≤ 0 * 30) c (Nat.le_refl _)) rfl rfl (fun n x i e => dg_name 5 nd) (fun n x i H0 e g σ' H' c => ?_) (fun i => stabG_cons (stab_srch _ _ _ _ _) (stabG_cons (stab_dat _) (stabG_cons (stab_dat _) (stabG_cons (stab_tyv _) (stabG_cons (stab_tyv _) (stabG_none (stabG_none stabG_nil))))))) (fun i H H' L h => h) (fun i σ' H' c => ?_) (fun i => rfl) (pv _)
    · have hx : x ∈ needL nm taken out := List.mem_of_getElem? e
      have hlt : n < (needL nm taken out).length := (List.getElem?_eq_some_iff.mp e).1
      obtain ⟨l, hl⟩ := hneed x hx
      have hnb : nb nm x = l := by unfold nb; rw [hl]; rfl
      have hll := hnear.len x l hl
      obtain ⟨hp3, c⟩ := c.get
      refine fs_forM (ι := Unit) (xs := l) (js := [6]) (fun m _ => [some (srchT C nm bds most fa), some (dat (.list ((cs taken).map .int))), some (dat (.list ((cs out).map .int))), some (tyv (.ref an)), some (tyv (.ref af)), some (dat (.int (x : Nat))), none]) (fun m _ => oP (((l.take m).foldl (freeStep taken out) (((needL nm taken out).take n).foldl (fun ks b => (nb nm b).foldl (freeStep taken out) ks) [])).length ≤ n * 30 + m) (oK af (kT ((l.take m).foldl (freeStep taken out) (((needL nm taken out).take n).foldl (fun ks b => (nb nm b).foldl (freeStep taken out) ks) []))) oN)) (fun m y _ => [some (srchT C nm bds most fa), some (dat (.list ((cs taken).map .int))), some (dat (.list ((cs out).map .int))), some (tyv (.ref an)), some (tyv (.ref af)), some (dat (.int (x : Nat))), some (dat (.int (y : Nat)))]) () (FC.put c (by rw [List.take_zero]; exact hp3)) (di_listM (r := fun (n : Nat) => PyData.int (n : Int)) (DX.dat (dx_nearIx hu (dx_srNear hC (dx_var 0)) (dx_var 5) hl) (listM l))) rfl (fun n x i e => dg_name 6 nd) (fun m y i H0 e2 g2 σ' H' c => ?_) (fun i σ' H' c => ?_)
      · obtain ⟨hp4, c⟩ := c.get
        have hmlt : m < l.length := (List.getElem?_eq_some_iff.mp e2).1
        have et : ∀ ks : List Nat, (l.take (m + 1)).foldl (freeStep taken out) ks = freeStep taken out ((l.take m).foldl (freeStep taken out) ks) y := fun ks => by
          rw [List.take_succ, e2, List.foldl_append]
          rfl
        have ek := et (((needL nm taken out).take n).foldl (fun ks b => (nb nm b).foldl (freeStep taken out) ks) [])
        have ez := freeStep_len taken out ((l.take m).foldl (freeStep taken out) (((needL nm taken out).take n).foldl (fun ks b => (nb nm b).foldl (freeStep taken out) ks) [])) y
        refine fs_if1 (k := !decide (y ∈ taken) && !decide (y ∈ out)) c (by exact DT.to (DW.dt (dw_and (DC.dt (dc_notInIL (by rfl) (dx_var 6) (dx_var 1))) fun _ => dw_one (DC.dt (dc_notInIL (by rfl) (dx_var 6) (dx_var 2))))) (by rw [mem_cs, mem_cs])) (fun hk2 H' c => ?_) fun hk2 H' c => ?_
        · rw [Bool.and_eq_true, Bool.not_eq_true', Bool.not_eq_true', decide_eq_false_iff_not, decide_eq_false_iff_not] at hk2
          refine fs_dputV 4 (y := .bl true) hu c rfl (by rw [kT_len]; omega) (by exact (dx_var 6)) (by exact DX.to dx_bl (fun v H h => dat_bl h)) fun H' c => fs_nil (fs_nil ⟨(), ?_⟩)
          rw [putK_kT] at c
          have ek2 := ek
          rw [freeStep, if_neg hk2.1, if_neg hk2.2] at ek2
          rw [ek2]
          exact FC.put (c.sub (by fail "sub")) (by rw [← ek2, ek]; omega)
        · have ek2 := ek
          have efs : ∀ ks, freeStep taken out ks y = ks := fun ks => by
            unfold freeStep
            by_cases h1 : y ∈ taken
            · rw [if_pos h1]
            · by_cases h2 : y ∈ out
              · rw [if_neg h1, if_pos h2]
              · rw [decide_eq_false h1, decide_eq_false h2] at hk2
                cases hk2
          rw [efs] at ek2
          refine fs_nil ⟨(), ?_⟩
          rw [ek2]
          exact FC.put (c.sub (by fail "sub")) (by omega)
      · obtain ⟨hp4, c⟩ := c.get
        rw [List.take_of_length_le (Nat.le_refl _)] at hp4 c
        have ek : ((needL nm taken out).take (n + 1)).foldl (fun ks b => (nb nm b).foldl (freeStep taken out) ks) [] = l.foldl (freeStep taken out) (((needL nm taken out).take n).foldl (fun ks b => (nb nm b).foldl (freeStep taken out) ks) []) := by
          rw [List.take_succ, e, List.foldl_append]
          show (nb nm x).foldl _ _ = _
          rw [hnb]
        refine fs_nil ⟨(), ?_⟩
        rw [ek]
        exact FC.put (c.sub (by fail "sub")) (by omega)
    · obtain ⟨hp4, c⟩ := c.get
      rw [List.take_of_length_le (Nat.le_refl _)] at c
      have z := c.relK 4 rfl
      refine fs_retE z (by exact DX.dat (DC.dx (dc_gt (dx_lenD G.b_len (dx_var 3)) (dx_lenD G.b_len (dx_var 4)))) (congrArg PyData.bool (by
        rw [kT_len, kT_len]
        show decide ((((freeL nm taken out (needL nm taken out)).length : Nat) : Int) < (((needL nm taken out).length : Nat) : Int)) = stuck nm taken out
        unfold stuck
        rw [hno, Bool.false_or, Bool.eq_iff_iff, decide_eq_true_iff, decide_eq_true_iff]
        omega))) q

end
end G
set_option Elab.async false
set_option linter.all false
set_option maxRecDepth 100000
set_option maxHeartbeats 1000000
namespace G

/-! ### plain lists -/
theorem nodup_len_le {α : Type} [DecidableEq α] : ∀ {l m : List α}, l.Nodup → (∀ x ∈ l, x ∈ m) → l.length ≤ m.length
  | [], _, _, _ => Nat.zero_le _
  | x :: l, m, h, k => by
    obtain ⟨h1, h2⟩ := List.nodup_cons.mp h
    have hx := k x List.mem_cons_self
    have q := nodup_len_le (l := l) (m := m.erase x) h2 fun y hy => by
      have ny : y ≠ x := fun e => h1 (e ▸ hy)
      exact (List.mem_erase_of_ne ny).mpr (k y (List.mem_cons_of_mem _ hy))
    rw [List.length_erase_of_mem hx] at q
    have z := List.length_pos_of_mem hx
    rw [List.length_cons]
    omega
/-- of a length, and inside: the same members -/
theorem nodup_sub_eq {α : Type} [DecidableEq α] {l m : List α} (h : l.Nodup) (k : ∀ x ∈ l, x ∈ m) (hl : m.length ≤ l.length) : ∀ x ∈ m, x ∈ l := fun x hx => by
  by_cases hm : x ∈ l
  · exact hm
  · have q := nodup_len_le (l := x :: l) (m := m) (List.nodup_cons.mpr ⟨hm, h⟩) fun y hy => by
      rcases List.mem_cons.mp hy with e | hy
      · rw [e]; exact hx
      · exact k y hy
    rw [List.length_cons] at q
    omega
/-! ### pairings -/
theorem flatP_cons (p : Nat × Nat) (M : List (Nat × Nat)) : flatP (p :: M) = p.1 :: p.2 :: flatP M := by
  unfold flatP
  rw [List.flatMap_cons]
  rfl
theorem flatP_app (M N : List (Nat × Nat)) : flatP (M ++ N) = flatP M ++ flatP N := by
  unfold flatP
  rw [List.flatMap_append]
theorem mem_flatP {M : List (Nat × Nat)} {x : Nat} : x ∈ flatP M ↔ ∃ p ∈ M, x = p.1 ∨ x = p.2 := by
  unfold flatP
  rw [List.mem_flatMap]
  constructor
  · rintro ⟨p, h1, h2⟩
    refine ⟨p, h1, ?_⟩
    simpa using h2
  · rintro ⟨p, h1, h2⟩
    exact ⟨p, h1, by simpa using h2⟩
theorem pair_uniq : ∀ {M : List (Nat × Nat)}, (flatP M).Nodup → ∀ {p q : Nat × Nat} {x : Nat}, p ∈ M → q ∈ M → (x = p.1 ∨ x = p.2) → (x = q.1 ∨ x = q.2) → p = q
  | [], _, p, q, x, hp, _, _, _ => nomatch hp
  | r :: M, h, p, q, x, hp, hq, h1, h2 => by
    rw [flatP_cons, List.nodup_cons, List.nodup_cons] at h
    obtain ⟨a, b, c⟩ := h
    have far : ∀ s ∈ M, (x = s.1 ∨ x = s.2) → ¬ (x = r.1 ∨ x = r.2) := fun s hs hx hr => by
      have hm : x ∈ flatP M := mem_flatP.mpr ⟨s, hs, hx⟩
      rcases hr with e | e
      · exact a (List.mem_cons_of_mem _ (e ▸ hm))
      · exact b (e ▸ hm)
    rcases List.mem_cons.mp hp with e1 | hp
    · rcases List.mem_cons.mp hq with e2 | hq
      · rw [e1, e2]
      · exact absurd (e1 ▸ h1) (far q hq h2)
    · rcases List.mem_cons.mp hq with e2 | hq
      · exact absurd (e2 ▸ h2) (far p hp h1)
      · exact pair_uniq c hp hq h1 h2
theorem flatP_nodup_of {M : List (Nat × Nat)} (h : (flatP M).Nodup) : M.Nodup := by
  induction M with
  | nil => exact List.nodup_nil
  | cons r M ih =>
    rw [flatP_cons, List.nodup_cons, List.nodup_cons] at h
    refine List.nodup_cons.mpr ⟨fun hr => ?_, ih h.2.2⟩
    exact h.1 (List.mem_cons_of_mem _ (mem_flatP.mpr ⟨r, hr, .inl rfl⟩))
/-- the other one of a pair -/
def mate (M : List (Nat × Nat)) (x : Nat) : Nat := match M.find? (fun p => decide (x = p.1) || decide (x = p.2)) with
  | some p => if x = p.1 then p.2 else p.1
  | none => 0
theorem mate_spec {M : List (Nat × Nat)} {x : Nat} (h : x ∈ flatP M) : ∃ p ∈ M, (x = p.1 ∧ mate M x = p.2) ∨ (x = p.2 ∧ mate M x = p.1) := by
  obtain ⟨p, hp, hx⟩ := mem_flatP.mp h
  unfold mate
  cases e : M.find? (fun p => decide (x = p.1) || decide (x = p.2)) with
  | none =>
    have q := List.find?_eq_none.mp e p hp
    simp at q
    rcases hx with z | z
    · exact absurd z q.1
    · exact absurd z q.2
  | some r =>
    have hr := List.mem_of_find?_eq_some e
    have q := List.find?_some e
    rw [Bool.or_eq_true, decide_eq_true_iff, decide_eq_true_iff] at q
    refine ⟨r, hr, ?_⟩
    by_cases z : x = r.1
    · exact .inl ⟨z, if_pos z⟩
    · exact .inr ⟨q.resolve_left z, if_neg z⟩
/-! ### what is_stuck counts -/
theorem freeStep_eq (taken out ks : List Nat) (o : Nat) : freeStep taken out ks o = needStep (taken ++ out) ks o := by
  unfold freeStep needStep
  by_cases h1 : o ∈ taken
  · rw [if_pos h1, if_pos (List.mem_append_left _ h1)]
  · rw [if_neg h1]
    by_cases h2 : o ∈ out
    · rw [if_pos h2, if_pos (List.mem_append_right _ h2)]
    · rw [if_neg h2, if_neg (fun z => (List.mem_append.mp z).elim h1 h2)]
theorem mem_keyAddN {ks : List Nat} {n x : Nat} : x ∈ keyAddN ks n ↔ x ∈ ks ∨ x = n := by
  unfold keyAddN
  split
  · rename_i h
    exact ⟨.inl, fun z => z.elim id fun e => e ▸ h⟩
  · rw [List.mem_append, List.mem_singleton]
theorem nodup_keyAddN {ks : List Nat} {n : Nat} (h : ks.Nodup) : (keyAddN ks n).Nodup := by
  unfold keyAddN
  split
  · exact h
  · rename_i hn
    refine List.nodup_append.mpr ⟨h, by simp, fun a ha b hb e => ?_⟩
    rw [List.mem_singleton.mp hb] at e
    exact hn (e ▸ ha)
theorem mem_needFold (t : List Nat) : ∀ (l ks : List Nat) (x : Nat), x ∈ l.foldl (needStep t) ks ↔ x ∈ ks ∨ (x ∈ l ∧ x ∉ t)
  | [], ks, x => by simp
  | o :: l, ks, x => by
    rw [List.foldl_cons, mem_needFold t l]
    unfold needStep
    by_cases h : o ∈ t
    · rw [if_pos h]
      constructor
      · rintro (z | ⟨z1, z2⟩)
        · exact .inl z
        · exact .inr ⟨List.mem_cons_of_mem _ z1, z2⟩
      · rintro (z | ⟨z1, z2⟩)
        · exact .inl z
        · rcases List.mem_cons.mp z1 with e | z1
          · exact absurd (e ▸ h) z2
          · exact .inr ⟨z1, z2⟩
    · rw [if_neg h, mem_keyAddN]
      constructor
      · rintro ((z | z) | ⟨z1, z2⟩)
        · exact .inl z
        · exact .inr ⟨z ▸ List.mem_cons_self, z ▸ h⟩
        · exact .inr ⟨List.mem_cons_of_mem _ z1, z2⟩
      · rintro (z | ⟨z1, z2⟩)
        · exact .inl (.inl z)
        · rcases List.mem_cons.mp z1 with e | z1
          · exact .inl (.inr e)
          · exact .inr ⟨z1, z2⟩
theorem nodup_needFold (t : List Nat) : ∀ (l ks : List Nat), ks.Nodup → (l.foldl (needStep t) ks).Nodup
  | [], ks, h => h
  | o :: l, ks, h => by
    rw [List.foldl_cons]
    refine nodup_needFold t l _ ?_
    unfold needStep
    split
    · exact h
    · exact nodup_keyAddN h
theorem mem_dbl (nm : Near) (t : List Nat) : ∀ (bs ks : List Nat) (x : Nat), x ∈ bs.foldl (fun ks b => (nb nm b).foldl (needStep t) ks) ks ↔ x ∈ ks ∨ (x ∉ t ∧ ∃ b ∈ bs, x ∈ nb nm b)
  | [], ks, x => by simp
  | b :: bs, ks, x => by
    rw [List.foldl_cons, mem_dbl nm t bs, mem_needFold]
    constructor
    · rintro ((z | ⟨z1, z2⟩) | ⟨z1, c, z2, z3⟩)
      · exact .inl z
      · exact .inr ⟨z2, b, List.mem_cons_self, z1⟩
      · exact .inr ⟨z1, c, List.mem_cons_of_mem _ z2, z3⟩
    · rintro (z | ⟨z1, c, z2, z3⟩)
      · exact .inl (.inl z)
      · rcases List.mem_cons.mp z2 with e | z2
        · exact .inl (.inr ⟨e ▸ z3, z1⟩)
        · exact .inr ⟨z1, c, z2, z3⟩
theorem nodup_dbl (nm : Near) (t : List Nat) : ∀ (bs ks : List Nat), ks.Nodup → (bs.foldl (fun ks b => (nb nm b).foldl (needStep t) ks) ks).Nodup
  | [], ks, h => h
  | b :: bs, ks, h => nodup_dbl nm t bs _ (nodup_needFold t _ _ h)
theorem mem_needL {nm : Near} {taken out : List Nat} {x : Nat} : x ∈ needL nm taken out ↔ x ∉ taken ∧ ∃ b ∈ out, x ∈ nb nm b := by
  unfold needL
  rw [mem_dbl]
  simp
theorem nodup_needL (nm : Near) (taken out : List Nat) : (needL nm taken out).Nodup := nodup_dbl nm taken out [] List.nodup_nil
theorem freeL_eq (nm : Near) (taken out need : List Nat) : freeL nm taken out need = need.foldl (fun ks b => (nb nm b).foldl (needStep (taken ++ out)) ks) [] := by
  unfold freeL
  have e : freeStep taken out = needStep (taken ++ out) := by
    funext ks o
    exact freeStep_eq taken out ks o
  rw [e]
theorem mem_freeL {nm : Near} {taken out need : List Nat} {x : Nat} : x ∈ freeL nm taken out need ↔ (x ∉ taken ∧ x ∉ out) ∧ ∃ b ∈ need, x ∈ nb nm b := by
  rw [freeL_eq, mem_dbl]
  simp
/-! ### the search -/
def goL (nm : Near) : List Nat → List Nat → List Nat → List (Nat × Nat) → List (List (Nat × Nat))
  | [], _, _, ch => [ch]
  | b :: bs, taken, out, ch => if b ∈ taken then goL nm bs taken out ch
    else ((nb nm b).filter fun o => decide (b < o) && !decide (o ∈ taken) && !decide (o ∈ out)).flatMap (fun o => goL nm bs (taken ++ [b, o]) out (ch ++ [(b, o)]))
      ++ (if stuck nm taken (out ++ [b]) = true then [] else goL nm bs taken (out ++ [b]) ch)
structure Gr (nm : Near) (bds : List Nat) : Prop where
  symm : ∀ a b, b ∈ nb nm a → a ∈ nb nm b
  mem : ∀ a b, b ∈ nb nm a → a ∈ bds
  asc : bds.Pairwise (· < ·)
structure IsM (nm : Near) (M : List (Nat × Nat)) : Prop where
  lt : ∀ p ∈ M, p.1 < p.2
  adj : ∀ p ∈ M, p.2 ∈ nb nm p.1
  nd : (flatP M).Nodup
def MaxM (nm : Near) (M : List (Nat × Nat)) : Prop := ∀ a b, b ∈ nb nm a → a ∈ flatP M ∨ b ∈ flatP M
theorem not_stuck {nm : Near} {bds taken out : List Nat} {M ch : List (Nat × Nat)} (g : Gr nm bds) (hM : IsM nm M) (mx : MaxM nm M) (hc : ∀ p ∈ ch, p ∈ M) (ht : taken = flatP ch) (ho : ∀ b ∈ out, b ∉ flatP M) : stuck nm taken out = false := by
  unfold stuck
  rw [Bool.or_eq_false_iff]
  refine ⟨?_, decide_eq_false ?_⟩
  · unfold hitOut
    rw [List.any_eq_false]
    intro b hb
    rw [Bool.not_eq_true, List.any_eq_false]
    intro o hbo
    rw [decide_eq_true_iff]
    intro hoo
    rcases mx b o hbo with z | z
    · exact ho b hb z
    · exact ho o hoo z
  · have key : ∀ n ∈ needL nm taken out, ∃ p ∈ M, ((n = p.1 ∧ mate M n = p.2) ∨ (n = p.2 ∧ mate M n = p.1)) ∧ mate M n ∈ freeL nm taken out (needL nm taken out) := fun n hn => by
      obtain ⟨h1, b, h2, h3⟩ := mem_needL.mp hn
      have hnM : n ∈ flatP M := (mx b n h3).resolve_left (ho b h2)
      obtain ⟨p, hp, hm⟩ := mate_spec hnM
      have hin : mate M n ∈ flatP M := by
        rcases hm with ⟨_, e⟩ | ⟨_, e⟩
        · rw [e]; exact mem_flatP.mpr ⟨p, hp, .inr rfl⟩
        · rw [e]; exact mem_flatP.mpr ⟨p, hp, .inl rfl⟩
      have hmp : mate M n = p.1 ∨ mate M n = p.2 := hm.elim (fun z => .inr z.2) fun z => .inl z.2
      have hnp : n = p.1 ∨ n = p.2 := hm.elim (fun z => .inl z.1) fun z => .inr z.1
      refine ⟨p, hp, hm, mem_freeL.mpr ⟨⟨fun z => ?_, fun z => ho _ z hin⟩, n, hn, ?_⟩⟩
      · rw [ht] at z
        obtain ⟨q, hq, hx⟩ := mem_flatP.mp z
        have e := pair_uniq hM.nd hp (hc q hq) hmp hx
        refine h1 ?_
        rw [ht]
        exact mem_flatP.mpr ⟨q, hq, e ▸ hnp⟩
      · have a := hM.adj p hp
        rcases hm with ⟨e1, e2⟩ | ⟨e1, e2⟩
        · rw [e1]
          rw [e1] at e2
          rw [e2]
          exact a
        · rw [e1]
          rw [e1] at e2
          rw [e2]
          exact g.symm _ _ a
    have inj : ∀ l : List Nat, (∀ n ∈ l, n ∈ needL nm taken out) → l.Nodup → (l.map (mate M)).Nodup := by
      intro l
      induction l with
      | nil => intro _ _; exact List.nodup_nil
      | cons n l ih =>
        intro h1 h2
        obtain ⟨h3, h4⟩ := List.nodup_cons.mp h2
        rw [List.map_cons]
        refine List.nodup_cons.mpr ⟨fun z => ?_, ih (fun m hm => h1 m (List.mem_cons_of_mem _ hm)) h4⟩
        obtain ⟨m, hm, e⟩ := List.mem_map.mp z
        obtain ⟨p, hp, q1, _⟩ := key n (h1 n List.mem_cons_self)
        obtain ⟨p', hp', q2, _⟩ := key m (h1 m (List.mem_cons_of_mem _ hm))
        have e1 : mate M n = p.1 ∨ mate M n = p.2 := q1.elim (fun z => .inr z.2) fun z => .inl z.2
        have e2 : mate M n = p'.1 ∨ mate M n = p'.2 := by rw [← e]; exact q2.elim (fun z => .inr z.2) fun z => .inl z.2
        have e3 := pair_uniq hM.nd hp hp' e1 e2
        subst e3
        have hlt := hM.lt p hp
        have hnm : n = m := by
          rcases q1 with ⟨a1, a2⟩ | ⟨a1, a2⟩ <;> rcases q2 with ⟨b1, b2⟩ | ⟨b1, b2⟩ <;> omega
        exact h3 (hnm ▸ hm)
    have q := nodup_len_le (inj _ (fun _ h => h) (nodup_needL nm taken out)) fun x hx => by
      obtain ⟨n, hn, e⟩ := List.mem_map.mp hx
      obtain ⟨_, _, _, z⟩ := key n hn
      exact e ▸ z
    rw [List.length_map] at q
    omega
/-- each greatest pairing is found -/
theorem goL_has {nm : Near} {bds : List Nat} {M : List (Nat × Nat)} (g : Gr nm bds) (hM : IsM nm M) (mx : MaxM nm M) : ∀ (bs pr taken out : List Nat) (ch : List (Nat × Nat)), pr ++ bs = bds → (∀ p ∈ ch, p ∈ M) → taken = flatP ch → (∀ b ∈ out, b ∉ flatP M) → (∀ p ∈ M, p.1 ∈ pr → p ∈ ch) →
    ∃ R ∈ goL nm bs taken out ch, ∀ p ∈ M, p ∈ R
  | [], pr, taken, out, ch, hpr, hc, ht, ho, hp => by
    refine ⟨ch, by rw [goL]; exact List.mem_singleton.mpr rfl, fun p hpM => hp p hpM ?_⟩
    rw [List.append_nil] at hpr
    rw [hpr]
    exact g.mem _ _ (hM.adj p hpM)
  | b :: bs, pr, taken, out, ch, hpr, hc, ht, ho, hp => by
    have hpr' : (pr ++ [b]) ++ bs = bds := by rw [List.append_assoc]; exact hpr
    have asc := g.asc
    rw [← hpr, List.pairwise_append] at asc
    obtain ⟨_, asc2, asc3⟩ := asc
    rw [goL]
    by_cases hb : b ∈ taken
    · rw [if_pos hb]
      refine goL_has g hM mx bs (pr ++ [b]) taken out ch hpr' hc ht ho fun p hpM hp1 => ?_
      rcases List.mem_append.mp hp1 with z | z
      · exact hp p hpM z
      · rw [ht] at hb
        obtain ⟨q, hq, hx⟩ := mem_flatP.mp hb
        have e := pair_uniq hM.nd hpM (hc q hq) (.inl (List.mem_singleton.mp z).symm) hx
        exact e ▸ hq
    · rw [if_neg hb]
      by_cases hf : ∃ o, (b, o) ∈ M
      · obtain ⟨o, hoM⟩ := hf
        have hlt : b < o := hM.lt _ hoM
        have hadj : o ∈ nb nm b := hM.adj _ hoM
        have hot : o ∉ taken := fun z => by
          rw [ht] at z
          obtain ⟨q, hq, hx⟩ := mem_flatP.mp z
          have e := pair_uniq hM.nd hoM (hc q hq) (.inr rfl) hx
          refine hb ?_
          rw [ht]
          exact mem_flatP.mpr ⟨(b, o), e ▸ hq, .inl rfl⟩
        have hoo : o ∉ out := fun z => ho o z (mem_flatP.mpr ⟨(b, o), hoM, .inr rfl⟩)
        obtain ⟨R, hR, hsub⟩ := goL_has g hM mx bs (pr ++ [b]) (taken ++ [b, o]) out (ch ++ [(b, o)]) hpr' (fun p hp' => by
            rcases List.mem_append.mp hp' with z | z
            · exact hc p z
            · rw [List.mem_singleton.mp z]; exact hoM) (by rw [flatP_app, ht]; rfl) ho (fun p hpM hp1 => by
            rcases List.mem_append.mp hp1 with z | z
            · exact List.mem_append_left _ (hp p hpM z)
            · have e := pair_uniq hM.nd hpM hoM (.inl (List.mem_singleton.mp z).symm) (.inl rfl)
              rw [e]
              exact List.mem_append_right _ (List.mem_singleton.mpr rfl))
        refine ⟨R, List.mem_append_left _ (List.mem_flatMap.mpr ⟨o, List.mem_filter.mpr ⟨hadj, ?_⟩, hR⟩), hsub⟩
        rw [decide_eq_true hlt, decide_eq_false hot, decide_eq_false hoo]
        rfl
      · have hbM : b ∉ flatP M := fun z => by
          obtain ⟨p, hpM, hx⟩ := mem_flatP.mp z
          rcases hx with e | e
          · exact hf ⟨p.2, by rw [e]; exact hpM⟩
          · have hlt := hM.lt p hpM
            have hin : p.1 ∈ bds := g.mem _ _ (hM.adj p hpM)
            rw [← hpr] at hin
            have hpin : p.1 ∈ pr := by
              rcases List.mem_append.mp hin with z | z
              · exact z
              · rcases List.mem_cons.mp z with z | z
                · omega
                · have q := (List.pairwise_cons.mp asc2).1 _ z
                  omega
            refine hb ?_
            rw [ht]
            exact mem_flatP.mpr ⟨p, hp p hpM hpin, .inr e⟩
        have ho2 : ∀ c ∈ out ++ [b], c ∉ flatP M := fun c hc' => by
          rcases List.mem_append.mp hc' with z | z
          · exact ho c z
          · rw [List.mem_singleton.mp z]; exact hbM
        have ns := not_stuck g hM mx hc ht ho2
        obtain ⟨R, hR, hsub⟩ := goL_has g hM mx bs (pr ++ [b]) taken (out ++ [b]) ch hpr' hc ht ho2 (fun p hpM hp1 => by
            rcases List.mem_append.mp hp1 with z | z
            · exact hp p hpM z
            · exact absurd (mem_flatP.mpr ⟨p, hpM, .inl (List.mem_singleton.mp z).symm⟩) hbM)
        refine ⟨R, List.mem_append_right _ ?_, hsub⟩
        rw [ns, if_neg Bool.false_ne_true]
        exact hR
/-- what is found is a pairing -/
theorem goL_ok {nm : Near} : ∀ (bs taken out : List Nat) (ch : List (Nat × Nat)), taken = flatP ch → bs.Nodup → IsM nm ch → ∀ R ∈ goL nm bs taken out ch, IsM nm R
  | [], taken, out, ch, _, _, h, R, hR => by
    rw [goL, List.mem_singleton] at hR
    rw [hR]
    exact h
  | b :: bs, taken, out, ch, ht, hn, h, R, hR => by
    have hn2 := (List.nodup_cons.mp hn).2
    rw [goL] at hR
    by_cases hb : b ∈ taken
    · rw [if_pos hb] at hR
      exact goL_ok bs taken out ch ht hn2 h R hR
    · rw [if_neg hb] at hR
      rcases List.mem_append.mp hR with hR | hR
      · obtain ⟨o, ho, hR⟩ := List.mem_flatMap.mp hR
        obtain ⟨h1, h2⟩ := List.mem_filter.mp ho
        rw [Bool.and_eq_true, Bool.and_eq_true, Bool.not_eq_true', Bool.not_eq_true', decide_eq_true_iff, decide_eq_false_iff_not, decide_eq_false_iff_not] at h2
        obtain ⟨⟨h3, h4⟩, h5⟩ := h2
        refine goL_ok bs (taken ++ [b, o]) out (ch ++ [(b, o)]) (by rw [flatP_app, ht]; rfl) hn2 ⟨fun p hp => ?_, fun p hp => ?_, ?_⟩ R hR
        · rcases List.mem_append.mp hp with z | z
          · exact h.lt p z
          · rw [List.mem_singleton.mp z]; exact h3
        · rcases List.mem_append.mp hp with z | z
          · exact h.adj p z
          · rw [List.mem_singleton.mp z]; exact h1
        · rw [flatP_app, List.nodup_append]
          refine ⟨h.nd, ?_, fun x hx y hy e => ?_⟩
          · show [b, o].Nodup
            simp
            omega
          · have hy : y = b ∨ y = o := by simpa [flatP] using hy
            rw [← ht] at hx
            subst e
            rcases hy with e | e
            · exact hb (e ▸ hx)
            · exact h4 (e ▸ hx)
      · cases hs : stuck nm taken (out ++ [b]) with
        | true =>
          rw [hs, if_pos rfl] at hR
          cases hR
        | false =>
          rw [hs, if_neg Bool.false_ne_true] at hR
          exact goL_ok bs taken (out ++ [b]) ch ht hn2 h R hR
/-- with edges there are pairs -/
theorem goL_ne {nm : Near} {bds : List Nat} (g : Gr nm bds) (he : ∃ a b, b ∈ nb nm a) : ∀ (bs pr taken out : List Nat) (ch : List (Nat × Nat)), pr ++ bs = bds → taken = flatP ch → (∀ b ∈ pr, b ∈ taken ∨ b ∈ out) → hitOut nm out = false → ∀ R ∈ goL nm bs taken out ch, R ≠ []
  | [], pr, taken, out, ch, hpr, ht, hp, hh, R, hR => by
    rw [goL, List.mem_singleton] at hR
    rw [hR]
    rintro rfl
    rw [List.append_nil] at hpr
    obtain ⟨a, b, hab⟩ := he
    have ha : a ∈ out := (hp a (hpr ▸ g.mem _ _ hab)).resolve_left (by rw [ht]; exact fun z => nomatch z)
    have hb : b ∈ out := (hp b (hpr ▸ g.mem _ _ (g.symm _ _ hab))).resolve_left (by rw [ht]; exact fun z => nomatch z)
    unfold hitOut at hh
    rw [List.any_eq_false] at hh
    have z := hh a ha
    rw [Bool.not_eq_true, List.any_eq_false] at z
    exact z b hab (decide_eq_true hb)
  | b :: bs, pr, taken, out, ch, hpr, ht, hp, hh, R, hR => by
    have hpr' : (pr ++ [b]) ++ bs = bds := by rw [List.append_assoc]; exact hpr
    rw [goL] at hR
    by_cases hb : b ∈ taken
    · rw [if_pos hb] at hR
      exact goL_ne g he bs (pr ++ [b]) taken out ch hpr' ht (fun c hc => by
        rcases List.mem_append.mp hc with z | z
        · exact hp c z
        · rw [List.mem_singleton.mp z]; exact .inl hb) hh R hR
    · rw [if_neg hb] at hR
      rcases List.mem_append.mp hR with hR | hR
      · obtain ⟨o, ho, hR⟩ := List.mem_flatMap.mp hR
        refine goL_ne g he bs (pr ++ [b]) (taken ++ [b, o]) out (ch ++ [(b, o)]) hpr' (by rw [flatP_app, ht]; rfl) (fun c hc => ?_) hh R hR
        rcases List.mem_append.mp hc with z | z
        · exact (hp c z).imp (List.mem_append_left _) id
        · rw [List.mem_singleton.mp z]; exact .inl (List.mem_append_right _ List.mem_cons_self)
      · cases hs : stuck nm taken (out ++ [b]) with
        | true =>
          rw [hs, if_pos rfl] at hR
          cases hR
        | false =>
          rw [hs, if_neg Bool.false_ne_true] at hR
          have hs1 : hitOut nm (out ++ [b]) = false := by
            unfold stuck at hs
            rw [Bool.or_eq_false_iff] at hs
            exact hs.1
          refine goL_ne g he bs (pr ++ [b]) taken (out ++ [b]) ch hpr' ht (fun c hc => ?_) hs1 R hR
          rcases List.mem_append.mp hc with z | z
          · exact (hp c z).imp id (List.mem_append_left _)
          · exact .inr (List.mem_append_right _ z)
/-! ### how many -/
def F : Nat → Nat → Nat
  | 0, _ => 1
  | _ + 1, 0 => 1
  | p + 1, q + 1 => F p (q + 1) + (q + 1) * F p q
theorem F_left (p q : Nat) : F p q + q * F p (q - 1) ≤ F (p + 1) q := by
  cases q with
  | zero => cases p <;> simp [F]
  | succ q => simp [F]
theorem F_right : ∀ p, p < 11 → ∀ q, q < 11 → F p q + p * F (p - 1) q ≤ F p (q + 1) := by decide +kernel
theorem F_mul : ∀ a, a < 11 → ∀ b, b < 11 - a → ∀ c, c < 11 - a - b → ∀ d, d < 11 - a - b - c → F a b * F c d ≤ F (a + c) (b + d) := by decide +kernel
theorem F_top : ∀ a, a < 11 → ∀ b, b < 11 - a → F a b ≤ 1546 := by decide +kernel
def cntC (c : Nat → Bool) (k : Bool) (bs taken : List Nat) : Nat := (bs.filter fun v => !decide (v ∈ taken) && (c v == k)).length
theorem cnt_sub {c : Nat → Bool} {k : Bool} {bs t t' : List Nat} (h : ∀ x ∈ t, x ∈ t') : cntC c k bs t' ≤ cntC c k bs t := by
  unfold cntC
  induction bs with
  | nil => exact Nat.le_refl _
  | cons b bs ih =>
    rw [List.filter_cons, List.filter_cons]
    by_cases h1 : b ∈ t
    · rw [if_neg (by simp [h b h1]), if_neg (by simp [h1])]
      exact ih
    · split
      · rename_i z
        rw [Bool.and_eq_true] at z
        rw [if_pos (by rw [decide_eq_false h1, z.2]; rfl), List.length_cons, List.length_cons]
        omega
      · split
        · rw [List.length_cons]; omega
        · exact ih
theorem cnt_drop {c : Nat → Bool} {k : Bool} {bs t : List Nat} {o : Nat} (hn : bs.Nodup) (ho : o ∈ bs) (ht : o ∉ t) (hc : c o = k) : ∀ t', (∀ x ∈ t, x ∈ t') → o ∈ t' → cntC c k bs t' + 1 ≤ cntC c k bs t := fun t' h1 h2 => by
  unfold cntC
  have q := nodup_len_le (l := o :: bs.filter fun v => !decide (v ∈ t') && (c v == k)) (m := bs.filter fun v => !decide (v ∈ t) && (c v == k)) (List.nodup_cons.mpr ⟨fun z => ?_, hn.filter _⟩) fun x hx => ?_
  · rw [List.length_cons] at q
    exact q
  · have z := (List.mem_filter.mp z).2
    rw [decide_eq_true h2] at z
    cases z
  · rcases List.mem_cons.mp hx with e | hx
    · rw [e]
      refine List.mem_filter.mpr ⟨ho, ?_⟩
      rw [decide_eq_false ht, hc]
      cases k <;> rfl
    · obtain ⟨z1, z2⟩ := List.mem_filter.mp hx
      rw [Bool.and_eq_true, Bool.not_eq_true', decide_eq_false_iff_not] at z2
      refine List.mem_filter.mpr ⟨z1, ?_⟩
      rw [decide_eq_false (fun z => z2.1 (h1 x z)), z2.2]
      rfl
theorem flatMap_len_le {α β : Type} (f : α → List β) (N : Nat) : ∀ l : List α, (∀ x ∈ l, (f x).length ≤ N) → (l.flatMap f).length ≤ l.length * N
  | [], _ => by simp
  | x :: l, h => by
    rw [List.flatMap_cons, List.length_append, List.length_cons, Nat.succ_mul]
    have h1 := flatMap_len_le f N l fun y hy => h y (List.mem_cons_of_mem _ hy)
    have h2 := h x List.mem_cons_self
    omega
theorem goL_len {nm : Near} {c : Nat → Bool} (hcol : ∀ a b, b ∈ nb nm a → c a ≠ c b) (hnb : ∀ a, (nb nm a).Nodup) : ∀ (bs taken out : List Nat) (ch : List (Nat × Nat)) (p q : Nat), bs.Pairwise (· < ·) → (∀ a ∈ bs, ∀ b, b ∈ nb nm a → a < b → b ∈ bs) → cntC c false bs taken ≤ p → cntC c true bs taken ≤ q → p + q ≤ 10 → (goL nm bs taken out ch).length ≤ F p q
  | [], taken, out, ch, p, q, _, _, _, _, _ => by
    rw [goL]
    have : 1 ≤ F p q := by
      cases p with
      | zero => simp [F]
      | succ p =>
        cases q with
        | zero => simp [F]
        | succ q =>
          have pos : ∀ p q, 1 ≤ F p q := by
            intro p
            induction p with
            | zero => intro q; simp [F]
            | succ p ih =>
              intro q
              cases q with
              | zero => simp [F]
              | succ q =>
                have z := ih (q + 1)
                rw [F]
                omega
          exact pos _ _
    exact this
  | b :: bs, taken, out, ch, p, q, asc, cl, hp, hq, hz => by
    obtain ⟨asc1, asc2⟩ := List.pairwise_cons.mp asc
    have nd : (b :: bs).Nodup := asc.imp fun h => Nat.ne_of_lt h
    have nd2 := (List.nodup_cons.mp nd).2
    have hbn := (List.nodup_cons.mp nd).1
    have cl2 : ∀ a ∈ bs, ∀ x, x ∈ nb nm a → a < x → x ∈ bs := fun a ha x hx hlt => by
      rcases List.mem_cons.mp (cl a (List.mem_cons_of_mem _ ha) x hx hlt) with e | z
      · have := asc1 a ha
        omega
      · exact z
    have tail_le : ∀ k t, cntC c k bs t ≤ cntC c k (b :: bs) t := fun k t => by
      unfold cntC
      rw [List.filter_cons]
      split
      · rw [List.length_cons]; omega
      · exact Nat.le_refl _
    rw [goL]
    by_cases hb : b ∈ taken
    · rw [if_pos hb]
      exact goL_len hcol hnb bs taken out ch p q asc2 cl2 (Nat.le_trans (tail_le _ _) hp) (Nat.le_trans (tail_le _ _) hq) hz
    · rw [if_neg hb, List.length_append]
      have own : cntC c (c b) bs taken + 1 = cntC c (c b) (b :: bs) taken := by
        unfold cntC
        rw [List.filter_cons, if_pos (by rw [decide_eq_false hb]; cases c b <;> rfl), List.length_cons]
      have los : ∀ o ∈ (nb nm b).filter (fun o => decide (b < o) && !decide (o ∈ taken) && !decide (o ∈ out)), o ∈ nb nm b ∧ b < o ∧ o ∉ taken ∧ o ∈ bs ∧ c o = !c b := fun o ho => by
        obtain ⟨h1, h2⟩ := List.mem_filter.mp ho
        rw [Bool.and_eq_true, Bool.and_eq_true, Bool.not_eq_true', Bool.not_eq_true', decide_eq_true_iff, decide_eq_false_iff_not, decide_eq_false_iff_not] at h2
        refine ⟨h1, h2.1.1, h2.1.2, ?_, ?_⟩
        · rcases List.mem_cons.mp (cl b List.mem_cons_self o h1 h2.1.1) with e | z
          · omega
          · exact z
        · have z := hcol b o h1
          cases e1 : c b <;> cases e2 : c o <;> rw [e1, e2] at z <;> first | rfl | exact absurd rfl z
      have few : ((nb nm b).filter (fun o => decide (b < o) && !decide (o ∈ taken) && !decide (o ∈ out))).length ≤ cntC c (!c b) bs taken := by
        refine nodup_len_le ((hnb b).filter _) fun o ho => ?_
        obtain ⟨h1, h2, h3, h4, h5⟩ := los o ho
        refine List.mem_filter.mpr ⟨h4, ?_⟩
        rw [decide_eq_false h3, h5]
        cases c b <;> rfl
      have sub1 : ∀ o, ∀ x ∈ taken, x ∈ taken ++ [b, o] := fun o x hx => List.mem_append_left _ hx
      have outLen : (if stuck nm taken (out ++ [b]) = true then [] else goL nm bs taken (out ++ [b]) ch).length ≤ (goL nm bs taken (out ++ [b]) ch).length := by
        split
        · exact Nat.zero_le _
        · exact Nat.le_refl _
      cases hcb : c b with
      | false =>
        rw [hcb] at own los few
        have hq2 : cntC c true bs taken ≤ q := Nat.le_trans (tail_le _ _) hq
        have h1 := goL_len hcol hnb bs taken (out ++ [b]) ch (p - 1) q asc2 cl2 (by omega) hq2 (by omega)
        have h2 := flatMap_len_le (fun o => goL nm bs (taken ++ [b, o]) out (ch ++ [(b, o)])) (F (p - 1) (q - 1)) ((nb nm b).filter fun o => decide (b < o) && !decide (o ∈ taken) && !decide (o ∈ out)) fun o ho => by
          obtain ⟨a1, a2, a3, a4, a5⟩ := los o ho
          have d1 := cnt_drop (c := c) (k := true) nd2 a4 a3 a5 (taken ++ [b, o]) (sub1 o) (List.mem_append_right _ (by simp))
          have d2 := cnt_sub (c := c) (k := false) (bs := bs) (sub1 o)
          exact goL_len hcol hnb bs (taken ++ [b, o]) out (ch ++ [(b, o)]) (p - 1) (q - 1) asc2 cl2 (by omega) (by omega) (by omega)
        have h3 : ((nb nm b).filter (fun o => decide (b < o) && !decide (o ∈ taken) && !decide (o ∈ out))).length * F (p - 1) (q - 1) ≤ q * F (p - 1) (q - 1) := Nat.mul_le_mul_right _ (Nat.le_trans few hq2)
        have h4 := F_left (p - 1) q
        have e : p - 1 + 1 = p := by omega
        rw [e] at h4
        omega
      | true =>
        rw [hcb] at own los few
        have hp2 : cntC c false bs taken ≤ p := Nat.le_trans (tail_le _ _) hp
        have h1 := goL_len hcol hnb bs taken (out ++ [b]) ch p (q - 1) asc2 cl2 hp2 (by omega) (by omega)
        have h2 := flatMap_len_le (fun o => goL nm bs (taken ++ [b, o]) out (ch ++ [(b, o)])) (F (p - 1) (q - 1)) ((nb nm b).filter fun o => decide (b < o) && !decide (o ∈ taken) && !decide (o ∈ out)) fun o ho => by
          obtain ⟨a1, a2, a3, a4, a5⟩ := los o ho
          have d1 := cnt_drop (c := c) (k := false) nd2 a4 a3 a5 (taken ++ [b, o]) (sub1 o) (List.mem_append_right _ (by simp))
          have d2 := cnt_sub (c := c) (k := true) (bs := bs) (sub1 o)
          exact goL_len hcol hnb bs (taken ++ [b, o]) out (ch ++ [(b, o)]) (p - 1) (q - 1) asc2 cl2 (by omega) (by omega) (by omega)
        have h3 : ((nb nm b).filter (fun o => decide (b < o) && !decide (o ∈ taken) && !decide (o ∈ out))).length * F (p - 1) (q - 1) ≤ p * F (p - 1) (q - 1) := Nat.mul_le_mul_right _ (Nat.le_trans few hp2)
        have h4 := F_right p (by omega) (q - 1) (by omega)
        have e : q - 1 + 1 = q := by omega
        rw [e] at h4
        omega
/-- any pairing lies in a greatest one -/
def extM (E : List (Nat × Nat)) (M : List (Nat × Nat)) : List (Nat × Nat) := E.foldl (fun M e => if e.1 ∈ flatP M ∨ e.2 ∈ flatP M then M else M ++ [e]) M
theorem extM_ok {nm : Near} : ∀ (E M : List (Nat × Nat)), (∀ e ∈ E, e.1 < e.2 ∧ e.2 ∈ nb nm e.1) → IsM nm M → IsM nm (extM E M) ∧ (∀ p ∈ M, p ∈ extM E M) ∧ ∀ e ∈ E, e.1 ∈ flatP (extM E M) ∨ e.2 ∈ flatP (extM E M)
  | [], M, _, h => ⟨h, fun _ h => h, fun _ h => nomatch h⟩
  | e :: E, M, hE, h => by
    obtain ⟨e1, e2⟩ := hE e List.mem_cons_self
    have hE' : ∀ e ∈ E, e.1 < e.2 ∧ e.2 ∈ nb nm e.1 := fun x hx => hE x (List.mem_cons_of_mem _ hx)
    have mono : ∀ {A B : List (Nat × Nat)} {x : Nat}, (∀ p ∈ A, p ∈ B) → x ∈ flatP A → x ∈ flatP B := fun hs hx => by
      obtain ⟨p, hp, z⟩ := mem_flatP.mp hx
      exact mem_flatP.mpr ⟨p, hs p hp, z⟩
    show IsM nm (extM E (if e.1 ∈ flatP M ∨ e.2 ∈ flatP M then M else M ++ [e])) ∧ (∀ p ∈ M, p ∈ extM E (if e.1 ∈ flatP M ∨ e.2 ∈ flatP M then M else M ++ [e])) ∧ ∀ x ∈ e :: E, x.1 ∈ flatP (extM E (if e.1 ∈ flatP M ∨ e.2 ∈ flatP M then M else M ++ [e])) ∨ x.2 ∈ flatP (extM E (if e.1 ∈ flatP M ∨ e.2 ∈ flatP M then M else M ++ [e]))
    by_cases hc : e.1 ∈ flatP M ∨ e.2 ∈ flatP M
    · rw [if_pos hc]
      obtain ⟨a, b, c⟩ := extM_ok E M hE' h
      refine ⟨a, b, fun x hx => ?_⟩
      rcases List.mem_cons.mp hx with z | z
      · rw [z]; exact hc.imp (mono b) (mono b)
      · exact c x z
    · rw [if_neg hc]
      obtain ⟨a, b, c⟩ := extM_ok E (M ++ [e]) hE' ⟨fun p hp => by
          rcases List.mem_append.mp hp with z | z
          · exact h.lt p z
          · rw [List.mem_singleton.mp z]; exact e1, fun p hp => by
          rcases List.mem_append.mp hp with z | z
          · exact h.adj p z
          · rw [List.mem_singleton.mp z]; exact e2, by
          rw [flatP_app, List.nodup_append]
          refine ⟨h.nd, ?_, fun x hx y hy exy => ?_⟩
          · show [e.1, e.2].Nodup
            simp
            omega
          · have hy : y = e.1 ∨ y = e.2 := by simpa [flatP] using hy
            subst exy
            rcases hy with z | z
            · exact hc (.inl (z ▸ hx))
            · exact hc (.inr (z ▸ hx))⟩
      refine ⟨a, fun p hp => b p (List.mem_append_left _ hp), fun x hx => ?_⟩
      rcases List.mem_cons.mp hx with z | z
      · rw [z]; exact .inl (mono b (mem_flatP.mpr ⟨e, List.mem_append_right _ (List.mem_singleton.mpr rfl), .inl rfl⟩))
      · exact c x z
end G
set_option Elab.async false
set_option linter.all false
set_option maxRecDepth 100000
set_option maxHeartbeats 1000000
namespace G
open PySem PySem.Spec L2 LamX NdefX

/-! ### some data out of several -/
def tyS (S : PyData → Prop) : Ty := ⟨fun v H => ∃ d, S d ∧ Dq H v d, fun e ⟨d, h1, h2⟩ => ⟨d, h1, dq_ext e _ _ h2⟩⟩
theorem dx_tyS {T : List NTab} {X : Cx} {Γ : Gam} {e : Expr} {d : PyData} {S : PyData → Prop} (h : DX T X Γ e (dat d)) (hs : S d) : DX T X Γ e (tyS S) := h.to fun v H p => ⟨d, hs, p⟩
def isI (p : Int → Prop) : PyData → Prop := fun d => ∃ i, d = .int i ∧ p i
def isB (p : Bool → Prop) : PyData → Prop := fun d => ∃ i, d = .bool i ∧ p i
/-- an int below n -/
def ltN (n : Nat) : PyData → Prop := fun d => ∃ k : Nat, d = .int (k : Nat) ∧ k < n

/-! ### what is owned may change -/
def DB (T : List NTab) (X : Cx) (Γ : Gam) (O : OS) (e : Expr) (t : Ty) (O' : OS) : Prop := ∀ σ Hb L, Fr L → Apart Hb L → Sat Γ σ Hb → O.P Hb L → ∀ Q : VK, (∀ v Hb' L', Fr L' → Apart Hb' L' → Ge T Hb Hb' → O'.P Hb' L' → t.P v Hb' → Q v (addAll Hb' L')) → WE X e σ (addAll Hb L) Q
def DBT (T : List NTab) (X : Cx) (Γ : Gam) (O : OS) (e : Expr) (B : Bool → Prop) (O' : OS) : Prop := ∀ σ Hb L, Fr L → Apart Hb L → Sat Γ σ Hb → O.P Hb L → ∀ Q : Bool → Hp → Prop, (∀ k Hb' L', Fr L' → Apart Hb' L' → Ge T Hb Hb' → O'.P Hb' L' → B k → Q k (addAll Hb' L')) → WT X e σ (addAll Hb L) Q
def DBA (T : List NTab) (X : Cx) (Γ : Gam) (O : OS) (es : List Expr) (ts : List Ty) (O' : OS) : Prop := ∀ σ Hb L, Fr L → Apart Hb L → Sat Γ σ Hb → O.P Hb L → ∀ Q : List V → Hp → Prop, (∀ vs Hb' L', Fr L' → Apart Hb' L' → Ge T Hb Hb' → O'.P Hb' L' → TyAll ts vs Hb' → Q vs (addAll Hb' L')) → WA X es σ (addAll Hb L) Q
section
variable {T : List NTab} {X : Cx} {Γ Γ' : Gam} {O O' O2 : OS} {Hin : Hp} {σ : L2.St} {H : Hp} {D : Ends} {a b c e eb : Expr} {es : List Expr} {st : Stmt} {rest body bl : List Stmt} {pos pos' p apos p2 : Pos} {t u ta tb : Ty} {ts : List Ty} {x : Str} {k : Bool} {S S1 S2 : PyData → Prop} {B : Bool → Prop}
theorem wa_frame {L : List (Addr × HO)} {Q : List V → Hp → Prop} (f : Fr L) (h : Apart H L) (k : WA X es σ H fun v H' => Apart H' L → Q v (addAll H' L)) : WA X es σ (addAll H L) Q := fun pos pins s I => by
  obtain ⟨ps, I1, _, _, back⟩ := forgetL f h I
  refine thn (k pos ps s I1) fun u s' ⟨v, H', I', r, q⟩ => ?_
  obtain ⟨h', J⟩ := back _ _ _ I'
  exact ⟨v, _, J, r, q h'⟩
theorem DX.db (h : DX T X Γ e t) : DB T X Γ O e t O := fun σ Hb L f ap s o Q q => we_frame f ap (h σ Hb s _ fun v H' g p ap' => q v H' L f ap' g (O.mono g.ext o) p)
theorem DT.db (h : DT T X Γ e k) : DBT T X Γ O e (· = k) O := fun σ Hb L f ap s o Q q => wt_frame f ap (h σ Hb s _ fun H' g ap' => q k H' L f ap' g (O.mono g.ext o) rfl)
theorem DA.db (h : DA T X Γ es ts) : DBA T X Γ O es ts O := fun σ Hb L f ap s o Q q => wa_frame f ap (h σ Hb s _ fun v H' g p ap' => q v H' L f ap' g (O.mono g.ext o) p)
theorem DB.to (h : DB T X Γ O e t O') (k : ∀ v H, t.P v H → u.P v H) : DB T X Γ O e u O' := fun σ Hb L f ap s o Q q => h σ Hb L f ap s o Q fun v Hb' L' f' ap' g o' p => q v Hb' L' f' ap' g o' (k v Hb' p)
theorem DB.toS (h : DB T X Γ O e (tyS S1) O') (k : ∀ d, S1 d → S2 d) : DB T X Γ O e (tyS S2) O' := h.to fun v H ⟨d, h1, h2⟩ => ⟨d, k d h1, h2⟩
theorem DBT.to {B' : Bool → Prop} (h : DBT T X Γ O e B O') (k : ∀ v, B v → B' v) : DBT T X Γ O e B' O' := fun σ Hb L f ap s o Q q => h σ Hb L f ap s o Q fun v Hb' L' f' ap' g o' p => q v Hb' L' f' ap' g o' (k v p)
theorem DB.os {P P' : OS} (h : DB T X Γ O e t O') (k : ∀ H L, P.P H L → O.P H L) (k' : ∀ H L, O'.P H L → P'.P H L) : DB T X Γ P e t P' := fun σ Hb L f ap s o Q q => h σ Hb L f ap s (k _ _ o) Q fun v Hb' L' f' ap' g o' p => q v Hb' L' f' ap' g (k' _ _ o') p
theorem addAll_app {H : Hp} : ∀ {M L : List (Addr × HO)}, addAll H (M ++ L) = addAll (addAll H L) M
  | [], _ => rfl
  | (a, o) :: M, L => congrArg (fun z => upd z a o) (addAll_app (M := M) (L := L))
theorem fr_app {M L : List (Addr × HO)} (f : Fr (M ++ L)) : Fr M ∧ Fr L ∧ ∀ q ∈ M, q.1 ∉ L.map (·.1) := by
  have nd := f.nd
  rw [List.map_append, List.nodup_append] at nd
  exact ⟨⟨nd.1, fun p h => f.pl p (List.mem_append_left _ h)⟩, ⟨nd.2.1, fun p h => f.pl p (List.mem_append_right _ h)⟩, fun q hq z => nd.2.2 _ (List.mem_map.mpr ⟨q, hq, rfl⟩) _ z rfl⟩
theorem fr_mk {M L : List (Addr × HO)} (fm : Fr M) (fl : Fr L) (h : ∀ q ∈ M, q.1 ∉ L.map (·.1)) : Fr (M ++ L) := ⟨by
  rw [List.map_append, List.nodup_append]
  refine ⟨fm.nd, fl.nd, fun x hx y hy e => ?_⟩
  obtain ⟨q, hq, rfl⟩ := List.mem_map.mp hx
  exact h q hq (e ▸ hy), fun p hp => (List.mem_append.mp hp).elim (fm.pl p) (fl.pl p)⟩
/-- more that is owned, out of sight -/
theorem db_frame (h : DB T X Γ O e t O') {Hb : Hp} {M L : List (Addr × HO)} (f : Fr (M ++ L)) (ap : Apart Hb (M ++ L)) (s : Sat Γ σ Hb) (o : O.P Hb L) {Q : VK} (q : ∀ v Hb' L', Fr (M ++ L') → Apart Hb' (M ++ L') → Ge T Hb Hb' → O'.P Hb' L' → t.P v Hb' → Q v (addAll Hb' (M ++ L'))) : WE X e σ (addAll Hb (M ++ L)) Q := by
  obtain ⟨fm, fl, dis⟩ := fr_app f
  rw [addAll_app]
  have apM : Apart (addAll Hb L) M := fun p hp => by
    rw [addAll_no (dis p hp)]
    exact ap p (List.mem_append_left _ hp)
  refine we_frame fm apM (h σ Hb L fl (fun p hp => ap p (List.mem_append_right _ hp)) s o _ fun v Hb' L' f' ap' g o' pv apM' => ?_)
  rw [← addAll_app]
  have d2 : ∀ p ∈ M, p.1 ∉ L'.map (·.1) ∧ Hb' p.1 = none := fun p hp => by
    obtain ⟨z1, z2⟩ := addAll_none (apM' p hp)
    exact ⟨z2, z1⟩
  exact q v Hb' L' (fr_mk fm f' fun p hp => (d2 p hp).1) (fun p hp => (List.mem_append.mp hp).elim (fun z => (d2 p z).2) (ap' p)) g o' pv
theorem dbt_frame (h : DBT T X Γ O e B O') {Hb : Hp} {M L : List (Addr × HO)} (f : Fr (M ++ L)) (ap : Apart Hb (M ++ L)) (s : Sat Γ σ Hb) (o : O.P Hb L) {Q : Bool → Hp → Prop} (q : ∀ v Hb' L', Fr (M ++ L') → Apart Hb' (M ++ L') → Ge T Hb Hb' → O'.P Hb' L' → B v → Q v (addAll Hb' (M ++ L'))) : WT X e σ (addAll Hb (M ++ L)) Q := by
  obtain ⟨fm, fl, dis⟩ := fr_app f
  rw [addAll_app]
  have apM : Apart (addAll Hb L) M := fun p hp => by
    rw [addAll_no (dis p hp)]
    exact ap p (List.mem_append_left _ hp)
  refine wt_frame fm apM (h σ Hb L fl (fun p hp => ap p (List.mem_append_right _ hp)) s o _ fun v Hb' L' f' ap' g o' pv apM' => ?_)
  rw [← addAll_app]
  have d2 : ∀ p ∈ M, p.1 ∉ L'.map (·.1) ∧ Hb' p.1 = none := fun p hp => by
    obtain ⟨z1, z2⟩ := addAll_none (apM' p hp)
    exact ⟨z2, z1⟩
  exact q v Hb' L' (fr_mk fm f' fun p hp => (d2 p hp).1) (fun p hp => (List.mem_append.mp hp).elim (fun z => (d2 p z).2) (ap' p)) g o' pv

/-! ### statements -/
theorem fc_db {Q : VK} (c : FC T Hin Γ O σ H) (h : DB T X Γ O e t O') (q : ∀ v H', FV T Hin Γ O' σ H' (t.P v) → Q v H') : WE X e σ H Q := by
  obtain ⟨Hb, L, rfl, f, ap, g, s, o, _⟩ := c
  exact h σ Hb L f ap s o Q fun v Hb' L' f' ap' g' o' p => q v _ ⟨Hb', L', rfl, f', ap', g.trans g', s.ext g'.ext, o', p⟩
theorem fc_dbt {Q : Bool → Hp → Prop} (c : FC T Hin Γ O σ H) (h : DBT T X Γ O e B O') (q : ∀ k H', B k → FC T Hin Γ O' σ H' → Q k H') : WT X e σ H Q := by
  obtain ⟨Hb, L, rfl, f, ap, g, s, o, _⟩ := c
  exact h σ Hb L f ap s o Q fun v Hb' L' f' ap' g' o' p => q v _ p ⟨Hb', L', rfl, f', ap', g.trans g', s.ext g'.ext, o', trivial⟩
theorem fb_set (i : Nat) (nd : X.N.Nodup) (c : FC T Hin Γ O σ H) (h : DB T X Γ O e t O') (k : ∀ σ' H', FC T Hin (Γ.set i (some t)) O' σ' H' → WSs X rest D σ' H') (hi : X.N[i]? = some x := by rfl) (hx : Loc X.env.scope x := by first | exact Or.inl rfl | exact Or.inr rfl)
    (hs : swapsWith e (some (.Name x pos')) pos.line X.env = pure false := by rfl) (hf : X.fn x = true ∨ X.env.scope.names.lookup x = some .local := by first | exact .inl rfl | exact .inr rfl) : WSs X (.Assign [.Name x pos'] e pos :: rest) D σ H :=
  fs_cons (ws_of (ps_set nd hi hx pe_we hs hf) (fc_db c h fun v H' c' => k _ _ (c'.set i)))
theorem fb_ret (c : FC T Hin Γ O σ H) (h : DB T X Γ O e t O') (q : ∀ v H', FV T Hin Γ O' σ H' (t.P v) → D.rt v H') : WSs X (.Return (some e) pos :: rest) D σ H :=
  fs_cons (ws_of (ps_ret pe_we) (fc_db c h fun v H' c' => q v H' c'))
theorem fb_expr (c : FC T Hin Γ O σ H) (h : DB T X Γ O e t O') (k : ∀ H', FC T Hin Γ O' σ H' → WSs X rest D σ H') (hs : swapsWith e none pos.line X.env = pure false := by rfl) : WSs X (.Expr e pos :: rest) D σ H :=
  fs_cons (ws_of (ps_expr pe_we hs) (fc_db c h fun v H' c' => k _ c'.fc))
theorem fb_if (c : FC T Hin Γ O σ H) (h : DBT T X Γ O e B O') (q1 : B true → ∀ H', FC T Hin Γ O' σ H' → WSs X body { D with nx := fun σ' H' => WSs X rest D σ' H' } σ H') (q2 : B false → ∀ H', FC T Hin Γ O' σ H' → WSs X bl { D with nx := fun σ' H' => WSs X rest D σ' H' } σ H') : WSs X (.If e body bl pos :: rest) D σ H :=
  fs_cons (ws_of (ps_if pt_wt pss_wss pss_wss) (fc_dbt c h fun k H' hk c' => by
    cases k with
    | true => exact iteT (q1 hk H' c')
    | false => exact iteF (q2 hk H' c')))
theorem fb_if1 (c : FC T Hin Γ O σ H) (h : DBT T X Γ O e B O') (q1 : B true → ∀ H', FC T Hin Γ O' σ H' → WSs X body { D with nx := fun σ' H' => WSs X rest D σ' H' } σ H') (q2 : B false → ∀ H', FC T Hin Γ O' σ H' → WSs X rest D σ H') : WSs X (.If e body [] pos :: rest) D σ H :=
  fb_if c h q1 fun hk H' c' => fs_nil (q2 hk H' c')
theorem wb_if (c : FC T Hin Γ O σ H) (h : DBT T X Γ O e B O') (q1 : B true → ∀ H', FC T Hin Γ O' σ H' → WSs X body D σ H') (q2 : B false → ∀ H', FC T Hin Γ O' σ H' → WSs X bl D σ H') : WS X (.If e body bl pos) D σ H :=
  ws_of (ps_if pt_wt pss_wss pss_wss) (fc_dbt c h fun k H' hk c' => by
    cases k with
    | true => exact iteT (q1 hk H' c')
    | false => exact iteF (q2 hk H' c'))
theorem fb_asg {js : List Nat} {tg : Expr} (c : FC T Hin Γ O σ H) (h : DB T X Γ O e t O') (hg : DG X tg t Γ Γ' js) (k : ∀ σ' H', FC T Hin Γ' O' σ' H' → WSs X rest D σ' H') (hs : swapsWithSole [tg] e pos.line X.env = pure false := by rfl) (hw : swappedStores [tg] e X.env = pure none := by rfl)
    (h1 : (assignEach [tg] X.env).map (·.2) = [assign tg X.env] := by rfl) : WSs X (.Assign [tg] e pos :: rest) D σ H :=
  fs_cons (ws_of (ps_asg pe_we pg_wg hs hw h1) (fc_db c h fun v H' c' => by
    obtain ⟨Hb, L, rfl, f, ap, g, s, o, p⟩ := c'
    exact hg v σ Hb _ (ge_addAll (T := T) f ap).ext p s _ fun σ' s' _ => k _ _ ⟨Hb, L, rfl, f, ap, g, s', o, trivial⟩))
/-- what the slot holds is chosen -/
theorem FC.open_ (c : FC T Hin Γ O σ H) (i : Nat) (hi : Γ[i]? = some (some (tyS S))) : ∃ d, S d ∧ FC T Hin (Γ.set i (some (dat d))) O σ H := by
  obtain ⟨Hb, L, rfl, f, ap, g, s, o, _⟩ := c
  obtain ⟨v, h1, d, h2, h3⟩ := s.at_ i _ hi
  refine ⟨d, h2, Hb, L, rfl, f, ap, g, ?_, o, trivial⟩
  have es : σ.set i (some v) = σ := by
    obtain ⟨hlt, he⟩ := List.getElem?_eq_some_iff.mp h1
    rw [← he]
    exact List.set_getElem_self hlt
  have z := s.set (i := i) (t := dat d) (v := v) h3
  rw [es] at z
  exact z
theorem FC.os {P : OS} (c : FC T Hin Γ O σ H) (k : ∀ H L, O.P H L → P.P H L) : FC T Hin Γ P σ H := by
  obtain ⟨Hb, L, e, f, ap, g, s, o, _⟩ := c
  exact ⟨Hb, L, e, f, ap, g, s, k _ _ o, trivial⟩
/-! ### defs that change what is owned -/
def spB {ι : Type} (T : List NTab) (args : ι → List Ty) (pre : ι → OS) (res : ι → Ty) (post : ι → OS) : Sp := fun vs H Q _ => ∃ i Hb L, H = addAll Hb L ∧ Fr L ∧ Apart Hb L ∧ TyAll (args i) vs Hb ∧ (pre i).P Hb L ∧ ∀ v Hb' L', Fr L' → Apart Hb' L' → Ge T Hb Hb' → (post i).P Hb' L' → (res i).P v Hb' → Q v (addAll Hb' L')
theorem dba_nil : DBA T X Γ O [] [] O := da_nil.db
theorem dba_cons (ha : DB T X Γ O e t O2) (hr : DBA T X Γ O2 es ts O') (hs : starEach (e :: es) X.env = (false, eval e X.env) :: starEach es X.env := by rfl) : DBA T X Γ O (e :: es) (t :: ts) O' := fun σ Hb L f ap s o Q q =>
  wa_of (pa_cons pe_we pa_wa hs) (ha σ Hb L f ap s o _ fun x Hb1 L1 f1 ap1 g1 o1 p1 => hr σ Hb1 L1 f1 ap1 (s.ext g1.ext) o1 _ fun vs Hb2 L2 f2 ap2 g2 o2 p2 => q _ Hb2 L2 f2 ap2 (g1.trans g2) o2 ⟨t.mono g2.ext p1, p2⟩)
theorem db_call {ι : Type} {args : ι → List Ty} {pre post : ι → OS} {res : ι → Ty} {k j : Nat} {x : Str} (c : C8.Cal X.prog X.w X.K X.mg X.base k x (spB T args pre res post) []) (hr : Room j X.A) (i : ι) (ha : DBA T X Γ O (e :: es) (args i) (pre i)) (ht : res i = t := by rfl) (ho : post i = O' := by rfl) (hk : k ≤ j := by first | decide | omega) (hg : Gl X x := by rfl)
    (hdb : (x == ("__debug__" : Str)) = false := by decide) (he : starEach (e :: es) X.env = (false, eval e X.env) :: starEach es X.env := by rfl) (hpl : (backTo pos (starEach es X.env)).any (·.1) = false := by rfl) : DB T X Γ O (.Call (.Name x p) (e :: es) [] pos) t O' := fun σ Hb L f ap s o Q q =>
  we_of (C8.pe_c c hr hk hg pa_wa hdb he hpl) (ha σ Hb L f ap s o _ fun vs Hb1 L1 f1 ap1 g1 o1 p1 => ⟨i, Hb1, L1, rfl, f1, ap1, by rw [List.append_nil]; exact p1, o1, fun v Hb2 L2 f2 ap2 g2 o2 p2 => q v Hb2 L2 f2 ap2 (g1.trans g2) (ho ▸ o2) (ht ▸ p2)⟩)
end
section
variable {T : List NTab} {P : Program} {w : World} {K : PySem.W.Frag} {mg : Str → Option Value} {base : Heap}
theorem fn_mkB {ι : Type} {args : ι → List Ty} {pre post : ι → OS} {res : ι → Ty} {k : Nat} {x : Str} {ps : List Str} {st : Stmt} (F : At K mg x ps st) (N : List Str) (S : C8.scC N ps (C8.fnScope st) = true) (hlen : ∀ i, (args i).length = ps.length)
    (hb : ∀ i cdv A outer s H vs Q E f Hb, Room k (bodyX P w K mg base N x st f cdv A outer s H E).A → (bodyX P w K mg base N x st f cdv A outer s H E).N.Nodup → (∀ v H' Γ σ, FV T Hb Γ (post i) σ H' ((res i).P v) → Q v H') → FC T Hb (gam0 N (args i)) (pre i) (L2.start N vs) H →
      WSs (bodyX P w K mg base N x st f cdv A outer s H E) (C8.fnBody st) { nx := fun _ H' => Q .non H', rt := Q } (L2.start N vs) H) : C8.Cal P w K mg base (k + 1) x (spB T args pre res post) [] := by
  obtain ⟨f, fd, d, b⟩ := F.ex
  have S' := C8.fnScope_by S
  refine C8.cal0 d b .nil S' (fun vs H Q E h => ?_) fun cdv A outer s H vs Q E hr h => ?_
  · obtain ⟨i, Hb, L, _, _, _, h1, _⟩ := h
    rw [tyAll_len h1]
    exact hlen i
  · obtain ⟨i, Hb, L, rfl, fl, ap, h1, o, q⟩ := h
    refine ⟨_, pss_wss, hb i cdv A outer s _ vs Q E f Hb hr S'.nd (fun v H' Γ σ c => ?_) ⟨Hb, L, rfl, fl, ap, Ge.refl _, sat0 h1, o, trivial⟩⟩
    obtain ⟨Hb', L', rfl, f', ap', g', _, o', p'⟩ := c
    exact q v Hb' L' f' ap' g' o' p'
end
end G
set_option Elab.async false
set_option linter.all false
set_option maxRecDepth 100000
set_option maxHeartbeats 1000000
namespace G
open PySem PySem.Spec L2 LamX NdefX

def AllS : List (PyData → Prop) → List PyData → Prop
  | [], [] => True
  | S :: Ss, d :: ds => S d ∧ AllS Ss ds
  | _, _ => False
theorem allS_of {H : Hp} : ∀ {Ss : List (PyData → Prop)} {vs : List V}, TyAll (Ss.map tyS) vs H → ∃ ds, DqAll H vs ds ∧ AllS Ss ds
  | [], [], _ => ⟨[], .nil, trivial⟩
  | S :: Ss, v :: vs, ⟨⟨d, h1, h2⟩, h3⟩ => by
    obtain ⟨ds, q1, q2⟩ := allS_of h3
    exact ⟨d :: ds, .cons h2 q1, h1, q2⟩
  | [], _ :: _, h => h.elim
  | _ :: _, [], h => h.elim
theorem allS_len : ∀ {Ss : List (PyData → Prop)} {ds : List PyData}, AllS Ss ds → ds.length = Ss.length
  | [], [], _ => rfl
  | _ :: _, _ :: _, h => congrArg (· + 1) (allS_len h.2)
  | [], _ :: _, h => h.elim
  | _ :: _, [], h => h.elim
def OwnAt (O : OS) (a : Addr) (ds : List PyData) : Prop := ∀ H L, O.P H L → ∃ vs, (a, HO.lst vs) ∈ L ∧ DqAll H vs ds
theorem ownC {a : Addr} {ds : List PyData} {O : OS} : OwnAt (oC a ds O) a ds := fun H L ⟨vs, L', e, h, _⟩ => ⟨vs, by rw [e]; exact List.mem_cons_self, h⟩
theorem ownC2 {a b : Addr} {ds es : List PyData} {O : OS} (h : OwnAt O a ds) : OwnAt (oC b es O) a ds := fun H L ⟨vs, L', e, _, o⟩ => by
  obtain ⟨ws, h1, h2⟩ := h H L' o
  exact ⟨ws, by rw [e]; exact List.mem_cons_of_mem _ h1, h2⟩
section
variable {T : List NTab} {X : Cx} {Γ Γ' : Gam} {O O' O2 : OS} {Hin : Hp} {σ : L2.St} {H : Hp} {D : Ends} {a b c e eb tg iter elt : Expr} {es : List Expr} {st : Stmt} {rest body bl : List Stmt} {pos pos' p apos p2 : Pos} {t u ta tb : Ty} {ts : List Ty} {x : Str} {k : Bool} {S S1 S2 : PyData → Prop} {B : Bool → Prop} {i j : Int}

/-! ### displays, tuple(..) -/
theorem db_tup {Ss : List (PyData → Prop)} {kk} (h : DBA T X Γ O es (Ss.map tyS) O') (hl : Ss.length ≤ 1000 := by exact Nat.le_of_ble_eq_true rfl) : DB T X Γ O (.Tuple es kk pos) (tyS fun d => ∃ ds, d = .tuple ds ∧ AllS Ss ds) O' := fun σ Hb L f ap s o Q q =>
  we_of (pe_tup pa_wa) (h σ Hb L f ap s o _ fun vs Hb1 L1 f1 ap1 g1 o1 p1 => by
    obtain ⟨ds, h1, h2⟩ := allS_of p1
    refine ⟨?_, fun r hr => ?_⟩
    · have e := dqa_len h1
      rw [allS_len h2] at e
      rw [e]
      exact Nat.le_trans hl (by decide)
    · obtain ⟨n1, n2, n3, n4⟩ := new_over (T := T) (o := .tup vs) ap1 hr
      rw [n1]
      exact q _ _ L1 f1 n2 (g1.trans n3) (O'.mono n3.ext o1) ⟨_, ⟨ds, rfl, h2⟩, .tup (.inl upd_same) (dqa_ext n3.ext _ _ h1)⟩)
theorem db_tupOf {R : List PyData → Prop} (hm : X.mg "tuple" = none) (ha : DB T X Γ O a (tyS fun d => ∃ ds, d = .list ds ∧ R ds) O') (hg : Gl X "tuple" := by rfl) (hs : starEach [a] X.env = (false, eval a X.env) :: starEach [] X.env := by rfl) : DB T X Γ O (.Call (.Name "tuple" p) [a] [] pos) (tyS fun d => ∃ ds, d = .tuple ds ∧ R ds) O' := fun σ Hb L f ap s o Q q =>
  we_of (pe_tupleOf hg hm pe_we hs) (ha σ Hb L f ap s o _ fun v Hb1 L1 f1 ap1 g1 o1 ⟨d, ⟨ds, e, hr⟩, p1⟩ => by
    subst e
    obtain ⟨l, xs, rfl, h1, h2⟩ := dat_lst p1
    have hl : addAll Hb1 L1 l = some (.lst xs) := (ge_addAll (T := T) f1 ap1).ext _ _ h1 fun _ z => by cases z
    refine .inl ⟨l, xs, rfl, SqL.of hl, fun r hr2 => ?_⟩
    obtain ⟨n1, n2, n3, n4⟩ := new_over (T := T) (o := .tup xs) ap1 hr2
    rw [n1]
    exact q _ _ L1 f1 n2 (g1.trans n3) (O'.mono n3.ext o1) ⟨_, ⟨ds, rfl, hr⟩, .tup (.inl upd_same) (dqa_ext n3.ext _ _ h2)⟩)
/-! ### ints -/
theorem db_add {p1 p2 : Int → Prop} (ha : DB T X Γ O a (tyS (isI p1)) O2) (hb : DB T X Γ O2 b (tyS (isI p2)) O') : DB T X Γ O (.BinOp a .Add b pos) (tyS (isI fun k => ∃ i j, p1 i ∧ p2 j ∧ k = i + j)) O' := fun σ Hb L f ap s o Q q =>
  we_of (pe_op op_add pe_we pe_we) (ha σ Hb L f ap s o _ fun x Hb1 L1 f1 ap1 g1 o1 ⟨d, ⟨i, e1, h1⟩, q1⟩ => hb σ Hb1 L1 f1 ap1 (s.ext g1.ext) o1 _ fun y Hb2 L2 f2 ap2 g2 o2 ⟨d2, ⟨j, e2, h2⟩, q2⟩ => by
    subst e1 e2
    cases q1
    cases q2
    exact ⟨i, j, rfl, rfl, q _ Hb2 L2 f2 ap2 (g1.trans g2) o2 ⟨_, ⟨i + j, rfl, i, j, h1, h2, rfl⟩, .int _⟩⟩)
/-- a drawn number compared with a known one -/
theorem db_cmpI {op : CmpOp} {r : Int → Int → Bool} {R : R2} (ho : OpR X (compareOp op) R) (hR : ∀ (i j : Int) H (Q : VK), Q (.bl (r i j)) H → R (.int i) (.int j) H Q) (hm : behindInMarks op b = false) {p1 : Int → Prop} (ha : DB T X Γ O a (tyS (isI p1)) O') (hb : DX T X Γ b (dat (.int j))) : DB T X Γ O (.Compare a [op] [b] pos) (tyS (isB fun k => ∃ i, p1 i ∧ k = r i j)) O' := fun σ Hb L f ap s o Q q =>
  we_of (pe_cmpR ho pe_we pe_we hm) (ha σ Hb L f ap s o _ fun x Hb1 L1 f1 ap1 g1 o1 ⟨d, ⟨i, e1, h1⟩, q1⟩ => hb.db (O := O') σ Hb1 L1 f1 ap1 (s.ext g1.ext) o1 _ fun y Hb2 L2 f2 ap2 g2 o2 q2 => by
    subst e1
    cases q1
    cases q2
    exact hR i j _ _ (q _ Hb2 L2 f2 ap2 (g1.trans g2) o2 ⟨_, ⟨r i j, rfl, i, h1, rfl⟩, .bl _⟩))
theorem dbt_cmpI {op : CmpOp} {r : Int → Int → Bool} {R : R2} (ho : OpR X (compareOp op) R) (hR : ∀ (i j : Int) H (Q : VK), Q (.bl (r i j)) H → R (.int i) (.int j) H Q) (hm : behindInMarks op b = false) {p1 : Int → Prop} (ha : DB T X Γ O a (tyS (isI p1)) O') (hb : DX T X Γ b (dat (.int j))) : DBT T X Γ O (.Compare a [op] [b] pos) (fun k => ∃ i, p1 i ∧ k = r i j) O' := fun σ Hb L f ap s o Q q =>
  wt_of (pt_cmpR ho pe_we pe_we hm) (ha σ Hb L f ap s o _ fun x Hb1 L1 f1 ap1 g1 o1 ⟨d, ⟨i, e1, h1⟩, q1⟩ => hb.db (O := O') σ Hb1 L1 f1 ap1 (s.ext g1.ext) o1 _ fun y Hb2 L2 f2 ap2 g2 o2 q2 => by
    subst e1
    cases q1
    cases q2
    exact hR i j _ _ ⟨_, rfl, q _ Hb2 L2 f2 ap2 (g1.trans g2) o2 ⟨i, h1, rfl⟩⟩)
theorem hR_eq (i j : Int) (H : Hp) (Q : VK) (q : Q (.bl (decide (i = j))) H) : rEq (.int i) (.int j) H Q := by
  have e : decide (V.int i = V.int j) = decide (i = j) := by
    rw [Bool.eq_iff_iff]
    simp
  refine ⟨rfl, ?_⟩
  rw [e]
  exact q
theorem dbt_eqI {p1 : Int → Prop} (ha : DB T X Γ O a (tyS (isI p1)) O') (hb : DX T X Γ b (dat (.int j))) : DBT T X Γ O (.Compare a [.Eq] [b] pos) (fun k => ∃ i, p1 i ∧ k = decide (i = j)) O' := dbt_cmpI op_eq (fun i j H Q q => hR_eq i j H Q q) (nomark _) ha hb
theorem db_eqI {p1 : Int → Prop} (ha : DB T X Γ O a (tyS (isI p1)) O') (hb : DX T X Γ b (dat (.int j))) : DB T X Γ O (.Compare a [.Eq] [b] pos) (tyS (isB fun k => ∃ i, p1 i ∧ k = decide (i = j))) O' := db_cmpI op_eq (fun i j H Q q => hR_eq i j H Q q) (nomark _) ha hb
theorem dbt_gtI {p1 : Int → Prop} (ha : DB T X Γ O a (tyS (isI p1)) O') (hb : DX T X Γ b (dat (.int j))) : DBT T X Γ O (.Compare a [.Gt] [b] pos) (fun k => ∃ i, p1 i ∧ k = decide (j < i)) O' := dbt_cmpI op_gt (fun i j H Q q => ⟨i, j, rfl, rfl, q⟩) (nomark _) ha hb
/-! ### and, as a test -/
def DBW (T : List NTab) (X : Cx) (Γ : Gam) (O : OS) (e : Expr) (B : Bool → Prop) (O' : OS) : Prop := ∀ σ Hb L, Fr L → Apart Hb L → Sat Γ σ Hb → O.P Hb L → ∀ Q : Bool → Hp → Prop, (∀ k Hb' L', Fr L' → Apart Hb' L' → Ge T Hb Hb' → O'.P Hb' L' → B k → Q k (addAll Hb' L')) → WW X e σ (addAll Hb L) Q
theorem dbw_one {op : BoolOp} (h : DBT T X Γ O a B O') : DBW T X Γ O (.BoolOp op [a] pos) B O' := fun σ Hb L f ap s o Q q => by
  cases op with
  | And => exact ww_of (pw_and1 pt_wt) (h σ Hb L f ap s o Q q)
  | Or => exact ww_of (pw_or1 pt_wt) (h σ Hb L f ap s o Q q)
/-- a and b: a known -/
theorem dbw_and {k : Bool} {es : List Expr} (ha : DBT T X Γ O a (· = k) O) (hb : k = true → DBW T X Γ O (.BoolOp .And (b :: es) pos) B O) (hB : k = false → B false) : DBW T X Γ O (.BoolOp .And (a :: b :: es) pos) B O := fun σ Hb L f ap s o Q q =>
  ww_of (pw_and pt_wt pw_ww) (ha σ Hb L f ap s o _ fun k' Hb1 L1 f1 ap1 g1 o1 e => by
    subst e
    cases k' with
    | true => exact iteT (hb rfl σ Hb1 L1 f1 ap1 (s.ext g1.ext) o1 Q fun k Hb2 L2 f2 ap2 g2 o2 h2 => q k Hb2 L2 f2 ap2 (g1.trans g2) o2 h2)
    | false => exact iteF (q false Hb1 L1 f1 ap1 g1 o1 (hB rfl)))
theorem DBW.dt (h : DBW T X Γ O e B O') : DBT T X Γ O e B O' := fun σ Hb L f ap s o Q q pins sh I => h σ Hb L f ap s o Q q _ pins sh I
theorem db_any {bs : List Bool} (hc : X.calm = true) (hm : X.mg "any" = none) (ha : DB T X Γ O a (dat (.list (bs.map .bool))) O') (hg : Gl X "any" := by rfl) (hs : starEach [a] X.env = (false, eval a X.env) :: starEach [] X.env := by rfl) (hpl : (backTo pos (starEach [] X.env)).any (·.1) = false := by rfl) : DB T X Γ O (.Call (.Name "any" p) [a] [] pos) (dat (.bool (bs.any id))) O' := fun σ Hb L f ap s o Q q =>
  we_of (pe_callB (cr_any hc) hg hm (by decide +kernel) (pa_cons pe_we pa_nil hs) (by decide) (by decide) hs hpl) (ha σ Hb L f ap s o _ fun v Hb1 L1 f1 ap1 g1 o1 p1 => by
    obtain ⟨l, xs, rfl, h1, h2⟩ := dat_lst p1
    cases dqa_bls h2
    exact ⟨l, bs, rfl, SqL.of ((ge_addAll (T := T) f1 ap1).ext _ _ h1 fun _ z => by cases z), q _ Hb1 L1 f1 ap1 g1 o1 (.bl _)⟩)
theorem dbt_val {k : Bool} (ha : DB T X Γ O a (dat (.bool k)) O') (he : ∀ whole, isTrue a X.env whole = (do let v ← whole; standAt a.pos; holding [v] (truthy v)) := by intro _; rfl) : DBT T X Γ O a (· = k) O' := fun σ Hb L f ap s o Q q =>
  wt_of (pt_val pe_we he) (ha σ Hb L f ap s o _ fun x Hb1 L1 f1 ap1 g1 o1 p1 => ⟨k, dat_bl p1, q k Hb1 L1 f1 ap1 g1 o1 rfl⟩)
theorem dbt_not {k : Bool} (ha : DBT T X Γ O a (· = k) O') : DBT T X Γ O (.UnaryOp .Not a pos) (· = !k) O' := fun σ Hb L f ap s o Q q => wt_of (pt_not pt_wt) (ha σ Hb L f ap s o _ fun k' Hb1 L1 f1 ap1 g1 o1 e => by subst e; exact q (!k') Hb1 L1 f1 ap1 g1 o1 rfl)
theorem allS_eq {α : Type} {r : α → PyData} : ∀ {xs : List α} {ds : List PyData}, AllS (xs.map fun x d => d = r x) ds → ds = xs.map r
  | [], [], _ => rfl
  | x :: xs, d :: ds, h => by
    rw [List.map_cons, ← allS_eq h.2, h.1]
  | [], _ :: _, h => h.elim
  | _ :: _, [], h => h.elim
/-! ### what is owned is read -/
theorem db_lenOwn {l : Addr} {ds : List PyData} (hO : OwnAt O l ds) (hm : X.mg "len" = none) (ha : DX T X Γ a (tyv (.ref l))) (hg : Gl X "len" := by rfl) (hs : starEach [a] X.env = (false, eval a X.env) :: starEach [] X.env := by rfl) (hpl : (backTo pos (starEach [] X.env)).any (·.1) = false := by rfl) : DB T X Γ O (.Call (.Name "len" p) [a] [] pos) (dat (.int ds.length)) O := fun σ Hb L f ap s o Q q =>
  we_of (pe_callB call_len_seq hg hm PySem.boot_len (pa_cons pe_we pa_nil hs) (by decide) (by decide) hs hpl) (ha.db (O := O) σ Hb L f ap s o _ fun v Hb1 L1 f1 ap1 g1 o1 p1 => by
    have p1 : v = .ref l := p1
    subst p1
    obtain ⟨vs, h1, h2⟩ := hO _ _ o1
    refine ⟨l, vs, rfl, .inl (SqL.of (addAll_at f1 h1)), ?_⟩
    rw [dqa_len h2]
    exact q _ Hb1 L1 f1 ap1 g1 o1 (.int _))
/-- own[drawn] -/
theorem db_ixOwn {l : Addr} {ds : List PyData} {p1 : Int → Prop} (hO : OwnAt O' l ds) (ha : DX T X Γ a (tyv (.ref l))) (hb : DB T X Γ O b (tyS (isI p1)) O') (hix : ∀ i, p1 i → ∃ d, atI ds i = some d ∧ S d) (hs : PlainIx b := by intro _ _; rfl) : DB T X Γ O (.Subscript a b pos) (tyS S) O' := fun σ Hb L f ap s o Q q =>
  we_of (pe_ix ix_list pe_we pe_we hs) (ha.db (O := O) σ Hb L f ap s o _ fun v Hb1 L1 f1 ap1 g1 o1 pv => hb σ Hb1 L1 f1 ap1 (s.ext g1.ext) o1 _ fun y Hb2 L2 f2 ap2 g2 o2 ⟨d, ⟨i, e1, h1⟩, q1⟩ => by
    have pv : v = .ref l := pv
    subst pv e1
    cases q1
    obtain ⟨vs, h2, h3⟩ := hO _ _ o2
    obtain ⟨d, e2, hS⟩ := hix i h1
    obtain ⟨w, h4, h5⟩ := atI_dq h3 e2
    exact ⟨l, vs, i, w, rfl, rfl, SqL.of (addAll_at f2 h2), h4, q w Hb2 L2 f2 ap2 (g1.trans g2) o2 ⟨d, hS, h5⟩⟩)
/-- known[drawn] -/
theorem db_ixL {ds : List PyData} {p1 : Int → Prop} (ha : DX T X Γ a (dat (.list ds))) (hb : DB T X Γ O b (tyS (isI p1)) O') (hix : ∀ i, p1 i → ∃ d, atI ds i = some d ∧ S d) (hs : PlainIx b := by intro _ _; rfl) : DB T X Γ O (.Subscript a b pos) (tyS S) O' := fun σ Hb L f ap s o Q q =>
  we_of (pe_ix ix_list pe_we pe_we hs) (ha.db (O := O) σ Hb L f ap s o _ fun v Hb1 L1 f1 ap1 g1 o1 pv => hb σ Hb1 L1 f1 ap1 (s.ext g1.ext) o1 _ fun y Hb2 L2 f2 ap2 g2 o2 ⟨d, ⟨i, e1, h1⟩, q1⟩ => by
    subst e1
    cases q1
    obtain ⟨l, xs, rfl, h2, h3⟩ := dat_lst ((dat (.list ds)).mono g2.ext pv)
    obtain ⟨d, e2, hS⟩ := hix i h1
    obtain ⟨w, h4, h5⟩ := atI_dq h3 e2
    exact ⟨l, xs, i, w, rfl, rfl, SqL.of ((ge_addAll (T := T) f2 ap2).ext _ _ h2 fun _ z => by cases z), h4, q w Hb2 L2 f2 ap2 (g1.trans g2) o2 ⟨d, hS, h5⟩⟩)
theorem db_ixS {z : Str} {p1 : Int → Prop} (ha : DX T X Γ a (dat (.str z))) (hb : DB T X Γ O b (tyS (isI p1)) O') (hz : z.length ≤ sizeLine) (hix : ∀ i, p1 i → ∃ c, atI z.cps.toList i = some c ∧ S (.str ⟨#[c]⟩)) (hs : PlainIx b := by intro _ _; rfl) : DB T X Γ O (.Subscript a b pos) (tyS S) O' := fun σ Hb L f ap s o Q q =>
  we_of (pe_ix ix_str pe_we pe_we hs) (ha.db (O := O) σ Hb L f ap s o _ fun v Hb1 L1 f1 ap1 g1 o1 pv => hb σ Hb1 L1 f1 ap1 (s.ext g1.ext) o1 _ fun y Hb2 L2 f2 ap2 g2 o2 ⟨d, ⟨i, e1, h1⟩, q1⟩ => by
    subst e1
    cases q1
    cases dat_str pv
    obtain ⟨c, e2, hS⟩ := hix i h1
    exact ⟨z, i, c, rfl, rfl, hz, e2, q _ Hb2 L2 f2 ap2 (g1.trans g2) o2 ⟨_, hS, .str _⟩⟩)
/-- own.append(e) -/
theorem fb_app {l : Addr} {ds : List PyData} {d : PyData} (c : FC T Hin Γ (oC l ds O) σ H) (hl : ds.length ≤ 100000) (ho : DX T X Γ eb (tyv (.ref l))) (h : DX T X Γ e (dat d)) (kk : ∀ H', FC T Hin Γ (oC l (ds ++ [d]) O) σ H' → WSs X rest D σ H')
    (hbase : attributeBase eb "append" X.env (eval eb X.env) = eval eb X.env := by rfl)
    (hfew : ((backTo pos (starEach (e :: []) X.env)).all (fun x => !x.1) && (backToKw pos (keywordEach [] X.env)).all (fun x => x.1.isSome)
      && decide ((e :: []).length + ([] : List Keyword).length + (if ([] : List Keyword).isEmpty then 0 else 1) < 30)) = true := by rfl)
    (hline : (apos.endLine == pos.line) = true := by rfl) (hs : starEach (e :: []) X.env = (false, eval e X.env) :: starEach [] X.env := by rfl)
    (hsw : swapsWith (.Call (.Attribute eb "append" apos) [e] [] pos) none p2.line X.env = pure false := by rfl) : WSs X (.Expr (.Call (.Attribute eb "append" apos) [e] [] pos) p2 :: rest) D σ H := by
  have hsl : sizeLine > 100000 := by decide
  refine fs_cons (ws_of (ps_expr (pe_bm PySem.F.plainAttrs_list PySem.F.slot_list_append PySem.F.type_list_append mt_append pe_we (pa_cons pe_we pa_nil hs) hbase hfew hline hs rfl) hsw) (fc_we c ho fun v H1 c1 => ?_))
  obtain ⟨Hb, L, eH, f, ap, g, s, ⟨vs, L', eL, h2, h3⟩, pv⟩ := id c1
  have pv : v = .ref l := pv
  subst pv eH eL
  refine ⟨.inl ⟨rfl, _, .inl (.inl (show addAll Hb ((l, HO.lst vs) :: L') l = some (.lst vs) from upd_same))⟩, fc_we c1.fc h fun w H' c' => ?_⟩
  obtain ⟨Hb', L2, rfl, f', ap', g', s', ⟨vs', L'', rfl, h2', h3'⟩, p'⟩ := c'
  have hlen := dqa_len h2'
  refine ⟨l, vs', w, rfl, rfl, upd_same, by omega, kk _ ⟨Hb', (l, .lst (vs' ++ [w])) :: L'', ?_, ⟨f'.nd, fun q hq => ?_⟩, fun q hq => ?_, g', s', ⟨_, L'', rfl, dqa_app h2' (.cons p' .nil), h3'⟩, trivial⟩⟩
  · show upd (upd (addAll Hb' L'') l (.lst vs')) l _ = upd (addAll Hb' L'') l _
    exact upd_upd
  · rcases List.mem_cons.mp hq with z | z
    · rw [z]
      rfl
    · exact f'.pl q (List.mem_cons_of_mem _ z)
  · rcases List.mem_cons.mp hq with z | z
    · rw [z]
      exact ap' (l, .lst vs') List.mem_cons_self
    · exact ap' q (List.mem_cons_of_mem _ z)
/-! ### what is walked -/
/-- .. what is walked may be owned -/
structure StepsO (T : List NTab) (J : It) (H0 : Hp) (O : OS) (ts : List Ty) : Prop where
  go : ∀ (i : Nat) (t : Ty), ts[i]? = some t → ∀ (M L : List (Addr × HO)) (Hb : Hp), Fr (M ++ L) → Apart Hb (M ++ L) → Ge T H0 Hb → O.P Hb L → J.go i (addAll Hb (M ++ L)) ∧ ∀ x H'', J.yld i (addAll Hb (M ++ L)) x H'' → ∃ Hc, H'' = addAll Hc (M ++ L) ∧ Apart Hc (M ++ L) ∧ Ge T Hb Hc ∧ t.P x Hc
  stop : ∀ (M L : List (Addr × HO)) (Hb : Hp), Fr (M ++ L) → Apart Hb (M ++ L) → Ge T H0 Hb → O.P Hb L → J.stop ts.length (addAll Hb (M ++ L))
theorem Steps.o {J : It} {H0 : Hp} {ts : List Ty} (s : Steps T J H0 ts) : StepsO T J H0 O ts := ⟨fun i t e M L Hb f ap g _ => s.go i t e (M ++ L) Hb f ap g, fun M L Hb f ap g _ => s.stop (M ++ L) Hb f ap g⟩
def DBI {α : Type} (T : List NTab) (X : Cx) (Γ : Gam) (O : OS) (tg iter : Expr) (C : List α → Prop) (τ : α → Ty) (O' : OS) : Prop := ∀ σ Hb L, Fr L → Apart Hb L → Sat Γ σ Hb → O.P Hb L → ∀ R : It → Hp → Prop, (∀ J xs Hb' L', Fr L' → Apart Hb' L' → Ge T Hb Hb' → O'.P Hb' L' → C xs → StepsO T J Hb' O' (xs.map τ) → R J (addAll Hb' L')) → WI X tg iter σ (addAll Hb L) R
theorem DI.dbi {α : Type} {xs : List α} {τ : α → Ty} (h : DI T X Γ tg iter (xs.map τ)) : DBI T X Γ O tg iter (· = xs) τ O := fun σ Hb L f ap s o R q =>
  wi_frame f ap (h σ Hb s _ fun J H1 g1 st ap1 => q J xs H1 L f ap1 g1 (O.mono g1.ext o) rfl st.o)
theorem dbi_range {N : Nat} (hm : X.mg "range" = none) (hN : N ≤ 1000000) (h : DB T X Γ O a (tyS (ltN N)) O') (hg : Gl X "range" := by rfl) (hs : starEach [a] X.env = [(false, eval a X.env)] := by rfl) : DBI T X Γ O tg (.Call (.Name "range" p) [a] [] pos) (fun xs => ∃ n, n < N ∧ xs = List.range n) (fun k : Nat => dat (.int (k : Int))) O' := fun σ Hb L f ap s o R q =>
  wi_of (pi_range1 hg hm (pa_cons pe_we pa_nil hs) hs) (h σ Hb L f ap s o _ fun v Hb1 L1 f1 ap1 g1 o1 ⟨d, ⟨n, e1, h1⟩, q1⟩ => by
    subst e1
    cases q1
    refine ⟨(n : Int), rfl, by omega, by omega, ?_⟩
    rw [Int.toNat_natCast]
    refine q _ (List.range n) Hb1 L1 f1 ap1 g1 o1 ⟨n, h1, rfl⟩ ?_
    have z := steps_range (T := T) (H := Hb1) (lo := 0) (n := n)
    have e : ((List.range n).map fun (k : Nat) => dat (.int (0 + (k : Int)))) = (List.range n).map fun (k : Nat) => dat (.int (k : Int)) := List.map_congr_left fun k _ => by rw [Int.zero_add]
    rw [e] at z
    exact z.o)
/-- an owned list is walked -/
theorem dbi_own {α : Type} {l : Addr} {xs : List α} {r : α → PyData} (hO : OwnAt O l (xs.map r)) (h : DX T X Γ iter (tyv (.ref l))) : DBI T X Γ O tg iter (· = xs) (fun x => dat (r x)) O := fun σ Hb L f ap s o R q =>
  wi_of (pi_list pe_we) (h.db (O := O) σ Hb L f ap s o _ fun v Hb1 L1 f1 ap1 g1 o1 pv => by
    have pv : v = .ref l := pv
    subst pv
    obtain ⟨vs, h1, h2⟩ := hO _ _ o1
    refine ⟨l, rfl, ⟨vs, SqL.of (addAll_at f1 h1)⟩, q _ xs Hb1 L1 f1 ap1 g1 o1 rfl ⟨fun i t e M L2 Hb2 f2 ap2 g2 o2 => ?_, fun M L2 Hb2 f2 ap2 g2 o2 => ?_⟩⟩
    · obtain ⟨ws, h3, h4⟩ := hO _ _ o2
      have hl : addAll Hb2 (M ++ L2) l = some (.lst ws) := addAll_at f2 (List.mem_append_right _ h3)
      rw [List.getElem?_map] at e
      obtain ⟨x, e1, rfl⟩ := Option.map_eq_some_iff.mp e
      obtain ⟨v, hv, pv⟩ := dqa_get h4 (show (xs.map r)[i]? = some (r x) by rw [List.getElem?_map, e1]; rfl)
      refine ⟨⟨ws, v, SqL.of hl, hv⟩, fun y H'' hy => ⟨Hb2, hy.1, ap2, Ge.refl _, ?_⟩⟩
      have e2 := hy.2 ws (SqL.of hl)
      rw [hv] at e2
      cases e2
      exact pv
    · obtain ⟨ws, h3, h4⟩ := hO _ _ o2
      exact ⟨ws, SqL.of (addAll_at f2 (List.mem_append_right _ h3)), by rw [List.length_map, dqa_len h4, List.length_map]; exact Nat.le_refl _⟩)
/-! ### comprehensions that draw -/
section
variable {α : Type} {C : List α → Prop} {τ : α → Ty} {js : List Nat} {tt : TT} {scope : Scope} {G1 : α → Gam} {own : List (Str × Nat)} {vs : List Nat} {Sx : α → PyData → Prop} {Bx : α → Bool → Prop} {R : List α → List PyData → Prop}
theorem lcB_go (hi : DBI T X Γ O tg iter C τ O') (hl : ∀ xs, C xs → xs.length ≤ 100000)
    (hg : ∀ x s H0 Cc cl fp, DG (X.blk s H0 scope (compEnvC scope cl Cc X.env) fp) tg (τ x) (wipeG Γ vs) (G1 x) js) (hjs : ∀ j ∈ js, j ∈ vs)
    (ht : ∀ x σ Hb M L, Sat (G1 x) σ Hb → Fr (M ++ L) → Apart Hb (M ++ L) → O'.P Hb L → ∀ Q : Bool → Hp → Prop, (∀ k Hb' L', Fr (M ++ L') → Apart Hb' (M ++ L') → Ge T Hb Hb' → O'.P Hb' L' → Bx x k → Q k (addAll Hb' (M ++ L'))) → tt σ (addAll Hb (M ++ L)) Q)
    (he : ∀ x s H0 Cc cl fp, DB T (X.blk s H0 scope (compEnvC scope cl Cc X.env) fp) (G1 x) O' elt (tyS (Sx x)) O')
    (h0 : R [] []) (hF : ∀ xs x ds, R xs ds → Bx x false → R (xs ++ [x]) ds) (hT : ∀ xs x ds d, R xs ds → Bx x true → Sx x d → R (xs ++ [x]) (ds ++ [d])) (hR : ∀ xs ds, R xs ds → ds.length ≤ xs.length) :
    ∀ σ Hb L, Fr L → Apart Hb L → Sat Γ σ Hb → O.P Hb L → ∀ Q : VK, (∀ v Hb' L', Fr L' → Apart Hb' L' → Ge T Hb Hb' → O'.P Hb' L' → (tyS fun d => ∃ xs ds, d = .list ds ∧ C xs ∧ R xs ds).P v Hb' → Q v (addAll Hb' L')) → tLc (WI X tg iter) (WGb X scope tg) tt (WEb X scope elt) vs σ (addAll Hb L) Q := by
  intro σ Hb L f ap s o Q q
  refine hi σ Hb L f ap s o _ fun J xs H1 L1 f1 ap1 g1 o1 hC st D hD => ?_
  have hxl := hl xs hC
  obtain ⟨hD1, hD2⟩ := addAll_none hD
  refine ⟨fun n m H2 => m = xs.length - n ∧ n ≤ xs.length ∧ ∃ Hc Lc ws ds, H2 = addAll Hc ((D, .lst ws) :: Lc) ∧ Fr ((D, .lst ws) :: Lc) ∧ Apart Hc ((D, .lst ws) :: Lc) ∧ Ge T H1 Hc ∧ O'.P Hc Lc ∧ DqAll Hc ws ds ∧ R (xs.take n) ds, ⟨xs.length, by simp, Nat.zero_le _, H1, L1, [], [], rfl, ⟨List.nodup_cons.mpr ⟨hD2, f1.nd⟩, fun q hq => ?_⟩, fun q hq => ?_, Ge.refl _, o1, .nil, by rw [List.take_zero]; exact h0⟩, ?_⟩
  · rcases List.mem_cons.mp hq with z | z
    · rw [z]; rfl
    · exact f1.pl q z
  · rcases List.mem_cons.mp hq with z | z
    · rw [z]; exact hD1
    · exact ap1 q z
  rintro n m H2 ⟨rfl, hn, Hc, Lc, ws, ds, rfl, fc, apc, gc, oc, dq, hr⟩
  by_cases hlt : n < xs.length
  · have e : xs[n]? = some xs[n] := List.getElem?_eq_getElem hlt
    have em : (xs.map τ)[n]? = some (τ xs[n]) := by rw [List.getElem?_map, e]; rfl
    have et : xs.take (n + 1) = xs.take n ++ [xs[n]] := by rw [List.take_succ, e]; rfl
    generalize xs[n] = x at e em et
    obtain ⟨go, y⟩ := st.go n _ em [(D, .lst ws)] Lc Hc fc apc gc oc
    refine .inr ⟨go, fun H' => ∃ Hc Lc ws ds, H' = addAll Hc ((D, .lst ws) :: Lc) ∧ Fr ((D, .lst ws) :: Lc) ∧ Apart Hc ((D, .lst ws) :: Lc) ∧ Ge T H1 Hc ∧ O'.P Hc Lc ∧ DqAll Hc ws ds ∧ R (xs.take (n + 1)) ds, fun H' z => ⟨xs.length - (n + 1), by omega, rfl, hlt, z⟩, fun v H' hy s0 H0 C0 cl fp => ?_⟩
    obtain ⟨He, rfl, ape, ge, px⟩ := y v H' hy
    have sc : Sat (wipeG Γ vs) (L2.wipe σ vs) He := (s.ext (g1.trans (gc.trans ge)).ext).wipe vs
    refine hg x s0 H0 C0 cl fp v _ He _ (ge_addAll (T := T) fc ape).ext px sc _ fun σ2 s2 out => ⟨wipe_of_out hjs out, ?_⟩
    refine ht x σ2 He [(D, .lst ws)] Lc s2 fc ape (O'.mono ge.ext oc) _ fun k H3 L3 f3 ap3 g3 o3 hk => ?_
    have d3 := dqa_ext (ge.trans g3).ext _ _ dq
    cases k with
    | false =>
      refine iteF ⟨H3, L3, ws, ds, rfl, f3, ap3, gc.trans (ge.trans g3), o3, d3, ?_⟩
      rw [et]
      exact hF _ _ _ hr hk
    | true =>
      refine iteT fun s4 H4 C4 cl4 fp4 => db_frame (he x s4 H4 C4 cl4 fp4) (M := [(D, .lst ws)]) f3 ap3 (s2.ext g3.ext) o3 fun w H5 L5 f5 ap5 g5 o5 ⟨d, hd, pw⟩ => ?_
      have d5 := dqa_ext g5.ext _ _ d3
      have hlen := dqa_len d5
      have hrl := hR _ _ hr
      rw [List.length_take] at hrl
      refine ⟨ws, upd_same, Nat.lt_of_le_of_lt (show ws.length ≤ 100000 by omega) (by decide), H5, L5, ws ++ [w], ds ++ [d], upd_upd, ⟨f5.nd, fun q hq => ?_⟩, fun q hq => ?_, gc.trans (ge.trans (g3.trans g5)), o5, dqa_app d5 (.cons pw .nil), ?_⟩
      · rcases List.mem_cons.mp hq with z | z
        · rw [z]; rfl
        · exact f5.pl q (List.mem_cons_of_mem _ z)
      · rcases List.mem_cons.mp hq with z | z
        · rw [z]; exact ap5 (D, .lst ws) List.mem_cons_self
        · exact ap5 q (List.mem_cons_of_mem _ z)
      · rw [et]
        exact hT _ _ _ _ hr hk hd
  · have e : n = xs.length := by omega
    subst e
    have hm : (xs.map τ).length = xs.length := List.length_map _
    obtain ⟨fL, apL⟩ : Fr Lc ∧ Apart Hc Lc := ⟨fc.tail, fun p hp => apc p (List.mem_cons_of_mem _ hp)⟩
    have hDn : D ∉ Lc.map (·.1) := (List.nodup_cons.mp fc.nd).1
    have hD0 : Hc D = none := apc (D, .lst ws) List.mem_cons_self
    rw [List.take_of_length_le (Nat.le_refl _)] at hr
    refine .inl ⟨hm ▸ st.stop [(D, .lst ws)] Lc Hc fc apc gc oc, ?_⟩
    show Q (.ref D) (upd (addAll Hc Lc) D (.lst ws))
    rw [addAll_upd hDn]
    have gn : Ge T Hc (upd Hc D (.lst ws)) := Ge.new hD0
    refine q _ _ Lc fL (fun p hp => ?_) (g1.trans (gc.trans gn)) (O'.mono gn.ext oc) ⟨_, ⟨xs, ds, rfl, hC, hr⟩, .lst upd_same (dqa_ext gn.ext _ _ dq)⟩
    have np : p.1 ≠ D := fun z => hDn (z ▸ List.mem_map.mpr ⟨p, hp, rfl⟩)
    rw [upd_ne np]
    exact apL p hp
/-- [elt for tg in iter] -/
theorem db_lc (own : List (Str × Nat)) (nd : X.N.Nodup) (hc : X.calm = true) (ok : blkC X.N X.env.scope scope own = true) (hi : DBI T X Γ O tg iter C τ O') (hl : ∀ xs, C xs → xs.length ≤ 100000)
    (hg : ∀ x s H0 Cc cl fp, DG (X.blk s H0 scope (compEnvC scope cl Cc X.env) fp) tg (τ x) (wipeG Γ (own.map (·.2))) (G1 x) js)
    (he : ∀ x s H0 Cc cl fp, DB T (X.blk s H0 scope (compEnvC scope cl Cc X.env) fp) (G1 x) O' elt (tyS (Sx x)) O') (hjs : ∀ j ∈ js, j ∈ own.map (·.2) := by decide) (hs : ∀ x, foldedSetIterable iter X.env x = pure x := by intro _; rfl) :
    DB T X Γ O (.ListComp elt [⟨tg, iter, [], 0⟩] scope pos) (tyS fun d => ∃ xs ds, d = .list ds ∧ C xs ∧ AllS (xs.map Sx) ds) O' := fun σ Hb L f ap s o Q q =>
  we_of (pe_lc (tt := tYes) (te := WEb X scope elt) (g := WGb X scope tg) hc nd pi_wi (blkOk_by ok) (fun s H C cl fp => ⟨fun pins s1 σ H v u Q I r h => h s _ C cl fp pins s1 u I r⟩) (fun s H C cl fp => pts_nil) (fun s H C cl fp => ⟨fun pins s1 σ H1 Q I h => h s H C cl fp pins s1 I⟩) hs)
    (lcB_go (Bx := fun _ k => k = true) (R := fun xs ds => AllS (xs.map Sx) ds) hi hl hg hjs (fun x σ Hb M L s f ap o Q q => q true Hb L f ap (Ge.refl _) o rfl) he trivial (fun _ _ _ _ z => by cases z) (fun xs x ds d h _ hd => by
      have go : ∀ (xs : List α) (ds : List PyData), AllS (xs.map Sx) ds → AllS ((xs ++ [x]).map Sx) (ds ++ [d]) := by
        intro xs
        induction xs with
        | nil =>
          intro ds h
          cases ds with
          | nil => exact ⟨hd, trivial⟩
          | cons _ _ => exact h.elim
        | cons y ys ih =>
          intro ds h
          cases ds with
          | nil => exact h.elim
          | cons e es => exact ⟨h.1, ih es h.2⟩
      exact go xs ds h) (fun xs ds h => by rw [allS_len h, List.length_map]; exact Nat.le_refl _) σ Hb L f ap s o Q q)
/-- [elt for tg in iter if c], elt known -/
theorem db_lcIf {r : α → PyData} (own : List (Str × Nat)) (nd : X.N.Nodup) (hc : X.calm = true) (ok : blkC X.N X.env.scope scope own = true) (hi : DBI T X Γ O tg iter C τ O') (hl : ∀ xs, C xs → xs.length ≤ 100000)
    (hg : ∀ x s H0 Cc cl fp, DG (X.blk s H0 scope (compEnvC scope cl Cc X.env) fp) tg (τ x) (wipeG Γ (own.map (·.2))) (G1 x) js)
    (ht : ∀ x s H0 Cc cl fp, DBT T (X.blk s H0 scope (compEnvC scope cl Cc X.env) fp) (G1 x) O' c (Bx x) O')
    (he : ∀ x s H0 Cc cl fp, DX T (X.blk s H0 scope (compEnvC scope cl Cc X.env) fp) (G1 x) elt (dat (r x))) (hjs : ∀ j ∈ js, j ∈ own.map (·.2) := by decide) (hs : ∀ x, foldedSetIterable iter X.env x = pure x := by intro _; rfl) :
    DB T X Γ O (.ListComp elt [⟨tg, iter, [c], 0⟩] scope pos) (tyS fun d => ∃ (xs ys : List α), d = .list (ys.map r) ∧ C xs ∧ ys.Sublist xs) O' := fun σ Hb L f ap s o Q q =>
  we_of (pe_lc (tt := WTb X scope c) (te := WEb X scope elt) (g := WGb X scope tg) hc nd pi_wi (blkOk_by ok) (fun s H C cl fp => ⟨fun pins s1 σ H v u Q I r h => h s _ C cl fp pins s1 u I r⟩) (fun s H C cl fp => pts_one ⟨fun pins s1 σ H1 Q I h => h s H C cl fp pins s1 I⟩) (fun s H C cl fp => ⟨fun pins s1 σ H1 Q I h => h s H C cl fp pins s1 I⟩) hs)
    (lcB_go (Bx := Bx) (Sx := fun x d => r x = d) (R := fun xs ds => ∃ ys : List α, ds = ys.map r ∧ ys.Sublist xs) hi hl hg hjs (fun x σ Hb M L s f ap o Q q s0 H0 C0 cl fp => dbt_frame (ht x s0 H0 C0 cl fp) f ap s o q) (fun x s0 H0 C0 cl fp => (dx_tyS (he x s0 H0 C0 cl fp) rfl).db) ⟨[], rfl, List.Sublist.refl _⟩ (fun xs x ds ⟨ys, h1, h2⟩ _ => ⟨ys, h1, h2.trans (List.sublist_append_left _ _)⟩) (fun xs x ds d ⟨ys, h1, h2⟩ _ hd => ⟨ys ++ [x], by rw [h1, ← hd, List.map_append]; rfl, h2.append (List.Sublist.refl _)⟩) (fun xs ds ⟨ys, h1, h2⟩ => by rw [h1, List.length_map]; exact h2.length_le) σ Hb L f ap s o Q fun v Hb' L' f' ap' g' o' ⟨d, ⟨xs, ds, e1, hC, ys, e2, hsub⟩, p⟩ => q v Hb' L' f' ap' g' o' ⟨d, ⟨xs, ys, by rw [e1, e2], hC, hsub⟩, p⟩)
end
end
end G
set_option Elab.async false
set_option linter.all false
set_option maxRecDepth 100000
set_option maxHeartbeats 1000000
set_option pp.maxSteps 400
namespace G
open PySem PySem.Spec L2 LamX NdefX
local macro_rules | `(tactic| fail "sub") => `(tactic| first | exact Sub.nil | (refine Sub.drop ?_; fail "sub") | (refine Sub.same ?_; fail "sub"))
local macro_rules | `(tactic| fail "side") => `(tactic| first | assumption | rfl | omega | decide)
def ppD (ps : List (Nat × Nat)) : PyData := .tuple (ps.map pD)
section
variable {T : List NTab} {X : Cx} {Γ : Gam} {O O' : OS} {e o : Expr} {es : List Expr} {pos apos : Pos} {C fa : Addr}
theorem db_meth {ι : Type} {args : ι → List Ty} {pre post : ι → OS} {res : ι → Ty} {k j : Nat} {m : Str} {t0 t : Ty} {ts : List Ty} {pl : Sem Bool} (c : C8.Met X.prog X.w X.K X.mg X.base k C m (spB T args pre res post) []) (hr : Room j X.A) (i : ι) (ho : DX T X Γ o t0) (ha : DBA T X Γ O (e :: es) ts (pre i)) (hargs : args i = t0 :: ts) (ht : res i = t) (hpo : post i = O')
    (hin : ∀ v H, t0.P v H → ∃ a dx fs, v = .ref a ∧ H a = some (.ins C dx fs) ∧ fs.lookup m = none) (hk : k ≤ j := by first | decide | omega)
    (hst : starEach (e :: es) X.env = (false, eval e X.env) :: starEach es X.env := by rfl) (hpl : (backTo pos (starEach es X.env)).any (·.1) = false := by rfl)
    (hev : eval (.Call (.Attribute o m apos) (e :: es) [] pos) X.env = (do
      let ov ← eval o X.env
      standAt apos.atName
      let (f, first) ← holding [ov] (getMethod ov m pl)
      callWith pos f first (backTo pos (starEach (e :: es) X.env)) (backToKw pos (keywordEach [] X.env))) := by rfl) : DB T X Γ O (.Call (.Attribute o m apos) (e :: es) [] pos) t O' := fun σ Hb L f ap s ow Q q =>
  we_of (C8.pe_mt (pl := pl) c hr hk pe_we pa_wa hst hpl hev) (ho.db (O := O) σ Hb L f ap s ow _ fun v Hb1 L1 f1 ap1 g1 o1 p1 => by
    obtain ⟨a, dx, fs, h1, h2, h3⟩ := hin v Hb1 p1
    refine ⟨a, dx, fs, h1, (ge_addAll (T := T) f1 ap1).ext _ _ h2 (fun _ z => by cases z), h3, ha σ Hb1 L1 f1 ap1 (s.ext g1.ext) o1 _ fun vs Hb2 L2 f2 ap2 g2 o2 p2 => ⟨i, Hb2, L2, rfl, f2, ap2, ?_, o2, fun w Hb3 L3 f3 ap3 g3 o3 p3 => q w Hb3 L3 f3 ap3 ((g1.trans g2).trans g3) (hpo ▸ o3) (ht ▸ p3)⟩⟩
    rw [List.append_nil, hargs]
    exact ⟨t0.mono g2.ext p1, p2⟩)
theorem db_meth0 {ι : Type} {args : ι → List Ty} {pre post : ι → OS} {res : ι → Ty} : True := trivial
end
structure GoI where
  nm : Near
  bds : List Nat
  at_ : Nat
  taken : List Nat
  out : List Nat
  ch : List (Nat × Nat)
  found : List (List (Nat × Nat))
  O : OS
def GoI.new (i : GoI) : List (List (Nat × Nat)) := goL i.nm (i.bds.drop i.at_) i.taken i.out i.ch
structure OkGo (n : Nat) (i : GoI) : Prop where
  lev : i.bds.length ≤ i.at_ + n
  at_ : i.at_ ≤ i.bds.length
  len : i.bds.length ≤ 30
  near : OkNear i.nm
  has : ∀ b ∈ i.bds, ∃ l, look i.nm b = some l
  outh : ∀ b ∈ i.out, ∃ l, look i.nm b = some l
  tl : i.taken.length ≤ 2 * i.at_
  ol : i.out.length ≤ i.at_
  cl : i.ch.length ≤ i.at_
  few : i.found.length + i.new.length ≤ 2000
section
variable {P : Program} {w : World} {K : PySem.W.Frag} {mg : Str → Option Value} {base : Heap} {T : List NTab}
theorem srF_none {vn vb : V} {m : Int} {fa : Addr} {x : Str} (h1 : (x == ("near" : Str)) = false) (h2 : (x == ("boards" : Str)) = false) (h3 : (x == ("most" : Str)) = false) (h4 : (x == ("found" : Str)) = false) : (srF vn vb m fa).lookup x = none := by
  simp only [srF, List.lookup, h1, h2, h3, h4]
theorem srch_in {C fa : Addr} {nm : Near} {bds : List Nat} {m : Int} {x : Str} (h1 : (x == ("near" : Str)) = false := by decide +kernel) (h2 : (x == ("boards" : Str)) = false := by decide +kernel) (h3 : (x == ("most" : Str)) = false := by decide +kernel) (h4 : (x == ("found" : Str)) = false := by decide +kernel) (v : V) (H : Hp) (h : (srchT C nm bds m fa).P v H) : ∃ a dx fs, v = .ref a ∧ H a = some (.ins C dx fs) ∧ fs.lookup x = none := by
  obtain ⟨p, dx, vn, vb, e1, e2, _, _⟩ := h
  exact ⟨p, dx, _, e1, e2, srF_none h1 h2 h3 h4⟩
theorem goL_cons_in {nm : Near} {b : Nat} {bs taken out : List Nat} {ch : List (Nat × Nat)} (h : b ∈ taken) : goL nm (b :: bs) taken out ch = goL nm bs taken out ch := by rw [goL, if_pos h]
theorem goL_cons_out {nm : Near} {b : Nat} {bs taken out : List Nat} {ch : List (Nat × Nat)} (h : b ∉ taken) : goL nm (b :: bs) taken out ch = ((nb nm b).filter fun o => decide (b < o) && !decide (o ∈ taken) && !decide (o ∈ out)).flatMap (fun o => goL nm bs (taken ++ [b, o]) out (ch ++ [(b, o)]))
      ++ (if stuck nm taken (out ++ [b]) = true then [] else goL nm bs taken (out ++ [b]) ch) := by rw [goL, if_neg h]
/-- the place of a whole number among its list's items -/
theorem atI_cs {l : List Nat} {i b : Nat} (h : l[i]? = some b) : atI ((cs l).map PyData.int) (i : Int) = some (.int (b : Nat)) := by
  refine atI_nat ?_
  unfold cs
  rw [List.getElem?_map, List.getElem?_map, h]
  rfl
abbrev goArgs (C fa : Addr) (i : GoI) : List Ty := [srchT C i.nm i.bds 2000 fa, dat (.int (i.at_ : Nat)), dat (.list ((cs i.taken).map .int)), dat (.list ((cs i.out).map .int)), dat (.list (i.ch.map pD))]
abbrev goPre (fa : Addr) (i : GoI) : OS := oC fa (i.found.map ppD) i.O
abbrev goPost (fa : Addr) (i : GoI) : OS := oC fa ((i.found ++ i.new).map ppD) i.O
/-- go -/
theorem met_go {C fs fg fa : Addr} {fds fdg : FuncData} (G : Md K mg) (hC : SrC K C) (mes : Meth K C "is_stuck" fs) (Fs : C8.Fun K "is_stuck" "Search.is_stuck" (inClass (top 55) 1) fs fds) (bis : Binds K fds ["self", "taken", "out"] [])
    (me : Meth K C "go" fg) (F : C8.Fun K "go" "Search.go" (inClass (top 55) 2) fg fdg) (bi : Binds K fdg ["self", "at", "taken", "out", "chosen"] []) (n : Nat) :
    C8.Met P w K mg base (n + 2) C "go" (spB T (fun (i : {i : GoI // OkGo n i}) => goArgs C fa i.1) (fun i => goPre fa i.1) (fun _ => dat .none) (fun i => goPost fa i.1)) [] := by
  have S := C8.fnScope_by (N := ["self", "at", "taken", "out", "chosen", "board", "other"]) (P := ["self", "at", "taken", "out", "chosen"]) (sc := C8.fnScope (inClass (top 55) 2)) (by decide +kernel)
  induction n with
  | zero =>
    refine C8.met0 hC.cls me F bi S (fun vs H Q E h => ?_) fun cdv A outer s H vs Q E hr h => ⟨_, pss_wss, ?_⟩
    · obtain ⟨i, Hb, L, _, _, _, h1, _⟩ := h
      rw [tyAll_len h1]
      rfl
    obtain ⟨⟨⟨nm, bds, a, taken, out, ch, found, Ow⟩, ok⟩, Hb, L, rfl, fl, ap, h1, ow, q⟩ := h
    have nd := S.nd
    have c : FC T Hb [some (srchT C nm bds 2000 fa), some (dat (.int (a : Nat))), some (dat (.list ((cs taken).map .int))), some (dat (.list ((cs out).map .int))), some (dat (.list (ch.map pD))), none, none] (oC fa (found.map ppD) Ow) (L2.start ["self", "at", "taken", "out", "chosen", "board", "other"] vs) (addAll Hb L) := ⟨Hb, L, rfl, fl, ap, Ge.refl _, sat0 (N := ["self", "at", "taken", "out", "chosen", "board", "other"]) h1, ow, trivial⟩
    have hlev : bds.length ≤ a + 0 := ok.lev
    have hat : a ≤ bds.length := ok.at_
    have hfew : found.length + (goL nm (bds.drop a) taken out ch).length ≤ 2000 := ok.few
    have ha : a = bds.length := by omega
    have hnew : goL nm (bds.drop a) taken out ch = [ch] := by rw [ha, List.drop_length, goL]
    rw [hnew] at hfew
    have hfl : found.length ≤ 2000 := by omega
    refine fb_if1 c (dbt_gtI (p1 := (· = ((found.map ppD).length : Int))) ((db_lenOwn (ownC) G.b_len (by exact dx_srFound hC (dx_var 0))).to fun v H h => ⟨_, ⟨_, rfl, rfl⟩, h⟩) (by exact dx_srMost hC (dx_var 0))) (fun hk => ?_) fun _ H' c => ?_
    · obtain ⟨i, e1, e2⟩ := hk
      rw [List.length_map] at e1
      exact absurd (of_decide_eq_true e2.symm) (by omega)
    refine fs_if1 (k := true) c (by exact DT.to (DC.dt (dc_eqI (dx_var 1) (dx_lenL G.b_len (dx_srBoards hC (dx_var 0))))) (by rw [List.length_map, cs_len, ha]; exact decide_eq_true rfl)) (fun _ H' c => ?_) fun hk => by cases hk
    refine fb_app (d := ppD ch) c (by rw [List.length_map]; omega) (by exact dx_srFound hC (dx_var 0)) (by exact dx_tupOfL G.b_tuple (dx_var 4)) fun H' c => fs_retN ?_
    obtain ⟨Hb', L', e, f', ap', g', s', o', _⟩ := c
    subst e
    have o2 : (goPost fa ⟨nm, bds, a, taken, out, ch, found, Ow⟩).P Hb' L' := by
      have z : (found ++ goL nm (bds.drop a) taken out ch).map ppD = found.map ppD ++ [ppD ch] := by rw [hnew, List.map_append]; rfl
      show (oC fa ((found ++ goL nm (bds.drop a) taken out ch).map ppD) Ow).P Hb' L'
      rw [z]
      exact o'
    exact q .non Hb' L' f' ap' g' o2 .non
  | succ n ih =>
    refine C8.met0 hC.cls me F bi S (fun vs H Q E h => ?_) fun cdv A outer s H vs Q E hr h => ⟨_, pss_wss, ?_⟩
    · obtain ⟨i, Hb, L, _, _, _, h1, _⟩ := h
      rw [tyAll_len h1]
      rfl
    obtain ⟨⟨⟨nm, bds, a, taken, out, ch, found, Ow⟩, ok⟩, Hb, L, rfl, fl, ap, h1, ow, q⟩ := h
    have nd := S.nd
    have c : FC T Hb [some (srchT C nm bds 2000 fa), some (dat (.int (a : Nat))), some (dat (.list ((cs taken).map .int))), some (dat (.list ((cs out).map .int))), some (dat (.list (ch.map pD))), none, none] (oC fa (found.map ppD) Ow) (L2.start ["self", "at", "taken", "out", "chosen", "board", "other"] vs) (addAll Hb L) := ⟨Hb, L, rfl, fl, ap, Ge.refl _, sat0 (N := ["self", "at", "taken", "out", "chosen", "board", "other"]) h1, ow, trivial⟩
    have hlev : bds.length ≤ a + (n + 1) := ok.lev
    have hat : a ≤ bds.length := ok.at_
    have hblen : bds.length ≤ 30 := ok.len
    have htl : taken.length ≤ 2 * a := ok.tl
    have hol : out.length ≤ a := ok.ol
    have hcl : ch.length ≤ a := ok.cl
    have hfew : found.length + (goL nm (bds.drop a) taken out ch).length ≤ 2000 := ok.few
    have hfl : found.length ≤ 2000 := by omega
    have hfin : ∀ {H' : Hp} {Γ : Gam} {σ : L2.St}, FC T Hb Γ (oC fa ((found ++ goL nm (bds.drop a) taken out ch).map ppD) Ow) σ H' → Q .non H' := fun c => by
      obtain ⟨Hb', L', e, f', ap', g', s', o', _⟩ := c
      subst e
      exact q .non Hb' L' f' ap' g' o' .non
    refine fb_if1 c (dbt_gtI (p1 := (· = ((found.map ppD).length : Int))) ((db_lenOwn (ownC) G.b_len (by exact dx_srFound hC (dx_var 0))).to fun v H h => ⟨_, ⟨_, rfl, rfl⟩, h⟩) (by exact dx_srMost hC (dx_var 0))) (fun hk => ?_) fun _ H' c => ?_
    · obtain ⟨i, e1, e2⟩ := hk
      rw [List.length_map] at e1
      exact absurd (of_decide_eq_true e2.symm) (by omega)
    refine fs_if1 (k := decide (a = bds.length)) c (by exact DT.to (DC.dt (dc_eqI (dx_var 1) (dx_lenL G.b_len (dx_srBoards hC (dx_var 0))))) (by rw [List.length_map, cs_len, Bool.eq_iff_iff, decide_eq_true_iff, decide_eq_true_iff]; omega)) (fun hk H' c => ?_) fun hk H' c => ?_
    · have ha : a = bds.length := of_decide_eq_true hk
      have hnew : goL nm (bds.drop a) taken out ch = [ch] := by rw [ha, List.drop_length, goL]
      refine fb_app (d := ppD ch) c (by rw [List.length_map]; omega) (by exact dx_srFound hC (dx_var 0)) (by exact dx_tupOfL G.b_tuple (dx_var 4)) fun H' c => fs_retN ?_
      have z : (found ++ goL nm (bds.drop a) taken out ch).map ppD = found.map ppD ++ [ppD ch] := by rw [hnew, List.map_append]; rfl
      rw [← z] at c
      exact hfin c
    have hlt : a < bds.length := by
      have z := of_decide_eq_false hk
      omega
    have eb : bds[a]? = some bds[a] := List.getElem?_eq_getElem hlt
    have ed : bds.drop a = bds[a] :: bds.drop (a + 1) := List.drop_eq_getElem_cons hlt
    generalize bds[a] = b at eb ed
    have hbm : b ∈ bds := List.mem_of_getElem? eb
    obtain ⟨l, hl⟩ := ok.has b hbm
    have hnb : nb nm b = l := by unfold nb; rw [hl]; rfl
    have hll : l.length ≤ 30 := ok.near.len b l hl
    rw [ed] at hfew hfin
    refine fs_set 5 nd c (by exact dx_ixL (dx_srBoards hC (dx_var 0)) (dx_var 1) (atI_cs eb)) fun σ H' c => ?_
    -- a call of go
    refine fs_if1 (k := decide (b ∈ taken)) c (by exact DT.to (DC.dt (dc_inIL (by rfl) (dx_var 5) (dx_var 2))) mem_cs) (fun hk H' c => ?_) fun hk H' c => ?_
    · have hbt : b ∈ taken := of_decide_eq_true hk
      rw [goL_cons_in hbt] at hfew hfin
      refine fb_expr c (by exact db_meth ih hr ⟨⟨nm, bds, a + 1, taken, out, ch, found, Ow⟩, ⟨by show bds.length ≤ a + 1 + n; omega, hlt, hblen, ok.near, ok.has, ok.outh, by show taken.length ≤ 2 * (a + 1); omega, by show out.length ≤ a + 1; omega, by show ch.length ≤ a + 1; omega, hfew⟩⟩ (dx_var 0) (dba_cons (DX.db (DX.dat (dx_add (dx_var 1) dx_int) (by show PyData.int (((a : Nat) : Int) + 1) = .int ((a + 1 : Nat) : Int); congr 1))) (dba_cons (DX.db (dx_var 2)) (dba_cons (DX.db (dx_var 3)) (dba_cons (DX.db (dx_var 4)) dba_nil)))) rfl rfl rfl srch_in) fun H' c => fs_retN (hfin c)
    · have hbt : b ∉ taken := of_decide_eq_false hk
      rw [goL_cons_out hbt, hnb] at hfew hfin
      rw [List.length_append] at hfew
      let ff : Nat → List (List (Nat × Nat)) := fun o => goL nm (bds.drop (a + 1)) (taken ++ [b, o]) out (ch ++ [(b, o)])
      let pp : Nat → Bool := fun o => decide (b < o) && !decide (o ∈ taken) && !decide (o ∈ out)
      have etk : ∀ m o, l[m]? = some o → ((l.take (m + 1)).filter pp).flatMap ff = ((l.take m).filter pp).flatMap ff ++ (if pp o = true then ff o else []) := fun m o e => by
        rw [List.take_succ, e, List.filter_append, List.flatMap_append]
        congr 1
        simp only [Option.toList_some, List.filter_cons, List.filter_nil]
        split <;> simp
      have elen : ∀ m, (((l.take m).filter pp).flatMap ff).length ≤ ((l.filter pp).flatMap ff).length := fun m => by
        have z : (l.filter pp).flatMap ff = ((l.take m).filter pp).flatMap ff ++ ((l.drop m).filter pp).flatMap ff := by
          rw [← List.flatMap_append, ← List.filter_append, List.take_append_drop]
        rw [z, List.length_append]
        omega
      have hff : ((l.filter pp).flatMap ff).length + found.length ≤ 2000 := by
        have z : (List.flatMap (fun o => goL nm (bds.drop (a + 1)) (taken ++ [b, o]) out (ch ++ [(b, o)])) (l.filter fun o => decide (b < o) && !decide (o ∈ taken) && !decide (o ∈ out))).length = ((l.filter pp).flatMap ff).length := rfl
        rw [z] at hfew
        omega
      refine fs_forM (ι := Unit) (xs := l) (js := [6]) (fun m _ => [some (srchT C nm bds 2000 fa), some (dat (.int (a : Nat))), some (dat (.list ((cs taken).map .int))), some (dat (.list ((cs out).map .int))), some (dat (.list (ch.map pD))), some (dat (.int (b : Nat))), none]) (fun m _ => oC fa ((found ++ ((l.take m).filter pp).flatMap ff).map ppD) Ow) (fun m o _ => [some (srchT C nm bds 2000 fa), some (dat (.int (a : Nat))), some (dat (.list ((cs taken).map .int))), some (dat (.list ((cs out).map .int))), some (dat (.list (ch.map pD))), some (dat (.int (b : Nat))), some (dat (.int (o : Nat)))]) () (by
          rw [List.take_zero, List.filter_nil, List.flatMap_nil, List.append_nil]
          exact c) (di_listM (r := fun (n : Nat) => PyData.int (n : Int)) (DX.dat (dx_nearIx (hu_of hr) (dx_srNear hC (dx_var 0)) (dx_var 5) hl) (listM l))) rfl (fun m o i e => dg_name 6 nd) (fun m o i H0 e g σ' H' c => ?_) (fun i σ' H' c => ?_)
      · have ek := etk m o e
        have hm1 := elen (m + 1)
        refine fs_if1 (k := pp o) c (by exact DT.to (DW.dt (dw_and (DC.dt (dc_gt (dx_var 6) (dx_var 5))) fun _ => dw_and (DC.dt (dc_notInIL (by rfl) (dx_var 6) (dx_var 2))) fun _ => dw_one (DC.dt (dc_notInIL (by rfl) (dx_var 6) (dx_var 3))))) (by
            rw [mem_cs, mem_cs, ← Bool.and_assoc]
            show (decide (((b : Nat) : Int) < ((o : Nat) : Int)) && _ && _) = (decide (b < o) && _ && _)
            have z : decide (((b : Nat) : Int) < ((o : Nat) : Int)) = decide (b < o) := by rw [Bool.eq_iff_iff, decide_eq_true_iff, decide_eq_true_iff]; omega
            rw [z])) (fun hk H' c => ?_) fun hk H' c => ?_
        · rw [ek, if_pos hk, List.length_append] at hm1
          have ok2 : OkGo n ⟨nm, bds, a + 1, taken ++ [b, o], out, ch ++ [(b, o)], found ++ ((l.take m).filter pp).flatMap ff, Ow⟩ := ⟨by show bds.length ≤ a + 1 + n; omega, hlt, hblen, ok.near, ok.has, ok.outh, by show (taken ++ [b, o]).length ≤ 2 * (a + 1); rw [List.length_append]; simp only [List.length_cons, List.length_nil]; omega, by show out.length ≤ a + 1; omega, by show (ch ++ [(b, o)]).length ≤ a + 1; rw [List.length_append, List.length_singleton]; omega, by
            show (found ++ ((l.take m).filter pp).flatMap ff).length + (ff o).length ≤ 2000
            rw [List.length_append]
            omega⟩
          refine fb_expr c (by exact db_meth ih hr ⟨_, ok2⟩ (dx_var 0) (dba_cons (DX.db (DX.dat (dx_add (dx_var 1) dx_int) (by show PyData.int (((a : Nat) : Int) + 1) = .int ((a + 1 : Nat) : Int); congr 1))) (dba_cons (DX.db (DX.dat (dx_catL (dx_var 2) (dx_lst (ds := [.int (b : Nat), .int (o : Nat)]) (da_cons (dx_var 5) (da_cons (dx_var 6) da_nil))) (by rw [List.length_map, cs_len]; show taken.length + 2 ≤ _; omega)) (by rw [cs_app, List.map_append]; rfl))) (dba_cons (DX.db (dx_var 3)) (dba_cons (DX.db (DX.dat (dx_catL (dx_var 4) (dx_lst (ds := [pD (b, o)]) (da_cons (dx_tup (ds := [.int (b : Nat), .int (o : Nat)]) (da_cons (dx_var 5) (da_cons (dx_var 6) da_nil))) da_nil)) (by rw [List.length_map]; show ch.length + 1 ≤ _; omega)) (by rw [List.map_append]; rfl))) dba_nil)))) rfl rfl rfl srch_in) fun H' c => fs_nil (fs_nil ⟨(), ?_⟩)
          rw [ek, if_pos hk, ← List.append_assoc]
          exact c.sub (by fail "sub")
        · refine fs_nil ⟨(), ?_⟩
          rw [ek, if_neg (by rw [hk]; exact Bool.false_ne_true), List.append_nil]
          exact c.sub (by fail "sub")
      · rw [List.take_of_length_le (Nat.le_refl _)] at c
        have hO2 : ∀ x ∈ out ++ [b], ∃ l, look nm x = some l := fun x hx => by
          rcases List.mem_append.mp hx with z | z
          · exact ok.outh x z
          · rw [List.mem_singleton.mp z]; exact ⟨l, hl⟩
        have hol2 : (out ++ [b]).length ≤ a + 1 := by rw [List.length_append, List.length_singleton]; omega
        refine fs_if1 (k := !stuck nm taken (out ++ [b])) c (by exact dt_not (dt_val (dx_meth (met_stuck G hC mes Fs bis) hr ⟨(nm, bds, 2000, taken, out ++ [b]), ⟨ok.near, hO2, by show (out ++ [b]).length ≤ 30; omega⟩⟩ (dx_var 0) (da_cons (dx_var 2) (da_cons (DX.dat (dx_catL (dx_var 3) (dx_lst (ds := [.int (b : Nat)]) (da_cons (dx_var 5) da_nil)) (by rw [List.length_map, cs_len]; show out.length + 1 ≤ _; omega)) (by rw [cs_app, List.map_append]; rfl)) da_nil)) rfl rfl srch_in))) (fun hk H' c => ?_) fun hk H' c => ?_
        · have hst : stuck nm taken (out ++ [b]) = false := by simpa using hk
          rw [hst, if_neg Bool.false_ne_true] at hfew hfin
          have ok2 : OkGo n ⟨nm, bds, a + 1, taken, out ++ [b], ch, found ++ (l.filter pp).flatMap ff, Ow⟩ := ⟨by show bds.length ≤ a + 1 + n; omega, hlt, hblen, ok.near, ok.has, hO2, by show taken.length ≤ 2 * (a + 1); omega, hol2, by show ch.length ≤ a + 1; omega, by
            show (found ++ (l.filter pp).flatMap ff).length + (goL nm (bds.drop (a + 1)) taken (out ++ [b]) ch).length ≤ 2000
            have z : (List.flatMap (fun o => goL nm (bds.drop (a + 1)) (taken ++ [b, o]) out (ch ++ [(b, o)])) (l.filter fun o => decide (b < o) && !decide (o ∈ taken) && !decide (o ∈ out))).length = ((l.filter pp).flatMap ff).length := rfl
            rw [z] at hfew
            rw [List.length_append]
            omega⟩
          refine fb_expr c (by exact db_meth ih hr ⟨_, ok2⟩ (dx_var 0) (dba_cons (DX.db (DX.dat (dx_add (dx_var 1) dx_int) (by show PyData.int (((a : Nat) : Int) + 1) = .int ((a + 1 : Nat) : Int); congr 1))) (dba_cons (DX.db (dx_var 2)) (dba_cons (DX.db (DX.dat (dx_catL (dx_var 3) (dx_lst (ds := [.int (b : Nat)]) (da_cons (dx_var 5) da_nil)) (by rw [List.length_map, cs_len]; show out.length + 1 ≤ _; omega)) (by rw [cs_app, List.map_append]; rfl))) (dba_cons (DX.db (dx_var 4)) dba_nil)))) rfl rfl rfl srch_in) fun H' c => ?_
          have c2 : FC T Hb _ (oC fa (((found ++ (l.filter pp).flatMap ff) ++ goL nm (bds.drop (a + 1)) taken (out ++ [b]) ch).map ppD) Ow) _ H' := c
          rw [List.append_assoc] at c2
          exact fs_nil (fs_nil (hfin c2))
        · have hst : stuck nm taken (out ++ [b]) = true := by simpa using hk
          rw [hst, if_pos rfl, List.append_nil] at hfin
          exact fs_nil (hfin c)
end
end G
set_option Elab.async false
set_option linter.all false
set_option maxRecDepth 100000
set_option maxHeartbeats 1000000
set_option pp.maxSteps 400
namespace G
open PySem PySem.Spec L2 LamX NdefX
local macro_rules | `(tactic| fail "sub") => `(tactic| first | exact Sub.nil | (refine Sub.drop ?_; fail "sub") | (refine Sub.same ?_; fail "sub"))
local macro_rules | `(tactic| fail "side") => `(tactic| first | assumption | rfl | omega | decide)
/-! ### who can be paired with whom -/
def nearStep (nm : Near) (p : Nat × Nat) : Near := addNear (addNear nm p.1 p.2) p.2 p.1
def nearOf (ps : List (Nat × Nat)) : Near := ps.foldl nearStep []
theorem look_add (nm : Near) (k x b : Nat) : look (addNear nm k x) b = if b = k then some (nb nm k ++ [x]) else look nm b := by
  induction nm with
  | nil =>
    unfold addNear look nb
    by_cases h : b = k
    · rw [if_pos h, if_pos h.symm]
      rfl
    · rw [if_neg h, if_neg (fun e => h e.symm)]
      rfl
  | cons p nm ih =>
    unfold addNear
    by_cases hp : p.1 = k
    · rw [if_pos hp]
      by_cases h : b = k
      · rw [if_pos h]
        unfold nb look
        rw [if_pos (hp.trans h.symm), if_pos hp]
        rfl
      · rw [if_neg h]
        unfold look
        rw [if_neg (fun e => h (e.symm.trans hp)), if_neg (fun e => h (e.symm.trans hp))]
    · rw [if_neg hp]
      unfold look
      by_cases h : p.1 = b
      · rw [if_pos h, if_neg (fun e => hp (h.trans e)), if_pos h]
      · rw [if_neg h, if_neg h, ih]
        have e : nb (p :: nm) k = nb nm k := by
          unfold nb
          rw [show look (p :: nm) k = look nm k from if_neg hp]
        rw [e]
theorem nb_add (nm : Near) (k x b : Nat) : nb (addNear nm k x) b = if b = k then nb nm b ++ [x] else nb nm b := by
  by_cases h : b = k
  · rw [if_pos h]
    unfold nb
    rw [look_add, if_pos h, h]
    rfl
  · rw [if_neg h]
    unfold nb
    rw [look_add, if_neg h]
theorem keys_add (nm : Near) (k x : Nat) : (addNear nm k x).map (·.1) = keyAddN (nm.map (·.1)) k := by
  induction nm with
  | nil => rfl
  | cons p nm ih =>
    unfold addNear
    by_cases hp : p.1 = k
    · rw [if_pos hp]
      unfold keyAddN
      rw [List.map_cons, List.map_cons, if_pos (by rw [hp]; exact List.mem_cons_self)]
    · rw [if_neg hp, List.map_cons, List.map_cons, ih]
      unfold keyAddN
      by_cases hk : k ∈ nm.map (·.1)
      · rw [if_pos hk, if_pos (List.mem_cons_of_mem _ hk)]
      · rw [if_neg hk, if_neg (fun z => (List.mem_cons.mp z).elim (fun e => hp e.symm) hk)]
        rfl
theorem look_key (nm : Near) (b : Nat) : (∃ l, look nm b = some l) ↔ b ∈ nm.map (·.1) := by
  induction nm with
  | nil => exact ⟨fun ⟨l, h⟩ => (nomatch h), fun h => (nomatch h)⟩
  | cons p nm ih =>
    rw [List.map_cons]
    by_cases hp : p.1 = b
    · exact ⟨fun _ => by rw [hp]; exact List.mem_cons_self, fun _ => ⟨p.2, if_pos hp⟩⟩
    · rw [show look (p :: nm) b = look nm b from if_neg hp, ih]
      exact ⟨fun h => List.mem_cons_of_mem _ h, fun h => (List.mem_cons.mp h).resolve_left (fun e => hp e.symm)⟩
/-- facts of near as it grows -/
structure NF0 (ps : List (Nat × Nat)) (nm : Near) : Prop where
  mem : ∀ a b, b ∈ nb nm a ↔ (a, b) ∈ ps ∨ (b, a) ∈ ps
  keys : ∀ a, a ∈ nm.map (·.1) ↔ ∃ p ∈ ps, a = p.1 ∨ a = p.2
  knd : (nm.map (·.1)).Nodup
  nbnd : ps.Nodup → (∀ p ∈ ps, p.1 < p.2) → ∀ a, (nb nm a).Nodup
  klen : nm.length ≤ 2 * ps.length
  nlen : ∀ a, (nb nm a).length ≤ 2 * ps.length
theorem nf0_nil : NF0 [] [] := ⟨by simp [nb, look], by simp, List.nodup_nil, fun _ _ _ => List.nodup_nil, Nat.le_refl _, fun _ => Nat.zero_le _⟩
theorem nf0_step {ps : List (Nat × Nat)} {nm : Near} (h : NF0 ps nm) (p : Nat × Nat) : NF0 (ps ++ [p]) (nearStep nm p) := by
  have hnb : ∀ a, nb (nearStep nm p) a = nb nm a ++ ((if a = p.1 then [p.2] else []) ++ (if a = p.2 then [p.1] else [])) := fun a => by
    unfold nearStep
    rw [nb_add, nb_add]
    by_cases h1 : a = p.1
    · by_cases h2 : a = p.2
      · rw [if_pos h2, if_pos h1, if_pos h1, if_pos h2, List.append_assoc]
      · rw [if_neg h2, if_pos h1, if_pos h1, if_neg h2, List.append_nil]
    · by_cases h2 : a = p.2
      · rw [if_pos h2, if_neg h1, if_neg h1, if_pos h2, List.nil_append]
      · rw [if_neg h2, if_neg h1, if_neg h1, if_neg h2, List.append_nil, List.append_nil]
  have hk : (nearStep nm p).map (·.1) = keyAddN (keyAddN (nm.map (·.1)) p.1) p.2 := by
    unfold nearStep
    rw [keys_add, keys_add]
  refine ⟨fun a b => ?_, fun a => ?_, ?_, fun hn hlt a => ?_, ?_, fun a => ?_⟩
  · rw [hnb, List.mem_append, List.mem_append, h.mem, List.mem_append, List.mem_append, List.mem_singleton, List.mem_singleton]
    have e1 : b ∈ (if a = p.1 then [p.2] else []) ↔ (a, b) = p := by
      split
      · rename_i z
        rw [List.mem_singleton]
        exact ⟨fun e => Prod.ext z e, fun e => by rw [← e]⟩
      · rename_i z
        exact ⟨fun e => (nomatch e), fun e => absurd (by rw [← e]) z⟩
    have e2 : b ∈ (if a = p.2 then [p.1] else []) ↔ (b, a) = p := by
      split
      · rename_i z
        rw [List.mem_singleton]
        exact ⟨fun e => Prod.ext e z, fun e => by rw [← e]⟩
      · rename_i z
        exact ⟨fun e => (nomatch e), fun e => absurd (by rw [← e]) z⟩
    rw [e1, e2]
    constructor
    · rintro ((z | z) | z | z)
      · exact .inl (.inl z)
      · exact .inr (.inl z)
      · exact .inl (.inr z)
      · exact .inr (.inr z)
    · rintro ((z | z) | z | z)
      · exact .inl (.inl z)
      · exact .inr (.inl z)
      · exact .inl (.inr z)
      · exact .inr (.inr z)
  · rw [hk, mem_keyAddN, mem_keyAddN, h.keys]
    constructor
    · rintro ((⟨q, hq, z⟩ | z) | z)
      · exact ⟨q, List.mem_append_left _ hq, z⟩
      · exact ⟨p, List.mem_append_right _ (List.mem_singleton.mpr rfl), .inl z⟩
      · exact ⟨p, List.mem_append_right _ (List.mem_singleton.mpr rfl), .inr z⟩
    · rintro ⟨q, hq, z⟩
      rcases List.mem_append.mp hq with w | w
      · exact .inl (.inl ⟨q, w, z⟩)
      · rw [List.mem_singleton.mp w] at z
        exact z.elim (fun z => .inl (.inr z)) .inr
  · rw [hk]
    exact nodup_keyAddN (nodup_keyAddN h.knd)
  · rw [List.nodup_append] at hn
    have hlt' : ∀ q ∈ ps, q.1 < q.2 := fun q hq => hlt q (List.mem_append_left _ hq)
    have hp := hlt p (List.mem_append_right _ (List.mem_singleton.mpr rfl))
    have hnp : p ∉ ps := fun z => hn.2.2 p z p (List.mem_singleton.mpr rfl) rfl
    rw [hnb, List.nodup_append]
    refine ⟨h.nbnd hn.1 hlt' a, ?_, fun x hx y hy e => ?_⟩
    · by_cases h1 : a = p.1 <;> by_cases h2 : a = p.2
      · omega
      · rw [if_pos h1, if_neg h2, List.append_nil]; simp
      · rw [if_neg h1, if_pos h2, List.nil_append]; simp
      · rw [if_neg h1, if_neg h2]; simp
    · subst e
      have hx2 := (h.mem a x).mp hx
      rcases List.mem_append.mp hy with z | z
      · split at z
        · rename_i ea
          have ex := List.mem_singleton.mp z
          rcases hx2 with w | w
          · exact hnp (by rw [ea, ex] at w; exact w)
          · have q := hlt' _ w
            rw [ea, ex] at q
            have q' : p.2 < p.1 := q
            omega
        · cases z
      · split at z
        · rename_i ea
          have ex := List.mem_singleton.mp z
          rcases hx2 with w | w
          · have q := hlt' _ w
            rw [ea, ex] at q
            have q' : p.2 < p.1 := q
            omega
          · exact hnp (by rw [ea, ex] at w; exact w)
        · cases z
  · have e := congrArg List.length hk
    rw [List.length_map] at e
    have z1 := keyAddN_len (keyAddN (nm.map (·.1)) p.1) p.2
    have z2 := keyAddN_len (nm.map (·.1)) p.1
    rw [List.length_map] at z2
    have z3 := h.klen
    rw [List.length_append, List.length_singleton]
    omega
  · rw [hnb, List.length_append, List.length_append, List.length_append, List.length_singleton]
    have z := h.nlen a
    have z1 : (if a = p.1 then [p.2] else []).length ≤ 1 := by split <;> simp
    have z2 : (if a = p.2 then [p.1] else []).length ≤ 1 := by split <;> simp
    omega
theorem nf0_of : ∀ (n : Nat) (ps : List (Nat × Nat)), NF0 (ps.take n) (nearOf (ps.take n))
  | 0, ps => by rw [List.take_zero]; exact nf0_nil
  | n + 1, ps => by
    have ih := nf0_of n ps
    rw [List.take_succ]
    cases e : ps[n]? with
    | none =>
      rw [Option.toList_none, List.append_nil]
      exact ih
    | some p =>
      have e2 : nearOf (ps.take n ++ [p]) = nearStep (nearOf (ps.take n)) p := by
        unfold nearOf
        rw [List.foldl_append]
        rfl
      rw [Option.toList_some, e2]
      exact nf0_step ih p
theorem nf0 (ps : List (Nat × Nat)) : NF0 ps (nearOf ps) := by
  have z := nf0_of ps.length ps
  rw [List.take_length] at z
  exact z
/-! ### sorted whole numbers -/
def leN (a b : Nat) : Bool := decide (a ≤ b)
def sortN (ks : List Nat) : List Nat := ks.mergeSort leN
theorem leN_trans (a b c : Nat) (h1 : leN a b = true) (h2 : leN b c = true) : leN a c = true := decide_eq_true (Nat.le_trans (of_decide_eq_true h1) (of_decide_eq_true h2))
theorem leN_total (a b : Nat) : (leN a b || leN b a) = true := by
  rw [Bool.or_eq_true]
  rcases Nat.le_total a b with h | h
  · exact .inl (decide_eq_true h)
  · exact .inr (decide_eq_true h)
theorem sortN_pw (ks : List Nat) : (sortN ks).Pairwise (· ≤ ·) := by
  have z : (sortN ks).Pairwise (fun a b => leN a b = true) := List.pairwise_mergeSort leN_trans leN_total ks
  exact z.imp fun h => of_decide_eq_true h
theorem sortN_perm (ks : List Nat) : (sortN ks).Perm ks := List.mergeSort_perm ks leN
theorem sortN_lt {ks : List Nat} (h : ks.Nodup) : (sortN ks).Pairwise (· < ·) := by
  have z := sortN_pw ks
  have n : (sortN ks).Nodup := (sortN_perm ks).nodup_iff.mpr h
  exact (List.pairwise_and_iff.mpr ⟨z, n⟩).imp fun ⟨h1, h2⟩ => by omega
theorem sortN_uniq {ns : List Int} {ks : List Nat} (hp : ns.Perm (cs ks)) (h : ns.Pairwise (· ≤ ·)) : ns = cs (sortN ks) := by
  have p2 : (cs (sortN ks)).Perm (cs ks) := (sortN_perm ks).map _
  have h2 : (cs (sortN ks)).Pairwise (· ≤ ·) := by
    unfold cs
    rw [List.pairwise_map]
    exact (sortN_pw ks).imp fun h => by omega
  exact (hp.trans p2.symm).eq_of_pairwise (fun a b _ _ p q => Int.le_antisymm p q) h h2
def keysG (ps : List (Nat × Nat)) : List Nat := sortN ((nearOf ps).map (·.1))
def greatOf (ps : List (Nat × Nat)) : List (List (Nat × Nat)) := goL (nearOf ps) (keysG ps) [] [] []
theorem gr_of (ps : List (Nat × Nat)) : Gr (nearOf ps) (keysG ps) := by
  have f := nf0 ps
  refine ⟨fun a b h => ?_, fun a b h => ?_, sortN_lt f.knd⟩
  · rw [f.mem] at h ⊢
    exact h.symm
  · refine (sortN_perm _).mem_iff.mpr ((f.keys a).mpr ?_)
    rcases (f.mem a b).mp h with z | z
    · exact ⟨_, z, .inl rfl⟩
    · exact ⟨_, z, .inr rfl⟩
/-! ### a new search -/
theorem near_ins {H : Hp} {a C dx : Addr} {fs : List (Str × V)} {o : HO} {nm : Near} {v : V} (e : H a = some (.ins C dx fs)) (h : (nearT nm).P v H) : (nearT nm).P v (upd H a o) := by
  obtain ⟨d, as, rfl, h1, h2, h3⟩ := h
  exact ⟨d, as, rfl, by rw [upd_ne (ne_of h1 e (fun z => nomatch z))]; exact h1, h2, h3.imp fun b _ xs q => by rw [upd_ne (ne_of q e (fun z => nomatch z))]; exact q⟩
theorem kvz_keys : ∀ {nm : Near} {as : List Addr}, as.length = nm.length → (kvz nm as).map (·.1) = (cs (nm.map (·.1))).map Sum.inl
  | [], [], _ => rfl
  | p :: nm, a :: as, h => by
    rw [kvz, List.map_cons, kvz_keys (by simpa using h)]
    rfl
  | [], _ :: _, h => by simp at h
  | _ :: _, [], h => by simp at h
section
variable {T : List NTab} {X : Cx} {Γ : Gam} {a : Expr} {p pos : Pos} {nm : Near}
theorem dx_sortedNear (hc : X.calm = true) (hm : X.mg "sorted" = none) (ha : DX T X Γ a (nearT nm)) (hl : nm.length < 64) (hg : Gl X "sorted" := by rfl) (hs : starEach [a] X.env = (false, eval a X.env) :: starEach [] X.env := by rfl) : DX T X Γ (.Call (.Name "sorted" p) [a] [] pos) (dat (.list ((cs (sortN (nm.map (·.1)))).map .int))) :=
  dx_callB (call_sortedDI hc) hm (by decide +kernel) (da_cons ha da_nil hs) (fun vs H Q h q => by
    obtain ⟨v, rfl, d, as, rfl, h1, h2, h3⟩ := tyAll1 h
    refine ⟨d, _, cs (nm.map (·.1)), rfl, .inl h1, kvz_keys h3.len, by rw [cs_len, List.length_map]; exact hl, fun ys p hp hs' hn => ?_⟩
    rw [sortN_uniq hp hs']
    exact q _ _ (Ge.new hn) (.lst upd_same (dqa_lsV _))) hg (by decide) (by decide) hs
end
def spSrch (T : List NTab) (C : Addr) : Sp := fun vs H Q _ => ∃ a dx nm vn H0, vs = [.ref a, vn, .int 2000] ∧ H a = some (.ins C dx []) ∧ (nearT nm).P vn H ∧ nm.length < 64 ∧ Ge T H0 H ∧ H0 a = none ∧
  ∀ Hb fa, Ge T H0 Hb → Hb fa = none → (srchT C nm (sortN (nm.map (·.1))) 2000 fa).P (.ref a) Hb → Q .non (addAll Hb [(fa, .lst [])])
section
variable {P : Program} {w : World} {K : PySem.W.Frag} {mg : Str → Option Value} {base : Heap} {T : List NTab}
theorem mak_srch {C fi : Addr} {fdi : FuncData} (G : Md K mg) (hC : SrC K C) (hm : mg "Search" = some (.ref C)) (mk : Mk K C fi) (Fi : C8.Fun K "__init__" "Search.__init__" (inClass (top 55) 0) fi fdi) (bi : Binds K fdi ["self", "near", "most"] []) : C8.Mak P w K mg base 1 "Search" C (spSrch T C) [] := by
  have S := C8.fnScope_by (N := ["self", "near", "most"]) (P := ["self", "near", "most"]) (sc := C8.fnScope (inClass (top 55) 0)) (by decide +kernel)
  refine C8.mak0 mk hm Fi bi .nil S (fun vs H Q E h => ?_) fun cdv A outer s H vs Q E hr h => ⟨_, pss_wss, ?_⟩
  · obtain ⟨a, dx, nm, vn, H0, rfl, _⟩ := h
    rfl
  obtain ⟨a, dx, nm, vn, H0, rfl, ha, hn, hl, g, h0, q⟩ := h
  have nd := S.nd
  have g1 := g.mut (o := .ins C dx [(("near" : Str), vn)]) h0 ha rfl
  have n1 : (nearT nm).P vn (upd H a (.ins C dx [(("near" : Str), vn)])) := near_ins ha hn
  have st : Sat [some (tyv (.ref a)), some (nearT nm), some (dat (.int 2000))] (L2.start ["self", "near", "most"] [.ref a, vn, .int 2000]) (upd H a (.ins C dx [(("near" : Str), vn)])) :=
    sat0 (N := ["self", "near", "most"]) (ts := [tyv (.ref a), nearT nm, dat (.int 2000)]) ⟨rfl, n1, .int _, trivial⟩
  refine fs_cons (ws_of (ps_fld (pv 0) (pv 1) rfl) ⟨vn, rfl, .ref a, rfl, a, C, dx, [], rfl, ha, hC.cls, hC.n1, by decide, ?_⟩)
  refine fs_cons (ws_of (ps_fld (pv 0) pe_we rfl) ((show DX T _ _ _ (dat (.list ((cs (sortN (nm.map (·.1)))).map .int))) from (by exact dx_sortedNear rfl G.b_sorted (dx_var 1) hl)) _ _ st _ fun vb H2 g2 pb => ?_))
  have e2 : H2 a = some (.ins C dx [(("near" : Str), vn)]) := g2.ext _ _ upd_same fun _ z => by cases z
  have n2 : (nearT nm).P vn H2 := (nearT nm).mono g2.ext n1
  refine ⟨.ref a, rfl, a, C, dx, _, rfl, e2, hC.cls, hC.n2, (by show 1 < 1000; decide), ?_⟩
  have e3 : putF ("boards" : Str) vb [(("near" : Str), vn)] = [(("near" : Str), vn), (("boards" : Str), vb)] := by
    show (if (("near" : Str) = ("boards" : Str)) then _ else _) = _
    rw [if_neg (by decide +kernel)]
    rfl
  rw [e3]
  refine fs_cons (ws_of (ps_fld (pv 0) (pv 2) rfl) ⟨.int 2000, rfl, .ref a, rfl, a, C, dx, _, rfl, upd_same, hC.cls, hC.n3, (by show 2 < 1000; decide), ?_⟩)
  have e4 : putF ("most" : Str) (.int 2000) [(("near" : Str), vn), (("boards" : Str), vb)] = [(("near" : Str), vn), (("boards" : Str), vb), (("most" : Str), .int 2000)] := by
    show (if (("near" : Str) = ("most" : Str)) then _ else _) = _
    rw [if_neg (by decide +kernel)]
    show _ :: (if (("boards" : Str) = ("most" : Str)) then _ else _) = _
    rw [if_neg (by decide +kernel)]
    rfl
  rw [e4, upd_upd]
  refine fs_cons (ws_of (ps_fld (pv 0) (pe_lst pa_nil) rfl) ⟨Nat.zero_le _, fun r hr => ?_⟩)
  obtain ⟨hr1, hr2⟩ := none_upd hr
  refine ⟨.ref a, rfl, a, C, dx, _, rfl, by rw [upd_ne (fun z => hr2 z.symm)]; exact upd_same, hC.cls, hC.n4, (by show 3 < 1000; decide), fs_nil ?_⟩
  have e5 : putF ("found" : Str) (.ref r) [(("near" : Str), vn), (("boards" : Str), vb), (("most" : Str), .int 2000)] = srF vn vb 2000 r := by
    show (if (("near" : Str) = ("found" : Str)) then _ else _) = _
    rw [if_neg (by decide +kernel)]
    show _ :: (if (("boards" : Str) = ("found" : Str)) then _ else _) = _
    rw [if_neg (by decide +kernel)]
    show _ :: _ :: (if (("most" : Str) = ("found" : Str)) then _ else _) = _
    rw [if_neg (by decide +kernel)]
    rfl
  rw [e5]
  have g3 : Ge T H0 (upd H2 a (.ins C dx (srF vn vb 2000 r))) := (g1.trans g2).mut h0 e2 rfl
  have eq : upd (upd (upd H2 a (.ins C dx [(("near" : Str), vn), (("boards" : Str), vb), (("most" : Str), .int 2000)])) r (.lst [])) a (.ins C dx (srF vn vb 2000 r)) = addAll (upd H2 a (.ins C dx (srF vn vb 2000 r))) [(r, .lst [])] := by
    show _ = upd (upd H2 a (.ins C dx (srF vn vb 2000 r))) r (.lst [])
    rw [upd_comm hr2, upd_upd]
  rw [eq]
  refine q _ r g3 (by rw [upd_ne hr2]; exact hr1) ⟨a, dx, vn, vb, rfl, upd_same, near_ins e2 n2, dq_ins e2 pb⟩
theorem FV.rel {Γ : Gam} {O : OS} {Hin : Hp} {σ : L2.St} {H : Hp} {a : Addr} {ds : List PyData} {v : V} (c : FV T Hin Γ (oC a ds O) σ H ((tyv (.ref a)).P v)) : FV T Hin Γ O σ H ((dat (.list ds)).P v) := by
  obtain ⟨Hb, L, rfl, f, ap, g, s, ⟨vs, L', rfl, h2, h3⟩, hv⟩ := c
  have hv : v = .ref a := hv
  subst hv
  have ha : Hb a = none := ap (a, .lst vs) List.mem_cons_self
  have hn := (List.nodup_cons.mp f.nd).1
  have gn : Ge T Hb (upd Hb a (.lst vs)) := Ge.new ha
  refine ⟨upd Hb a (.lst vs), L', (addAll_upd hn), f.tail, fun q hq => ?_, g.trans gn, s.ext gn.ext, O.mono gn.ext h3, .lst upd_same (dqa_ext gn.ext _ _ h2)⟩
  have nq : q.1 ≠ a := fun z => hn (z ▸ List.mem_map.mpr ⟨q, hq, rfl⟩)
  rw [upd_ne nq]
  exact ap q (List.mem_cons_of_mem _ hq)
structure OkG (ps : List (Nat × Nat)) : Prop where
  nd : ps.Nodup
  lt : ∀ p ∈ ps, p.1 < p.2 ∧ p.2 < 30
  len : ps.length ≤ 31
  few : (greatOf ps).length ≤ 2000
theorem OkG.keys {ps : List (Nat × Nat)} (h : OkG ps) : ((nearOf ps).map (·.1)).length ≤ 30 := by
  have z := nodup_len_le (m := List.range 30) (nf0 ps).knd fun a ha => by
    obtain ⟨p, hp, e⟩ := ((nf0 ps).keys a).mp ha
    have := h.lt p hp
    rw [List.mem_range]
    omega
  rw [List.length_range] at z
  exact z
theorem OkG.near {ps : List (Nat × Nat)} (h : OkG ps) : OkNear (nearOf ps) := by
  have f := nf0 ps
  refine ⟨fun k l e => ?_, fun k l e o ho => ?_⟩
  · have en : nb (nearOf ps) k = l := by unfold nb; rw [e]; rfl
    have z := nodup_len_le (l := nb (nearOf ps) k) (m := List.range 30) (f.nbnd h.nd (fun p hp => (h.lt p hp).1) k) fun b hb => by
      rw [List.mem_range]
      rcases (f.mem k b).mp hb with w | w
      · exact (h.lt _ w).2
      · have := h.lt _ w
        omega
    rw [List.length_range, en] at z
    exact z
  · have en : nb (nearOf ps) k = l := by unfold nb; rw [e]; rfl
    rw [← en] at ho
    refine (look_key _ _).mpr ((f.keys o).mpr ?_)
    rcases (f.mem k o).mp ho with w | w
    · exact ⟨_, w, .inr rfl⟩
    · exact ⟨_, w, .inl rfl⟩
theorem fn_greatest_of (G : Md K mg) (M : AtSearch K mg) : C8.Cal P w K mg base 40 "greatest_of" (spP T (fun (i : {p : List Board × List (Nat × Nat) // OkG p.2}) => [hallT K i.1.1, dat (.list (i.1.2.map pD)), dat (.int 2000)]) fun i => dat (.list ((greatOf i.1.2).map ppD))) [] := by
  obtain ⟨C, fi, fdi, fs, fds, fg, fdg, hm, mk, Fi, bi, hC, mes, Fs, bis, meg, Fg, big⟩ := M.ex
  refine fn_mk G.d_greatest_of ["hall", "some", "most", "near", "one", "other", "search"] (by decide +kernel) (fun _ => rfl) fun ⟨⟨bs, ps⟩, ok⟩ cdv A outer s H vs Q E f hr nd q c => ?_
  have hlen : ps.length ≤ 31 := ok.len
  obtain ⟨Hb, L, eH, _, _, g0, st0, hL, _⟩ := id c
  have hL : L = [] := hL
  subst hL
  have eH : H = Hb := eH
  subst eH
  have hu := hu_of hr
  refine fs_cons (ws_of (ps_set (i := 3) nd rfl (.inl rfl) pe_dnewK rfl (.inl rfl)) fun r hr0 => ?_)
  have N0 : NearOk T H (upd H r (.dK [])) r [] [] := ⟨Ge.new hr0, hr0, upd_same, trivial, List.nodup_nil, (by simp), fun b hb => nomatch hb⟩
  have st1 : Sat [some (hallT K bs), some (dat (.list (ps.map pD))), some (dat (.int 2000)), some (tyv (.ref r)), none, none, none] ((L2.start ["hall", "some", "most", "near", "one", "other", "search"] vs).set 3 (some (.ref r))) H := st0.set (i := 3) (t := tyv (.ref r)) rfl
  refine fs_nearFor (X := bodyX P w K mg base ["hall", "some", "most", "near", "one", "other", "search"] "greatest_of" (top 56) f cdv A outer s H E) 1 4 5 (ps := ps) nearStep nd rfl st1 rfl N0 (fun v w σ' h => ?_) (fun n x nm as σ' H' e en N s' h1 h2 => ?_) (fun as' σ' H' s' N => ?_) (pv 1) (pg_name (i := 4) nd rfl (.inl rfl) (.inl rfl)) (pg_name (i := 5) nd rfl (.inl rfl) (.inl rfl)) (by show 4 < 7; decide) (by show 5 < 7; decide)
  · exact (h.clr (i := 4) (some v)).clr (i := 5) (some w)
  · have f0 := nf0_of n ps
    have en' : nm = nearOf (ps.take n) := en
    have htl : (ps.take n).length ≤ 31 := Nat.le_trans (List.length_take_le' _ _) hlen
    obtain ⟨v3, e3, p3⟩ := s'.at_ 3 _ rfl
    have p3 : v3 = .ref r := p3
    subst p3
    have f1 := f0.klen
    have f2 := f0.nlen
    rw [← en'] at f1 f2
    have i3 : ((σ'.set 4 (some (.int (x.1 : Nat)))).set 5 (some (.int (x.2 : Nat))))[3]? = some (some (.ref r)) := by
      rw [List.getElem?_set_ne (by decide), List.getElem?_set_ne (by decide)]
      exact e3
    have i4 : ((σ'.set 4 (some (.int (x.1 : Nat)))).set 5 (some (.int (x.2 : Nat))))[4]? = some (some (.int (x.1 : Nat))) := by
      rw [List.getElem?_set_ne (by decide), List.getElem?_set_self h1]
    have i5 : ((σ'.set 4 (some (.int (x.1 : Nat)))).set 5 (some (.int (x.2 : Nat))))[5]? = some (some (.int (x.2 : Nat))) := by
      rw [List.getElem?_set_self (by rw [List.length_set]; exact h2)]
    have sS := (s'.clr (i := 4) (some (.int (x.1 : Nat)))).clr (i := 5) (some (.int (x.2 : Nat)))
    refine fs_near 3 4 5 i3 i4 i5 N (by omega) (fun k l hk => by
      have z := f2 k
      have z2 : nb nm k = l := by unfold nb; rw [hk]; rfl
      rw [z2] at z
      omega) (fun H2 as2 N2 => ?_) (pv 3) (pv 4) (pv 5) ⟨rfl, rfl, rfl, rfl⟩
    have k2 : (addNear nm x.1 x.2).length ≤ nm.length + 1 := by
      have z := congrArg List.length (keys_add nm x.1 x.2)
      rw [List.length_map] at z
      have z2 := keyAddN_len (nm.map (·.1)) x.1
      rw [List.length_map] at z2
      omega
    refine fs_near 3 5 4 i3 i5 i4 N2 (by omega) (fun k l hk => by
      have z := f2 k
      have z2 : nb (addNear nm x.1 x.2) k = l := by unfold nb; rw [hk]; rfl
      rw [nb_add] at z2
      have z3 := congrArg List.length z2
      split at z3
      · rw [List.length_append, List.length_singleton] at z3
        omega
      · omega) (fun H3 as3 N3 => fs_nil ⟨sS, as3, N3⟩) (pv 3) (pv 5) (pv 4) ⟨rfl, rfl, rfl, rfl⟩
  · have f0 := nf0 ps
    have hkl : (nearOf ps).length ≤ 30 := by
      have z := ok.keys
      rw [List.length_map] at z
      exact z
    obtain ⟨v3, e3, p3⟩ := s'.at_ 3 _ rfl
    have p3 : v3 = .ref r := p3
    subst p3
    have es : σ'.set 3 (some (.ref r)) = σ' := by
      obtain ⟨hlt, he⟩ := List.getElem?_eq_some_iff.mp e3
      rw [← he]
      exact List.set_getElem_self hlt
    have sN : Sat [some (hallT K bs), some (dat (.list (ps.map pD))), some (dat (.int 2000)), some (nearT (nearOf ps)), none, none, none] σ' H' := by
      have z := (s'.ext N.g.ext).set (i := 3) (t := nearT (nearOf ps)) (v := .ref r) ⟨r, as', rfl, N.d, N.nd, N.ls⟩
      rw [es] at z
      exact z
    have c2 : FC T H [some (hallT K bs), some (dat (.list (ps.map pD))), some (dat (.int 2000)), some (nearT (nearOf ps)), none, none, none] oN σ' H' := ⟨H', [], rfl, Fr.nil, fun _ h => (nomatch h), N.g, sN, rfl, trivial⟩
    have okgo : OkGo 30 ⟨nearOf ps, keysG ps, 0, [], [], [], [], oN⟩ := by
      have kl : (keysG ps).length ≤ 30 := by
        have z := (sortN_perm ((nearOf ps).map (·.1))).length_eq
        have z2 := ok.keys
        exact Nat.le_trans (Nat.le_of_eq z) z2
      refine ⟨by show (keysG ps).length ≤ 0 + 30; omega, Nat.zero_le _, kl, ok.near, fun b hb => (look_key _ _).mpr ((sortN_perm _).mem_iff.mp hb), fun b hb => (nomatch hb), Nat.le_refl _, Nat.le_refl _, Nat.le_refl _, ?_⟩
      show 0 + (goL (nearOf ps) (keysG ps) [] [] []).length ≤ 2000
      have z : (greatOf ps).length ≤ 2000 := ok.few
      rw [Nat.zero_add]
      exact z
    refine fs_cons (ws_of (ps_set (i := 6) nd rfl (.inl rfl) (C8.pe_mk (mak_srch (T := T) G hC hm mk Fi bi) hr (by decide) rfl (pa_cons pe_we (pa_cons pe_we pa_nil rfl) rfl)) rfl (.inl rfl)) ?_)
    refine (show DX T _ _ _ (nearT (nearOf ps)) from (by exact (dx_var 3))) _ _ sN _ fun vn H1 g1 pn => (show DX T _ _ _ (dat (.int 2000)) from (by exact (dx_var 2))) _ _ (sN.ext g1.ext) _ fun vm H2 g2 pm => fun x dx hx hdx ne => ?_
    cases dat_int pm
    have g3 : Ge T H2 (upd (upd H2 dx (.own x)) x (.ins C dx [])) := (Ge.new (T := T) hdx).trans (Ge.new (by rw [upd_ne (Ne.symm ne)]; exact hx))
    refine ⟨x, dx, nearOf ps, vn, H2, rfl, upd_same, (nearT _).mono (g2.trans g3).ext pn, by omega, g3, hx, fun Hb fa g4 hfa hsr => ⟨rfl, ?_⟩⟩
    have sF : Sat [some (hallT K bs), some (dat (.list (ps.map pD))), some (dat (.int 2000)), some (nearT (nearOf ps)), none, none, some (srchT C (nearOf ps) (keysG ps) 2000 fa)] (σ'.set 6 (some (.ref x))) Hb := (sN.ext ((g1.trans g2).trans g4).ext).set (i := 6) (t := srchT C (nearOf ps) (keysG ps) 2000 fa) hsr
    have c3 : FC T H [some (hallT K bs), some (dat (.list (ps.map pD))), some (dat (.int 2000)), some (nearT (nearOf ps)), none, none, some (srchT C (nearOf ps) (keysG ps) 2000 fa)] (oC fa [] oN) (σ'.set 6 (some (.ref x))) (addAll Hb [(fa, .lst [])]) :=
      ⟨Hb, [(fa, .lst [])], rfl, fr1, ap1 hfa, N.g.trans ((g1.trans g2).trans g4), sF, ⟨[], [], rfl, .nil, rfl⟩, trivial⟩
    refine fb_expr c3 (by exact db_meth (met_go (fa := fa) G hC mes Fs bis meg Fg big 30) hr ⟨_, okgo⟩ (dx_var 6) (dba_cons (DX.db (DX.dat dx_int rfl)) (dba_cons (DX.db (DX.dat (dx_lst da_nil) rfl)) (dba_cons (DX.db (DX.dat (dx_lst da_nil) rfl)) (dba_cons (DX.db (DX.dat (dx_lst da_nil) rfl)) dba_nil)))) rfl rfl rfl srch_in) fun H' c => ?_
    refine fs_ret c (by exact dx_srFound hC (dx_var 6)) fun v H' c' => ?_
    obtain ⟨gz, pz⟩ := c'.rel.done
    exact q v H' gz pz
end
end G
set_option Elab.async false
set_option linter.all false
set_option maxRecDepth 100000
set_option maxHeartbeats 1000000
set_option pp.maxSteps 400
namespace G
open PySem PySem.Spec L2 LamX NdefX
open PySem.W (AllAlike Sortable alike)
local macro_rules | `(tactic| fail "sub") => `(tactic| first | exact Sub.nil | (refine Sub.drop ?_; fail "sub") | (refine Sub.same ?_; fail "sub"))
local macro_rules | `(tactic| fail "side") => `(tactic| first | assumption | rfl | omega | decide)
def ofName (bs : List Board) (n : Str) : List (Nat × Nat) := (allPairs bs).filter fun p => decide ((bs.getD p.1 board0).name = n)
def prodStep (bs : List Board) (found : List (List (Nat × Nat))) (n : Str) : List (List (Nat × Nat)) := found.flatMap fun one => (greatOf (ofName bs n)).map fun other => one ++ other
def prodL (bs : List Board) (k : Nat) : List (List (Nat × Nat)) := ((namesOf bs).take k).foldl (prodStep bs) [[]]
def sortP (ps : List (Nat × Nat)) : List (Nat × Nat) := ps.mergeSort fun a b => leD (pD a) (pD b)
def greatL (bs : List Board) : List (List (Nat × Nat)) := ((prodL bs (namesOf bs).length).map sortP).mergeSort fun a b => leD (ppD a) (ppD b)
theorem sortP_map (ps : List (Nat × Nat)) : sortD (ps.map pD) = (sortP ps).map pD := (List.map_mergeSort (r := fun a b => leD (pD a) (pD b)) (s := leD) (f := pD) (l := ps) fun _ _ _ _ => rfl).symm
theorem sortP_perm (ps : List (Nat × Nat)) : (sortP ps).Perm ps := List.mergeSort_perm _ _
theorem greatL_map (bs : List Board) : sortD (((prodL bs (namesOf bs).length).map sortP).map ppD) = (greatL bs).map ppD := (List.map_mergeSort (r := fun a b => leD (ppD a) (ppD b)) (s := leD) (f := ppD) (l := (prodL bs (namesOf bs).length).map sortP) fun _ _ _ _ => rfl).symm
theorem alike_pD (p q : Nat × Nat) : alike (pD p) (pD q) = true := by simp [pD, PySem.W.alike, PySem.W.alikeAll]
theorem alikeAll_pD : ∀ (ps qs : List (Nat × Nat)), PySem.W.alikeAll (ps.map pD) (qs.map pD) = true
  | [], qs => by simp [PySem.W.alikeAll]
  | _ :: _, [] => by simp [PySem.W.alikeAll]
  | p :: ps, q :: qs => by
    rw [List.map_cons, List.map_cons, PySem.W.alikeAll, alike_pD, alikeAll_pD ps qs]
    rfl
theorem alike_ppD (p q : List (Nat × Nat)) : alike (ppD p) (ppD q) = true := by
  unfold ppD
  rw [PySem.W.alike]
  exact alikeAll_pD p q
theorem depth_pD (p : Nat × Nat) : (pD p).depth = 1 := by simp [pD, PyData.depth, PyData.depthAll]
theorem depthAll_pD : ∀ ps : List (Nat × Nat), PyData.depthAll (ps.map pD) ≤ 1
  | [] => by simp [PyData.depthAll]
  | p :: ps => by
    have h := depthAll_pD ps
    have h2 := depth_pD p
    rw [List.map_cons, PyData.depthAll]
    omega
theorem depth_ppD (ps : List (Nat × Nat)) : (ppD ps).depth ≤ 2 := by
  have h := depthAll_pD ps
  unfold ppD
  rw [PyData.depth]
  omega
structure OkGr (bs : List Board) : Prop where
  pr : OkPairs bs
  nl : (namesOf bs).length ≤ 50
  og : ∀ n, OkG (ofName bs n)
  few : ∀ k, (prodL bs k).length ≤ 2000
  el : ∀ k, ∀ ps ∈ prodL bs k, ps.length ≤ 1000
  ne : (∀ ps ∈ prodL bs (namesOf bs).length, ps ≠ []) ∨ (prodL bs (namesOf bs).length).length ≤ 1
theorem prodL_succ {bs : List Board} {k : Nat} {n : Str} (e : (namesOf bs)[k]? = some n) : prodL bs (k + 1) = prodStep bs (prodL bs k) n := by
  unfold prodL
  rw [List.take_succ, e, List.foldl_append]
  rfl
theorem prodStep_len (bs : List Board) (found : List (List (Nat × Nat))) (n : Str) : (prodStep bs found n).length = found.length * (greatOf (ofName bs n)).length := by
  unfold prodStep
  rw [List.length_flatMap]
  simp only [List.length_map]
  rw [List.map_const', List.sum_replicate_nat]
theorem allPairs_lt {bs : List Board} {p : Nat × Nat} (h : p ∈ allPairs bs) : p.1 < p.2 ∧ p.2 < bs.length ∧ arePair (bs.getD p.1 board0) (bs.getD p.2 board0) = true := by
  unfold allPairs at h
  obtain ⟨⟨b, i⟩, h1, h2⟩ := List.mem_flatMap.mp h
  unfold pairsAt at h2
  obtain ⟨k, h3, rfl⟩ := List.mem_map.mp h2
  obtain ⟨h4, h5⟩ := List.mem_filter.mp h3
  have h6 := List.mem_range.mp h4
  obtain ⟨n, hn⟩ := List.mem_iff_getElem?.mp h1
  obtain ⟨e1, e2, e3⟩ := zi_get hn
  have e2 : i = n := e2
  subst e2
  have h6 : k < bs.length - (i + 1) := h6
  refine ⟨by show i < i + 1 + k; omega, by show i + 1 + k < bs.length; omega, ?_⟩
  show arePair (bs.getD i board0) (bs.getD (i + 1 + k) board0) = true
  rw [getD_of e1]
  exact h5
theorem pairI {p : Nat × Nat} : atI [PyData.int (p.1 : Nat), .int (p.2 : Nat)] 0 = some (.int (p.1 : Nat)) := rfl
section
variable {P : Program} {w : World} {K : PySem.W.Frag} {mg : Str → Option Value} {base : Heap} {T : List NTab}
theorem fn_check_size (G : Md K mg) : C8.Cal P w K mg base 1 "check_size" (spP T (fun (i : {bs : List Board // bs.length ≤ 24}) => [hallT K i.1]) fun i => dat .none) [] := by
  refine fn_mk G.d_check_size ["hall"] (by decide +kernel) (fun _ => rfl) fun ⟨bs, ok⟩ cdv A outer s H vs Q E f hr nd q c => ?_
  have ok2 : bs.length ≤ 24 := ok
  exact fs_if1 (k := false) c (by exact DT.to (DC.dt (dc_gt (dx_lenT G.b_len (dx_boards (dx_var 0))) (dx_globI G.i_MOST_BOARDS_pairs.choose_spec))) (by rw [List.length_map]; exact decide_eq_false (by show ¬ ((24 : Int) < (bs.length : Nat)); omega))) (fun hk => by cases hk) fun _ H' c => fs_nil (q _ _ c.done.1 .non)
theorem fn_greatest (G : Md K mg) (M : AtSearch K mg) : C8.Cal P w K mg base 41 "greatest" (spP T (fun (i : {bs : List Board // OkGr bs ∧ bs.length ≤ 24}) => [hallT K i.1, dat (.list ((allPairs i.1).map pD))]) fun i => dat (.list ((greatL i.1).map ppD))) [] := by
  refine fn_mk G.d_greatest ["hall", "some", "found", "name", "own", "one", "other", "pairing", "pair"] (by decide +kernel) (fun _ => rfl) fun ⟨bs, ok, hb⟩ cdv A outer s H vs Q E f hr nd q c => ?_
  have hu : (bodyX P w K mg base ["hall", "some", "found", "name", "own", "one", "other", "pairing", "pair"] "greatest" (top 58) f cdv A outer s H E).A.units + 64 < cLine := hr.units
  have hnl := ok.nl
  refine fs_expr c (by exact dx_call (fn_check_size G) hr ⟨bs, hb⟩ (da_cons (dx_var 0) da_nil)) fun H' c => ?_
  refine fs_set 2 (t := dat (.list ((prodL bs 0).map ppD))) nd c (by exact DX.dat (dx_lst (ds := [.tuple []]) (da_cons (dx_tup (ds := []) da_nil) da_nil)) rfl) fun σ H' c => ?_
  refine fs_forM (ι := Unit) (xs := namesOf bs) (js := [3]) (fun k _ => [some (hallT K bs), some (dat (.list ((allPairs bs).map pD))), some (dat (.list ((prodL bs k).map ppD))), none, none, none, none, none, none]) (fun _ _ => oN) (fun k n _ => [some (hallT K bs), some (dat (.list ((allPairs bs).map pD))), some (dat (.list ((prodL bs k).map ppD))), some (dat (.str n)), none, none, none, none, none]) () c (di_tupM (dx_names (dx_var 0))) rfl (fun k n i e => dg_name 3 nd) (fun k n i H0 e g σ' H' c => ?_) (fun i σ' H' c => ?_)
  · have hap : (allPairs bs).length ≤ 100000 := by
      have z := flat_len bs bs.zipIdx
      rw [List.length_zipIdx] at z
      have z2 : bs.length * bs.length ≤ 24 * 24 := Nat.mul_le_mul hb hb
      have z3 : (allPairs bs).length ≤ bs.length * bs.length := z
      omega
    have hf1 := ok.few k
    have hf2 := ok.few (k + 1)
    rw [prodL_succ e] at hf2
    have hog := ok.og n
    refine fs_set 4 (t := dat (.list ((greatOf (ofName bs n)).map ppD))) nd c (by exact dx_call (fn_greatest_of G M) hr ⟨(bs, ofName bs n), hog⟩ (da_cons (dx_var 0) (da_cons (dx_lcIf [("pair", 8)] (allPairs bs) (fun p => decide ((bs.getD p.1 board0).name = n)) pD nd rfl (by rfl) (di_listM (dx_var 1)) hap (fun x hx s0 H0 C cl fp => dg_name 8 nd) (fun x hx s0 H0 C cl fp => by
      obtain ⟨l1, l2, _⟩ := allPairs_lt hx
      exact (by exact DT.to (DC.dt (dc_eqS (dx_ixT (dx_ixT (dx_boards (dx_var 0)) (dx_ixT (dx_var 8) dx_int pairI) (get_enc (by omega))) dx_int (by fail "side")) (dx_var 3))) rfl)) (fun x hx hfx s0 H0 C cl fp => by exact (dx_var 8))) (da_cons (dx_globI G.i_MOST_PAIRINGS.choose_spec) da_nil)))) fun σ H' c => ?_
    refine fs_if1 (k := false) c (by exact DT.to (DC.dt (dc_gt (dx_mul (dx_lenL G.b_len (dx_var 4)) (dx_lenL G.b_len (dx_var 2)) (by
        have z : (greatOf (ofName bs n)).length ≤ 2000 := hog.few
        rw [List.length_map]
        exact .inl ⟨by omega, by omega⟩)) (dx_globI G.i_MOST_PAIRINGS.choose_spec))) (by
      rw [List.length_map, List.length_map]
      have z := prodStep_len bs (prodL bs k) n
      rw [z] at hf2
      refine decide_eq_false ?_
      have z2 : ((greatOf (ofName bs n)).length : Int) * ((prodL bs k).length : Int) = (((prodL bs k).length * (greatOf (ofName bs n)).length : Nat) : Int) := by
        rw [Int.natCast_mul, Int.mul_comm]
      rw [z2]
      omega)) (fun hk => by cases hk) fun _ H' c => ?_
    have hel : ∀ x ∈ prodL bs k, ∀ z ∈ greatOf (ofName bs n), x.length + z.length ≤ 100000 := fun x hx z hz => by
      have h1 : x ++ z ∈ prodL bs (k + 1) := by
        rw [prodL_succ e]
        exact List.mem_flatMap.mpr ⟨x, hx, List.mem_map.mpr ⟨z, hz, rfl⟩⟩
      have h2 := ok.el (k + 1) _ h1
      rw [List.length_append] at h2
      omega
    refine fs_lc2 (ys := fun _ => greatOf (ofName bs n)) (τ := fun x => dat (ppD x)) (τ1 := fun _ z => dat (ppD z)) (Γ' := fun x => [some (hallT K bs), some (dat (.list ((allPairs bs).map pD))), some (dat (.list ((prodL bs k).map ppD))), some (dat (.str n)), some (dat (.list ((greatOf (ofName bs n)).map ppD))), some (dat (ppD x)), none, none, none]) (Γ1 := fun x z => [some (hallT K bs), some (dat (.list ((allPairs bs).map pD))), some (dat (.list ((prodL bs k).map ppD))), some (dat (.str n)), some (dat (.list ((greatOf (ofName bs n)).map ppD))), some (dat (ppD x)), some (dat (ppD z)), none, none]) (js := [5]) (js1 := [6]) (r := fun x z => ppD (x ++ z)) (xs := prodL bs k) 2 [("one", 5), ("other", 6)] [6] nd rfl (by rfl) c (di_listM (dx_var 2)) hf1 (fun x hx => hog.few) (by
        have z := prodStep_len bs (prodL bs k) n
        rw [z] at hf2
        rw [List.map_const', List.sum_replicate_nat]
        omega) (fun x hx s0 H0 C cl fp => dg_name 5 nd) (fun x hx s0 H0 C cl fp => di_listM (dx_var 4)) (fun x hx z hz s0 H0 C cl fp => dg_name 6 nd) (fun x hx z hz s0 H0 C cl fp => by exact DX.dat (dx_catT (dx_var 5) (dx_var 6) (by rw [List.length_map, List.length_map]; exact hel x hx z hz)) (by unfold ppD; rw [List.map_append])) (fun σ' H' c => fs_nil ⟨(), ?_⟩)
    have ez : ((prodL bs k).flatMap fun x => (greatOf (ofName bs n)).map fun z => ppD (x ++ z)) = (prodL bs (k + 1)).map ppD := by
      rw [prodL_succ e]
      unfold prodStep
      rw [List.map_flatMap]
      congr 1
      funext x
      rw [List.map_map]
      rfl
    rw [ez] at c
    exact c.sub (by fail "sub")
  · have hf1 := ok.few (namesOf bs).length
    have q' : ∀ v H', Ge T H H' → (dat (.list ((greatL bs).map ppD))).P v H' → Q v H' := q
    rw [← greatL_map] at q'
    have hsrt : Sortable (((prodL bs (namesOf bs).length).map sortP).map ppD) ∨ (((prodL bs (namesOf bs).length).map sortP).map ppD).length ≤ 1 := by
      rcases ok.ne with h | h
      · refine .inl (.inl fun d hd => ?_)
        obtain ⟨p, hp, rfl⟩ := List.mem_map.mp hd
        obtain ⟨p', hp', rfl⟩ := List.mem_map.mp hp
        have hne := h p' hp'
        have hl := (sortP_perm p').length_eq
        unfold ppD
        cases e : sortP p' with
        | nil =>
          rw [e] at hl
          exact absurd (List.eq_nil_of_length_eq_zero hl.symm) hne
        | cons x xs => exact ⟨_, _, rfl⟩
      · refine .inr ?_
        rw [List.length_map, List.length_map]
        exact h
    have hdep : ∀ d ∈ ((prodL bs (namesOf bs).length).map sortP).map ppD, d.depth ≤ 60 := fun d hd => by
      obtain ⟨p, _, rfl⟩ := List.mem_map.mp hd
      have := depth_ppD p
      omega
    have hdep1 : ∀ x : List (Nat × Nat), ∀ d ∈ x.map pD, d.depth ≤ 60 := fun x d hd => by
      obtain ⟨p, _, rfl⟩ := List.mem_map.mp hd
      rw [depth_pD]
      decide
    exact fs_retE c (by exact dx_sortedL hu G.b_sorted (DX.dat (dx_lc [("pairing", 7)] (prodL bs (namesOf bs).length) (fun ps => ppD (sortP ps)) nd rfl (by rfl) (di_listM (dx_var 2)) (by omega) (fun x hx s0 H0 C cl fp => dg_name 7 nd) (fun x hx s0 H0 C cl fp => by exact DX.dat (d := .tuple (sortD (x.map pD))) (dx_tupOfL G.b_tuple (dx_sortedT (ds := x.map pD) hu G.b_sorted (dx_var 7) (PySem.W.AllAlike.of alike_pD) (PySem.W.Sortable.tuples fun p => ⟨_, _, rfl⟩) (hdep1 x))) (by rw [sortP_map]; rfl))) (by rw [List.map_map]; rfl)) (PySem.W.AllAlike.of alike_ppD) hsrt hdep) q'
theorem fn_pairings (G : Md K mg) (M : AtSearch K mg) : C8.Cal P w K mg base 42 "pairings" (spP T (fun (i : {bs : List Board // OkGr bs ∧ bs.length ≤ 24}) => [hallT K i.1]) fun i => dat (.list ((greatL i.1).map ppD))) [] := by
  refine fn_mk G.d_pairings ["hall"] (by decide +kernel) (fun _ => rfl) fun ⟨bs, ok, hb⟩ cdv A outer s H vs Q E f hr nd q c => ?_
  exact fs_retE c (by exact dx_call (fn_greatest G M) hr ⟨bs, ok, hb⟩ (da_cons (dx_var 0) (da_cons (dx_call (fn_all_pairs G) hr ⟨bs, ok.pr⟩ (da_cons (dx_var 0) da_nil)) da_nil))) q
/-! ### sure -/
def sureL (bs : List Board) (a : Aim) : Option (List (Nat × Nat)) := (greatL bs).find? fun ps => (spoil a ps).isNone
def optP : Option (List (Nat × Nat)) → PyData
  | .none => .none
  | .some ps => ppD ps
structure OkSure (p : List Board × Aim) : Prop where
  gr : OkGr p.1
  len : p.1.length ≤ 24
  dep : p.2.depth ≤ 8
  ok : ∃ m, p.2.ok m
  out : ∀ ps ∈ greatL p.1, OkOut ps
theorem optD_isNon (o : Option Nat) : isNonD (optD o) = o.isNone := by cases o <;> rfl
theorem optP_isNon (o : Option (List (Nat × Nat))) : isNonD (optP o) = o.isNone := by cases o <;> rfl
theorem find_none' {α : Type} {p : α → Bool} {l : List α} (h : ∀ y ∈ l, p y = false) : l.find? p = none := List.find?_eq_none.mpr fun m hm => by rw [h m hm]; exact Bool.false_ne_true
theorem fn_sure_of (G : Md K mg) (M : AtSearch K mg) : C8.Cal P w K mg base 43 "sure_of" (spP T (fun (i : {p : List Board × Aim // OkSure p}) => [hallT K i.1.1, dat i.1.2.enc, dat (.list ((allPairs i.1.1).map pD))]) fun i => dat (optP (sureL i.1.1 i.1.2))) [] := by
  refine fn_mk G.d_sure_of ["hall", "aim", "some", "pairing"] (by decide +kernel) (fun _ => rfl) fun ⟨⟨bs, a⟩, ok⟩ cdv A outer s H vs Q E f hr nd q c => ?_
  refine fs_forM (ι := Unit) (xs := greatL bs) (js := [3]) (fun n i => [some (hallT K bs), some (dat a.enc), some (dat (.list ((allPairs bs).map pD))), none]) (fun n _ => oP (∀ m ∈ (greatL bs).take n, (spoil a m).isNone = false) oN) (fun n x _ => [some (hallT K bs), some (dat a.enc), some (dat (.list ((allPairs bs).map pD))), some (dat (ppD x))]) () (FC.put c (fun _ h => (by rw [List.take_zero] at h; cases h))) (di_listM (by exact dx_call (fn_greatest G M) hr ⟨bs, ok.gr, ok.len⟩ (da_cons (dx_var 0) (da_cons (dx_var 2) da_nil)))) rfl (fun n x i e => dg_name 3 nd) (fun n x i H0 e g σ' H' c => ?_) (fun i σ' H' c => ?_)
  · obtain ⟨hp, c⟩ := c.get
    refine fs_if1 (k := (spoil a x).isNone) c (by exact DT.to (DC.dt (dc_isN (dx_call (fn_spoiling G) hr ⟨(a, x), ⟨ok.dep, ok.ok, ok.out x (List.mem_of_getElem? e)⟩⟩ (da_cons (dx_var 1) (da_cons (dx_var 3) da_nil))) dx_non)) (optD_isNon _)) (fun hk H' c => ?_) fun hk H' c => fs_nil ⟨(), FC.put (c.sub (by fail "sub")) (fun m hm => ?_)⟩
    · have z : sureL bs a = some x := find_take e hp hk
      rw [z] at q
      exact fs_retE c (by exact (dx_var 3)) fun v H' g' p => q v H' (g.trans g') p
    · rw [List.take_succ, e] at hm
      rcases List.mem_append.mp hm with h | h
      · exact hp m h
      · rw [Option.toList_some, List.mem_singleton] at h
        rw [h]
        exact hk
  · obtain ⟨hp, c⟩ := c.get
    have z : sureL bs a = none := find_none' fun m hm => hp m (by rw [List.take_of_length_le (Nat.le_refl _)]; exact hm)
    rw [z] at q
    exact fs_retE c (by exact dx_non) q
theorem fn_sure (G : Md K mg) (M : AtSearch K mg) : C8.Cal P w K mg base 44 "sure" (spP T (fun (i : {p : List Board × Aim // OkSure p ∧ OkAim (p.2, p.1.length)}) => [hallT K i.1.1, dat i.1.2.enc]) fun i => dat (optP (sureL i.1.1 i.1.2))) [] := by
  refine fn_mk G.d_sure ["hall", "aim"] (by decide +kernel) (fun _ => rfl) fun ⟨⟨bs, a⟩, ok, oka⟩ cdv A outer s H vs Q E f hr nd q c => ?_
  refine fs_expr c (by exact dx_call (fn_check_aim G) hr ⟨(bs, a), oka⟩ (da_cons (dx_var 0) (da_cons (dx_var 1) da_nil))) fun H' c => ?_
  exact fs_retE c (by exact dx_call (fn_sure_of G M) hr ⟨(bs, a), ok⟩ (da_cons (dx_var 0) (da_cons (dx_var 1) (da_cons (dx_call (fn_all_pairs G) hr ⟨bs, ok.gr.pr⟩ (da_cons (dx_var 0) da_nil)) da_nil)))) q
end
end G
set_option Elab.async false
set_option linter.all false
set_option maxRecDepth 100000
set_option maxHeartbeats 1000000
set_option pp.maxSteps 400
namespace G
open PySem PySem.Spec L2 LamX NdefX
local macro_rules | `(tactic| fail "sub") => `(tactic| first | exact Sub.nil | (refine Sub.drop ?_; fail "sub") | (refine Sub.same ?_; fail "sub"))
local macro_rules | `(tactic| fail "side") => `(tactic| first | assumption | rfl | omega | decide)
section
variable {T : List NTab} {X : Cx} {Γ : Gam} {O : OS} {Hin : Hp} {σ : L2.St} {H : Hp} {D : Ends} {e eb : Expr} {rest : List Stmt} {pos apos p2 : Pos}
/-- own.extend(e) -/
theorem fb_extend {l : Addr} {ds es : List PyData} (c : FC T Hin Γ (oC l ds O) σ H) (hl : ds.length + es.length ≤ 100000) (ho : DX T X Γ eb (tyv (.ref l))) (h : DX T X Γ e (dat (.list es))) (kk : ∀ H', FC T Hin Γ (oC l (ds ++ es) O) σ H' → WSs X rest D σ H')
    (hbase : attributeBase eb "extend" X.env (eval eb X.env) = eval eb X.env := by rfl)
    (hfew : ((backTo pos (starEach (e :: []) X.env)).all (fun x => !x.1) && (backToKw pos (keywordEach [] X.env)).all (fun x => x.1.isSome)
      && decide ((e :: []).length + ([] : List Keyword).length + (if ([] : List Keyword).isEmpty then 0 else 1) < 30)) = true := by rfl)
    (hline : (apos.endLine == pos.line) = true := by rfl) (hs : starEach (e :: []) X.env = (false, eval e X.env) :: starEach [] X.env := by rfl)
    (hsw : swapsWith (.Call (.Attribute eb "extend" apos) [e] [] pos) none p2.line X.env = pure false := by rfl) : WSs X (.Expr (.Call (.Attribute eb "extend" apos) [e] [] pos) p2 :: rest) D σ H := by
  have hsl : sizeLine > 100000 := by decide
  refine fs_cons (ws_of (ps_expr (pe_bm PySem.F.plainAttrs_list PySem.F.slot_list_extend PySem.F.type_list_extend mt_extend pe_we (pa_cons pe_we pa_nil hs) hbase hfew hline hs rfl) hsw) (fc_we c ho fun v H1 c1 => ?_))
  obtain ⟨Hb, L, eH, f, ap, g, s, ⟨vs, L', eL, h2, h3⟩, pv⟩ := id c1
  have pv : v = .ref l := pv
  subst pv eH eL
  refine ⟨.inl ⟨rfl, _, .inl (.inl (show addAll Hb ((l, HO.lst vs) :: L') l = some (.lst vs) from upd_same))⟩, fc_we c1.fc h fun w H' c' => ?_⟩
  obtain ⟨Hb', L2, rfl, f', ap', g', s', ⟨vs', L'', rfl, h2', h3'⟩, p'⟩ := c'
  obtain ⟨b, ws, rfl, h4, h5⟩ := dat_lst p'
  have hlen := dqa_len h2'
  have hlen2 := dqa_len h5
  refine ⟨l, b, vs', ws, rfl, rfl, upd_same, (ge_addAll (T := T) f' ap').ext _ _ h4 (fun _ z => by cases z), by omega, kk _ ⟨Hb', (l, .lst (vs' ++ ws)) :: L'', ?_, ⟨f'.nd, fun q hq => ?_⟩, fun q hq => ?_, g', s', ⟨_, L'', rfl, dqa_app h2' h5, h3'⟩, trivial⟩⟩
  · show upd (upd (addAll Hb' L'') l (.lst vs')) l _ = upd (addAll Hb' L'') l _
    exact upd_upd
  · rcases List.mem_cons.mp hq with z | z
    · rw [z]
      rfl
    · exact f'.pl q (List.mem_cons_of_mem _ z)
  · rcases List.mem_cons.mp hq with z | z
    · rw [z]
      exact ap' (l, .lst vs') List.mem_cons_self
    · exact ap' q (List.mem_cons_of_mem _ z)
end
/-! ### is_pairing -/
structure OkIsP (p : List Board × List (Nat × Nat)) : Prop where
  row : ∀ b ∈ p.1, RowOk b
  len : p.2.length ≤ 100
  lt : ∀ q ∈ p.2, q.1 < q.2 ∧ q.2 < p.1.length
  asc : ascL (p.2.map fun q => [((q.1 : Nat) : Int), ((q.2 : Nat) : Int)]) = true
  pr : ∀ q ∈ p.2, arePair (p.1.getD q.1 board0) (p.1.getD q.2 board0) = true
  nd : (flatP p.2).Nodup
theorem getD_mem {bs : List Board} {i : Nat} (h : i < bs.length) : bs.getD i board0 ∈ bs := by
  rw [List.getD_eq_getElem?_getD, List.getElem?_eq_getElem h]
  exact List.getElem_mem h
def mostStep (o : Option (List (Nat × Nat))) (ps : List (Nat × Nat)) : Option (List (Nat × Nat)) := match o with
  | none => some ps
  | some b => if b.length < ps.length then some ps else some b
def mostL (l : List (List (Nat × Nat))) : Option (List (Nat × Nat)) := l.foldl mostStep none
def mostD : Option (List (Nat × Nat)) → PyData
  | none => .none
  | some ps => .tuple [.int (ps.length : Nat), ppD ps]
def fullN (nm : Near) : Nat → List Nat → List (List (Nat × Nat))
  | 0, _ => [[]]
  | _ + 1, [] => [[]]
  | n + 1, x :: l => ((nb nm x).filter fun o => decide (o ∈ x :: l)).flatMap fun o => (fullN nm n (l.filter fun b => !decide (b = o))).map fun ps => (x, o) :: ps
theorem fullN_nil (nm : Near) (n : Nat) : fullN nm n [] = [[]] := by cases n <;> rfl
def laterOf (ps : List (Nat × Nat)) : Near := ps.foldl (fun nm p => addNear nm p.1 p.2) []
theorem nb_later : ∀ (n : Nat) (ps : List (Nat × Nat)) (a b : Nat), b ∈ nb (laterOf (ps.take n)) a ↔ (a, b) ∈ ps.take n
  | 0, ps, a, b => by simp [laterOf, nb, look]
  | n + 1, ps, a, b => by
    have ih := nb_later n ps a b
    rw [List.take_succ]
    cases e : ps[n]? with
    | none =>
      rw [Option.toList_none, List.append_nil]
      exact ih
    | some p =>
      have e2 : laterOf (ps.take n ++ [p]) = addNear (laterOf (ps.take n)) p.1 p.2 := by
        unfold laterOf
        rw [List.foldl_append]
        rfl
      rw [Option.toList_some, e2, nb_add, List.mem_append, List.mem_singleton]
      split
      · rename_i z
        rw [List.mem_append, List.mem_singleton, ih]
        constructor
        · rintro (h | h)
          · exact .inl h
          · exact .inr (Prod.ext z h)
        · rintro (h | h)
          · exact .inl h
          · exact .inr (by rw [← h])
      · rename_i z
        rw [ih]
        exact ⟨.inl, fun h => h.elim id fun e => absurd (by rw [← e]) z⟩
theorem later_klen : ∀ (n : Nat) (ps : List (Nat × Nat)), (laterOf (ps.take n)).length ≤ n ∧ ∀ a, (nb (laterOf (ps.take n)) a).length ≤ n
  | 0, ps => by simp [laterOf, nb, look]
  | n + 1, ps => by
    obtain ⟨h1, h2⟩ := later_klen n ps
    rw [List.take_succ]
    cases e : ps[n]? with
    | none =>
      rw [Option.toList_none, List.append_nil]
      exact ⟨by omega, fun a => by have := h2 a; omega⟩
    | some p =>
      have e2 : laterOf (ps.take n ++ [p]) = addNear (laterOf (ps.take n)) p.1 p.2 := by
        unfold laterOf
        rw [List.foldl_append]
        rfl
      rw [Option.toList_some, e2]
      refine ⟨?_, fun a => ?_⟩
      · have z := congrArg List.length (keys_add (laterOf (ps.take n)) p.1 p.2)
        rw [List.length_map] at z
        have z2 := keyAddN_len ((laterOf (ps.take n)).map (·.1)) p.1
        rw [List.length_map] at z2
        omega
      · rw [nb_add]
        have := h2 a
        split
        · rw [List.length_append, List.length_singleton]; omega
        · omega
section
variable {P : Program} {w : World} {K : PySem.W.Frag} {mg : Str → Option Value} {base : Heap} {T : List NTab}
theorem fn_is_pairing (G : Md K mg) : C8.Cal P w K mg base 5 "is_pairing" (spP T (fun (i : {p : List Board × List (Nat × Nat) // OkIsP p}) => [hallT K i.1.1, dat (ppD i.1.2)]) fun i => dat (.bool true)) [] := by
  refine fn_mk G.d_is_pairing ["hall", "thing", "many", "pair", "one", "other"] (by decide +kernel) (fun _ => rfl) fun ⟨⟨bs, ps⟩, ok⟩ cdv A outer s H vs Q E f hr nd q c => ?_
  have hl : ps.length ≤ 100 := ok.len
  refine fs_set 2 (t := dat (.int (bs.length : Nat))) nd c (by exact DX.dat (dx_lenT G.b_len (dx_boards (dx_var 0))) (by rw [List.length_map])) fun σ H' c => ?_
  refine fs_if1 (k := false) c (by exact DT.to (DW.dt (dw_or (dt_not (dt_val (dx_isi (d := ppD ps) G.b_isinstance G.b_tuple (by rfl) (dx_var 1) (by rfl)))) fun _ => dw_one (dt_not (dt_val (dx_all (bs := ps.map fun _ => true) rfl G.b_all (DX.dat (dx_lc [("pair", 3)] ps (fun _ => .bool true) nd rfl (by rfl) (di_tupM (r := pD) (dx_var 1)) (by omega) (fun x hx s0 H0 C cl fp => dg_name 3 nd) (fun x hx s0 H0 C cl fp => by
    have h := ok.lt x hx
    have okl : OkLot ([x.1, x.2], bs.length) := ⟨fun y hy => by
      have hy : y = x.1 ∨ y = x.2 := by simpa using hy
      have h1 : x.1 < x.2 := h.1
      have h2 : x.2 < bs.length := h.2
      show y < bs.length
      omega, by simpa using h.1, by show 2 ≤ 1000; decide⟩
    exact (by exact DX.dat (dx_and (dx_call (fn_is_lot G) hr ⟨([x.1, x.2], bs.length), okl⟩ (da_cons (dx_var 3) (da_cons (dx_var 2) da_nil))) fun _ => DX.one (DC.dx (dc_eqI (dx_lenT (ds := [.int (x.1 : Nat), .int (x.2 : Nat)]) G.b_len (dx_var 3)) dx_int))) rfl))) (by rw [List.map_map]; rfl))))))) (by rw [all_true]; rfl)) (fun hk => by cases hk) fun _ H' c => ?_
  refine fs_if1 (k := false) c (by exact DT.to (DW.dt (dw_or (dt_not (dt_val (dx_call (fn_is_ascending G) hr ⟨.inr (ps.map fun q => [((q.1 : Nat) : Int), ((q.2 : Nat) : Int)]), by show ((ps.map _).map _).length ≤ 1000; rw [List.length_map, List.length_map]; omega⟩ (da_cons (DX.dat (d := ppD ps) (dx_var 1) (by show ppD ps = .tuple ((ps.map _).map _); rw [List.map_map]; rfl)) da_nil)))) fun _ => dw_one (dt_not (dt_val (dx_all (bs := ps.map fun _ => true) rfl G.b_all (DX.dat (dx_lc [("one", 4), ("other", 5)] ps (fun _ => .bool true) nd rfl (by rfl) (di_tupM (r := pD) (dx_var 1)) (by omega) (fun x hx s0 H0 C cl fp => dg_tup2 (i1 := 4) (i2 := 5) rfl nd) (fun x hx s0 H0 C cl fp => by
    have h := ok.lt x hx
    have h1 : x.1 < bs.length := Nat.lt_trans h.1 h.2
    have h2 : x.2 < bs.length := h.2
    have hp : arePair (bs.getD x.1 board0) (bs.getD x.2 board0) = true := ok.pr x hx
    exact (by exact DX.dat (dx_call (fn_are_pair G) hr ⟨(bs.getD x.1 board0, bs.getD x.2 board0), ok.row _ (getD_mem h1), ok.row _ (getD_mem h2)⟩ (da_cons (dx_ixT (dx_boards (dx_var 0)) (dx_var 4) (get_enc h1)) (da_cons (dx_ixT (dx_boards (dx_var 0)) (dx_var 5) (get_enc h2)) da_nil))) (congrArg PyData.bool hp)))) (by rw [List.map_map]; rfl))))))) (by
      rw [all_true]
      have z : ascRes (.inr (ps.map fun q => [((q.1 : Nat) : Int), ((q.2 : Nat) : Int)])) = true := ok.asc
      rw [z]
      rfl)) (fun hk => by cases hk) fun _ H' c => ?_
  exact fs_retE c (by exact DX.dat (DC.dx (dc_eqI (dx_lenD G.b_len (dx_call (fn_partners G) hr ⟨ps, by omega⟩ (da_cons (dx_var 1) da_nil))) (dx_mul dx_int (dx_lenT (ds := ps.map pD) G.b_len (dx_var 1)) (.inl ⟨by omega, by omega⟩)))) (congrArg PyData.bool (decide_eq_true (by
    rw [List.length_map]
    have z := (partK_iff ps).mpr ok.nd
    show ((partK ps).length : Int) = 2 * (ps.length : Int)
    omega)))) q
theorem fn_check_boards (G : Md K mg) : C8.Cal P w K mg base 1 "check_boards" (spP T (fun (i : {bs : List Board // bs.length ≤ 12}) => [hallT K i.1, dat (.int 12)]) fun i => dat .none) [] := by
  refine fn_mk G.d_check_boards ["hall", "most"] (by decide +kernel) (fun _ => rfl) fun ⟨bs, ok⟩ cdv A outer s H vs Q E f hr nd q c => ?_
  have ok2 : bs.length ≤ 12 := ok
  exact fs_if1 (k := false) c (by exact DT.to (DC.dt (dc_gt (dx_lenT G.b_len (dx_boards (dx_var 0))) (dx_var 1))) (by rw [List.length_map]; exact decide_eq_false (by show ¬ ((12 : Int) < (bs.length : Nat)); omega))) (fun hk => by cases hk) fun _ H' c => fs_nil (q _ _ c.done.1 .non)
theorem fn_are_prices (G : Md K mg) : C8.Cal P w K mg base 3 "are_prices" (spP T (fun (i : {p : List Board × List Nat // p.2.length = p.1.length ∧ p.1.length ≤ 50 ∧ ∀ x ∈ p.2, x ≤ 1000000}) => [hallT K i.1.1, dat (lotD i.1.2)]) fun i => dat (.bool true)) [] := by
  refine fn_mk G.d_are_prices ["hall", "thing", "price"] (by decide +kernel) (fun _ => rfl) fun ⟨⟨bs, ns⟩, ok1, ok2, ok3⟩ cdv A outer s H vs Q E f hr nd q c => ?_
  have h1 : ns.length = bs.length := ok1
  have h2 : bs.length ≤ 50 := ok2
  refine fs_if1 (k := false) c (by exact DT.to (DW.dt (dw_or (dt_not (dt_val (dx_isi (d := lotD ns) G.b_isinstance G.b_tuple (by rfl) (dx_var 1) (by rfl)))) fun _ => dw_one (DC.dt (dc_neI (dx_lenT (ds := (cs ns).map .int) G.b_len (dx_var 1)) (dx_lenT G.b_len (dx_boards (dx_var 0))))))) (by rw [List.length_map, List.length_map, cs_len]; show (!true || !decide (((ns.length : Nat) : Int) = ((bs.length : Nat) : Int))) = false; rw [decide_eq_true (by omega)]; rfl)) (fun hk => by cases hk) fun _ H' c => ?_
  exact fs_retE c (DX.dat (dx_all (bs := (cs ns).map fun _ => true) rfl G.b_all (DX.dat (dx_lc [("price", 2)] (cs ns) (fun _ => .bool true) nd rfl (by rfl) (di_tupM (r := PyData.int) (dx_var 1)) (by rw [cs_len]; omega) (fun x hx s0 H0 C cl fp => dg_name 2 nd) (fun x hx s0 H0 C cl fp => by
    obtain ⟨n, hn, rfl⟩ := cs_mem hx
    have z := ok3 n hn
    exact (by exact DX.dat (dx_call (fn_is_within G) hr ⟨_, _, _⟩ (da_cons (dx_var 2) (da_cons dx_int (da_cons (dx_globI G.i_MOST_PRICE.choose_spec) da_nil)))) (congrArg PyData.bool (decide_eq_true (by have z2 : n ≤ 1000000 := z; show (0 : Int) ≤ (n : Nat) ∧ ((n : Nat) : Int) ≤ 1000000; omega)))))) (by rw [List.map_map]; rfl))) (by rw [all_true])) q
theorem fn_check_points (G : Md K mg) : C8.Cal P w K mg base 3 "check_points" (spP T (fun (i : {bs : List Board // bs.length ≤ 50}) => [hallT K i.1, dat (lotD (List.replicate i.1.length 1))]) fun i => dat .none) [] := by
  refine fn_mk G.d_check_points ["hall", "points", "number"] (by decide +kernel) (fun _ => rfl) fun ⟨bs, ok⟩ cdv A outer s H vs Q E f hr nd q c => ?_
  have h2 : bs.length ≤ 50 := ok
  have hn : ∀ ns : List Nat, ns = List.replicate bs.length 1 → ns.length = bs.length := fun ns e => by rw [e, List.length_replicate]
  have hm : ∀ ns : List Nat, ns = List.replicate bs.length 1 → ∀ x ∈ ns, x = 1 := fun ns e x hx => by rw [e] at hx; exact (List.mem_replicate.mp hx).2
  have c' : FC T H [some (hallT K bs), some (dat (lotD (List.replicate bs.length 1))), none] oN _ H := c
  generalize hns : List.replicate bs.length 1 = ns at c'
  have h1 := hn ns hns.symm
  have h3 := hm ns hns.symm
  refine fs_if1 (k := false) c' (by exact DT.to (DW.dt (dw_or (dt_not (dt_val (dx_isi (d := lotD ns) G.b_isinstance G.b_tuple (by rfl) (dx_var 1) (by rfl)))) fun _ => dw_one (DC.dt (dc_neI (dx_lenT (ds := (cs ns).map .int) G.b_len (dx_var 1)) (dx_lenT G.b_len (dx_boards (dx_var 0))))))) (by rw [List.length_map, List.length_map, cs_len, h1]; simp)) (fun hk => by cases hk) fun _ H' c => ?_
  refine fs_if1 (k := false) c (by exact DT.to (dt_not (dt_val (dx_all (bs := (cs ns).map fun _ => true) rfl G.b_all (DX.dat (dx_lc [("number", 2)] (cs ns) (fun _ => .bool true) nd rfl (by rfl) (di_tupM (r := PyData.int) (dx_var 1)) (by rw [cs_len]; omega) (fun x hx s0 H0 C cl fp => dg_name 2 nd) (fun x hx s0 H0 C cl fp => by
    obtain ⟨n, hn, rfl⟩ := cs_mem hx
    have z := h3 n hn
    subst z
    exact (by exact DX.dat (dx_call (fn_is_within G) hr ⟨_, _, _⟩ (da_cons (dx_var 2) (da_cons dx_int (da_cons (dx_globI G.i_MOST_POINTS.choose_spec) da_nil)))) rfl))) (by rw [List.map_map]; rfl))))) (by rw [all_true]; rfl)) (fun hk => by cases hk) fun _ H' c => fs_nil (q _ _ c.done.1 .non)
theorem sum_ones : ∀ n : Nat, (List.replicate n (1 : Int)).sum = (n : Int)
  | 0 => rfl
  | n + 1 => by rw [List.replicate_succ, List.sum_cons, sum_ones n]; omega
theorem fn_sum_of (G : Md K mg) : C8.Cal P w K mg base 1 "sum_of" (spP T (fun (i : {p : Nat × List (Nat × Nat) // (∀ q ∈ p.2, q.1 < p.1 ∧ q.2 < p.1) ∧ p.2.length ≤ 1000}) => [dat (lotD (List.replicate i.1.1 1)), dat (ppD i.1.2)]) fun i => dat (.int (i.1.2.length : Nat))) [] := by
  refine fn_mk G.d_sum_of ["points", "pairing", "one", "other"] (by decide +kernel) (fun _ => rfl) fun ⟨⟨m, ps⟩, ok, ok2⟩ cdv A outer s H vs Q E f hr nd q c => ?_
  have hl : ps.length ≤ 1000 := ok2
  have hat : ∀ i, i < m → atI ((cs (List.replicate m 1)).map PyData.int) (i : Int) = some (.int 1) := fun i hi => by
    have e : (List.replicate m 1)[i]? = some 1 := by rw [List.getElem?_replicate, if_pos hi]
    exact atI_cs e
  exact fs_retE c (DX.dat (dx_sum (ns := ps.map fun _ => 1) rfl G.b_sum (DX.dat (dx_lc [("one", 2), ("other", 3)] ps (fun _ => .int 1) nd rfl (by rfl) (di_tupM (r := pD) (dx_var 1)) (by omega) (fun x hx s0 H0 C cl fp => dg_tup2 (i1 := 2) (i2 := 3) rfl nd) (fun x hx s0 H0 C cl fp => by
    have h := ok x hx
    exact (by exact DX.dat (dx_min2 rfl G.b_min (da_cons (dx_ixT (dx_var 0) (dx_var 2) (hat _ h.1)) (da_cons (dx_ixT (dx_var 0) (dx_var 3) (hat _ h.2)) da_nil))) rfl))) (by rw [List.map_map]; rfl))) (by rw [List.map_const', sum_ones])) q
theorem most_take {l : List (List (Nat × Nat))} {n : Nat} {x : List (Nat × Nat)} (e : l[n]? = some x) : mostL (l.take (n + 1)) = mostStep (mostL (l.take n)) x := by
  unfold mostL
  rw [List.take_succ, e, List.foldl_append]
  rfl
theorem fn_most_points (G : Md K mg) (M : AtSearch K mg) : C8.Cal P w K mg base 43 "most_points" (spP T (fun (i : {bs : List Board // (OkGr bs ∧ bs.length ≤ 24) ∧ ∀ ps ∈ greatL bs, (∀ q ∈ ps, q.1 < bs.length ∧ q.2 < bs.length) ∧ ps.length ≤ 1000}) => [hallT K i.1, dat (lotD (List.replicate i.1.length 1))]) fun i => dat (mostD (mostL (greatL i.1)))) [] := by
  refine fn_mk G.d_most_points ["hall", "points", "best", "pairing", "number"] (by decide +kernel) (fun _ => rfl) fun ⟨bs, ok, ok2⟩ cdv A outer s H vs Q E f hr nd q c => ?_
  have hb : bs.length ≤ 24 := ok.2
  refine fs_expr c (by exact dx_call (fn_check_points G) hr ⟨bs, by omega⟩ (da_cons (dx_var 0) (da_cons (dx_var 1) da_nil))) fun H' c => ?_
  refine fs_set 2 (t := dat (mostD (mostL ((greatL bs).take 0)))) nd c (by exact dx_non) fun σ H' c => ?_
  refine fs_forM (ι := Unit) (xs := greatL bs) (js := [3]) (fun n i => [some (hallT K bs), some (dat (lotD (List.replicate bs.length 1))), some (dat (mostD (mostL ((greatL bs).take n)))), none, none]) (fun n _ => oN) (fun n x _ => [some (hallT K bs), some (dat (lotD (List.replicate bs.length 1))), some (dat (mostD (mostL ((greatL bs).take n)))), some (dat (ppD x)), none]) () c (di_listM (by exact dx_call (fn_pairings G M) hr ⟨bs, ok⟩ (da_cons (dx_var 0) da_nil))) rfl (fun n x i e => dg_name 3 nd) (fun n x i H0 e g σ' H' c => ?_) (fun i σ' H' c => ?_)
  · obtain ⟨h1, h2⟩ := ok2 x (List.mem_of_getElem? e)
    have em := most_take e
    refine fs_set 4 nd c (by exact dx_call (fn_sum_of G) hr ⟨(bs.length, x), h1, h2⟩ (da_cons (dx_var 1) (da_cons (dx_var 3) da_nil))) fun σ H' c => ?_
    have fin : ∀ {σ H'}, FC T H0 [some (hallT K bs), some (dat (lotD (List.replicate bs.length 1))), some (dat (mostD (some x))), some (dat (ppD x)), some (dat (.int (x.length : Nat)))] oN σ H' → mostStep (mostL ((greatL bs).take n)) x = some x → ∃ i' : Unit, FC T H0 [some (hallT K bs), some (dat (lotD (List.replicate bs.length 1))), some (dat (mostD (mostL ((greatL bs).take (n + 1))))), none, none] oN σ H' := fun c e2 => by
      rw [em, e2]
      exact ⟨(), c.sub (by fail "sub")⟩
    cases eo : mostL ((greatL bs).take n) with
    | none =>
      rw [eo] at c
      refine fs_if1 (k := true) c (by exact DT.to (DW.dt (dw_or (k := true) (l := true) (DC.dt (dc_isN (d := .none) (dx_var 2) dx_non)) (fun hk => by cases hk))) rfl) (fun _ H' c => ?_) fun hk => by cases hk
      exact fs_set 2 (t := dat (mostD (some x))) nd c (by exact dx_tup (ds := [.int (x.length : Nat), ppD x]) (da_cons (dx_var 4) (da_cons (dx_var 3) da_nil))) fun σ H' c => fs_nil (fs_nil (fin c (by rw [eo]; rfl)))
    | some b =>
      rw [eo] at c
      refine fs_if1 (k := decide (b.length < x.length)) c (by exact DT.to (DW.dt (dw_or (DC.dt (dc_isN (d := mostD (some b)) (dx_var 2) dx_non)) fun _ => dw_one (DC.dt (dc_gt (dx_var 4) (dx_ixT (ds := [.int (b.length : Nat), ppD b]) (dx_var 2) dx_int (by fail "side")))))) (by
          show (false || decide (((b.length : Nat) : Int) < ((x.length : Nat) : Int))) = _
          rw [Bool.false_or, Bool.eq_iff_iff, decide_eq_true_iff, decide_eq_true_iff]
          omega)) (fun hk H' c => ?_) fun hk H' c => ?_
      · exact fs_set 2 (t := dat (mostD (some x))) nd c (by exact dx_tup (ds := [.int (x.length : Nat), ppD x]) (da_cons (dx_var 4) (da_cons (dx_var 3) da_nil))) fun σ H' c => fs_nil (fs_nil (fin c (by rw [eo]; exact if_pos (of_decide_eq_true hk))))
      · refine fs_nil ⟨(), ?_⟩
        have z : mostStep (mostL ((greatL bs).take n)) x = some b := by rw [eo]; exact if_neg (of_decide_eq_false hk)
        rw [em, z]
        exact c.sub (by fail "sub")
  · rw [List.take_of_length_le (Nat.le_refl _)] at c
    exact fs_retE c (by exact (dx_var 2)) q
/-! ### following -/
theorem fn_facing (G : Md K mg) (M : Mc K mg) : C8.Cal P w K mg base 5 "facing" (spP T (fun (i : {p : List Board × List Board // OkTurn p.1 ∧ p.1.length + p.2.length ≤ 50}) => [hallT K i.1.1, hallT K i.1.2]) fun i => hallT K (i.1.1.map Board.turn ++ i.1.2)) [] := by
  refine fn_mk G.d_facing ["one", "other"] (by decide +kernel) (fun _ => rfl) fun ⟨⟨bs, cs⟩, ok, ok2⟩ cdv A outer s H vs Q E f hr nd q c => ?_
  exact fs_retE c (by exact dx_call (fn_joined G M) hr ⟨(bs.map Board.turn, cs), by show (bs.map _).length + cs.length ≤ 50; rw [List.length_map]; exact ok2⟩ (da_cons (dx_call (fn_turned G M) hr ⟨bs, ok⟩ (da_cons (dx_var 0) da_nil)) (da_cons (dx_var 1) da_nil))) q
def goalA (n : Nat) (a g : Aim) : Aim := .node .some [a.dual, g.moved n]
structure OkGoal (p : List Board × Aim × Aim) : Prop where
  d1 : p.2.1.depth ≤ 6
  d2 : p.2.2.depth ≤ 6
  o1 : ∃ m, p.2.1.ok m
  o2 : ∃ m, p.2.2.ok m
theorem fn_goal_between (G : Md K mg) : C8.Cal P w K mg base 9 "goal_between" (spP T (fun (i : {p : List Board × Aim × Aim // OkGoal p}) => [hallT K i.1.1, dat i.1.2.1.enc, dat i.1.2.2.enc]) fun i => dat (goalA i.1.1.length i.1.2.1 i.1.2.2).enc) [] := by
  refine fn_mk G.d_goal_between ["one", "aim", "goal"] (by decide +kernel) (fun _ => rfl) fun ⟨⟨bs, a, g⟩, ok⟩ cdv A outer s H vs Q E f hr nd q c => ?_
  exact fs_retE c (by exact DX.dat (dx_tup (ds := [.str "some", .tuple [a.dual.enc, (g.moved bs.length).enc]]) (da_cons dx_str (da_cons (dx_tup (ds := [a.dual.enc, (g.moved bs.length).enc]) (da_cons (dx_call (fn_dual_of G 6) hr ⟨a, ok.d1, ok.o1⟩ (da_cons (dx_var 1) da_nil)) (da_cons (dx_call (fn_moved_by G 6) hr ⟨(g, bs.length), ok.d2, ok.o2⟩ (da_cons (dx_var 2) (da_cons (DX.dat (dx_lenT G.b_len (dx_boards (dx_var 0))) (by rw [List.length_map])) da_nil))) da_nil))) da_nil))) rfl) q
structure AimsI where
  one : List Board
  a : Aim
  other : List Board
  g : Aim
structure OkAims (i : AimsI) : Prop where
  a : OkAim (i.a, i.one.length)
  g : OkAim (i.g, i.other.length)
theorem fn_check_aims (G : Md K mg) : C8.Cal P w K mg base 16 "check_aims" (spP T (fun (i : {i : AimsI // OkAims i}) => [hallT K i.1.one, dat i.1.a.enc, hallT K i.1.other, dat i.1.g.enc]) fun i => dat .none) [] := by
  refine fn_mk G.d_check_aims ["one", "aim", "other", "goal"] (by decide +kernel) (fun _ => rfl) fun ⟨⟨bs, a, cs, g⟩, ok⟩ cdv A outer s H vs Q E f hr nd q c => ?_
  refine fs_expr c (by exact dx_call (fn_check_aim G) hr ⟨(bs, a), ok.a⟩ (da_cons (dx_var 0) (da_cons (dx_var 1) da_nil))) fun H' c => ?_
  refine fs_expr c (by exact dx_call (fn_check_aim G) hr ⟨(cs, g), ok.g⟩ (da_cons (dx_var 2) (da_cons (dx_var 3) da_nil))) fun H' c => ?_
  exact fs_nil (q _ _ c.done.1 .non)
def faceB (i : AimsI) : List Board := i.one.map Board.turn ++ i.other
def faceA (i : AimsI) : Aim := goalA i.one.length i.a i.g
structure OkFol (i : AimsI) : Prop where
  aims : OkAims i
  turn : OkTurn i.one
  len : i.one.length + i.other.length ≤ 24
  goal : OkGoal (i.one, i.a, i.g)
  sure : OkSure (faceB i, faceA i)
theorem fn_between (G : Md K mg) (M : Mc K mg) (S : AtSearch K mg) : C8.Cal P w K mg base 44 "between" (spP T (fun (i : {i : AimsI // OkFol i}) => [hallT K i.1.one, dat i.1.a.enc, hallT K i.1.other, dat i.1.g.enc]) fun i => dat (optP (sureL (faceB i.1) (faceA i.1)))) [] := by
  refine fn_mk G.d_between ["one", "aim", "other", "goal", "hall"] (by decide +kernel) (fun _ => rfl) fun ⟨⟨bs, a, cs, g⟩, ok⟩ cdv A outer s H vs Q E f hr nd q c => ?_
  have hl : bs.length + cs.length ≤ 24 := ok.len
  refine fs_set 4 (t := hallT K (faceB ⟨bs, a, cs, g⟩)) nd c (by exact dx_call (fn_facing G M) hr ⟨(bs, cs), ok.turn, by show bs.length + cs.length ≤ 50; omega⟩ (da_cons (dx_var 0) (da_cons (dx_var 2) da_nil))) fun σ H' c => ?_
  exact fs_retE c (by exact dx_call (fn_sure_of G S) hr ⟨(faceB ⟨bs, a, cs, g⟩, faceA ⟨bs, a, cs, g⟩), ok.sure⟩ (da_cons (dx_var 4) (da_cons (dx_call (fn_goal_between G) hr ⟨(bs, a, g), ok.goal⟩ (da_cons (dx_var 0) (da_cons (dx_var 1) (da_cons (dx_var 3) da_nil)))) (da_cons (dx_call (fn_all_pairs G) hr ⟨faceB ⟨bs, a, cs, g⟩, ok.sure.gr.pr⟩ (da_cons (dx_var 4) da_nil)) da_nil)))) q
theorem fn_following (G : Md K mg) (M : Mc K mg) (S : AtSearch K mg) : C8.Cal P w K mg base 45 "following" (spP T (fun (i : {i : AimsI // OkFol i}) => [hallT K i.1.one, dat i.1.a.enc, hallT K i.1.other, dat i.1.g.enc]) fun i => dat (optP (sureL (faceB i.1) (faceA i.1)))) [] := by
  refine fn_mk G.d_following ["one", "aim", "other", "goal"] (by decide +kernel) (fun _ => rfl) fun ⟨i, ok⟩ cdv A outer s H vs Q E f hr nd q c => ?_
  refine fs_expr c (by exact dx_call (fn_check_aims G) hr ⟨i, ok.aims⟩ (da_cons (dx_var 0) (da_cons (dx_var 1) (da_cons (dx_var 2) (da_cons (dx_var 3) da_nil))))) fun H' c => ?_
  exact fs_retE c (by exact dx_call (fn_between G M S) hr ⟨i, ok⟩ (da_cons (dx_var 0) (da_cons (dx_var 1) (da_cons (dx_var 2) (da_cons (dx_var 3) da_nil))))) q
structure OkIsF (p : AimsI × List (Nat × Nat)) : Prop where
  fol : OkFol p.1
  isp : OkIsP (faceB p.1, p.2)
  out : OkOut p.2
theorem fn_is_following (G : Md K mg) (M : Mc K mg) : C8.Cal P w K mg base 45 "is_following" (spP T (fun (i : {p : AimsI × List (Nat × Nat) // OkIsF p}) => [hallT K i.1.1.one, dat i.1.1.a.enc, hallT K i.1.1.other, dat i.1.1.g.enc, dat (ppD i.1.2)]) fun i => dat (.bool (spoil (faceA i.1.1) i.1.2).isNone)) [] := by
  refine fn_mk G.d_is_following ["one", "aim", "other", "goal", "thing", "hall"] (by decide +kernel) (fun _ => rfl) fun ⟨⟨⟨bs, a, cs, g⟩, ps⟩, ok⟩ cdv A outer s H vs Q E f hr nd q c => ?_
  have hl : bs.length + cs.length ≤ 24 := ok.fol.len
  refine fs_expr c (by exact dx_call (fn_check_aims G) hr ⟨⟨bs, a, cs, g⟩, ok.fol.aims⟩ (da_cons (dx_var 0) (da_cons (dx_var 1) (da_cons (dx_var 2) (da_cons (dx_var 3) da_nil))))) fun H' c => ?_
  refine fs_set 5 (t := hallT K (faceB ⟨bs, a, cs, g⟩)) nd c (by exact dx_call (fn_facing G M) hr ⟨(bs, cs), ok.fol.turn, by show bs.length + cs.length ≤ 50; omega⟩ (da_cons (dx_var 0) (da_cons (dx_var 2) da_nil))) fun σ H' c => ?_
  refine fs_expr c (by exact dx_call (fn_check_size G) hr ⟨faceB ⟨bs, a, cs, g⟩, by show (bs.map Board.turn ++ cs).length ≤ 24; rw [List.length_append, List.length_map]; exact hl⟩ (da_cons (dx_var 5) da_nil)) fun H' c => ?_
  exact fs_retE c (by exact DX.dat (dx_and (dx_call (fn_is_pairing G) hr ⟨(faceB ⟨bs, a, cs, g⟩, ps), ok.isp⟩ (da_cons (dx_var 5) (da_cons (dx_var 4) da_nil))) fun _ => DX.one (DC.dx (dc_isN (dx_call (fn_spoiling G) hr ⟨(faceA ⟨bs, a, cs, g⟩, ps), ⟨ok.fol.sure.dep, ok.fol.sure.ok, ok.out⟩⟩ (da_cons (dx_call (fn_goal_between G) hr ⟨(bs, a, g), ok.fol.goal⟩ (da_cons (dx_var 0) (da_cons (dx_var 1) (da_cons (dx_var 3) da_nil)))) (da_cons (dx_var 4) da_nil))) dx_non))) (by rw [optD_isNon]; rfl)) q
/-! ### the house -/
theorem fn_later_partners (G : Md K mg) : C8.Cal P w K mg base 1 "later_partners" (spP T (fun (i : {ps : List (Nat × Nat) // ps.length ≤ 500}) => [dat (.list (i.1.map pD))]) fun i => nearT (laterOf i.1)) [] := by
  refine fn_mk G.d_later_partners ["some", "found", "one", "other"] (by decide +kernel) (fun _ => rfl) fun ⟨ps, ok⟩ cdv A outer s H vs Q E f hr nd q c => ?_
  obtain ⟨Hb, L, eH, _, _, g0, st0, hL, _⟩ := id c
  have hL : L = [] := hL
  subst hL
  have eH : H = Hb := eH
  subst eH
  refine fs_cons (ws_of (ps_set (i := 1) nd rfl (.inl rfl) pe_dnewK rfl (.inl rfl)) fun r hr0 => ?_)
  have N0 : NearOk T H (upd H r (.dK [])) r [] [] := ⟨Ge.new hr0, hr0, upd_same, trivial, List.nodup_nil, (by simp), fun b hb => nomatch hb⟩
  have st1 : Sat [some (dat (.list (ps.map pD))), some (tyv (.ref r)), none, none] ((L2.start ["some", "found", "one", "other"] vs).set 1 (some (.ref r))) H := st0.set (i := 1) (t := tyv (.ref r)) rfl
  refine fs_nearFor (X := bodyX P w K mg base ["some", "found", "one", "other"] "later_partners" (top 70) f cdv A outer s H E) 0 2 3 (ps := ps) (fun nm p => addNear nm p.1 p.2) nd rfl st1 rfl N0 (fun v w σ' h => ?_) (fun n x nm as σ' H' e en N s' h1 h2 => ?_) (fun as' σ' H' s' N => ?_) (pv 0) (pg_name (i := 2) nd rfl (.inl rfl) (.inl rfl)) (pg_name (i := 3) nd rfl (.inl rfl) (.inl rfl)) (by show 2 < 4; decide) (by show 3 < 4; decide)
  · exact (h.clr (i := 2) (some v)).clr (i := 3) (some w)
  · obtain ⟨k1, k2⟩ := later_klen n ps
    have hn : n ≤ 500 := by
      have := (List.getElem?_eq_some_iff.mp e).1
      omega
    have en' : nm = laterOf (ps.take n) := en
    obtain ⟨v3, e3, p3⟩ := s'.at_ 1 _ rfl
    have p3 : v3 = .ref r := p3
    subst p3
    rw [← en'] at k1 k2
    have i3 : ((σ'.set 2 (some (.int (x.1 : Nat)))).set 3 (some (.int (x.2 : Nat))))[1]? = some (some (.ref r)) := by
      rw [List.getElem?_set_ne (by decide), List.getElem?_set_ne (by decide)]
      exact e3
    have i4 : ((σ'.set 2 (some (.int (x.1 : Nat)))).set 3 (some (.int (x.2 : Nat))))[2]? = some (some (.int (x.1 : Nat))) := by
      rw [List.getElem?_set_ne (by decide), List.getElem?_set_self h1]
    have i5 : ((σ'.set 2 (some (.int (x.1 : Nat)))).set 3 (some (.int (x.2 : Nat))))[3]? = some (some (.int (x.2 : Nat))) := by
      rw [List.getElem?_set_self (by rw [List.length_set]; exact h2)]
    have sS := (s'.clr (i := 2) (some (.int (x.1 : Nat)))).clr (i := 3) (some (.int (x.2 : Nat)))
    exact fs_near 1 2 3 i3 i4 i5 N (by omega) (fun k l hk => by
      have z := k2 k
      have z2 : nb nm k = l := by unfold nb; rw [hk]; rfl
      rw [z2] at z
      omega) (fun H2 as2 N2 => fs_nil ⟨sS, as2, N2⟩) (pv 1) (pv 2) (pv 3) ⟨rfl, rfl, rfl, rfl⟩
  · obtain ⟨v3, e3, p3⟩ := s'.at_ 1 _ rfl
    have p3 : v3 = .ref r := p3
    subst p3
    have es : σ'.set 1 (some (.ref r)) = σ' := by
      obtain ⟨hlt, he⟩ := List.getElem?_eq_some_iff.mp e3
      rw [← he]
      exact List.set_getElem_self hlt
    have sN : Sat [some (dat (.list (ps.map pD))), some (nearT (laterOf ps)), none, none] σ' H' := by
      have z := (s'.ext N.g.ext).set (i := 1) (t := nearT (laterOf ps)) (v := .ref r) ⟨r, as', rfl, N.d, N.nd, N.ls⟩
      rw [es] at z
      exact z
    have c2 : FC T H [some (dat (.list (ps.map pD))), some (nearT (laterOf ps)), none, none] oN σ' H' := ⟨H', [], rfl, Fr.nil, fun _ h => (nomatch h), N.g, sN, rfl, trivial⟩
    exact fs_retE c2 (by exact (dx_var 1)) q
structure OkFull (n : Nat) (p : Near × List Nat) : Prop where
  lev : p.2.length ≤ n
  len : p.2.length ≤ 12
  nb : ∀ a, (nb p.1 a).length ≤ 500
  few : (fullN p.1 n p.2).length ≤ 50000
  lens : ∀ m l, ∀ ps ∈ fullN p.1 m l, ps.length ≤ 1000
theorem filter_cs {l : List Nat} {o : Nat} : ((cs l).filter fun x => !decide (x = ((o : Nat) : Int))).map PyData.int = (cs (l.filter fun b => !decide (b = o))).map .int := by
  unfold cs
  rw [List.filter_map, List.map_map, List.map_map]
  congr 1
  refine List.filter_congr fun x _ => ?_
  show (!decide (((x : Nat) : Int) = ((o : Nat) : Int))) = !decide (x = o)
  congr 1
  rw [Bool.eq_iff_iff, decide_eq_true_iff, decide_eq_true_iff]
  omega
end
end G
set_option Elab.async false
set_option linter.all false
set_option maxRecDepth 100000
set_option maxHeartbeats 1000000
set_option pp.maxSteps 400
namespace G
open PySem PySem.Spec L2 LamX NdefX
open PySem.W (AllAlike Sortable alike)
local macro_rules | `(tactic| fail "sub") => `(tactic| first | exact Sub.nil | (refine Sub.drop ?_; fail "sub") | (refine Sub.same ?_; fail "sub"))
local macro_rules | `(tactic| fail "side") => `(tactic| first | assumption | rfl | omega | decide)
structure OkFu (n : Nat) (p : Near × List Nat) : Prop where
  lev : p.2.length ≤ n
  top : n ≤ 6
  nb : ∀ a, (nb p.1 a).length ≤ 6
theorem pow6 : ∀ n, n < 7 → 6 ^ n ≤ 46656 := by decide
theorem fullN_len {nm : Near} (h : ∀ a, (nb nm a).length ≤ 6) : ∀ (n : Nat) (l : List Nat), (fullN nm n l).length ≤ 6 ^ n
  | 0, l => by simp [fullN]
  | n + 1, [] => by
    have : 1 ≤ 6 ^ (n + 1) := Nat.pos_of_ne_zero (by simp)
    simpa [fullN] using this
  | n + 1, x :: l => by
    rw [fullN]
    have z := flatMap_len_le (fun o => (fullN nm n (l.filter fun b => !decide (b = o))).map fun ps => (x, o) :: ps) (6 ^ n) ((nb nm x).filter fun o => decide (o ∈ x :: l)) (fun o _ => by rw [List.length_map]; exact fullN_len h n _)
    have z2 : ((nb nm x).filter fun o => decide (o ∈ x :: l)).length ≤ 6 := Nat.le_trans (List.length_filter_le _ _) (h x)
    have z3 : ((nb nm x).filter fun o => decide (o ∈ x :: l)).length * 6 ^ n ≤ 6 * 6 ^ n := Nat.mul_le_mul_right _ z2
    rw [Nat.pow_succ]
    omega
theorem fullN_len2 {nm : Near} : ∀ (n : Nat) (l : List Nat), ∀ ps ∈ fullN nm n l, ps.length ≤ n
  | 0, l, ps, h => by rw [List.mem_singleton.mp (show ps ∈ [[]] from h)]; exact Nat.le_refl _
  | n + 1, [], ps, h => by rw [List.mem_singleton.mp (show ps ∈ [[]] from h)]; exact Nat.zero_le _
  | n + 1, x :: l, ps, h => by
    rw [fullN] at h
    obtain ⟨o, _, h2⟩ := List.mem_flatMap.mp h
    obtain ⟨qs, h3, rfl⟩ := List.mem_map.mp h2
    have z := fullN_len2 n _ qs h3
    rw [List.length_cons]
    omega
theorem cs_cons (x : Nat) (l : List Nat) : cs (x :: l) = ((x : Nat) : Int) :: cs l := rfl
section
variable {P : Program} {w : World} {K : PySem.W.Frag} {mg : Str → Option Value} {base : Heap} {T : List NTab}
theorem fn_full_pairings (G : Md K mg) (n : Nat) : C8.Cal P w K mg base (n + 1) "full_pairings" (spP T (fun (i : {p : Near × List Nat // OkFu n p}) => [nearT i.1.1, dat (lotD i.1.2)]) fun i => dat (.list ((fullN i.1.1 n i.1.2).map ppD))) [] := by
  induction n with
  | zero =>
    refine fn_mk G.d_full_pairings ["later", "lot", "first", "found", "other", "rest", "board", "pairing"] (by decide +kernel) (fun _ => rfl) fun ⟨⟨nm, l⟩, ok⟩ cdv A outer s H vs Q E f hr nd q c => ?_
    have hl : l = [] := List.eq_nil_of_length_eq_zero (Nat.le_zero.mp ok.lev)
    subst hl
    refine fs_if1 (k := true) c (by exact DT.to (DC.dt (dc_eqI (dx_lenT (ds := []) G.b_len (dx_var 1)) dx_int)) rfl) (fun _ H' c => ?_) fun hk => by cases hk
    exact fs_retE c (by exact dx_lst (ds := [.tuple []]) (da_cons (dx_tup (ds := []) da_nil) da_nil)) q
  | succ n ih =>
    refine fn_mk G.d_full_pairings ["later", "lot", "first", "found", "other", "rest", "board", "pairing"] (by decide +kernel) (fun _ => rfl) fun ⟨⟨nm, l⟩, ok⟩ cdv A outer s H vs Q E f hr nd q c => ?_
    have hu := hu_of hr
    cases l with
    | nil =>
      refine fs_if1 (k := true) c (by exact DT.to (DC.dt (dc_eqI (dx_lenT (ds := []) G.b_len (dx_var 1)) dx_int)) rfl) (fun _ H' c => ?_) fun hk => by cases hk
      exact fs_retE c (by exact dx_lst (ds := [.tuple []]) (da_cons (dx_tup (ds := []) da_nil) da_nil)) q
    | cons x l =>
      have hlev : (x :: l).length ≤ n + 1 := ok.lev
      rw [List.length_cons] at hlev
      have htop : n + 1 ≤ 6 := ok.top
      have hnb : ∀ a, (nb nm a).length ≤ 6 := ok.nb
      have h6 := pow6 (n + 1) (by omega)
      have hfl := fullN_len hnb (n + 1) (x :: l)
      refine fs_if1 (k := false) c (by exact DT.to (DC.dt (dc_eqI (dx_lenT (ds := (cs (x :: l)).map .int) G.b_len (dx_var 1)) dx_int)) (by rw [List.length_map, cs_len, List.length_cons]; exact decide_eq_false (by omega))) (fun hk => by cases hk) fun _ H' c => ?_
      refine fs_set 2 nd c (by exact dx_ixT (d := .int (x : Nat)) (ds := (cs (x :: l)).map .int) (dx_var 1) dx_int (atI_cs (l := x :: l) (i := 0) rfl)) fun σ H' c => ?_
      refine fs_own 3 nd c (fun _ => pe_lst pa_nil) fun fa σ H' c => ?_
      let pp : Nat → Bool := fun o => decide (o ∈ x :: l)
      let ff : Nat → List (List (Nat × Nat)) := fun o => (fullN nm n (l.filter fun b => !decide (b = o))).map fun ps => (x, o) :: ps
      have etk : ∀ m o, (nb nm x)[m]? = some o → (((nb nm x).take (m + 1)).filter pp).flatMap ff = (((nb nm x).take m).filter pp).flatMap ff ++ (if pp o = true then ff o else []) := fun m o e => by
        rw [List.take_succ, e, List.filter_append, List.flatMap_append]
        congr 1
        simp only [Option.toList_some, List.filter_cons, List.filter_nil]
        split <;> simp
      have elen : ∀ m, ((((nb nm x).take m).filter pp).flatMap ff).length ≤ 46656 := fun m => by
        have z : ((nb nm x).filter pp).flatMap ff = (((nb nm x).take m).filter pp).flatMap ff ++ (((nb nm x).drop m).filter pp).flatMap ff := by
          rw [← List.flatMap_append, ← List.filter_append, List.take_append_drop]
        have z2 : fullN nm (n + 1) (x :: l) = ((nb nm x).filter pp).flatMap ff := rfl
        rw [z2, z, List.length_append] at hfl
        omega
      refine fs_forM (ι := Unit) (xs := nb nm x) (js := [4]) (fun m _ => [some (nearT nm), some (dat (lotD (x :: l))), some (dat (.int (x : Nat))), some (tyv (.ref fa)), none, none, none, none]) (fun m _ => oC fa (((((nb nm x).take m).filter pp).flatMap ff).map ppD) oN) (fun m o _ => [some (nearT nm), some (dat (lotD (x :: l))), some (dat (.int (x : Nat))), some (tyv (.ref fa)), some (dat (.int (o : Nat))), none, none, none]) () (by
          rw [List.take_zero, List.filter_nil, List.flatMap_nil]
          exact c) (di_listM (r := fun (n : Nat) => PyData.int (n : Int)) (DX.dat (dx_nearGet hu (dx_var 0) (dx_var 2) (dx_lst da_nil) ⟨rfl, rfl, rfl, rfl⟩) (listM (nb nm x)))) rfl (fun m o i e => dg_name 4 nd) (fun m o i H0 e g σ' H' c => ?_) (fun i σ' H' c => ?_)
      · have ek := etk m o e
        have hm1 := elen (m + 1)
        refine fs_if1 (k := pp o) c (by exact DT.to (DC.dt (dc_inIT (ns := cs (x :: l)) (by rfl) (dx_var 4) (dx_var 1))) mem_cs) (fun hk H' c => ?_) fun hk H' c => ?_
        · rw [ek, if_pos hk, List.length_append] at hm1
          have ecut : cutD ((cs (x :: l)).map PyData.int) (some 1) none = (cs l).map .int := by rw [cut1]; rfl
          refine fs_set 5 (t := dat (lotD (l.filter fun b => !decide (b = o)))) nd c (by exact DX.dat (dx_tupOfL G.b_tuple (dx_lcIf [("board", 6)] (cs l) (fun b => !decide (b = ((o : Nat) : Int))) (fun b => .int b) nd rfl (by rfl) (di_tupM (r := PyData.int) (DX.dat (dx_slT (ds := (cs (x :: l)).map .int) (dx_var 1) (do_some dx_int) do_none) (congrArg PyData.tuple ecut))) (by rw [cs_len]; omega) (fun b hb s0 H0 C cl fp => dg_name 6 nd) (fun b hb s0 H0 C cl fp => by exact DC.dt (dc_neI (dx_var 6) (dx_var 4))) (fun b hb _ s0 H0 C cl fp => by exact (dx_var 6)))) (congrArg PyData.tuple filter_cs)) fun σ H' c => ?_
          have okr : OkFu n (nm, l.filter fun b => !decide (b = o)) := ⟨Nat.le_trans (List.length_filter_le _ _) (by omega), by omega, hnb⟩
          have hn6 : (fullN nm n (l.filter fun b => !decide (b = o))).length ≤ 46656 := Nat.le_trans (fullN_len hnb n _) (pow6 n (by omega))
          refine fb_extend (es := (ff o).map ppD) c (by rw [List.length_map, List.length_map]; omega) (by exact (dx_var 3)) (by exact DX.dat (dx_lc [("pairing", 7)] (fullN nm n (l.filter fun b => !decide (b = o))) (fun ps => ppD ((x, o) :: ps)) nd rfl (by rfl) (di_listM (by exact dx_call ih hr ⟨_, okr⟩ (da_cons (dx_var 0) (da_cons (dx_var 5) da_nil)))) (by omega) (fun ps hps s0 H0 C cl fp => dg_name 7 nd) (fun ps hps s0 H0 C cl fp => by
            have hpl := fullN_len2 n _ ps hps
            exact (by exact DX.dat (dx_catT (dx_tup (ds := [pD (x, o)]) (da_cons (dx_tup (ds := [.int (x : Nat), .int (o : Nat)]) (da_cons (dx_var 2) (da_cons (dx_var 4) da_nil))) da_nil)) (dx_var 7) (by rw [List.length_map]; show 1 + ps.length ≤ _; omega)) rfl))) (by rw [List.map_map]; rfl)) fun H' c => fs_nil (fs_nil ⟨(), ?_⟩)
          rw [ek, if_pos hk, List.map_append]
          exact c.sub (by fail "sub")
        · refine fs_nil ⟨(), ?_⟩
          rw [ek, if_neg (by rw [hk]; exact Bool.false_ne_true), List.append_nil]
          exact c.sub (by fail "sub")
      · have z := c.rel 3 rfl
        rw [List.take_of_length_le (Nat.le_refl _)] at z
        exact fs_retE z (by exact (dx_var 3)) q
end
/-! ### least_lots -/
def pN (m : Nat) : Nat × Nat := ((lotOf m).length, m)
def ordL (many : Nat) : List (Nat × Nat) := sortP ((List.range (2 ^ many)).map pN)
def covers (found : List Nat) (m : Nat) : Bool := found.any fun k => decide (k &&& m = k)
def leastStep (good : List Nat → Bool) (found : List Nat) (p : Nat × Nat) : List Nat := if (!covers found p.2 && good (lotOf p.2)) = true then found ++ [p.2] else found
def leastM (many : Nat) (good : List Nat → Bool) (k : Nat) : List Nat := ((ordL many).take k).foldl (leastStep good) []
def sortLots (ls : List (List Nat)) : List (List Nat) := ls.mergeSort fun a b => leD (lotD a) (lotD b)
def leastL (many : Nat) (good : List Nat → Bool) : List (List Nat) := sortLots ((leastM many good (ordL many).length).map lotOf)
theorem sortLots_map (ls : List (List Nat)) : sortD (ls.map lotD) = (sortLots ls).map lotD := (List.map_mergeSort (r := fun a b => leD (lotD a) (lotD b)) (s := leD) (f := lotD) (l := ls) fun _ _ _ _ => rfl).symm
theorem leastM_succ {many : Nat} {good : List Nat → Bool} {k : Nat} {p : Nat × Nat} (e : (ordL many)[k]? = some p) : leastM many good (k + 1) = leastStep good (leastM many good k) p := by
  unfold leastM
  rw [List.take_succ, e, List.foldl_append]
  rfl
theorem leastM_len (many : Nat) (good : List Nat → Bool) : ∀ k, (leastM many good k).length ≤ k
  | 0 => by simp [leastM]
  | k + 1 => by
    cases e : (ordL many)[k]? with
    | none =>
      have z : leastM many good (k + 1) = leastM many good k := by
        unfold leastM
        rw [List.take_succ, e, Option.toList_none, List.append_nil]
      rw [z]
      exact Nat.le_succ_of_le (leastM_len many good k)
    | some p =>
      rw [leastM_succ e]
      have z := leastM_len many good k
      unfold leastStep
      split
      · rw [List.length_append, List.length_singleton]; omega
      · omega
theorem ordL_len (many : Nat) : (ordL many).length = 2 ^ many := by
  unfold ordL sortP
  rw [List.length_mergeSort, List.length_map, List.length_range]
theorem ordL_mem {many : Nat} {p : Nat × Nat} (h : p ∈ ordL many) : p.2 < 2 ^ many ∧ p = pN p.2 := by
  have z := (sortP_perm _).mem_iff.mp h
  obtain ⟨m, hm, rfl⟩ := List.mem_map.mp z
  exact ⟨List.mem_range.mp hm, rfl⟩
theorem band_nn (k m : Nat) : Builtin.bitAnd (k : Int) (m : Int) = ((k &&& m : Nat) : Int) := by
  rw [PyProof.Rows.bitAnd_pp (Int.natCast_nonneg _) (Int.natCast_nonneg _), Int.toNat_natCast, Int.toNat_natCast]
theorem alike_lot (a b : List Nat) : alike (lotD a) (lotD b) = true := by
  unfold lotD
  rw [PySem.W.alike]
  exact PySem.W.alike_ints _ _
theorem depth_lot (a : List Nat) : (lotD a).depth ≤ 1 := by
  unfold lotD
  rw [PyData.depth, PySem.W.depth_ints]
  decide
theorem sortable_lots {ls : List (List Nat)} (h : (∀ l ∈ ls, l ≠ []) ∨ ls.length ≤ 1) : Sortable (ls.map lotD) ∨ (ls.map lotD).length ≤ 1 := by
  rcases h with h | h
  · refine .inl (.inl fun d hd => ?_)
    obtain ⟨l, hl, rfl⟩ := List.mem_map.mp hd
    have := h l hl
    cases l with
    | nil => exact absurd rfl this
    | cons x xs => exact ⟨_, _, rfl⟩
  · exact .inr (by rw [List.length_map]; exact h)
/-- a value that stands for a function: v, with what stays true of it -/
def tyF (v : V) (R : Hp → Prop) (hR : ∀ {H H'}, Ex H H' → R H → R H') : Ty := ⟨fun x H => x = v ∧ R H, fun e h => ⟨h.1, hR e h.2⟩⟩
abbrev llN : List Str := ["many", "is_good", "found", "_", "mask", "known"]
abbrev llX (P : Program) (w : World) (K : PySem.W.Frag) (mg : Str → Option Value) (base : Heap) (f : Addr) (cdv : Value) (A : Around) (outer : List Env) (s : Shared) (H : Hp) (E : XK) : Cx := bodyX P w K mg base llN "least_lots" (top 69) f cdv A outer s H E
section
variable {P : Program} {w : World} {K : PySem.W.Frag} {mg : Str → Option Value} {base : Heap} {T : List NTab}
/-- the body of least_lots, for whatever is_good is -/
theorem ll_body {k : Nat} (G : Md K mg) {f : Addr} {cdv : Value} {A : Around} {outer : List Env} {s : Shared} {H Hin : Hp} {E : XK} {vs : List V} {Q : VK} {tf : Ty} {many : Nat} {good : List Nat → Bool} (hk : 2 ≤ k) (hr : Room k (llX P w K mg base f cdv A outer s H E).A) (nd : (llX P w K mg base f cdv A outer s H E).N.Nodup)
    (hm : many ≤ 10) (hne : (∀ l ∈ (leastM many good (ordL many).length).map lotOf, l ≠ []) ∨ ((leastM many good (ordL many).length).map lotOf).length ≤ 1)
    (hgood : ∀ (Γ : Gam) (e : Expr) (p pos : Pos) (m : Nat), m < 2 ^ many → Γ[1]? = some (some tf) → DX T (llX P w K mg base f cdv A outer s H E) Γ e (dat (lotD (lotOf m))) → (starEach [e] (llX P w K mg base f cdv A outer s H E).env = (false, eval e (llX P w K mg base f cdv A outer s H E).env) :: starEach [] (llX P w K mg base f cdv A outer s H E).env) → ((backTo pos (starEach [] (llX P w K mg base f cdv A outer s H E).env)).any (·.1) = false) → DX T (llX P w K mg base f cdv A outer s H E) Γ (.Call (.Name "is_good" p) [e] [] pos) (dat (.bool (good (lotOf m)))))
    (c : FC T Hin [some (dat (.int (many : Nat))), some tf, none, none, none, none] oN (L2.start llN vs) H) (q : ∀ v H', Ge T Hin H' → (dat (.list ((leastL many good).map lotD))).P v H' → Q v H') :
    WSs (llX P w K mg base f cdv A outer s H E) (C8.fnBody (top 69)) { nx := fun _ H' => Q .non H', rt := Q } (L2.start llN vs) H := by
  have hu : (llX P w K mg base f cdv A outer s H E).A.units + 64 < cLine := hr.units
  have h2 : 2 ^ many ≤ 1024 := Nat.le_trans (Nat.pow_le_pow_right (by decide) hm) (by decide)
  have hbig : ∀ m, m < 2 ^ many → m < 2 ^ 1000 := fun m h => Nat.lt_of_lt_of_le h (Nat.pow_le_pow_right (by decide) (by omega))
  refine fs_own 2 nd c (fun _ => pe_lst pa_nil) fun fa σ H' c => ?_
  refine fs_forM (ι := Unit) (xs := ordL many) (τ := fun p => dat (pD p)) (js := [3, 4]) (fun n _ => [some (dat (.int (many : Nat))), some tf, some (tyv (.ref fa)), none, none, none]) (fun n _ => oC fa ((leastM many good n).map fun m : Nat => PyData.int (m : Int)) oN) (fun n p _ => [some (dat (.int (many : Nat))), some tf, some (tyv (.ref fa)), some (dat (.int (p.1 : Nat))), some (dat (.int (p.2 : Nat))), none]) () c (di_listM (r := pD) (DX.dat (d := .list (sortD (((List.range (2 ^ many)).map pN).map pD))) ?_ (by rw [sortP_map]; rfl))) rfl (fun n p i e => dg_tup2 (i1 := 3) (i2 := 4) rfl nd) (fun n p i H0 e g σ' H' c => ?_) (fun i σ' H' c => ?_)
  · have hsh : (1 * 2 ^ ((many : Int)).toNat : Int) = ((2 ^ many : Nat) : Int) := by
      rw [Int.one_mul, Int.toNat_natCast, Int.natCast_pow]
      rfl
    have hdp : ∀ d ∈ ((List.range (2 ^ many)).map pN).map pD, d.depth ≤ 60 := fun d hd => by
      obtain ⟨p, _, rfl⟩ := List.mem_map.mp hd
      rw [depth_pD]
      decide
    exact dx_sortedL hu G.b_sorted (DX.dat (dx_lc [("mask", 4)] (List.range (2 ^ many)) (fun m => pD (pN m)) nd rfl (by rfl) (di_range1N (N := 2 ^ many) G.b_range (DX.dat (dx_shl dx_int (dx_var 0) ⟨Int.natCast_nonneg _, by omega, by decide⟩) (congrArg PyData.int hsh)) (by omega)) (by rw [List.length_range]; omega) (fun m hm s0 H0 C cl fp => dg_name 4 nd) (fun m hm s0 H0 C cl fp => by exact dx_tup (ds := [.int ((lotOf m).length : Nat), .int (m : Nat)]) (da_cons (dx_call (fn_bits_of G) hr ⟨m, hbig m (List.mem_range.mp hm)⟩ (da_cons (dx_var 4) da_nil)) (da_cons (dx_var 4) da_nil)))) (by rw [List.map_map]; rfl)) (PySem.W.AllAlike.of alike_pD) (.inl (PySem.W.Sortable.tuples fun p => ⟨_, _, rfl⟩)) hdp
  · obtain ⟨hp1, hp2⟩ := ordL_mem (List.mem_of_getElem? e)
    have hll := leastM_len many good n
    have hn : n < 1024 := by
      have z := (List.getElem?_eq_some_iff.mp e).1
      rw [ordL_len] at z
      omega
    have es := leastM_succ (good := good) e
    have eany : (leastM many good n).map (fun k => decide (k &&& p.2 = k)) = (leastM many good n).map fun k => decide (k &&& p.2 = k) := rfl
    refine fb_if1 (B := (· = (!covers (leastM many good n) p.2 && good (lotOf p.2)))) (O' := oC fa ((leastM many good n).map fun m : Nat => PyData.int (m : Int)) oN) c (DBW.dt (dbw_and (k := !covers (leastM many good n) p.2) (dbt_not (dbt_val (DB.to (u := dat (.bool (covers (leastM many good n) p.2))) (db_any (bs := (leastM many good n).map fun k => decide (k &&& p.2 = k)) rfl G.b_any (DB.to (u := dat (.list (((leastM many good n).map fun k => decide (k &&& p.2 = k)).map .bool))) (db_lc (Sx := fun k d => d = .bool (decide (k &&& p.2 = k))) [("known", 5)] nd rfl (by rfl) (dbi_own (xs := leastM many good n) (r := fun m : Nat => PyData.int (m : Int)) ownC (dx_var 2)) (fun xs hxs => by rw [hxs]; omega) (fun k s0 H0 C cl fp => dg_name 5 nd) (fun k s0 H0 C cl fp => ?_)) ?_)) ?_))) (fun hk => dbw_one ?_) (fun hk => by rw [hk]; rfl))) (fun hk H' c => ?_) fun hk H' c => ?_
    · have eb : decide (((k &&& p.2 : Nat) : Int) = (k : Int)) = decide (k &&& p.2 = k) := by
        rw [Bool.eq_iff_iff, decide_eq_true_iff, decide_eq_true_iff]
        omega
      exact DX.db (dx_tyS (DX.dat (DC.dx (dc_eqI (dx_and2 (dx_var 5) (dx_var 4)) (dx_var 5))) (by rw [band_nn])) (by rw [eb]))
    · rintro v H ⟨d, ⟨xs, ds, e1, e2, e3⟩, hd⟩
      subst e1 e2
      rw [List.map_map]
      rw [allS_eq e3] at hd
      exact hd
    · intro v H hv
      have z : covers (leastM many good n) p.2 = ((leastM many good n).map fun k => decide (k &&& p.2 = k)).any id := by unfold covers; rw [List.any_map]; rfl
      rw [z]
      exact hv
    · rw [hk, Bool.true_and]
      exact dbt_val (DX.db (hgood _ _ _ _ p.2 hp1 rfl (by exact dx_call (fn_lot_of G) hr ⟨p.2, hbig _ hp1⟩ (da_cons (dx_var 4) da_nil)) rfl rfl))
    · refine fs_app 2 (d := .int (p.2 : Nat)) c rfl (by rw [List.length_map]; omega) (by exact (dx_var 4)) fun H' c => fs_nil (fs_nil ⟨(), ?_⟩)
      have e2 : leastM many good (n + 1) = leastM many good n ++ [p.2] := by rw [es]; exact if_pos hk.symm
      rw [e2, List.map_append]
      exact c.sub (by fail "sub")
    · refine fs_nil ⟨(), ?_⟩
      have e2 : leastM many good (n + 1) = leastM many good n := by rw [es]; exact if_neg (by rw [← hk]; exact Bool.false_ne_true)
      rw [e2]
      exact c.sub (by fail "sub")
  · have z := c.rel 2 rfl
    have hll := leastM_len many good (ordL many).length
    rw [ordL_len] at hll
    have hmem : ∀ m ∈ leastM many good (ordL many).length, m < 2 ^ many := by
      have go : ∀ k, ∀ m ∈ leastM many good k, m < 2 ^ many := by
        intro k
        induction k with
        | zero => intro m h; simp [leastM] at h
        | succ k ih =>
          intro m h
          cases e : (ordL many)[k]? with
          | none =>
            have z : leastM many good (k + 1) = leastM many good k := by
              unfold leastM
              rw [List.take_succ, e, Option.toList_none, List.append_nil]
            rw [z] at h
            exact ih m h
          | some p =>
            rw [leastM_succ e] at h
            unfold leastStep at h
            split at h
            · rcases List.mem_append.mp h with h | h
              · exact ih m h
              · rw [List.mem_singleton.mp h]
                exact (ordL_mem (List.mem_of_getElem? e)).1
            · exact ih m h
      exact go _
    have q' : ∀ v H', Ge T Hin H' → (dat (.list (sortD (((leastM many good (ordL many).length).map lotOf).map lotD)))).P v H' → Q v H' := by
      rw [sortLots_map]
      exact q
    have hst := sortable_lots hne
    have hdep : ∀ d ∈ ((leastM many good (ordL many).length).map lotOf).map lotD, d.depth ≤ 60 := fun d hd => by
      obtain ⟨l, _, rfl⟩ := List.mem_map.mp hd
      have := depth_lot l
      omega
    exact fs_retE z (by exact dx_sortedL hu G.b_sorted (DX.dat (dx_lc [("mask", 4)] (leastM many good (ordL many).length) (fun m => lotD (lotOf m)) nd rfl (by rfl) (di_listM (r := fun m : Nat => PyData.int (m : Int)) (dx_var 2)) (by rw [ordL_len]; omega) (fun m hm s0 H0 C cl fp => dg_name 4 nd) (fun m hm s0 H0 C cl fp => by exact dx_call (fn_lot_of G) hr ⟨m, hbig m (hmem m hm)⟩ (da_cons (dx_var 4) da_nil))) (by rw [List.map_map]; rfl)) (PySem.W.AllAlike.of alike_lot) hst hdep) q'
end
end G
set_option Elab.async false
set_option linter.all false
set_option maxRecDepth 100000
set_option maxHeartbeats 1000000
set_option pp.maxSteps 400
namespace G
open PySem PySem.Spec L2 LamX NdefX PyProof.Rows
local macro_rules | `(tactic| fail "sub") => `(tactic| first | exact Sub.nil | (refine Sub.drop ?_; fail "sub") | (refine Sub.same ?_; fail "sub"))
local macro_rules | `(tactic| fail "side") => `(tactic| first | assumption | rfl | omega | decide)
/-- a def whose code object is known -/
structure AtC (K : PySem.W.Frag) (mg : Str → Option Value) (x : Str) (ps : List Str) (st : Stmt) (c : Addr) : Prop where
  ex : ∃ (f : Addr) (oc : Value) (od : Option Addr) (dV kV doc pm : Value) (an : Option Addr) (ct : Value) (osl : Array (Option Value)),
    K.lookup f = some ⟨oc, od, .func (PySem.W.fnOf x x (C8.fnArgs st) (C8.fnBody st) (C8.fnScope st) dV kV doc pm an (.ref c) ct), osl⟩ ∧ PySem.W.codeIn K (.ref c) x = true ∧ mg x = some (.ref f) ∧ PySem.W.keepIn K (.ref f) = true ∧ Binds K (PySem.W.fnOf x x (C8.fnArgs st) (C8.fnBody st) (C8.fnScope st) dV kV doc pm an (.ref c) ct) ps []
section
variable {T : List NTab} {P : Program} {w : World} {K : PySem.W.Frag} {mg : Str → Option Value} {base : Heap}
theorem fn_mkC {ι : Type} {args : ι → List Ty} {res : ι → Ty} {k : Nat} {x : Str} {ps : List Str} {st : Stmt} {cc : Addr} (F : AtC K mg x ps st cc) (N : List Str) (S : C8.scC N ps (C8.fnScope st) = true) (hlen : ∀ i, (args i).length = ps.length)
    (hb : ∀ i A outer s H vs Q E f, Room k (bodyX P w K mg base N x st f (.ref cc) A outer s H E).A → (bodyX P w K mg base N x st f (.ref cc) A outer s H E).N.Nodup → (∀ v H', Ge T H H' → (res i).P v H' → Q v H') → FC T H (gam0 N (args i)) oN (L2.start N vs) H →
      WSs (bodyX P w K mg base N x st f (.ref cc) A outer s H E) (C8.fnBody st) { nx := fun _ H' => Q .non H', rt := Q } (L2.start N vs) H) : C8.Cal P w K mg base (k + 1) x (spP T args res) [] := by
  obtain ⟨f, oc, od, dV, kV, doc, pm, an, ct, osl, lk, hcd, mgf, kp, b⟩ := F.ex
  have S' := C8.fnScope_by S
  refine ⟨f, _, ps, [], fn_of lk hcd S' (fun vs H Q E h => ?_) fun A outer s H vs Q E hr h => ?_, mgf, kp, b, .nil⟩
  · obtain ⟨i, h1, _⟩ := h
    rw [tyAll_len h1]
    exact hlen i
  · obtain ⟨i, h1, q⟩ := h
    exact ⟨_, (pss_wss (X := bodyX P w K mg base N x st f (.ref cc) A outer s H E)).nox, hb i A outer s H vs Q E f hr S'.nd q (fc_start (sat0 h1))⟩
end
/-! ### a function value that least_lots calls -/
/-- the promise of a function object -/
def GRun (P : Program) (w : World) (K : PySem.W.Frag) (mg : Str → Option Value) (base : Heap) (k : Nat) (f : Addr) (Fo : HO) (cc : Addr) (cq : Str) (cl : List (Str × Addr)) (fr : List Str) (sp : List (Option V) → Sp) : Prop :=
  ∀ (A : Around) (outer : List Env) (s : Shared) (H : Hp) (us : List Value) (vs : List V) (ws : List (Option V)) (Q : VK) (E : XK), Room k A → Env0 P w K mg base A outer s H → H f = some Fo → H cc = some (CodeO cc cq) →
    CellsAt cl fr ws s.heap H → Vals vs us → sp ws vs H Q E → codeAny (model P w) A (.call (.ref f) ⟨us, []⟩) (CR C8.CX0 outer P w H s Q E) s
theorem nok_grun {P : Program} {w : World} {K : PySem.W.Frag} {mg : Str → Option Value} {base : Heap} {k : Nat} {f : Addr} {F : NF} {ps fr : List Str} {sp : List (Option V) → Sp} (h : NOk P w K mg base C8.CX0 k f F ps fr sp) : GRun P w K mg base k f (FnO f F) F.c F.qual F.cl fr sp :=
  fun A outer s H us vs ws Q E hr e0 hf hc C r q => h.run A outer s H us vs ws Q E hr e0 hf hc C r q
/-- what stays true of the function value -/
structure FnIs (f : Addr) (Fo : HO) (cc : Addr) (cq : Str) (Rc : Hp → Prop) (H : Hp) : Prop where
  f : H f = some Fo
  c : H cc = some (CodeO cc cq)
  r : Rc H
def tyFn (f : Addr) (Fo : HO) (cc : Addr) (cq : Str) (Rc : Hp → Prop) (hFo : ∀ ps, Fo ≠ .tbl ps) (hR : ∀ {H H'}, Ex H H' → Rc H → Rc H') : Ty := ⟨fun v H => v = .ref f ∧ FnIs f Fo cc cq Rc H, fun e h => ⟨h.1, e _ _ h.2.f hFo, e _ _ h.2.c codeO_ne, hR e h.2.r⟩⟩
section
variable {T : List NTab} {X : Cx} {pins : List (Addr × Obj)} {σ : L2.St} {H : Hp} {s : Shared}
theorem cells_nofs (I : Inv X pins σ H s) (hfn : ∀ y, X.fn y = true) {y : Str} {c : Addr} (e : X.env.cells.lookup y = some c) : c ∉ frs X.stack := fun z => by
  rcases List.mem_cons.mp (I.stkSub c z) with h | h
  · exact I.cne y c e h
  · obtain ⟨_, o, ho, _⟩ := I.ok.funs.mem h
    exact absurd (Nat.lt_of_lt_of_le (Heap.lt_size ho) (I.ok.cab y c (hfn y) e)) (Nat.lt_irrefl _)
/-- least_lots called with a function -/
theorem ll_run {k j : Nat} {many : Nat} {good : List Nat → Bool} {f : Addr} {Fo : HO} {cc : Addr} {cq : Str} {cl : List (Str × Addr)} {fr : List Str} {ws : List (Option V)} {sp : List (Option V) → Sp} {Rc : Hp → Prop} (hFo : ∀ ps, Fo ≠ .tbl ps) (hR : ∀ {H H'}, Ex H H' → Rc H → Rc H') (G : Md X.K X.mg)
    (hk2 : 2 ≤ k) (hr : Room j X.A) (hkj : k + 1 ≤ j) (hm : many ≤ 10) (hne : (∀ l ∈ (leastM many good (ordL many).length).map lotOf, l ≠ []) ∨ ((leastM many good (ordL many).length).map lotOf).length ≤ 1)
    (run : GRun X.prog X.w X.K X.mg X.base k f Fo cc cq cl fr sp) (fat : ∀ (X : Cx) (pins : List (Addr × Obj)) (σ : L2.St) (H : Hp) (s : Shared), Inv X pins σ H s → H f = some Fo → PySem.W.FnAt f s.heap)
    (hsp : ∀ (m : Nat) (vs : List V) (H : Hp) (Q : VK) (E : XK), m < 2 ^ many → Rc H → TyAll [dat (lotD (lotOf m))] vs H → (∀ v H', Ge T H H' → (dat (.bool (good (lotOf m)))).P v H' → Q v H') → sp ws vs H Q E)
    (I : Inv X pins σ H s) (hfn : ∀ y, X.fn y = true) (hcl : ∀ y c, cl.lookup y = some c → X.env.cells.lookup y = some c) (C : CellsAt cl fr ws s.heap H) (F : FnIs f Fo cc cq Rc H) {Q : VK} (q : ∀ v H', Ge T H H' → (dat (.list ((leastL many good).map lotD))).P v H' → Q v H')
    {fl : Addr} (hmg : X.mg "least_lots" = some (.ref fl)) {us : List Value} (r : Vals [.int (many : Nat), .ref f] us) : wpAny (model X.prog X.w) X.A (call (.ref fl) us) (EP X pins σ Q) X.xe s := by
  obtain ⟨fl', fd, d, b⟩ := G.d_least_lots.ex
  have hfl : fl' = fl := by
    have z := d.mgf
    rw [hmg] at z
    cases z
    rfl
  subst hfl
  obtain ⟨oc, od, dV, kV, doc, pm, an, cdv, ct, osl, rfl, lk, hcd⟩ := d.fn.ex
  have S' := C8.fnScope_by (N := llN) (P := ["many", "is_good"]) (sc := C8.fnScope (top 69)) (by decide +kernel)
  have hbt : BindsTo s (PySem.W.fnOf "least_lots" "least_lots" (C8.fnArgs (top 69)) (C8.fnBody (top 69)) (C8.fnScope (top 69)) dV kV doc pm an cdv ct) ⟨us, []⟩ ((["many", "is_good"] : List Str).zip us) := by
    have z := b s us I.kIn (by rw [List.append_nil, ← r.length]; rfl)
    rw [List.append_nil] at z
    exact z
  have rc : codeAny (model X.prog X.w) X.A (.call (.ref fl') ⟨us, []⟩) (CR C8.CX0 X.stack X.prog X.w H s Q C8.E0) s := by
    refine run_ofS (N := llN) (ps := ["many", "is_good"]) (us := us) (vs := [.int (many : Nat), .ref f]) lk hcd S' (hr.mono hkj) I.env0 hbt r rfl fun hr' => ?_
    refine ⟨_, (pss_wss (X := llX X.prog X.w X.K X.mg X.base fl' cdv X.A X.stack s H C8.E0)).nox, ?_⟩
    refine ll_body (T := T) (Hin := H) (tf := tyFn f Fo cc cq Rc hFo hR) (many := many) (good := good) G hk2 hr' S'.nd hm hne (fun Γ e p pos m hm2 hΓ he hst hpl => ?_) (fc_start (sat0 (N := llN) (ts := [dat (.int (many : Nat)), tyFn f Fo cc cq Rc hFo hR]) (vs := [.int (many : Nat), .ref f]) ⟨.int _, ⟨rfl, F⟩, trivial⟩)) q
    intro σ' H' sat' Q' q' pins' s' I'
    obtain ⟨v, hv, hvf, F'⟩ := sat'.at_ 1 _ hΓ
    subst hvf
    refine wpAny_Call_Name_kw (thn ((pe_var (X := llX X.prog X.w X.K X.mg X.base fl' cdv X.A X.stack s H C8.E0) (pos := p) (i := 1) (x := "is_good") rfl (.inl rfl) (by decide) (by decide)).run pins' s' σ' H' (fun v H1 => v = .ref f ∧ H1 = H') I' ⟨.ref f, hv, rfl, rfl⟩) fun u s1 ⟨v, H1, I1, r1, q1⟩ => ?_)
    obtain ⟨ev, eH⟩ := q1
    subst ev
    rw [eH] at I1
    obtain rfl : u = Value.ref f := r1
    refine PySem.W.callWith_F (first := []) (fat _ _ _ _ _ I1 F'.f) (thn ((pa_cons pe_we pa_nil hst).run pos pins' s1 σ' H' (fun vs H2 => Ge T H' H2 ∧ TyAll [dat (lotD (lotOf m))] vs H2) I1 (he σ' H' sat' _ fun v H2 g2 p2 => ⟨g2, p2, trivial⟩)) fun us2 s2 ⟨vs2, H2, I2, r2, g2, p2⟩ => ⟨fat _ _ _ _ _ I2 (g2.ext _ _ F'.f hFo), ?_⟩) hst hpl
    show wpAny _ _ (call (.ref f) us2) _ _ _
    have C2 : CellsAt cl fr ws s2.heap H2 := CellsAt.later (X := llX X.prog X.w X.K X.mg X.base fl' cdv X.A X.stack s H C8.E0) C (fun y c hy => cells_nofs I hfn (hcl y c hy)) (fun y c hy z => nomatch (show c ∈ ([] : List Addr) from z)) I2
    refine wpAny_call (codeAny_mono (run _ _ s2 H2 us2 vs2 ws Q' C8.E0 hr' I2.env0 (g2.ext _ _ F'.f hFo) (g2.ext _ _ F'.c codeO_ne) C2 r2 (hsp m vs2 H2 Q' C8.E0 hm2 (hR g2.ext F'.r) p2 fun v H3 g3 p3 => q' v H3 (g2.trans g3) p3)) fun r s3 hq => ?_)
    cases r with
    | error e => exact (show False from hq).elim
    | ok fl =>
      cases fl with
      | ret u => exact I2.after hq
      | next => exact False.elim hq
      | brk => exact False.elim hq
      | cont => exact False.elim hq
  refine wpAny_call (codeAny_mono rc fun r s2 hq => ?_)
  cases r with
  | error e => exact (show False from hq).elim
  | ok fl =>
    cases fl with
    | ret u => exact I.after hq
    | next => exact False.elim hq
    | brk => exact False.elim hq
    | cont => exact False.elim hq
end
end G
set_option Elab.async false
set_option linter.all false
set_option maxRecDepth 100000
set_option maxHeartbeats 1000000
set_option pp.maxSteps 400
namespace G
open PySem PySem.Spec L2 LamX NdefX PyProof.Rows
local macro_rules | `(tactic| fail "sub") => `(tactic| first | exact Sub.nil | (refine Sub.drop ?_; fail "sub") | (refine Sub.same ?_; fail "sub"))
local macro_rules | `(tactic| fail "side") => `(tactic| first | assumption | rfl | omega | decide)
/-- .. and the tables of the makers stand -/
def tyT (t : Ty) : Ty := ⟨fun v H => t.P v H ∧ TabsN TB0 H, fun e h => ⟨t.mono e h.1, e.t h.2⟩⟩
section
variable {T : List NTab} {X : Cx} {Γ : Gam} {O : OS} {Hin : Hp} {σ : L2.St} {H : Hp} {D : Ends} {e : Expr} {rest : List Stmt} {pos p p2 : Pos} {t : Ty}
theorem DX.unT {e : Expr} (h : DX T X Γ e (tyT t)) : DX T X Γ e t := fun σ H s Q q => h σ H s Q fun v H' g p => q v H' g p.1
theorem slots_ty : ∀ {js : List Nat} {ts : List Ty}, Sat Γ σ H → js.map (fun j => Γ[j]?) = ts.map (fun t => some (some t)) → ∃ wv : List V, js.map (slotAt σ) = wv.map some ∧ TyAll ts wv H
  | [], [], _, _ => ⟨[], rfl, trivial⟩
  | j :: js, t :: ts, s, h => by
    rw [List.map_cons, List.map_cons, List.cons.injEq] at h
    obtain ⟨wv, h1, h2⟩ := slots_ty s h.2
    obtain ⟨v, e1, e2⟩ := s.at_ j t h.1
    exact ⟨v :: wv, by rw [List.map_cons, List.map_cons, h1, slotAt_of e1], e2, h2⟩
  | [], _ :: _, _, h => by cases h
  | _ :: _, [], _, h => by cases h
theorem tyAll_ex : ∀ {ts : List Ty} {vs : List V} {H H' : Hp}, Ex H H' → TyAll ts vs H → TyAll ts vs H'
  | [], [], _, _, _, _ => trivial
  | t :: ts, v :: vs, _, _, e, h => ⟨t.mono e h.1, tyAll_ex e h.2⟩
  | [], _ :: _, _, _, _, h => False.elim h
  | _ :: _, [], _, _, _, h => False.elim h
/-- a nested function's promise, by the types of what it captured -/
def spN {ι : Type} (T : List NTab) (caps args : ι → List Ty) (res : ι → Ty) : List (Option V) → Sp := fun ws vs H Q _ => ∃ i wv, ws = wv.map some ∧ TyAll (caps i) wv H ∧ TyAll (args i) vs H ∧ ∀ v H', Ge T H H' → (res i).P v H' → Q v H'
/-- least_lots(e, x), x a name that holds a nested def -/
theorem dx_ll {ι : Type} {caps args : ι → List Ty} {res : ι → Ty} {x : Str} {i k j many : Nat} {good : List Nat → Bool} {f : Addr} {F : NF} {ps fr : List Str} {js : List Nat} {ts : List Ty} (MD : Md X.K X.mg) (hk2 : 2 ≤ k) (hr : Room j X.A) (hkj : k + 1 ≤ j) (hm : many ≤ 10)
    (hne : (∀ l ∈ (leastM many good (ordL many).length).map lotOf, l ≠ []) ∨ ((leastM many good (ordL many).length).map lotOf).length ≤ 1)
    (nk : NOk X.prog X.w X.K X.mg X.base C8.CX0 k f F ps fr (spN T caps args res)) (cap : X.Ok → Caps X F.cl fr js) (hfn : ∀ y, X.fn y = true)
    (hi : Γ[i]? = some (some (tyFn f (FnO f F) F.c F.qual (fun _ => True) fnO_ne (fun _ h => h)))) (hjs : js.map (fun j => Γ[j]?) = ts.map (fun t => some (some t))) (he : DX T X Γ e (dat (.int (many : Nat))))
    (hsp : ∀ m, m < 2 ^ many → ∃ a : ι, caps a = ts ∧ args a = [dat (lotD (lotOf m))] ∧ res a = dat (.bool (good (lotOf m))))
    (hx : DX T X Γ (.Name x p2) (tyFn f (FnO f F) F.c F.qual (fun _ => True) fnO_ne (fun _ h => h)))
    (hg : Gl X "least_lots" := by rfl) (hst : starEach [e, .Name x p2] X.env = (false, eval e X.env) :: starEach [.Name x p2] X.env := by rfl) (hst2 : starEach [.Name x p2] X.env = (false, eval (.Name x p2) X.env) :: starEach [] X.env := by rfl) (hpl : (backTo pos (starEach [.Name x p2] X.env)).any (·.1) = false := by rfl) :
    DX T X Γ (.Call (.Name "least_lots" p) [e, .Name x p2] [] pos) (dat (.list ((leastL many good).map lotD))) := fun σ H s Q q => by
  obtain ⟨fl, fd, d, b⟩ := MD.d_least_lots.ex
  intro pins s0 I
  refine wpAny_Call_Name_kw (ld_glob I hg d.mgf ?_ (by decide))
  have hda : DA T X Γ [e, .Name x p2] [dat (.int (many : Nat)), tyFn f (FnO f F) F.c F.qual (fun _ => True) fnO_ne (fun _ h => h)] := da_cons he (da_cons hx da_nil hst2) hst
  refine PySem.W.callWith_K (h₀ := X.base) I.ok.mod.kin d.kp (thn (hda σ H s (fun vs H' => Ge T H H' ∧ TyAll [dat (.int (many : Nat)), tyFn f (FnO f F) F.c F.qual (fun _ => True) fnO_ne (fun _ h => h)] vs H') (fun vs H' g p => ⟨g, p⟩) pos pins s0 I) fun us s1 ⟨vs, H1, I1, r, g1, p1⟩ => ⟨I1.kIn, ?_⟩) hst hpl
  show wpAny _ _ (call (.ref fl) us) _ _ _
  match vs, p1 with
  | [v1, v2], ⟨h1, ⟨h2, h3⟩, _⟩ =>
    obtain rfl := dat_int h1
    subst h2
    obtain ⟨wv, hw, hwt⟩ := slots_ty (s.ext g1.ext) hjs
    have C := cells_of I1 (cap I1.ok)
    rw [hw] at C
    exact ll_run (T := T) (Rc := fun H => TyAll ts wv H) (k := k) (j := j) (good := good) fnO_ne (fun e h => tyAll_ex e h) MD hk2 hr hkj hm hne (nok_grun nk) (fun X pins σ H s I e => fnAt_of I e) (fun m vs H Q E hm2 hR ha hq => by
      obtain ⟨a, e1, e2, e3⟩ := hsp m hm2
      exact ⟨a, wv, rfl, e1 ▸ hR, e2 ▸ ha, fun v H' g p => hq v H' g (e3 ▸ p)⟩) I1 hfn (cap I1.ok).sub C ⟨h3.f, h3.c, hwt⟩ (fun v H' g p => q v H' (g1.trans g) p) d.mgf r
/-- def x(..): .. within a def -/
theorem fs_ndef {st : Stmt} {i : Nat} {nm : Nat → Nat → Str} {c P : Addr} {name : Str} {sp : Pos} (c0 : FC TB0 Hin Γ oN σ H) (i0 : Nat) {t0 : Ty} (h0 : Γ[i0]? = some (some (tyT t0))) (hst : st = .FunctionDef name (C8.fnArgs st) (C8.fnBody st) [] none [] (C8.fnScope st) none name sp) (TB : TabB X.base X.mg c P) (hcode : X.env.code = .ref c) (hm : (P, nm) ∈ TB0) (hn : nm sp.line sp.col = X.env.qual ++ name)
    (hu : ∀ p ∈ TB0, p.1 = P → p.2 = nm) (hfree : ∀ y ∈ (C8.fnScope st).names, y.2 = .free → X.env.scope.names.lookup y.1 = some .cell ∨ X.env.scope.names.lookup y.1 = some .free) (hd0 : (C8.fnArgs st).defaults = []) (hk0 : (C8.fnArgs st).kw_defaults = []) (ha : annTrees (C8.fnArgs st) none X.env = [])
    (hN : X.N.Nodup) (hi : X.N[i]? = some name) (hx : Loc X.env.scope name) (hf : X.fn name = true ∨ X.env.scope.names.lookup name = some .local)
    (k : ∀ (f c' : Addr) σ' H', FC TB0 Hin (Γ.set i (some (tyFn f (FnO f (NF.of st name (X.env.qual ++ name) (cloFrom X.env.cells (C8.fnScope st).names []) c')) c' (X.env.qual ++ name) (fun _ => True) fnO_ne (fun _ h => h)))) oN σ' H' → WSs X rest D σ' H') : WSs X (st :: rest) D σ H := by
  obtain ⟨Hb, L, eH, _, _, g0, s0, hL, _⟩ := id c0
  have hL : L = [] := hL
  subst hL
  have eH : H = Hb := eH
  subst eH
  obtain ⟨v0, e0, p0⟩ := s0.at_ i0 _ h0
  have tb : TabsN TB0 H := p0.2
  refine fs_cons (ws_of (ps_ndefMS hst TB hcode hm hn hu hfree hd0 hk0 ha hN hi hx hf) ⟨tb, fun f c' H1 eN nn T1 f0 f1 c1 => k f c' _ H1 ?_⟩)
  have g : Ge TB0 H H1 := ⟨⟨eN, fun _ => T1⟩, fun _ => T1, nn⟩
  have s1 := (s0.ext g.ext).set (i := i) (t := tyFn f (FnO f (NF.of st name (X.env.qual ++ name) (cloFrom X.env.cells (C8.fnScope st).names []) c')) c' (X.env.qual ++ name) (fun _ => True) fnO_ne (fun _ h => h)) (v := .ref f) ⟨rfl, f1, c1, trivial⟩
  exact ⟨H1, [], rfl, Fr.nil, fun _ h => (nomatch h), g0.trans g, s1, rfl, trivial⟩
end
section
variable {P : Program} {w : World} {K : PySem.W.Frag} {mg : Str → Option Value} {base : Heap} {T : List NTab}
/-- a nested def, by its body -/
theorem nk_mk {ι : Type} {caps args : ι → List Ty} {res : ι → Ty} {k : Nat} {ps fr : List Str} {st : Stmt} {name qual : Str} {f c' : Addr} {cl : List (Str × Addr)} (N : List Str) (S : nscB N ps fr (C8.fnScope st) = true) (hlen : ∀ i, (args i).length = ps.length) (hlen2 : ∀ i, (caps i).length = fr.length)
    (hbind : ∀ (doc pm ctv : Value) (us : List Value), us.length = ps.length → bindArgs ((NF.of st name qual cl c').fd doc pm ctv) ⟨us, []⟩ = pure (ps.zip us))
    (hb : ∀ i A outer s H vs Q E, Room k (ncx C8.CX0 P w K mg base N (NF.of st name qual cl c') f A outer s H E).nox.A → (ncx C8.CX0 P w K mg base N (NF.of st name qual cl c') f A outer s H E).nox.N.Nodup → (∀ v H', Ge T H H' → (res i).P v H' → Q v H') → FC T H (gam0 N (args i ++ caps i)) oN (L2.start N vs) H →
      WSs (ncx C8.CX0 P w K mg base N (NF.of st name qual cl c') f A outer s H E).nox (C8.fnBody st) { nx := fun _ H' => Q .non H', rt := Q } (L2.start N vs) H) : NOk P w K mg base C8.CX0 (k + 1) f (NF.of st name qual cl c') ps fr (spN T caps args res) := by
  have S' := nscope_by S
  refine nok_of (N := N) S' hbind (fun ws vs H Q E h => ?_) fun A outer s H vs ws Q E hr hf hc hl h => ?_
  · obtain ⟨i, wv, _, _, h1, _⟩ := h
    rw [tyAll_len h1]
    exact hlen i
  · obtain ⟨i, wv, rfl, h1, h2, q⟩ := h
    have es : startF N vs (wv.map some) = L2.start N (vs ++ wv) := by
      unfold startF L2.start
      rw [List.map_append, List.length_map, List.length_append, List.append_assoc, Nat.sub_sub]
    have hb' := hb i A outer s H (vs ++ wv) Q E hr S'.nd q (fc_start (sat0 (tyAll_app h2 h1)))
    rw [← es] at hb'
    exact ⟨_, (pss_wss (X := (ncx C8.CX0 P w K mg base N (NF.of st name qual cl c') f A outer s H E).nox)).nox, hb'⟩
end
end G
set_option Elab.async false
set_option linter.all false
set_option maxRecDepth 100000
set_option maxHeartbeats 1000000
set_option pp.maxSteps 400
namespace G
open PySem PySem.Spec L2 LamX NdefX PyProof.Rows
local macro_rules | `(tactic| fail "sub") => `(tactic| first | exact Sub.nil | (refine Sub.drop ?_; fail "sub") | (refine Sub.same ?_; fail "sub"))
local macro_rules | `(tactic| fail "side") => `(tactic| first | assumption | rfl | omega | decide)
theorem tb0u : ∀ {P : Addr} {nm : Nat → Nat → Str}, (P, nm) ∈ TB0 → ∀ p ∈ TB0, p.1 = P → p.2 = nm := by
  intro P nm h p hp e
  unfold TB0 at h hp
  simp only [List.mem_cons, List.not_mem_nil, or_false, Prod.mk.injEq] at h
  rcases h with ⟨h1, h2⟩ | ⟨h1, h2⟩ | ⟨h1, h2⟩ <;> (subst h2; simp only [List.mem_cons, List.not_mem_nil, or_false] at hp; rcases hp with rfl | rfl | rfl) <;> first | rfl | (exfalso; rw [h1] at e; exact absurd e (by decide))
/-! ### enough_lots -/
def isE : Stmt := (C8.fnBody (top 73)).getD 1 (.Pass ⟨0, 0, 0, 0⟩)
def isEn (nm : Near) (a : Aim) (lot : List Nat) : Bool := !decide (lot.length % 2 = 1) && (fullN nm 6 lot).any fun ps => (spoil a ps).isNone
structure OkEl (p : List Nat × Aim × Near) : Prop where
  fu : OkFu 6 (p.2.2, p.1)
  sp : ∀ ps ∈ fullN p.2.2 6 p.1, OkSpoil (p.2.1, ps)
structure OkEn (p : List Board × Aim) : Prop where
  pr : OkPairs p.1
  len : p.1.length ≤ 6
  ap : (allPairs p.1).length ≤ 500
  el : ∀ m, m < 2 ^ p.1.length → OkEl (lotOf m, p.2, laterOf (allPairs p.1))
  ne : (∀ l ∈ (leastM p.1.length (isEn (laterOf (allPairs p.1)) p.2) (ordL p.1.length).length).map lotOf, l ≠ []) ∨ ((leastM p.1.length (isEn (laterOf (allPairs p.1)) p.2) (ordL p.1.length).length).map lotOf).length ≤ 1
abbrev enL (bs : List Board) (a : Aim) : List (List Nat) := leastL bs.length (isEn (laterOf (allPairs bs)) a)
section
variable {P : Program} {w : World} {K : PySem.W.Frag} {mg : Str → Option Value} {base : Heap} {T : List NTab}
theorem nk_isE (G : Md K mg) {f c' : Addr} {qual : Str} {cl : List (Str × Addr)} : NOk P w K mg base C8.CX0 11 f (NF.of isE "is_enough" qual cl c') ["lot"] ["aim", "later"] (spN T (fun i : {p : List Nat × Aim × Near // OkEl p} => [dat i.1.2.1.enc, nearT i.1.2.2]) (fun i => [dat (lotD i.1.1)]) fun i => dat (.bool (isEn i.1.2.2 i.1.2.1 i.1.1))) := by
  refine nk_mk ["lot", "aim", "later", "pairing"] (by decide +kernel) (fun _ => rfl) (fun _ => rfl) (fun doc pm ctv us h => by match us, h with | [u], _ => rfl) fun ⟨⟨lot, a, nm⟩, ok⟩ A outer s H vs Q E hr nd q c => ?_
  have eb : decide (Builtin.bitAnd (((cs lot).map PyData.int).length : Nat) 1 = 1) = decide (lot.length % 2 = 1) := by
    rw [List.length_map, cs_len]
    rw [show ((1 : Int)) = ((1 : Nat) : Int) from rfl, band_nn, Nat.and_one_is_mod, Bool.eq_iff_iff, decide_eq_true_iff, decide_eq_true_iff]
    omega
  refine fs_if1 (k := decide (lot.length % 2 = 1)) c (by exact DT.to (DC.dt (dc_eqI (dx_and2 (dx_lenT (ds := (cs lot).map .int) G.b_len (dx_var 0)) dx_int) dx_int)) eb) (fun hk H' c => ?_) fun hk H' c => ?_
  · exact fs_retE c (by exact (DX.dat dx_bl (by unfold isEn; rw [hk]; rfl))) q
  · have h1 : (fullN nm 6 lot).length ≤ 6 ^ 6 := fullN_len ok.fu.nb 6 lot
    have h2 := pow6 6 (by decide)
    exact fs_retE c (by exact DX.dat (dx_any (bs := (fullN nm 6 lot).map fun ps => (spoil a ps).isNone) rfl G.b_any (DX.dat (dx_lc [("pairing", 3)] (fullN nm 6 lot) (fun ps => .bool (spoil a ps).isNone) nd rfl (by rfl) (di_listM (by exact dx_call (fn_full_pairings G 6) hr ⟨(nm, lot), ok.fu⟩ (da_cons (dx_var 2) (da_cons (dx_var 0) da_nil)))) (by show (fullN nm 6 lot).length ≤ _; omega) (fun ps hps s0 H0 C cl fp => dg_name 3 nd) (fun ps hps s0 H0 C cl fp => by exact DX.dat (DC.dx (dc_isN (dx_call (fn_spoiling G) hr ⟨(a, ps), ok.sp ps hps⟩ (da_cons (dx_var 1) (da_cons (dx_var 3) da_nil))) dx_non)) (by rw [optD_isNon]))) (by rw [List.map_map]; rfl))) (by unfold isEn; rw [hk, List.any_map]; rfl)) q
theorem fn_enough_lots (G : Md K mg) {cc : Addr} (F : AtC K mg "enough_lots" ["hall", "aim"] (top 73) cc) (TB : TabB base mg cc 461) : C8.Cal P w K mg base 13 "enough_lots" (spP TB0 (fun (i : {p : List Board × Aim // OkEn p}) => [tyT (hallT K i.1.1), dat i.1.2.enc]) fun i => dat (.list ((enL i.1.1 i.1.2).map lotD))) [] := by
  refine fn_mkC F ["hall", "aim", "later", "is_enough"] (by decide +kernel) (fun _ => rfl) fun ⟨⟨bs, a⟩, ok⟩ A outer s H vs Q E f hr nd q c => ?_
  have hl : bs.length ≤ 6 := ok.len
  refine fs_set 2 (t := nearT (laterOf (allPairs bs))) nd c (by exact dx_call (fn_later_partners G) hr ⟨allPairs bs, ok.ap⟩ (da_cons (dx_call (fn_all_pairs G) hr ⟨bs, ok.pr⟩ (da_cons (DX.unT (dx_var 0)) da_nil)) da_nil)) fun σ H' c => ?_
  have hfr : ndefB (C8.fnScope (top 73)) (C8.fnScope isE) ["aim", "later"] = true := by decide +kernel
  refine fs_ndef (st := isE) (i := 3) (P := 461) (c := cc) (nm := fun _ _ => "enough_lots.<locals>.is_enough") (name := "is_enough") c 0 rfl rfl TB rfl List.mem_cons_self rfl (tb0u List.mem_cons_self) (ndef_free hfr) rfl rfl rfl nd rfl (.inl rfl) (.inl rfl) fun f' c' σ' H' c => ?_
  exact fs_retE c (dx_ll (i := 3) (js := [1, 2]) (ts := [dat a.enc, nearT (laterOf (allPairs bs))]) (good := isEn (laterOf (allPairs bs)) a) G (by decide) hr (by decide) (by show bs.length ≤ 10; omega) ok.ne (nk_isE (T := TB0) G) (fun o => Caps.made o (ndef_free hfr) (ndef_fr hfr) rfl) (fun _ => rfl) rfl rfl (by exact DX.dat (dx_lenT G.b_len (dx_boards (DX.unT (dx_var 0)))) (by rw [List.length_map])) (fun m hm => ⟨⟨_, ok.el m hm⟩, rfl, rfl, rfl⟩) (dx_var 3)) q
theorem fn_enough (G : Md K mg) {cc : Addr} (F : AtC K mg "enough_lots" ["hall", "aim"] (top 73) cc) (TB : TabB base mg cc 461) : C8.Cal P w K mg base 16 "enough" (spP TB0 (fun (i : {p : List Board × Aim // OkEn p ∧ OkAim (p.2, p.1.length)}) => [tyT (hallT K i.1.1), dat i.1.2.enc]) fun i => dat (.list ((enL i.1.1 i.1.2).map lotD))) [] := by
  refine fn_mk G.d_enough ["hall", "aim"] (by decide +kernel) (fun _ => rfl) fun ⟨⟨bs, a⟩, ok, ok2⟩ cdv A outer s H vs Q E f hr nd q c => ?_
  have hl : bs.length ≤ 6 := ok.len
  refine fs_expr c (by exact dx_call (fn_check_aim G) hr ⟨(bs, a), ok2⟩ (da_cons (DX.unT (dx_var 0)) (da_cons (dx_var 1) da_nil))) fun H' c => ?_
  refine fs_expr c (by exact dx_call (fn_check_boards G) hr ⟨bs, by omega⟩ (da_cons (DX.unT (dx_var 0)) (da_cons (dx_globI G.i_MOST_BOARDS_house.choose_spec) da_nil))) fun H' c => ?_
  exact fs_retE c (by exact dx_call (fn_enough_lots G F TB) hr ⟨(bs, a), ok⟩ (da_cons (dx_var 0) (da_cons (dx_var 1) da_nil))) q
/-! ### cheapest -/
def costI (pr : List Nat) (l : List Nat) : Int := (l.map fun b => ((pr.getD b 0 : Nat) : Int)).sum
def costD (pr : List Nat) (l : List Nat) : PyData := .tuple [.int (costI pr l), lotD l]
structure OkCh (p : List Board × Aim × List Nat) : Prop where
  en : OkEn (p.1, p.2.1)
  aim : OkAim (p.2.1, p.1.length)
  len : p.2.2.length = p.1.length
  le : ∀ x ∈ p.2.2, x ≤ 1000000
  lt : ∀ l ∈ enL p.1 p.2.1, l.length ≤ 1000 ∧ ∀ b ∈ l, b < p.1.length
  few : (enL p.1 p.2.1).length ≤ 5000
theorem alikeAll_cost (pr : List Nat) (ls : List (List Nat)) : PySem.W.AlikeAll (ls.map (costD pr)) := by
  refine ⟨fun x hx y hy => ?_, fun x hx e => ?_⟩
  · obtain ⟨l, _, rfl⟩ := List.mem_map.mp hx
    obtain ⟨m, _, rfl⟩ := List.mem_map.mp hy
    unfold costD
    simp only [PySem.W.alike, PySem.W.alikeAll, Bool.and_true, Bool.true_and]
    exact alike_lot l m
  · obtain ⟨l, _, rfl⟩ := List.mem_map.mp hx
    cases e
theorem depthAll_le {n : Nat} : ∀ {ds : List PyData}, (∀ d ∈ ds, d.depth ≤ n) → PyData.depthAll ds ≤ n
  | [], _ => Nat.zero_le _
  | d :: ds, h => by
    have h1 := h d List.mem_cons_self
    have h2 := depthAll_le (ds := ds) fun x hx => h x (List.mem_cons_of_mem _ hx)
    simp only [PyData.depthAll]
    omega
theorem fn_cheapest (G : Md K mg) {cc : Addr} (F : AtC K mg "enough_lots" ["hall", "aim"] (top 73) cc) (TB : TabB base mg cc 461) : C8.Cal P w K mg base 16 "cheapest" (spP TB0 (fun (i : {p : List Board × Aim × List Nat // OkCh p}) => [tyT (hallT K i.1.1), dat i.1.2.1.enc, dat (lotD i.1.2.2)]) fun i => dat (minDef ((enL i.1.1 i.1.2.1).map (costD i.1.2.2)))) [] := by
  refine fn_mk G.d_cheapest ["hall", "aim", "prices", "lots", "lot", "board"] (by decide +kernel) (fun _ => rfl) fun ⟨⟨bs, a, pr⟩, ok⟩ cdv A outer s H vs Q E f hr nd q c => ?_
  have hu := hr.units
  have hl : bs.length ≤ 6 := ok.en.len
  refine fs_expr c (by exact dx_call (fn_check_aim G) hr ⟨(bs, a), ok.aim⟩ (da_cons (DX.unT (dx_var 0)) (da_cons (dx_var 1) da_nil))) fun H' c => ?_
  refine fs_if1 (k := false) c (by exact DT.to (dt_not (dt_val (dx_call (fn_are_prices G) hr ⟨(bs, pr), ok.len, by show bs.length ≤ 50; omega, ok.le⟩ (da_cons (DX.unT (dx_var 0)) (da_cons (dx_var 2) da_nil))))) rfl) (fun hk => by cases hk) fun _ H' c => ?_
  refine fs_expr c (by exact dx_call (fn_check_boards G) hr ⟨bs, by omega⟩ (da_cons (DX.unT (dx_var 0)) (da_cons (dx_globI G.i_MOST_BOARDS_house.choose_spec) da_nil))) fun H' c => ?_
  refine fs_set 3 nd c (by exact dx_call (fn_enough_lots G F TB) hr ⟨(bs, a), ok.en⟩ (da_cons (dx_var 0) (da_cons (dx_var 1) da_nil))) fun σ H' c => ?_
  have hat : ∀ b, b < bs.length → atI ((cs pr).map PyData.int) (b : Int) = some (.int ((pr.getD b 0 : Nat) : Int)) := fun b hb => atI_cs (by
    have hp : b < pr.length := by rw [show pr.length = bs.length from ok.len]; exact hb
    rw [List.getD_eq_getElem?_getD, List.getElem?_eq_getElem hp]
    rfl)
  have hdep : ∀ l, (costD pr l).depth ≤ 60 := fun l => by
    have := depth_lot l
    unfold costD
    simp only [PyData.depth, PyData.depthAll]
    omega
  exact fs_retE c (by exact dx_minDef rfl hu G.b_min (DX.dat (dx_lc [("lot", 4)] (enL bs a) (costD pr) nd rfl (by rfl) (di_listM (dx_var 3)) (by have h : (enL bs a).length ≤ 5000 := ok.few; show (enL bs a).length ≤ _; omega) (fun l hl s0 H0 C cl fp => dg_name 4 nd) (fun l hl s0 H0 C cl fp => by
    obtain ⟨h1, h2⟩ := ok.lt l hl
    have h1 : l.length ≤ 1000 := h1
    exact (by exact dx_tup (ds := [.int (costI pr l), lotD l]) (da_cons (dx_sum (ns := l.map fun b => ((pr.getD b 0 : Nat) : Int)) rfl G.b_sum (DX.dat (dx_lc [("board", 5)] l (fun b => .int ((pr.getD b 0 : Nat) : Int)) nd rfl (by rfl) (di_tupM (r := fun n : Nat => PyData.int (n : Int)) (DX.dat (dx_var 4) (by unfold lotD cs; rw [List.map_map]; rfl))) (by omega) (fun b hb s0 H0 C cl fp => dg_name 5 nd) (fun b hb s0 H0 C cl fp => by exact dx_ixT (dx_var 2) (dx_var 5) (hat b (h2 b hb)))) (by rw [List.map_map]; rfl))) (da_cons (dx_var 4) da_nil))))) rfl) (alikeAll_cost pr _) (depthAll_le fun d hd => by obtain ⟨l, _, rfl⟩ := List.mem_map.mp hd; exact hdep l)) q
end
end G
set_option Elab.async false
set_option linter.all false
set_option maxRecDepth 100000
set_option maxHeartbeats 1000000
set_option pp.maxSteps 400
namespace G
open PySem PySem.Spec L2 LamX NdefX PyProof.Rows
local macro_rules | `(tactic| fail "sub") => `(tactic| first | exact Sub.nil | (refine Sub.drop ?_; fail "sub") | (refine Sub.same ?_; fail "sub"))
local macro_rules | `(tactic| fail "side") => `(tactic| first | assumption | rfl | omega | decide)
/-! ### a lambda with one parameter (a cell) and one captured name -/
theorem cellsFrom_nil : ∀ (rest : List (Str × NameKind)) (n : Nat) (acc : List (Str × Addr)), (∀ y ∈ rest, y.2 ≠ .cell) → cellsFrom n rest acc = acc
  | [], _, _, _ => rfl
  | (x, k) :: rest, n, acc, h => by
    have hk : (k == NameKind.cell) = false := by
      have := h (x, k) List.mem_cons_self
      cases k <;> first | rfl | exact absurd rfl this
    rw [cellsFrom, hk]
    exact cellsFrom_nil rest n acc fun y hy => h y (List.mem_cons_of_mem _ hy)
theorem pushCells_nil : ∀ (rest : List (Str × NameKind)) (h : Heap), (∀ y ∈ rest, y.2 ≠ .cell) → pushCells h rest = h
  | [], _, _ => rfl
  | (x, k) :: rest, h, hr => by
    have hk : (k == NameKind.cell) = false := by
      have := hr (x, k) List.mem_cons_self
      cases k <;> first | rfl | exact absurd rfl this
    rw [pushCells, hk]
    exact pushCells_nil rest h fun y hy => hr y (List.mem_cons_of_mem _ hy)
structure Lam1 (sc : Scope) (x y : Str) : Prop where
  kind : sc.kind = .function
  co : sc.isCoroutine = false
  gen : sc.isGenerator = false
  ne : x ≠ y
  names : ∃ rest, sc.names = (x, .cell) :: (y, .free) :: rest ∧ ∀ z ∈ rest, z.2 ≠ .cell ∧ z.2 ≠ .free ∧ z.2 ≠ .local
def lam1B (sc : Scope) (x y : Str) : Bool :=
  decide (sc.kind = .function) && !sc.isCoroutine && !sc.isGenerator && decide (x ≠ y) && (match sc.names with | a :: b :: rest => decide (a = (x, NameKind.cell)) && decide (b = (y, NameKind.free)) && rest.all (fun z => !decide (z.2 = .cell) && !decide (z.2 = .free) && !decide (z.2 = .local)) | _ => false)
theorem lam1_by {sc : Scope} {x y : Str} (h : lam1B sc x y = true) : Lam1 sc x y := by
  unfold lam1B at h
  split at h
  · rename_i a b rest e
    simp only [Bool.and_eq_true, Bool.not_eq_true', decide_eq_true_eq, decide_eq_false_iff_not, List.all_eq_true] at h
    obtain ⟨⟨⟨⟨h1, h2⟩, h3⟩, h4⟩, ⟨h5, h6⟩, h7⟩ := h
    exact ⟨h1, h2, h3, h4, rest, by rw [e, h5, h6], fun z hz => ⟨(h7 z hz).1.1, (h7 z hz).1.2, (h7 z hz).2⟩⟩
  · simp at h
section
variable {M : Model} {A : Around} {E : Value → Shared → Prop} {s : Shared}
theorem lam_env {sc : Scope} {x y : Str} {globals : Addr} {cl : List (Str × Addr)} {u : Value} {qual : Str} {func : Option Addr} {code : Value} {builtins : Addr} {Q : Env → Shared → Prop} (S : Lam1 sc x y)
    (hQ : ∀ h', h'.Ns s.heap.objs.size (fun _ => none) → h'.IsCell (s.heap.objs.size + 1) (some u) → (∀ b o, s.heap.get? b = some o → h'.get? b = some o) → Q (newEnv sc s.heap.objs.size globals ((x, s.heap.objs.size + 1) :: cl) qual func code none builtins) { s with heap := h' }) :
    wpAny M A (newFunctionEnv sc globals cl [(x, u)] qual func code none builtins) Q E s := by
  obtain ⟨rest, hn, hr⟩ := S.names
  have hr' : ∀ z ∈ (y, NameKind.free) :: rest, z.2 ≠ .cell := fun z hz => by
    rcases List.mem_cons.mp hz with rfl | hz
    · show NameKind.free ≠ NameKind.cell
      decide
    · exact (hr z hz).1
  simp only [newFunctionEnv, Option.isSome_none, Bool.false_eq_true, if_false]
  refine wpAny_bind (wpAny_alloc ?_)
  refine wpAny_bind (wpAny_layCells _ (fun name kind cells => by cases hkc : kind == NameKind.cell <;> simp [hkc]) _ _ _ _ ?_)
  have hk : (NameKind.cell == NameKind.cell) = true := rfl
  have e1 : ∀ n acc, cellsFrom n sc.names acc = (x, n) :: acc := fun n acc => by
    rw [hn, cellsFrom, hk]
    exact cellsFrom_nil _ _ _ hr'
  have e2 : ∀ h, pushCells h sc.names = h.push { cls := .type "cell", data := .cell none } := fun h => by
    rw [hn, pushCells, hk]
    exact pushCells_nil _ _ hr'
  rw [e1, e2]
  have sz : (s.heap.push { cls := .type "frame", data := .dict #[] } : Heap).objs.size = s.heap.objs.size + 1 := Heap.size_push ..
  rw [show ({ s with heap := s.heap.push { cls := .type "frame", data := .dict #[] } } : Shared).heap.objs.size = s.heap.objs.size + 1 from sz]
  have hns : (s.heap.push { cls := .type "frame", data := .dict #[] } : Heap).Ns s.heap.objs.size (fun _ => none) := Heap.Ns.new s.heap (.type "frame")
  have hns2 : ((s.heap.push { cls := .type "frame", data := .dict #[] } : Heap).push { cls := .type "cell", data := .cell none } : Heap).Ns s.heap.objs.size (fun _ => none) := hns.keeps fun b o e => Heap.get?_push_of_some _ e
  have hc2 : ((s.heap.push { cls := .type "frame", data := .dict #[] } : Heap).push { cls := .type "cell", data := .cell none } : Heap).IsCell (s.heap.objs.size + 1) none := by
    have z := Heap.get?_push_size (o := { cls := .type "cell", data := .cell none }) (s.heap.push { cls := .type "frame", data := .dict #[] } : Heap) rfl
    rw [sz] at z
    exact ⟨_, z, rfl⟩
  simp only [List.forIn_cons, List.forIn_nil]
  refine wpAny_bind (wpAny_bind (wpAny_bind (wpAny_storeName_cell (c := s.heap.objs.size + 1) S.kind ?_ ?_ hc2 fun h' hc hs => ?_)))
  · show sc.names.lookup x = _
    rw [hn]
    simp
  · show List.lookup x ((x, _) :: cl) = _
    simp
  refine wpAny_pure (wpAny_pure (wpAny_pure ?_))
  refine hQ h' (hns2.sameBut hs (Nat.ne_of_lt (Nat.lt_succ_self _))) hc fun b o e => ?_
  have lt := Heap.lt_size e
  exact (hs.2 b (Nat.ne_of_lt (Nat.lt_succ_of_lt lt))).trans (Heap.get?_push_of_some _ (Heap.get?_push_of_some _ e))
end
/-- its words -/
structure LF where
  qual : Str
  params : Arguments
  body : Expr
  scope : Scope
  cl : List (Str × Addr)
  c : Addr
abbrev LF.obj (F : LF) (pm ctv : Value) : Obj := PySem.W.kla_obj "<lambda>" F.qual F.params F.body F.scope F.cl pm F.c ctv
def LamO (f : Addr) (F : LF) : HO := .ext fun h => ∃ pm ctv, h.get? f = some (F.obj pm ctv)
theorem lamO_ne {f : Addr} {F : LF} (ps : Array Value) : LamO f F ≠ .tbl ps := fun z => by
  unfold LamO at z
  cases z
theorem lamO_at {P : Program} {w : World} {H : Hp} {h : Heap} {f : Addr} {F : LF} (hok : HOk P w H h) (e : H f = some (LamO f F)) : ∃ pm ctv, h.get? f = some (F.obj pm ctv) := by
  obtain ⟨z, _, _⟩ := hok f _ e
  exact z
abbrev lenv (F : LF) (x : Str) (f L : Addr) : Env := PySem.W.envX F.qual F.scope L f (.ref F.c) ((x, L + 1) :: F.cl)
def lcx (P : Program) (w : World) (K : PySem.W.Frag) (mg : Str → Option Value) (base : Heap) (N : List Str) (F : LF) (x : Str) (f : Addr) (A : Around) (outer : List Env) (s : Shared) (H : Hp) (E : XK) : Cx where
  prog := P
  w := w
  K := K
  mg := mg
  base := base
  A := A.deeper (lenv F x f s.heap.objs.size)
  N := N
  s_0 := s
  H_0 := H
  env := lenv F x f s.heap.objs.size
  outer := outer
  stack := lenv F x f s.heap.objs.size :: outer
  ex := []
  calm := true
  fn := fun _ => false
  pn := []
  xe := fun e s' => wpAny (model P w) (A.deeper (lenv F x f s.heap.objs.size)) (leaving (lenv F x f s.heap.objs.size) e) (fun _ s'' => C8.CX0 outer H s E e s'') (fun e' s'' => C8.CX0 outer H s E e' s'') s'
section
variable {P : Program} {w : World} {K : PySem.W.Frag} {mg : Str → Option Value} {base : Heap} {F : LF} {x y z0 : Str} {f : Addr} {A : Around} {outer : List Env} {s : Shared} {H : Hp} {E : XK} {u : Value} {v : V} {ws : List (Option V)}
theorem lam_inv {h₁ : Heap} {tk : Nat} (S : Lam1 F.scope x y) (hd : A.handled = none) (e0 : Env0 P w K mg base A outer s H) (r : L2.RelV v u) (C : CellsAt F.cl [y] ws s.heap H) (hcl : ∀ z c, F.cl.lookup z = some c → z = y) (hns : h₁.Ns s.heap.objs.size fun _ => none) (hcell : h₁.IsCell (s.heap.objs.size + 1) (some u))
    (kp : ∀ b o, s.heap.get? b = some o → h₁.get? b = some o) : Inv (lcx P w K mg base [x, y, z0] F x f A outer s H E) [] (startF [x, y, z0] [v] ws) H { s with heap := h₁, toks := tk } := by
  obtain ⟨rest, hn, hr⟩ := S.names
  have noA : ∀ b : Addr, b ∉ (lcx P w K mg base [x, y, z0] F x f A outer s H E).ex := fun b z => absurd (show b ∈ ([] : List Addr) from z) (by simp)
  have cellK : ∀ {c : Addr} {v : Option Value}, s.heap.IsCell c v → h₁.IsCell c v := fun {c v} ⟨o, ho, hd⟩ => ⟨o, kp _ _ ho, hd⟩
  have lx : ∀ z c, ((x, s.heap.objs.size + 1) :: F.cl).lookup z = some c → (z = x ∧ c = s.heap.objs.size + 1) ∨ (z ≠ x ∧ F.cl.lookup z = some c) := fun z c e => by
    rw [List.lookup_cons] at e
    cases hb : z == x with
    | true =>
      rw [hb] at e
      exact .inl ⟨beq_iff_eq.mp hb, (Option.some.inj e).symm⟩
    | false =>
      rw [hb] at e
      exact .inr ⟨fun q => by rw [q] at hb; simp at hb, e⟩
  have clt : ∀ z c, F.cl.lookup z = some c → c < s.heap.objs.size := fun z c e => by
    obtain ⟨_, v, o, ho, _⟩ := C.all z c e
    exact Heap.lt_size ho
  have kx : F.scope.names.lookup x = some .cell := by rw [hn]; simp
  have ky : F.scope.names.lookup y = some .free := by
    rw [hn, List.lookup_cons]
    have : (y == x) = false := by
      cases hb : y == x with
      | true => exact absurd (beq_iff_eq.mp hb).symm S.ne
      | false => rfl
    rw [this]
    simp
  obtain ⟨cy, hcy, hvy⟩ := C.has 0 y rfl
  have eyc : ((x, s.heap.objs.size + 1) :: F.cl).lookup y = some cy := by
    rw [List.lookup_cons]
    have : (y == x) = false := by
      cases hb : y == x with
      | true => exact absurd (beq_iff_eq.mp hb).symm S.ne
      | false => rfl
    rw [this]
    exact hcy
  have clen : ws.length = 1 := C.len
  refine ⟨⟨e0.mod, S.kind, rfl, rfl, Nat.le_refl _, fun a b c e1 e2 => ?_, fun z hz => ?_, fun z c q _ => ?_, fun _ => hd, Around.frames_deeper e0.frames, .inr ⟨rfl, rfl⟩, fun b z => absurd z (noA b), e0.bs, e0.bsz, fun b _ _ => noA b,
      fun b z => absurd z (noA b), e0.funs, e0.frf⟩,
    rfl, e0.bare, Un.kept kp, ⟨_, hns, fun i z q e1 e2 e3 => ?_⟩, fun z c e => ?_, e0.hok.fresh (Nat.le_refl _), fun z c e => ?_, fun q hq => absurd (show q ∈ ([] : List (Addr × Obj)) ++ [] from hq) (by simp), e0.hok.kept kp, ?_⟩
  · rcases lx a c e1 with ⟨h1, h2⟩ | ⟨_, h1⟩ <;> rcases lx b c e2 with ⟨h3, h4⟩ | ⟨_, h3⟩
    · rw [h1, h3]
    · exact absurd (h2 ▸ clt b c h3) (Nat.not_lt.mpr (Nat.le_succ _))
    · exact absurd (h4 ▸ clt a c h1) (Nat.not_lt.mpr (Nat.le_succ _))
    · exact C.inj a b c h1 h3
  · have hz : F.scope.names.lookup z = some .cell ∨ F.scope.names.lookup z = some .free := hz
    have hz2 : z = x ∨ z = y := by
      rcases hz with hz | hz <;>
      · have m := PySem.mem_of_lookup hz
        rw [hn] at m
        rcases List.mem_cons.mp m with m | m
        · exact .inl (Prod.mk.inj m).1
        · rcases List.mem_cons.mp m with m | m
          · exact .inr (Prod.mk.inj m).1
          · first | exact absurd rfl (hr _ m).1 | exact absurd rfl (hr _ m).2.1
    rcases hz2 with rfl | rfl
    · exact ⟨_, by show List.lookup _ ((_, _) :: _) = _; simp; rfl⟩
    · exact ⟨cy, eyc⟩
  · have q : false = true := q
    cases q
  · have e1 : [x, y, z0][i]? = some z := e1
    obtain ⟨w0, rfl⟩ : ∃ w0, ws = [w0] := by
      match ws, clen with
      | [w0], _ => exact ⟨w0, rfl⟩
    have e2 : [some v, w0, none][i]? = some (some q) := e2
    match i, e1, e2 with
    | 0, e1, e2 =>
      cases e1
      cases e2
      exact ⟨u, r, .inr ⟨.inl kx, _, (by show List.lookup _ ((_, _) :: _) = _; simp), hcell⟩⟩
    | 1, e1, e2 =>
      cases e1
      obtain ⟨u2, r2, h2⟩ := hvy q e2
      exact ⟨u2, r2, .inr ⟨.inr ky, cy, eyc, cellK h2⟩⟩
    | 2, e1, e2 => cases e2
    | n + 3, e1, e2 => simp at e1
  · rcases lx z c e with ⟨_, rfl⟩ | ⟨_, h1⟩
    · exact ⟨_, hcell⟩
    · obtain ⟨q, h2⟩ := (C.all z c h1).2
      exact ⟨q, cellK h2⟩
  · rcases lx z c e with ⟨_, rfl⟩ | ⟨_, h1⟩
    · exact e0.hok.fresh (Nat.le_succ _)
    · exact (C.all z c h1).1
  · show (startF [x, y, z0] [v] ws).length = 3
    unfold startF
    simp [clen]
/-- the lambda's promise, by its body -/
theorem lam_grun {ι : Type} {T : List NTab} {caps args : ι → List Ty} {res : ι → Ty} {k : Nat} (S : Lam1 F.scope x y) (hlen : ∀ i, (args i).length = 1) (hlen2 : ∀ i, (caps i).length = 1) (hcl : ∀ z c, F.cl.lookup z = some c → z = y)
    (hbind : ∀ (pm ctv : Value) (u : Value), bindArgs (PySem.W.kla_fn "<lambda>" F.qual F.params F.body F.scope F.cl pm (.ref F.c) ctv) ⟨[u], []⟩ = pure [(x, u)])
    (hb : ∀ i A outer s H E, Room k (lcx P w K mg base [x, y, z0] F x f A outer s H E).A → DX T (lcx P w K mg base [x, y, z0] F x f A outer s H E).nox (gam0 [x, y, z0] (args i ++ caps i)) F.body (res i)) :
    GRun P w K mg base (k + 1) f (LamO f F) F.c F.qual F.cl [y] (spN T caps args res) := by
  intro A outer s H us vs ws Q E hr e0 hf hc C r hsp
  obtain ⟨i, wv, rfl, h1, h2, q⟩ := hsp
  obtain ⟨pm, ctv, ho⟩ := lamO_at e0.hok hf
  have l1 : vs.length = 1 := (tyAll_len h2).trans (hlen i)
  have lim : s.heap.NoLimit := e0.mod.nolimit.keeps fun b o e => (e0.bs b o e).1
  match vs, us, r, l1 with
  | [v], [u], .cons rv .nil, _ =>
  obtain ⟨⟨oc, vs', t, hoc, hdc, hvc⟩, _, _⟩ := e0.hok F.c _ hc
  refine PySem.W.kla_callFunE hr.depth ho rfl S.co S.gen rfl ⟨F.c, oc, vs', t, rfl, hoc, hdc, hvc⟩ ?_
  rw [hbind]
  refine wpAny_pure (lam_env S fun h' hns hcell kp => ⟨lim.keeps kp, ?_⟩)
  show codeAny _ _ (.expr F.body (lenv F x f s.heap.objs.size)) _ _
  have J : Inv (lcx P w K mg base [x, y, z0] F x f A outer s H E) [] (startF [x, y, z0] [v] (wv.map some)) H { s with heap := h' } := lam_inv (tk := s.toks) S hr.hd e0 rv C hcl hns hcell kp
  have es : startF [x, y, z0] [v] (wv.map some) = L2.start [x, y, z0] ([v] ++ wv) := by
    unfold startF L2.start
    rw [List.map_append, List.length_map, List.length_append, List.append_assoc, Nat.sub_sub]
  have sat : Sat (gam0 [x, y, z0] (args i ++ caps i)) (startF [x, y, z0] [v] (wv.map some)) H := by
    rw [es]
    exact sat0 (tyAll_app h2 h1)
  refine PySem.W.kla_codeExpr (wpAny_mono ((pe_we (X := (lcx P w K mg base [x, y, z0] F x f A outer s H E).nox)).nox.run [] _ _ H Q J (hb i A outer s H E (hr.deeper _) _ H sat Q q)) (fun u' s' hq => ?_) fun e s' hq => hq)
  obtain ⟨w', H', J', rv, q⟩ := hq
  exact ⟨w', H', J'.os, J'.bare, J'.base, J'.hok, rv, q⟩
end
end G
set_option Elab.async false
set_option linter.all false
set_option maxRecDepth 100000
set_option maxHeartbeats 1000000
set_option pp.maxSteps 400
namespace G
open PySem PySem.Spec L2 LamX NdefX PyProof.Rows
local macro_rules | `(tactic| fail "sub") => `(tactic| first | exact Sub.nil | (refine Sub.drop ?_; fail "sub") | (refine Sub.same ?_; fail "sub"))
local macro_rules | `(tactic| fail "side") => `(tactic| first | assumption | rfl | omega | decide)
/-- a table with one code object more -/
theorem tabs_more {H : Hp} {P c' : Addr} {ps : Array Value} {q : Str} {l k : Nat} {pos : Pos} (hP : H P = some (.tbl ps)) (nC : H c' = none) (ht : TriplesOk ps.toList) (ha : ∀ (pos : Pos) (cv : Value), codeAmong pos ps.toList = some cv → ∃ c, cv = .ref c ∧ H c = some (CodeO c q)) (hT : TabsN TB0 H)
    (hu : ∀ p ∈ TB0, p.1 = P → p.2 = fun _ _ => q) : TabsN TB0 (upd (upd H P (.tbl (ps ++ #[rawInt pos.line, rawInt pos.col, .ref c']))) c' (CodeO c' q)) ∧ ExtN H (upd (upd H P (.tbl (ps ++ #[rawInt pos.line, rawInt pos.col, .ref c']))) c' (CodeO c' q)) := by
  have hE : ExtN H (upd (upd H P (.tbl (ps ++ #[rawInt pos.line, rawInt pos.col, .ref c']))) c' (CodeO c' q)) := fun b o e n => by
    rw [upd_ne (ne_of_none e nC), upd_ne (fun z => n ps (Option.some.inj (e.symm.trans (by rw [z]; exact hP))))]
    exact e
  refine ⟨fun p hp => ?_, hE⟩
  by_cases hb : p.1 = P
  · rw [hu p hp hb, hb]
    have eL : (ps ++ #[rawInt pos.line, rawInt pos.col, .ref c']).toList = ps.toList ++ [rawInt pos.line, rawInt pos.col, .ref c'] := by simp
    refine ⟨_, by rw [upd_ne (ne_of_none hP nC), upd_same], by rw [eL]; exact PySem.TriplesOk_snoc _ _ _ _ ht, fun p' cv hcv => ?_⟩
    rw [eL] at hcv
    rcases among_app _ ht hcv with z | z
    · obtain ⟨c0, e1, e2⟩ := ha p' cv z
      exact ⟨c0, e1, hE _ _ e2 codeO_ne⟩
    · exact ⟨c', z, upd_same⟩
  · obtain ⟨qs, a1, a2, a3⟩ := hT p hp
    refine ⟨qs, by rw [upd_ne (ne_of_none a1 nC), upd_ne hb]; exact a1, a2, fun p' cv hcv => ?_⟩
    obtain ⟨c0, e1, e2⟩ := a3 p' cv hcv
    exact ⟨c0, e1, hE _ _ e2 codeO_ne⟩
section
variable {X : Cx} {pins : List (Addr × Obj)} {σ : L2.St} {H : Hp} {s : Shared}
theorem inv_lam {F : LF} {pm ctv : Value} {t' : Nat} (I : Inv X pins σ H s) : Inv X pins σ (upd H s.heap.objs.size (LamO s.heap.objs.size F)) { s with heap := s.heap.push (F.obj pm ctv), toks := t' } := by
  have e : (s.heap.push (F.obj pm ctv)).get? s.heap.objs.size = some (F.obj pm ctv) := Heap.get?_push_size _ rfl
  exact I.laid (a := s.heap.objs.size) (fun b u e => Heap.get?_push_of_some _ e) (Nat.le_refl _) ⟨⟨pm, ctv, e⟩, ⟨_, e⟩, fun h1 h2 ⟨pm, ctv, z⟩ st => ⟨pm, ctv, st _ z⟩⟩
abbrev lamF (X : Cx) (q : Str) (params : Arguments) (body : Expr) (scope : Scope) (c' : Addr) : LF := ⟨q, params, body, scope, cloFrom X.env.cells scope.names [], c'⟩
/-- the lambda is made -/
theorem lam_makeM {c P : Addr} {q : Str} {params : Arguments} {body : Expr} {scope : Scope} {pos : Pos} {E : Value → Shared → Prop} {Q : Value → Shared → Prop} (I : Inv X pins σ H s) (TB : TabB X.base X.mg c P) (hcode : X.env.code = .ref c) (hq : X.env.qual ++ "<lambda>" = q)
    (hm : (P, fun _ _ => q) ∈ TB0) (hT : TabsN TB0 H) (hdef : defaultsOf params X.env = ([], [])) (hfree : ∀ y ∈ scope.names, y.2 = .free → ∃ c, X.env.cells.lookup y.1 = some c)
    (h : ∀ (f c' : Addr) (H1 : Hp) (s' : Shared), Inv X pins σ H1 s' → Ge TB0 H H1 → H1 f = some (LamO f (lamF X q params body scope c')) → H1 c' = some (CodeO c' q) → Q (.ref f) s') :
    wpAny (model X.prog X.w) X.A (eval (.Lambda params body scope pos) X.env) Q E s := by
  subst hq
  obtain ⟨ps, hP, ht, ha⟩ := (show TabN H P _ from hT _ hm)
  refine PySem.W.kla_eval hdef ?_
  have bP : s.heap.BuiltinsAt X.mg P := TB.bm.keeps I.bk
  have hP' : s.heap.get? P = some { cls := .none, data := .fields ps } := I.hok P _ hP
  cases hc : codeAmong pos ps.toList with
  | none =>
    refine PySem.W.kla_makeFunction (mg := X.mg) (c := c) (P := P) (ps := ps) (closure_ok hfree) I.ok.glob (I.mod.glob.keeps I.bk) hcode (TB.code.keeps I.bk) hP' ht hc TB.gP bP fun c' ctv h' tk hx hge hlt hrec htb => ?_
    obtain ⟨c2, oc, vs, t, e2, hoc, hd, hv⟩ := hrec
    cases e2
    have nC : H c' = none := I.hok.fresh hge
    have I1 := inv_table (t' := tk) (more := #[rawInt pos.line, rawInt pos.col, .ref c']) (h' := h') I hP (fun b o hb e => hx b o hb e) htb hge ⟨oc, vs, t, hoc, hd, hv⟩
    obtain ⟨T1, hE⟩ := tabs_more (l := 0) (k := 0) (pos := pos) hP nC ht ha hT (tb0u hm)
    have nF := I1.hok.fresh (Nat.le_refl _)
    have I2 := inv_lam (F := lamF X (X.env.qual ++ "<lambda>") params body scope c') (pm := (X.mg "__name__").getD .none) (ctv := ctv) (t' := tk) I1
    have eF : ∀ b o, upd (upd H P (.tbl (ps ++ #[rawInt pos.line, rawInt pos.col, .ref c']))) c' (CodeO c' (X.env.qual ++ "<lambda>")) b = some o → upd (upd (upd H P (.tbl (ps ++ #[rawInt pos.line, rawInt pos.col, .ref c']))) c' (CodeO c' (X.env.qual ++ "<lambda>"))) h'.objs.size (LamO h'.objs.size (lamF X (X.env.qual ++ "<lambda>") params body scope c')) b = some o := fun b o e => (upd_ne (ne_of_none e nF)).trans e
    have T2 := T1.ext eF
    exact h h'.objs.size c' _ _ I2 ⟨⟨fun b o e n => eF b o (hE b o e n), fun _ => T2⟩, fun _ => T2, fun b e => NdefX.upd_none (NdefX.upd_none (NdefX.upd_none e))⟩ upd_same (eF c' _ upd_same)
  | some cv =>
    obtain ⟨c', e, hco⟩ := ha pos cv hc
    subst e
    refine PySem.W.kla_makeFunctionHit (mg := X.mg) (c := c) (P := P) (ps := ps) (closure_ok hfree) I.ok.glob (I.mod.glob.keeps I.bk) hcode (TB.code.keeps I.bk) hP' ht hc bP fun ctv h' tk hx hsz => ?_
    have I1 : Inv X pins σ H { s with heap := h', toks := tk } := I.kept hx
    have nF : H h'.objs.size = none := I1.hok.fresh (Nat.le_refl _)
    have I2 := inv_lam (F := lamF X (X.env.qual ++ "<lambda>") params body scope c') (pm := (X.mg "__name__").getD .none) (ctv := ctv) (t' := tk) I1
    have eF : ∀ b o, H b = some o → upd H h'.objs.size (LamO h'.objs.size (lamF X (X.env.qual ++ "<lambda>") params body scope c')) b = some o := fun b o e => (upd_ne (ne_of_none e nF)).trans e
    have T2 := hT.ext eF
    exact h h'.objs.size c' _ _ I2 ⟨⟨fun b o e n => eF b o e, fun _ => T2⟩, fun _ => T2, fun b e => NdefX.upd_none e⟩ upd_same (eF c' _ hco)
end
def tyLam (X : Cx) (q : Str) (params : Arguments) (body : Expr) (scope : Scope) : Ty := ⟨fun v H => ∃ f c', v = .ref f ∧ H f = some (LamO f (lamF X q params body scope c')) ∧ H c' = some (CodeO c' q), fun e ⟨f, c', h1, h2, h3⟩ => ⟨f, c', h1, e _ _ h2 lamO_ne, e _ _ h3 codeO_ne⟩⟩
section
variable {X : Cx} {Γ : Gam} {e : Expr} {pos p lp : Pos}
theorem dx_lam {c P : Addr} {q : Str} {params : Arguments} {body : Expr} {scope : Scope} (i0 : Nat) {t0 : Ty} (h0 : Γ[i0]? = some (some (tyT t0))) (TB : TabB X.base X.mg c P) (hcode : X.env.code = .ref c) (hq : X.env.qual ++ "<lambda>" = q) (hm : (P, fun _ _ => q) ∈ TB0) (hdef : defaultsOf params X.env = ([], []))
    (hfree : ∀ y ∈ scope.names, y.2 = .free → X.env.scope.names.lookup y.1 = some .cell ∨ X.env.scope.names.lookup y.1 = some .free) : DX TB0 X Γ (.Lambda params body scope lp) (tyLam X q params body scope) := fun σ H s Q qq pins s0 I => by
  obtain ⟨v0, e0, p0⟩ := s.at_ i0 _ h0
  exact lam_makeM I TB hcode hq hm p0.2 hdef (fun y hy e => (hfree y hy e).elim (fun z => I.ok.has _ (.inl z)) fun z => I.ok.has _ (.inr z)) fun f c' H1 s' I1 g h1 h2 => ⟨.ref f, H1, I1, rfl, qq _ H1 g ⟨f, c', rfl, h1, h2⟩⟩
/-- least_lots(e, lambda x: ..) -/
theorem dx_llLam {ι : Type} {caps args : ι → List Ty} {res : ι → Ty} {q y : Str} {params : Arguments} {body : Expr} {scope : Scope} {k j many : Nat} {good : List Nat → Bool} {js : List Nat} {ts : List Ty} (MD : Md X.K X.mg) (hk2 : 2 ≤ k) (hr : Room j X.A) (hkj : k + 1 ≤ j) (hm : many ≤ 10)
    (hne : (∀ l ∈ (leastM many good (ordL many).length).map lotOf, l ≠ []) ∨ ((leastM many good (ordL many).length).map lotOf).length ≤ 1)
    (run : ∀ f c', GRun X.prog X.w X.K X.mg X.base k f (LamO f (lamF X q params body scope c')) c' q (cloFrom X.env.cells scope.names []) [y] (spN TB0 caps args res)) (cap : X.Ok → Caps X (cloFrom X.env.cells scope.names []) [y] js) (hfn : ∀ y, X.fn y = true)
    (hjs : js.map (fun j => Γ[j]?) = ts.map (fun t => some (some t))) (he : DX TB0 X Γ e (dat (.int (many : Nat)))) (hl : DX TB0 X Γ (.Lambda params body scope lp) (tyLam X q params body scope))
    (hsp : ∀ m, m < 2 ^ many → ∃ a : ι, caps a = ts ∧ args a = [dat (lotD (lotOf m))] ∧ res a = dat (.bool (good (lotOf m))))
    (hg : Gl X "least_lots" := by rfl) (hst : starEach [e, .Lambda params body scope lp] X.env = (false, eval e X.env) :: starEach [.Lambda params body scope lp] X.env := by rfl) (hst2 : starEach [.Lambda params body scope lp] X.env = (false, eval (.Lambda params body scope lp) X.env) :: starEach [] X.env := by rfl) (hpl : (backTo pos (starEach [.Lambda params body scope lp] X.env)).any (·.1) = false := by rfl) :
    DX TB0 X Γ (.Call (.Name "least_lots" p) [e, .Lambda params body scope lp] [] pos) (dat (.list ((leastL many good).map lotD))) := fun σ H s Q qq => by
  obtain ⟨fl, fd, d, b⟩ := MD.d_least_lots.ex
  intro pins s0 I
  refine wpAny_Call_Name_kw (ld_glob I hg d.mgf ?_ (by decide))
  have hda : DA TB0 X Γ [e, .Lambda params body scope lp] [dat (.int (many : Nat)), tyLam X q params body scope] := da_cons he (da_cons hl da_nil hst2) hst
  refine PySem.W.callWith_K (h₀ := X.base) I.ok.mod.kin d.kp (thn (hda σ H s (fun vs H' => Ge TB0 H H' ∧ TyAll [dat (.int (many : Nat)), tyLam X q params body scope] vs H') (fun vs H' g p => ⟨g, p⟩) pos pins s0 I) fun us s1 ⟨vs, H1, I1, r, g1, p1⟩ => ⟨I1.kIn, ?_⟩) hst hpl
  show wpAny _ _ (call (.ref fl) us) _ _ _
  match vs, p1 with
  | [v1, v2], ⟨h1, ⟨f, c', h2, h3, h4⟩, _⟩ =>
    obtain rfl := dat_int h1
    subst h2
    obtain ⟨wv, hw, hwt⟩ := slots_ty (s.ext g1.ext) hjs
    have C := cells_of I1 (cap I1.ok)
    rw [hw] at C
    exact ll_run (T := TB0) (Rc := fun H => TyAll ts wv H) (k := k) (j := j) (good := good) lamO_ne (fun e h => tyAll_ex e h) MD hk2 hr hkj hm hne (run f c') (fun X pins σ H s I e => by
      obtain ⟨pm, ctv, ho⟩ := lamO_at I.hok e
      exact ⟨_, _, _, _, ho⟩) (fun m vs H Q E hm2 hR ha hq => by
      obtain ⟨a, e1, e2, e3⟩ := hsp m hm2
      exact ⟨a, wv, rfl, e1 ▸ hR, e2 ▸ ha, fun v H' g p => hq v H' g (e3 ▸ p)⟩) I1 hfn (cap I1.ok).sub C ⟨h3, h4, hwt⟩ (fun v H' g p => qq v H' (g1.trans g) p) d.mgf r
theorem clo_only {cells : List (Str × Addr)} {names : List (Str × NameKind)} {y : Str} (h : ∀ z ∈ names, z.2 = .free → z.1 = y) : ∀ z c, (cloFrom cells names []).lookup z = some c → z = y := fun z c e => by
  rcases cloFrom_mem (PySem.mem_of_lookup e) with hm | ⟨h1, h2⟩
  · cases hm
  · exact h (z, .free) h1 rfl
theorem Lam1.free {sc : Scope} {x y : Str} (S : Lam1 sc x y) : ∀ z ∈ sc.names, z.2 = .free → z.1 = y := fun z hz e => by
  obtain ⟨rest, hn, hr⟩ := S.names
  rw [hn] at hz
  rcases List.mem_cons.mp hz with rfl | hz
  · cases e
  · rcases List.mem_cons.mp hz with rfl | hz
    · rfl
    · exact absurd e (hr z hz).2.1
end
end G
set_option Elab.async false
set_option linter.all false
set_option maxRecDepth 100000
set_option maxHeartbeats 1000000
set_option pp.maxSteps 400
namespace G
open PySem PySem.Spec L2 LamX NdefX PyProof.Rows
local macro_rules | `(tactic| fail "sub") => `(tactic| first | exact Sub.nil | (refine Sub.drop ?_; fail "sub") | (refine Sub.same ?_; fail "sub"))
local macro_rules | `(tactic| fail "side") => `(tactic| first | assumption | rfl | omega | decide)
/-! ### sure_lots -/
def isS : Stmt := (C8.fnBody (top 77)).getD 0 (.Pass ⟨0, 0, 0, 0⟩)
def pickP (some_ : List (Nat × Nat)) (lot : List Nat) : List (Nat × Nat) := lot.map fun i => some_.getD i (0, 0)
def isSl (a : Aim) (some_ : List (Nat × Nat)) (lot : List Nat) : Bool := decide ((partK (pickP some_ lot)).length = 2 * lot.length) && (spoil a (pickP some_ lot)).isNone
structure OkSl (p : List Nat × Aim × List (Nat × Nat)) : Prop where
  lt : ∀ i ∈ p.1, i < p.2.2.length
  len : p.1.length ≤ 1000
  sp : OkSpoil (p.2.1, pickP p.2.2 p.1)
structure OkSs (p : List Board × Aim × List (Nat × Nat)) : Prop where
  len : p.2.2.length ≤ 10
  sl : ∀ m, m < 2 ^ p.2.2.length → OkSl (lotOf m, p.2.1, p.2.2)
  ne : (∀ l ∈ (leastM p.2.2.length (isSl p.2.1 p.2.2) (ordL p.2.2.length).length).map lotOf, l ≠ []) ∨ ((leastM p.2.2.length (isSl p.2.1 p.2.2) (ordL p.2.2.length).length).map lotOf).length ≤ 1
abbrev slL (a : Aim) (ps : List (Nat × Nat)) : List (List Nat) := leastL ps.length (isSl a ps)
/-! ### bars -/
def barLam : Expr := match (C8.fnBody (top 78)).getLast? with
  | some (.Return (some (.Call _ [_, l] _ _)) _) => l
  | _ => .Constant .none 0 ⟨0, 0, 0, 0⟩
def lamPs : Expr → Arguments
  | .Lambda ps _ _ _ => ps
  | _ => ⟨[], [], none, [], [], none, []⟩
def lamBd : Expr → Expr
  | .Lambda _ b _ _ => b
  | e => e
def lamSc : Expr → Scope
  | .Lambda _ _ s _ => s
  | _ => ⟨.function, [], false, false, []⟩
def meets (masks : List Nat) (lot : List Nat) : Bool := masks.all fun m => !decide (maskOf lot &&& m = 0)
structure OkBar (p : List Board × Aim) : Prop where
  aim : OkAim (p.2, p.1.length)
  pr : OkPairs p.1
  len : (allPairs p.1).length ≤ 10
  ss : OkSs (p.1, p.2, allPairs p.1)
  sle : ∀ l ∈ slL p.2 (allPairs p.1), ∀ x ∈ l, x ≤ 1000
  few : (slL p.2 (allPairs p.1)).length ≤ 5000
  lot : ∀ m, m < 2 ^ (allPairs p.1).length → ∀ x ∈ lotOf m, x ≤ 1000
  ne : (∀ l ∈ (leastM (allPairs p.1).length (meets ((slL p.2 (allPairs p.1)).map maskOf)) (ordL (allPairs p.1).length).length).map lotOf, l ≠ []) ∨ ((leastM (allPairs p.1).length (meets ((slL p.2 (allPairs p.1)).map maskOf)) (ordL (allPairs p.1).length).length).map lotOf).length ≤ 1
abbrev barL (bs : List Board) (a : Aim) : List (List Nat) := leastL (allPairs bs).length (meets ((slL a (allPairs bs)).map maskOf))
section
variable {P : Program} {w : World} {K : PySem.W.Frag} {mg : Str → Option Value} {base : Heap} {T : List NTab}
theorem nk_isS (G : Md K mg) {f c' : Addr} {qual : Str} {cl : List (Str × Addr)} : NOk P w K mg base C8.CX0 11 f (NF.of isS "is_sure_lot" qual cl c') ["lot"] ["aim", "some"] (spN T (fun i : {p : List Nat × Aim × List (Nat × Nat) // OkSl p} => [dat i.1.2.1.enc, dat (.list (i.1.2.2.map pD))]) (fun i => [dat (lotD i.1.1)]) fun i => dat (.bool (isSl i.1.2.1 i.1.2.2 i.1.1))) := by
  refine nk_mk ["lot", "aim", "some", "pairing", "number"] (by decide +kernel) (fun _ => rfl) (fun _ => rfl) (fun doc pm ctv us h => by match us, h with | [u], _ => rfl) fun ⟨⟨lot, a, ps⟩, ok⟩ A outer s H vs Q E hr nd q c => ?_
  have hl : lot.length ≤ 1000 := ok.len
  have hat : ∀ i ∈ lot, atI (ps.map pD) (i : Int) = some (pD (ps.getD i (0, 0))) := fun i hi => by
    have h2 : i < ps.length := ok.lt i hi
    refine atI_nat ?_
    rw [List.getElem?_map, List.getD_eq_getElem?_getD, List.getElem?_eq_getElem h2]
    rfl
  refine fs_set 3 (t := dat (ppD (pickP ps lot))) nd c (by exact DX.dat (dx_tupOfL G.b_tuple (dx_lc [("number", 4)] lot (fun i => pD (ps.getD i (0, 0))) nd rfl (by rfl) (di_tupM (r := fun n : Nat => PyData.int (n : Int)) (DX.dat (dx_var 0) (by unfold lotD cs; rw [List.map_map]; rfl))) (by omega) (fun i hi s0 H0 C cl fp => dg_name 4 nd) (fun i hi s0 H0 C cl fp => by exact dx_ixL (dx_var 2) (dx_var 4) (hat i hi)))) (by unfold ppD pickP; rw [List.map_map]; rfl)) fun σ H' c => ?_
  have hpl : (pickP ps lot).length = lot.length := by unfold pickP; rw [List.length_map]
  exact fs_retE c (by exact DX.dat (dx_and (DC.dx (dc_eqI (dx_lenD G.b_len (dx_call (fn_partners G) hr ⟨pickP ps lot, by show (pickP ps lot).length ≤ 1000; omega⟩ (da_cons (dx_var 3) da_nil))) (dx_mul dx_int (dx_lenT (ds := (pickP ps lot).map pD) G.b_len (dx_var 3)) (.inl ⟨by omega, by omega⟩)))) fun _ => DX.one (DC.dx (dc_isN (dx_call (fn_spoiling G) hr ⟨(a, pickP ps lot), ok.sp⟩ (da_cons (dx_var 1) (da_cons (dx_var 3) da_nil))) dx_non))) (by
    rw [optD_isNon, List.length_map]
    show PyData.bool (decide (((partK (pickP ps lot)).length : Int) = 2 * ((pickP ps lot).length : Nat)) && _) = .bool (decide _ && _)
    rw [hpl]
    show PyData.bool (decide (((partK (pickP ps lot)).length : Int) = 2 * (lot.length : Int)) && _) = .bool (decide _ && _)
    congr 2
    rw [Bool.eq_iff_iff, decide_eq_true_iff, decide_eq_true_iff]
    show ((partK (pickP ps lot)).length : Int) = 2 * (lot.length : Nat) ↔ (partK (pickP ps lot)).length = 2 * lot.length
    omega)) q
theorem fn_sure_lots (G : Md K mg) {cc : Addr} (F : AtC K mg "sure_lots" ["hall", "aim", "some"] (top 77) cc) (TB : TabB base mg cc 485) : C8.Cal P w K mg base 13 "sure_lots" (spP TB0 (fun (i : {p : List Board × Aim × List (Nat × Nat) // OkSs p}) => [tyT (hallT K i.1.1), dat i.1.2.1.enc, dat (.list (i.1.2.2.map pD))]) fun i => dat (.list ((slL i.1.2.1 i.1.2.2).map lotD))) [] := by
  refine fn_mkC F ["hall", "aim", "some", "is_sure_lot"] (by decide +kernel) (fun _ => rfl) fun ⟨⟨bs, a, ps⟩, ok⟩ A outer s H vs Q E f hr nd q c => ?_
  have hl : ps.length ≤ 10 := ok.len
  have hfr : ndefB (C8.fnScope (top 77)) (C8.fnScope isS) ["aim", "some"] = true := by decide +kernel
  refine fs_ndef (st := isS) (i := 3) (P := 485) (c := cc) (nm := fun _ _ => "sure_lots.<locals>.is_sure_lot") (name := "is_sure_lot") c 0 rfl rfl TB rfl (List.mem_cons_of_mem _ List.mem_cons_self) rfl (tb0u (List.mem_cons_of_mem _ List.mem_cons_self)) (ndef_free hfr) rfl rfl rfl nd rfl (.inl rfl) (.inl rfl) fun f' c' σ' H' c => ?_
  exact fs_retE c (dx_ll (i := 3) (js := [1, 2]) (ts := [dat a.enc, dat (.list (ps.map pD))]) (good := isSl a ps) G (by decide) hr (by decide) hl ok.ne (nk_isS (T := TB0) G) (fun o => Caps.made o (ndef_free hfr) (ndef_fr hfr) rfl) (fun _ => rfl) rfl rfl (by exact DX.dat (dx_lenL G.b_len (dx_var 2)) (by rw [List.length_map])) (fun m hm => ⟨⟨_, ok.sl m hm⟩, rfl, rfl, rfl⟩) (dx_var 3)) q
theorem nk_bar (G : Md K mg) {f c' : Addr} {qual : Str} {cl : List (Str × Addr)} (hcl : ∀ z c, cl.lookup z = some c → z = "masks") : GRun P w K mg base 3 f (LamO f ⟨qual, lamPs barLam, lamBd barLam, lamSc barLam, cl, c'⟩) c' qual cl ["masks"] (spN T (fun i : {p : List Nat × List Nat // (∀ x ∈ p.1, x ≤ 1000) ∧ p.2.length ≤ 5000} => [dat (.list ((cs i.1.2).map .int))]) (fun i => [dat (lotD i.1.1)]) fun i => dat (.bool (meets i.1.2 i.1.1))) := by
  refine lam_grun (F := ⟨qual, lamPs barLam, lamBd barLam, lamSc barLam, cl, c'⟩) (x := "lot") (y := "masks") (z0 := "mask") (lam1_by (show lam1B (lamSc barLam) "lot" "masks" = true by decide +kernel)) (fun _ => rfl) (fun _ => rfl) hcl (fun pm ctv u => rfl) fun ⟨⟨lot, ms⟩, ok1, ok2⟩ A outer s H E hr => ?_
  have hl : ms.length ≤ 5000 := ok2
  have nd : (lcx P w K mg base ["lot", "masks", "mask"] ⟨qual, lamPs barLam, lamBd barLam, lamSc barLam, cl, c'⟩ "lot" f A outer s H E).nox.N.Nodup := by
    show (["lot", "masks", "mask"] : List Str).Nodup
    decide +kernel
  exact DX.dat (dx_all (bs := ms.map fun m => !decide (maskOf lot &&& m = 0)) rfl G.b_all (DX.dat (dx_lc [("mask", 2)] ms (fun m => .bool (!decide (maskOf lot &&& m = 0))) nd rfl (by rfl) (di_listM (r := fun n : Nat => PyData.int (n : Int)) (DX.dat (dx_var 1) (by unfold cs; rw [List.map_map]; rfl))) (by omega) (fun m hm s0 H0 C cl fp => dg_name 2 nd) (fun m hm s0 H0 C cl fp => by exact DX.dat (DC.dx (dc_neI (dx_and2 (dx_call (fn_mask_of G) hr ⟨lot, ok1⟩ (da_cons (dx_var 0) da_nil)) (dx_var 2)) dx_int)) (by
    rw [band_nn]
    congr 2
    rw [Bool.eq_iff_iff, decide_eq_true_iff, decide_eq_true_iff]
    exact Int.natCast_eq_zero))) (by rw [List.map_map]; rfl))) (by unfold meets; rw [List.all_map]; rfl)
theorem fn_bars (G : Md K mg) {cc dc : Addr} (F : AtC K mg "sure_lots" ["hall", "aim", "some"] (top 77) cc) (TB : TabB base mg cc 485) (F2 : AtC K mg "bars" ["hall", "aim"] (top 78) dc) (TB2 : TabB base mg dc 492) : C8.Cal P w K mg base 16 "bars" (spP TB0 (fun (i : {p : List Board × Aim // OkBar p}) => [tyT (hallT K i.1.1), dat i.1.2.enc]) fun i => dat (.list ((barL i.1.1 i.1.2).map lotD))) [] := by
  refine fn_mkC F2 ["hall", "aim", "some", "masks", "lot"] (by decide +kernel) (fun _ => rfl) fun ⟨⟨bs, a⟩, ok⟩ A outer s H vs Q E f hr nd q c => ?_
  have hl : (allPairs bs).length ≤ 10 := ok.len
  have hf : (slL a (allPairs bs)).length ≤ 5000 := ok.few
  refine fs_expr c (by exact dx_call (fn_check_aim G) hr ⟨(bs, a), ok.aim⟩ (da_cons (DX.unT (dx_var 0)) (da_cons (dx_var 1) da_nil))) fun H' c => ?_
  refine fs_set 2 nd c (by exact dx_call (fn_all_pairs G) hr ⟨bs, ok.pr⟩ (da_cons (DX.unT (dx_var 0)) da_nil)) fun σ H' c => ?_
  refine fs_if1 (k := false) c (by exact DT.to (DC.dt (dc_gt (dx_lenL G.b_len (dx_var 2)) (dx_globI G.i_MOST_PAIRS.choose_spec))) (by rw [List.length_map]; exact decide_eq_false (by show ¬ ((12 : Int) < ((allPairs bs).length : Nat)); omega))) (fun hk => by cases hk) fun _ H' c => ?_
  refine fs_set 3 (t := dat (.list ((cs ((slL a (allPairs bs)).map maskOf)).map .int))) nd c (by exact DX.dat (dx_lc [("lot", 4)] (slL a (allPairs bs)) (fun l => .int (maskOf l : Nat)) nd rfl (by rfl) (di_listM (by exact dx_call (fn_sure_lots G F TB) hr ⟨(bs, a, allPairs bs), ok.ss⟩ (da_cons (dx_var 0) (da_cons (dx_var 1) (da_cons (dx_var 2) da_nil))))) (by omega) (fun l hl s0 H0 C cl fp => dg_name 4 nd) (fun l hl s0 H0 C cl fp => by exact dx_call (fn_mask_of G) hr ⟨l, ok.sle l hl⟩ (da_cons (dx_var 4) da_nil))) (by unfold cs; rw [List.map_map, List.map_map]; rfl)) fun σ H' c => ?_
  have S : Lam1 (lamSc barLam) "lot" "masks" := lam1_by (by decide +kernel)
  have hfr : ndefB (C8.fnScope (top 78)) (lamSc barLam) ["masks"] = true := by decide +kernel
  exact fs_retE c (dx_llLam (q := "bars.<locals>.<lambda>") (params := lamPs barLam) (body := lamBd barLam) (scope := lamSc barLam) (js := [3]) (ts := [dat (.list ((cs ((slL a (allPairs bs)).map maskOf)).map .int))]) (good := meets ((slL a (allPairs bs)).map maskOf)) G (by decide) hr (by decide) hl ok.ne (fun f c' => nk_bar (T := TB0) G (clo_only S.free)) (fun o => Caps.made o (ndef_free hfr) (ndef_fr hfr) rfl) (fun _ => rfl) rfl (by exact DX.dat (dx_lenL G.b_len (dx_var 2)) (by rw [List.length_map])) (dx_lam 0 rfl TB2 rfl rfl (List.mem_cons_of_mem _ (List.mem_cons_of_mem _ List.mem_cons_self)) rfl (ndef_free hfr)) (fun m hm => ⟨⟨(lotOf m, _), ok.lot m hm, by show ((slL a (allPairs bs)).map maskOf).length ≤ 5000; rw [List.length_map]; exact hf⟩, rfl, rfl, rfl⟩)) q
end
end G
set_option Elab.async false
set_option linter.all false
set_option maxRecDepth 100000
set_option maxHeartbeats 1000000
set_option pp.maxSteps 400
namespace G
open PySem PySem.Spec L2 LamX NdefX PyProof.Rows
local macro_rules | `(tactic| fail "sub") => `(tactic| first | exact Sub.nil | (refine Sub.drop ?_; fail "sub") | (refine Sub.same ?_; fail "sub"))
local macro_rules | `(tactic| fail "side") => `(tactic| first | assumption | rfl | omega | decide)
/-- one of several -/
def oEx {α : Type} (f : α → OS) : OS := ⟨fun H L => ∃ x, (f x).P H L, fun e ⟨x, h⟩ => ⟨x, (f x).mono e h⟩⟩
/-- a source: cell, flag, seed, count -/
structure Src where
  i : Int
  f : Int
  s : Int
  k : Int
def Src.ds (p : Src) : List PyData := [.int p.i, .int p.f, .int p.s, .int p.k]
def oSrc (a : Addr) (O : OS) : OS := oEx fun p : Src => oC a p.ds O
section
variable {T : List NTab} {X : Cx} {Γ Γ' : Gam} {O O' O2 : OS} {Hin : Hp} {σ : L2.St} {H : Hp} {D : Ends} {a b c e eb ei : Expr} {es : List Expr} {rest body bl : List Stmt} {pos pos' p apos p2 : Pos} {t u ta tb : Ty} {ts : List Ty} {x : Str} {k : Bool} {S S1 S2 : PyData → Prop} {i j : Int}
theorem FC.openO {α : Type} {f : α → OS} (c : FC T Hin Γ (oEx f) σ H) : ∃ x, FC T Hin Γ (f x) σ H := by
  obtain ⟨Hb, L, e, fr, ap, g, s, ⟨x, o⟩, _⟩ := c
  exact ⟨x, Hb, L, e, fr, ap, g, s, o, trivial⟩
theorem DB.openO {α : Type} {f : α → OS} (h : ∀ x, DB T X Γ (f x) e t O') : DB T X Γ (oEx f) e t O' := fun σ Hb L fr ap s ⟨x, o⟩ Q q => h x σ Hb L fr ap s o Q q
theorem srcOwn {a : Addr} {p : Src} {O : OS} : ∀ H L, (oC a p.ds O).P H L → (oSrc a O).P H L := fun H L h => ⟨p, h⟩
/-- own[known] -/
theorem db_ixK {l : Addr} {ds : List PyData} {d : PyData} (hO : OwnAt O l ds) (ha : DX T X Γ a (tyv (.ref l))) (hb : DX T X Γ b (dat (.int i))) (hix : atI ds i = some d) (hs : PlainIx b := by intro _ _; rfl) : DB T X Γ O (.Subscript a b pos) (dat d) O :=
  (db_ixOwn (S := (· = d)) (p1 := (· = i)) hO ha ((hb.db (O := O)).to fun v H h => ⟨_, ⟨_, rfl, rfl⟩, h⟩) (fun j hj => ⟨d, hj ▸ hix, rfl⟩) hs).to fun v H ⟨d', e, h⟩ => e ▸ h
theorem db_opI {op : Operator} {C : Int → Int → Prop} {f : Int → Int → Int} (ho : OpR X (binaryOp op) (rI C fun i j => .int (f i j))) (ha : DB T X Γ O a (dat (.int i)) O2) (hb : DB T X Γ O2 b (dat (.int j)) O') (hc : C i j) : DB T X Γ O (.BinOp a op b pos) (dat (.int (f i j))) O' := fun σ Hb L fr ap s o Q q =>
  we_of (pe_op ho pe_we pe_we) (ha σ Hb L fr ap s o _ fun x Hb1 L1 f1 ap1 g1 o1 q1 => hb σ Hb1 L1 f1 ap1 (s.ext g1.ext) o1 _ fun y Hb2 L2 f2 ap2 g2 o2 q2 => by
    cases q1
    cases q2
    exact ⟨i, j, rfl, rfl, hc, q _ Hb2 L2 f2 ap2 (g1.trans g2) o2 (.int _)⟩)
theorem db_opI0 {op : Operator} {f : Int → Int → Int} (ho : OpR X (binaryOp op) (rI0 fun i j => .int (f i j))) (ha : DB T X Γ O a (dat (.int i)) O2) (hb : DB T X Γ O2 b (dat (.int j)) O') : DB T X Γ O (.BinOp a op b pos) (dat (.int (f i j))) O' := fun σ Hb L fr ap s o Q q =>
  we_of (pe_op ho pe_we pe_we) (ha σ Hb L fr ap s o _ fun x Hb1 L1 f1 ap1 g1 o1 q1 => hb σ Hb1 L1 f1 ap1 (s.ext g1.ext) o1 _ fun y Hb2 L2 f2 ap2 g2 o2 q2 => by
    cases q1
    cases q2
    exact ⟨i, j, rfl, rfl, q _ Hb2 L2 f2 ap2 (g1.trans g2) o2 (.int _)⟩)
theorem db_int1 (hm : X.mg "int" = none) (ha : DB T X Γ O a (dat (.int i)) O') (hg : Gl X "int" := by rfl) (hs : starEach [a] X.env = (false, eval a X.env) :: starEach [] X.env := by rfl) (hpl : (backTo pos (starEach [] X.env)).any (·.1) = false := by rfl) : DB T X Γ O (.Call (.Name "int" p) [a] [] pos) (dat (.int i)) O' := fun σ Hb L fr ap s o Q q =>
  we_of (pe_callTy call_int1 hg hm (by decide +kernel) (pa_cons pe_we pa_nil hs) (by decide) (by decide) hs hpl) (ha σ Hb L fr ap s o _ fun v Hb1 L1 f1 ap1 g1 o1 q1 => by
    cases q1
    exact .inl ⟨i, rfl, q _ Hb1 L1 f1 ap1 g1 o1 (.int _)⟩)
theorem ixN_at {n j : Nat} (hj : j < n) : ixN n (j : Int) = some j := by
  unfold ixN
  rw [if_pos (by omega), if_pos (by omega)]
  simp
theorem dqa_set {H : Hp} {d : PyData} {v : V} (h : Dq H v d) : ∀ {vs : List V} {ds : List PyData} (n : Nat), DqAll H vs ds → DqAll H (vs.set n v) (ds.set n d)
  | [], [], _, .nil => .nil
  | _ :: _, _ :: _, 0, .cons _ q => .cons h q
  | _ :: _, _ :: _, n + 1, .cons p q => .cons p (dqa_set h n q)
/-- own[n] = e -/
theorem fs_putOwn {l : Addr} {ds : List PyData} {n : Nat} {d : PyData} (c : FC T Hin Γ (oC l ds O) σ H) (hn : n < ds.length) (ho : DX T X Γ eb (tyv (.ref l))) (hi : DX T X Γ ei (dat (.int (n : Nat)))) (h : DB T X Γ (oC l ds O) e (dat d) (oC l ds O)) (kk : ∀ H', FC T Hin Γ (oC l (ds.set n d) O) σ H' → WSs X rest D σ H')
    (hs : swapsWithSole [.Subscript eb ei pos'] e pos.line X.env = pure false := by rfl) (hw : swappedStores [.Subscript eb ei pos'] e X.env = pure none := by rfl)
    (h1 : (assignEach [.Subscript eb ei pos'] X.env).map (·.2) = [assign (.Subscript eb ei pos') X.env] := by rfl)
    (hA : ∀ v, assign (.Subscript eb ei pos') X.env v = (do
      let ov ← holding [v] (eval eb X.env)
      let iv ← holding [v, ov] (eval ei X.env)
      standAt pos'
      holding [v, ov, iv] (setItem ov iv v)
      release [v, ov, iv] []) := by intro _; rfl) : WSs X (.Assign [.Subscript eb ei pos'] e pos :: rest) D σ H := by
  refine fs_cons (ws_of (ps_asg pe_we (pg_sub pe_we pe_we set_list hA) hs hw h1) (fc_db c h fun w H1 c1 => ?_))
  obtain ⟨Hb, L, rfl, fr, ap, g, s, o, p⟩ := c1
  refine we_frame fr ap (ho σ Hb s _ fun v Hb2 g2 p2 ap2 => we_frame fr ap2 (hi σ Hb2 (s.ext g2.ext) _ fun y Hb3 g3 p3 ap3 => ?_))
  have p2 : v = .ref l := p2
  subst p2
  cases dat_int p3
  have g23 := g2.trans g3
  obtain ⟨vs, L', rfl, h2, h3⟩ := (oC l ds O).mono g23.ext o
  have hl := dqa_len h2
  refine ⟨l, vs, (n : Int), n, rfl, rfl, upd_same, ixN_at (by omega), kk _ ⟨Hb3, (l, .lst (vs.set n w)) :: L', ?_, ⟨fr.nd, fun q hq => ?_⟩, fun q hq => ?_, g.trans g23, s.ext g23.ext, ⟨_, L', rfl, dqa_set ((dat d).mono g23.ext p) n h2, h3⟩, trivial⟩⟩
  · show upd (upd (addAll Hb3 L') l (.lst vs)) l _ = upd (addAll Hb3 L') l _
    exact upd_upd
  · rcases List.mem_cons.mp hq with z | z
    · rw [z]
      rfl
    · exact fr.pl q (List.mem_cons_of_mem _ z)
  · rcases List.mem_cons.mp hq with z | z
    · rw [z]
      exact ap3 (l, .lst vs) List.mem_cons_self
    · exact ap3 q (List.mem_cons_of_mem _ z)
/-- what is owned is let go -/
theorem FC.drop {l : Addr} {ds : List PyData} (c : FC T Hin Γ (oC l ds O) σ H) : FC T Hin Γ O σ H := by
  obtain ⟨Hb, L, rfl, fr, ap, g, s, ⟨vs, L', rfl, h2, h3⟩, _⟩ := c
  have ha : Hb l = none := ap _ List.mem_cons_self
  have hn := (List.nodup_cons.mp fr.nd).1
  have gn : Ge T Hb (upd Hb l (.lst vs)) := Ge.new ha
  refine ⟨upd Hb l (.lst vs), L', (addAll_upd hn), fr.tail, fun q hq => ?_, g.trans gn, s.ext gn.ext, O.mono gn.ext h3, trivial⟩
  have nq : q.1 ≠ l := fun z => hn (z ▸ List.mem_map.mpr ⟨q, hq, rfl⟩)
  rw [upd_ne nq]
  exact ap q (List.mem_cons_of_mem _ hq)
/-- a def that hands back a list that nobody else has -/
def spL {ι β : Type} (T : List NTab) (args : ι → List Ty) (res : β → List PyData) : Sp := fun vs H Q _ => ∃ i, TyAll (args i) vs H ∧ ∀ a H' xs y, Ge T H H' → H' a = none → DqAll H' xs (res y) → Q (.ref a) (upd H' a (.lst xs))
theorem fb_setNew {ι β : Type} {args : ι → List Ty} {res : β → List PyData} {n m : Nat} {y : Str} (q : Nat) (nd : X.N.Nodup) (c : FC T Hin Γ O σ H) (cal : C8.Cal X.prog X.w X.K X.mg X.base n y (spL T args res) []) (hr : Room m X.A) (i : ι) (ha : DA T X Γ (e :: es) (args i)) (k : ∀ a y σ' H', FC T Hin (Γ.set q (some (tyv (.ref a)))) (oC a (res y) O) σ' H' → WSs X rest D σ' H')
    (hk : n ≤ m := by first | decide | omega) (hg : Gl X y := by rfl) (hdb : (y == ("__debug__" : Str)) = false := by decide) (he : starEach (e :: es) X.env = (false, eval e X.env) :: starEach es X.env := by rfl) (hpl : (backTo p2 (starEach es X.env)).any (·.1) = false := by rfl)
    (hi : X.N[q]? = some x := by rfl) (hx : Loc X.env.scope x := by first | exact Or.inl rfl | exact Or.inr rfl)
    (hs : swapsWith (.Call (.Name y p) (e :: es) [] p2) (some (.Name x pos')) pos.line X.env = pure false := by rfl) (hf : X.fn x = true ∨ X.env.scope.names.lookup x = some .local := by first | exact .inl rfl | exact .inr rfl) : WSs X (.Assign [.Name x pos'] (.Call (.Name y p) (e :: es) [] p2) pos :: rest) D σ H := by
  obtain ⟨Hb, L, rfl, fr, ap, g, s, o, _⟩ := c
  refine fs_cons (ws_of (ps_set nd hi hx pe_we hs hf) ?_)
  refine we_frame fr ap (we_of (C8.pe_c cal hr hk hg pa_wa hdb he hpl) (ha σ Hb s _ fun vs H1 g1 p1 => ⟨i, by rw [List.append_nil]; exact p1, fun a H2 xs y0 g2 ha2 hx2 ap2 => ?_⟩))
  have hna : a ∉ L.map (·.1) := fun z => by
    obtain ⟨q, hq, e⟩ := List.mem_map.mp z
    have := ap2 q hq
    rw [e, upd_same] at this
    cases this
  refine k a y0 _ _ ⟨H2, (a, .lst xs) :: L, (addAll_upd hna).symm, ⟨List.nodup_cons.mpr ⟨hna, fr.nd⟩, fun q hq => ?_⟩, fun q hq => ?_, g.trans (g1.trans g2), (s.ext (g1.trans g2).ext).set (t := tyv (.ref a)) rfl, ⟨xs, L, rfl, hx2, O.mono (g1.trans g2).ext o⟩, trivial⟩
  · rcases List.mem_cons.mp hq with z | z
    · rw [z]
      rfl
    · exact fr.pl q z
  · rcases List.mem_cons.mp hq with z | z
    · rw [z]
      exact ha2
    · have h := ap2 q z
      have nq : q.1 ≠ a := fun e => hna (List.mem_map.mpr ⟨q, z, e⟩)
      rw [upd_ne nq] at h
      exact h
/-- return [..], a list that nobody else has -/
theorem fs_retNew {ds : List PyData} (c : FC T Hin Γ oN σ H) (h : DA T X Γ es (ds.map dat)) (q : ∀ a H' xs, Ge T Hin H' → H' a = none → DqAll H' xs ds → D.rt (.ref a) (upd H' a (.lst xs))) (hl : ds.length ≤ 1000 := by exact Nat.le_of_ble_eq_true rfl) : WSs X (.Return (some (.List es p)) pos :: rest) D σ H := by
  obtain ⟨Hb, L, e, fr, ap, g, s, o, _⟩ := c
  have o : L = [] := o
  subst o e
  refine fs_cons (ws_of (ps_ret (pe_lst pa_wa)) (h σ _ s _ fun vs H1 g1 p1 => ⟨?_, fun r hr => q r H1 vs (g.trans g1) hr (dqa_ty.mpr p1)⟩))
  have e := tyAll_len p1
  rw [List.length_map] at e
  rw [e]
  exact Nat.le_trans hl (by decide)
end
section
variable {P : Program} {w : World} {K : PySem.W.Frag} {mg : Str → Option Value} {base : Heap} {T : List NTab}
def OkTake (p : Addr × Nat × OS) : Prop := 0 < p.2.1 ∧ p.2.1 ≤ 1000000
theorem fn_take (G : Md K mg) : C8.Cal P w K mg base 1 "_law_take" (spB T (fun (i : {p : Addr × Nat × OS // OkTake p}) => [tyv (.ref i.1.1), dat (.int (i.1.2.1 : Nat))]) (fun i => oSrc i.1.1 i.1.2.2) (fun i => tyS (ltN i.1.2.1)) (fun i => oSrc i.1.1 i.1.2.2)) [] := by
  refine fn_mkB G.d__law_take ["_law_source_here", "_law_many", "_law_number", "_law_found"] (by decide +kernel) (fun _ => rfl) fun ⟨⟨a, n, O⟩, ok⟩ cdv A outer s H vs Q E f Hb hr nd q c => ?_
  obtain ⟨h1, h2⟩ := ok
  have h1 : 0 < n := h1
  have h2 : n ≤ 1000000 := h2
  obtain ⟨⟨ci, cf, cs_, ck⟩, c⟩ := c.openO
  have fin : ∀ {Γ : Gam} {D : Ends} (p : Src) {e : Expr} {pos : Pos} {rest : List Stmt} {σ : L2.St} {H' : Hp} {i : Int}, D.rt = Q → FC T Hb Γ (oC a p.ds O) σ H' → DX T (bodyX P w K mg base ["_law_source_here", "_law_many", "_law_number", "_law_found"] "_law_take" (top 95) f cdv A outer s H E) Γ e (dat (.int i)) → 0 ≤ i → i < (n : Int) → WSs (bodyX P w K mg base ["_law_source_here", "_law_many", "_law_number", "_law_found"] "_law_take" (top 95) f cdv A outer s H E) (.Return (some e) pos :: rest) D σ H' := fun {Γ D} p {e pos rest σ H' i} hD c h h3 h4 =>
    fb_ret c (h.db (O := oC a p.ds O)) fun v H' c' => hD ▸ q v H' Γ σ (by
      obtain ⟨Hb', L, eH, fr, ap, g, s', o, pv⟩ := c'
      exact ⟨Hb', L, eH, fr, ap, g, s', ⟨p, o⟩, ⟨_, ⟨i.toNat, by rw [Int.toNat_of_nonneg h3], by show i.toNat < n; omega⟩, pv⟩⟩)
  have own : ∀ p : Src, OwnAt (oC a p.ds O) a p.ds := fun p => ownC
  refine fs_putOwn (n := 3) (d := .int (ck + 1)) c (by show 3 < 4; decide) (by exact (dx_var 0)) (by exact dx_int) (by exact db_opI0 op_add (db_ixK (own ⟨ci, cf, cs_, ck⟩) (dx_var 0) dx_int rfl) dx_int.db) fun H' c => ?_
  have c : FC T Hb _ (oC a (Src.mk ci cf cs_ (ck + 1)).ds O) _ H' := c
  generalize ck + 1 = ck at c
  refine fb_if1 (B := (· = (decide (cf = 1) && decide (0 < ci)))) (O' := oC a (Src.mk ci cf cs_ ck).ds O) c (DBW.dt (dbw_and (k := decide (cf = 1)) ((dbt_eqI (j := 1) (p1 := (· = cf)) ((db_ixK (own ⟨ci, cf, cs_, ck⟩) (by exact (dx_var 0)) (by exact dx_int) rfl).to fun v H h => ⟨_, ⟨_, rfl, rfl⟩, h⟩) (by exact dx_int)).to fun v ⟨i, e1, e2⟩ => by rw [e2, e1]) (fun hk => dbw_one ((dbt_gtI (j := 0) (p1 := (· = ci)) ((db_ixK (own ⟨ci, cf, cs_, ck⟩) (by exact (dx_var 0)) (by exact dx_int) rfl).to fun v H h => ⟨_, ⟨_, rfl, rfl⟩, h⟩) (by exact dx_int)).to fun v ⟨i, e1, e2⟩ => by rw [e2, e1, hk, Bool.true_and])) (fun hk => by rw [hk]; rfl))) (fun hk H' c => ?_) fun hk H' c => ?_
  · refine fb_set 3 (t := dat (.int (ci % (n : Nat)))) nd c (by exact db_opI op_mod (db_int1 G.b_int (db_ixK (own ⟨ci, cf, cs_, ck⟩) (dx_var 0) dx_int rfl)) (dx_var 1).db (by show (0 : Int) < (n : Nat); omega)) fun σ H' c => ?_
    refine fs_putOwn (n := 0) (d := .int (ci / (n : Nat))) c (by show 0 < 4; decide) (by exact (dx_var 0)) (by exact dx_int) (by exact db_opI op_fdiv (db_ixK (own ⟨ci, cf, cs_, ck⟩) (dx_var 0) dx_int rfl) (dx_var 1).db ⟨by show (0 : Int) < (n : Nat); omega, by show ((n : Nat) : Int) < 1073741824; omega⟩) fun H' c => ?_
    exact fin ⟨ci / (n : Nat), cf, cs_, ck⟩ rfl c (by exact (dx_var 3)) (Int.emod_nonneg _ (by omega)) (Int.emod_lt_of_pos _ (by omega))
  · have m1 : ∀ x y : Int, 0 < y → y < 2 ^ 62 → -(2 ^ 64) < x % y ∧ x % y < 2 ^ 64 := fun x y h h' => ⟨by have := Int.emod_nonneg x (show y ≠ 0 by omega); omega, by have := Int.emod_lt_of_pos x h; omega⟩
    refine fb_set 2 (t := dat (.int ((cs_ + 7919 * ck) * 48271 % 2147483647))) nd c (by exact db_opI op_mod (db_opI op_mul (db_int1 G.b_int (db_opI0 op_add (db_ixK (own ⟨ci, cf, cs_, ck⟩) (dx_var 0) dx_int rfl) (db_opI op_mul dx_int.db (db_ixK (own ⟨ci, cf, cs_, ck⟩) (dx_var 0) dx_int rfl) (.inl ⟨by decide, by decide⟩)))) dx_int.db (.inr ⟨by decide, by decide⟩)) dx_int.db (by decide)) fun σ H' c => ?_
    have h3 := m1 ((cs_ + 7919 * ck) * 48271) 2147483647 (by decide) (by decide)
    generalize (cs_ + 7919 * ck) * 48271 % 2147483647 = x at c h3
    refine fs_set 2 (t := dat (.int (x * (x / 1009 + 69621) % 2147483647))) nd c (by exact dx_mod (dx_mul (dx_var 2) (dx_add (dx_fdiv (dx_var 2) dx_int ⟨by decide, by decide⟩) dx_int) (.inl h3)) dx_int (by decide)) fun σ H' c => ?_
    have h3 := m1 (x * (x / 1009 + 69621)) 2147483647 (by decide) (by decide)
    generalize x * (x / 1009 + 69621) % 2147483647 = x at c h3
    refine fs_set 2 (t := dat (.int (x * (x / 2003 + 40692) % 2147483399))) nd c (by exact dx_mod (dx_mul (dx_var 2) (dx_add (dx_fdiv (dx_var 2) dx_int ⟨by decide, by decide⟩) dx_int) (.inl h3)) dx_int (by decide)) fun σ H' c => ?_
    generalize x * (x / 2003 + 40692) % 2147483399 = x at c
    exact fin ⟨ci, cf, cs_, ck⟩ rfl c (by exact dx_mod (dx_fdiv (dx_var 2) dx_int ⟨by decide, by decide⟩) (dx_var 1) (by show (0 : Int) < (n : Nat); omega)) (Int.emod_nonneg _ (by omega)) (Int.emod_lt_of_pos _ (by omega))
/-- the script -/
def scrT (K : PySem.W.Frag) (zs : List Int) : Ty := ⟨fun v H => ∃ a, v = .ref a ∧ SqL K H a (zs.map V.int), fun e ⟨a, h1, h2⟩ => ⟨a, h1, h2.elim (fun h => .inl (h.elim (fun h => .inl (e _ _ h fun _ z => by cases z)) fun ⟨o, h⟩ => .inr ⟨o, e _ _ h fun _ z => by cases z⟩)) .inr⟩⟩
theorem dx_lenSq {X : Cx} {Γ : Gam} {a : Expr} {p pos : Pos} {zs : List Int} (hm : X.mg "len" = none) (ha : DX T X Γ a (scrT X.K zs)) (hg : Gl X "len" := by rfl) (hs : starEach [a] X.env = (false, eval a X.env) :: starEach [] X.env := by rfl) : DX T X Γ (.Call (.Name "len" p) [a] [] pos) (dat (.int zs.length)) :=
  dx_callB call_len_seq hm PySem.boot_len (da_cons ha da_nil hs) (fun vs H Q h q => by
    obtain ⟨v, rfl, l, rfl, h1⟩ := tyAll1 h
    refine ⟨l, _, rfl, .inl h1, q _ H (Ge.refl H) ?_⟩
    rw [List.length_map]
    exact .int _) hg (by decide) (by decide) hs
theorem dx_ixSq {X : Cx} {Γ : Gam} {a b : Expr} {pos : Pos} {zs : List Int} {i z : Int} (ha : DX T X Γ a (scrT X.K zs)) (hb : DX T X Γ b (dat (.int i))) (h : atI (zs.map V.int) i = some (.int z)) (hs : PlainIx b := by intro _ _; rfl) : DX T X Γ (.Subscript a b pos) (dat (.int z)) := fun σ H s Q q =>
  we_of (pe_ix ix_list pe_we pe_we hs) (ha σ H s _ fun x H1 g1 p1 => hb σ H1 (s.ext g1.ext) _ fun y H2 g2 p2 => by
    cases dat_int p2
    obtain ⟨l, rfl, h1⟩ := (scrT X.K zs).mono g2.ext p1
    exact ⟨l, _, i, .int z, rfl, rfl, h1, h, q _ H2 (g1.trans g2) (.int _)⟩)
theorem fn_source (G : Md K mg) : C8.Cal P w K mg base 1 "_law_source" (spL T (fun (i : {p : List Int × Nat // p.1.length ≤ 1000 ∧ p.2 ≤ 1000}) => [scrT K i.1.1, dat (.int (i.1.2 : Nat))]) Src.ds) [] := by
  obtain ⟨f, fd, d, b⟩ := G.d__law_source.ex
  have S' := C8.fnScope_by (N := ["_law_script", "_law_at", "_law_cell", "_law_seed", "_law_k"]) (P := ["_law_script", "_law_at"]) (sc := C8.fnScope (top 94)) (by decide +kernel)
  refine C8.cal0 d b .nil S' (fun vs H Q E h => ?_) fun cdv A outer s H vs Q E hr h => ?_
  · obtain ⟨i, h1, _⟩ := h
    rw [tyAll_len h1]
    rfl
  obtain ⟨⟨⟨zs, n⟩, ok1, ok2⟩, h1, q⟩ := h
  have ok1 : zs.length ≤ 1000 := ok1
  have ok2 : n ≤ 1000 := ok2
  have nd := S'.nd
  refine ⟨_, pss_wss, ?_⟩
  have c : FC T H [some (scrT K zs), some (dat (.int (n : Nat))), none, none, none] oN (L2.start ["_law_script", "_law_at", "_law_cell", "_law_seed", "_law_k"] vs) H := fc_start (sat0 (N := ["_law_script", "_law_at", "_law_cell", "_law_seed", "_law_k"]) h1)
  have hat : ∀ k : Nat, k < zs.length → ∃ z, atI (zs.map V.int) (k : Int) = some (.int z) := fun k hk => ⟨zs[k], atI_nat (by rw [List.getElem?_map, List.getElem?_eq_getElem hk]; rfl)⟩
  refine fs_set 2 (t := dat (.int 0)) nd c (by exact dx_int) fun σ H' c => ?_
  have mid : ∀ (z : Int) σ H', FC T H [some (scrT K zs), some (dat (.int (n : Nat))), some (dat (.int z)), none, none] oN σ H' → WSs (bodyX P w K mg base ["_law_script", "_law_at", "_law_cell", "_law_seed", "_law_k"] "_law_source" (top 94) f cdv A outer s H E) ((C8.fnBody (top 94)).drop 2) { nx := fun _ H' => Q .non H', rt := Q } σ H' := fun z σ H' c => by
    refine fs_set 3 (t := dat (.int ((n : Nat) + 1))) nd c (by exact dx_add (dx_var 1) dx_int) fun σ H' c => ?_
    refine fs_forM (ι := {x : Int // 0 ≤ x ∧ x < 2 ^ 40}) (xs := List.range (min zs.length 6)) (js := [4]) (fun _ i => [some (scrT K zs), some (dat (.int (n : Nat))), some (dat (.int z)), some (dat (.int i.1)), none]) (fun _ _ => oN) (fun _ k i => [some (scrT K zs), some (dat (.int (n : Nat))), some (dat (.int z)), some (dat (.int i.1)), some (dat (.int (k : Nat)))]) ⟨(n : Nat) + 1, by omega, by omega⟩ c (by exact di_range1N (N := min zs.length 6) G.b_range (DX.dat (dx_min2 rfl G.b_min (da_cons (dx_lenSq G.b_len (dx_var 0)) (da_cons dx_int da_nil))) (by congr 1; omega)) (by omega)) rfl (fun m k i e => dg_name 4 nd) (fun m k i H0 e g σ' H' c => ?_) (fun i σ' H' c => ?_)
    · have hk := (List.getElem?_eq_some_iff.mp e).1
      rw [List.length_range] at hk
      have ek : k = m := by
        rw [List.getElem?_range hk] at e
        exact (Option.some.inj e).symm
      subst ek
      obtain ⟨y, hy⟩ := hat k (by omega)
      obtain ⟨x, hx1, hx2⟩ := i
      refine fs_set 3 (t := dat (.int ((x * 69621 + y + 1) % 2147483647))) nd c (by exact dx_mod (dx_int1 G.b_int (dx_add (dx_add (dx_mul (dx_var 3) dx_int (.inr ⟨by decide, by decide⟩)) (dx_ixSq (dx_var 0) (dx_var 4) hy)) dx_int)) dx_int (by decide)) fun σ H' c => fs_nil ⟨⟨(x * 69621 + y + 1) % 2147483647, Int.emod_nonneg _ (by decide), Int.lt_trans (Int.emod_lt_of_pos _ (by decide)) (by decide)⟩, c.sub (by fail "sub")⟩
    · obtain ⟨x, hx1, hx2⟩ := i
      refine fs_set 3 (t := dat (.int ((x * 40693 + z) % 2147483629))) nd c (by exact dx_mod (dx_int1 G.b_int (dx_add (dx_mul (dx_var 3) dx_int (.inr ⟨by decide, by decide⟩)) (dx_var 2))) dx_int (by decide)) fun σ H' c => ?_
      refine fs_retNew (ds := Src.ds ⟨z, if decide ((10 : Int) ^ (18 : Int).toNat ≤ z) = true then 1 else 0, (x * 40693 + z) % 2147483629, 0⟩) c (by exact da_cons (dx_var 2) (da_cons (dx_intB G.b_int (DC.dx (dc_ge (dx_var 2) (dx_pow dx_int dx_int ⟨by decide, by decide, by decide⟩)))) (da_cons (dx_var 3) (da_cons dx_int da_nil)))) fun a H' xs g h2 h3 => q a H' xs _ g h2 h3
  refine fs_if1 (k := decide (n < zs.length)) c (by exact DT.to (DC.dt (dc_lt (dx_var 1) (dx_lenSq G.b_len (dx_var 0)))) (by rw [Bool.eq_iff_iff, decide_eq_true_iff, decide_eq_true_iff]; omega)) (fun hk H' c => ?_) fun hk H' c => mid 0 _ _ (c.sub (by fail "sub"))
  obtain ⟨z, hz⟩ := hat n (of_decide_eq_true hk)
  exact fs_set 2 (t := dat (.int z)) nd c (by exact dx_ixSq (dx_var 0) (dx_var 1) hz) fun σ H' c => fs_nil (mid z _ _ (c.sub (by fail "sub")))
end
end G
set_option Elab.async false
set_option linter.all false
set_option maxRecDepth 100000
set_option maxHeartbeats 1000000
set_option pp.maxSteps 400
namespace G
open PySem PySem.Spec L2 LamX NdefX PyProof.Rows
local macro_rules | `(tactic| fail "sub") => `(tactic| first | exact Sub.nil | (refine Sub.drop ?_; fail "sub") | (refine Sub.same ?_; fail "sub"))
local macro_rules | `(tactic| fail "side") => `(tactic| first | assumption | rfl | omega | decide)
def SmOk : Nat → PyData → Prop
  | n + 1, .int _ => True
  | n + 1, .tuple ds => ds.length ≤ 100000 ∧ ∀ d ∈ ds, SmOk n d
  | n + 1, .list ds => ds.length ≤ 100000 ∧ ∀ d ∈ ds, SmOk n d
  | _, _ => False
section
variable {P : Program} {w : World} {K : PySem.W.Frag} {mg : Str → Option Value} {base : Heap} {T : List NTab}
theorem fn_law_is_int (G : Md K mg) : C8.Cal P w K mg base 1 "_law_is_int" (spP T (fun (i : Int) => [dat (.int i)]) fun i => dat (.bool true)) [] := by
  refine fn_mk G.d__law_is_int ["_law_thing"] (by decide +kernel) (fun _ => rfl) fun i cdv A outer s H vs Q E f hr nd q c => ?_
  exact fs_retE c (by exact DX.dat (dx_and (dx_isi G.b_isinstance G.b_int (by rfl) (dx_var 0) (by rfl)) fun _ => DX.one (dx_not (dx_isi G.b_isinstance G.b_bool (by rfl) (dx_var 0) (by rfl)))) rfl) q
theorem fn_law_same (G : Md K mg) (n : Nat) : C8.Cal P w K mg base (n + 2) "_law_same" (spP T (fun (i : {d : PyData // SmOk n d}) => [dat i.1, dat i.1]) fun i => dat (.bool true)) [] := by
  induction n with
  | zero =>
    refine fn_mk G.d__law_same ["_law_found", "_law_due", "_law_k"] (by decide +kernel) (fun _ => rfl) fun ⟨d, ok⟩ cdv A outer s H vs Q E f hr nd q c => ?_
    exact absurd ok (by cases d <;> exact id)
  | succ n ih =>
    refine fn_mk G.d__law_same ["_law_found", "_law_due", "_law_k"] (by decide +kernel) (fun _ => rfl) fun ⟨d, ok⟩ cdv A outer s H vs Q E f hr nd q c => ?_
    cases d with
    | int i =>
      refine fs_if1 (k := false) c (by exact DT.to (DC.dt (dc_isN (d := .int i) (dx_var 1) dx_non)) rfl) (fun hk => by cases hk) fun _ H' c => ?_
      refine fs_if1 (k := false) c (by exact dt_val (dx_isi (d := .int i) G.b_isinstance G.b_bool (by rfl) (dx_var 1) (by rfl))) (fun hk => by cases hk) fun _ H' c => ?_
      refine fs_if1 (k := true) c (by exact dt_val (dx_isi (d := .int i) G.b_isinstance G.b_int (by rfl) (dx_var 1) (by rfl))) (fun _ H' c => ?_) fun hk => by cases hk
      exact fs_retE c (by exact DX.dat (dx_and (dx_call (fn_law_is_int G) hr i (da_cons (dx_var 0) da_nil)) fun _ => DX.one (DC.dx (dc_eqI (dx_var 0) (dx_var 1)))) (by rw [decide_eq_true rfl]; rfl)) q
    | tuple ds =>
      obtain ⟨h1, h2⟩ := ok
      refine fs_if1 (k := false) c (by exact DT.to (DC.dt (dc_isN (d := .tuple ds) (dx_var 1) dx_non)) rfl) (fun hk => by cases hk) fun _ H' c => ?_
      refine fs_if1 (k := false) c (by exact dt_val (dx_isi (d := .tuple ds) G.b_isinstance G.b_bool (by rfl) (dx_var 1) (by rfl))) (fun hk => by cases hk) fun _ H' c => ?_
      refine fs_if1 (k := false) c (by exact dt_val (dx_isi (d := .tuple ds) G.b_isinstance G.b_int (by rfl) (dx_var 1) (by rfl))) (fun hk => by cases hk) fun _ H' c => ?_
      refine fs_if1 (k := false) c (by exact dt_val (dx_isi (d := .tuple ds) G.b_isinstance G.b_str (by rfl) (dx_var 1) (by rfl))) (fun hk => by cases hk) fun _ H' c => ?_
      refine fs_if1 (k := false) c (by exact DT.to (DW.dt (dw_or (DC.dt (dc_neB (dx_isi (d := .tuple ds) (k := true) G.b_isinstance G.b_tuple (by rfl) (dx_var 1) (by rfl)) (dx_isi (d := .tuple ds) (k := true) G.b_isinstance G.b_tuple (by rfl) (dx_var 0) (by rfl)))) fun _ => dw_one (DC.dt (dc_neB (dx_isi (d := .tuple ds) (k := false) G.b_isinstance G.b_list (by rfl) (dx_var 1) (by rfl)) (dx_isi (d := .tuple ds) (k := false) G.b_isinstance G.b_list (by rfl) (dx_var 0) (by rfl)))))) rfl) (fun hk => by cases hk) fun _ H' c => ?_
      refine fs_if1 (k := false) c (by exact DT.to (DC.dt (dc_neI (dx_lenT G.b_len (dx_var 0)) (dx_lenT G.b_len (dx_var 1)))) (by rw [decide_eq_true rfl]; rfl)) (fun hk => by cases hk) fun _ H' c => ?_
      refine fs_forM (ι := Unit) (xs := List.range ds.length) (js := [2]) (fun _ _ => [some (dat (.tuple ds)), some (dat (.tuple ds)), none]) (fun _ _ => oN) (fun _ k _ => [some (dat (.tuple ds)), some (dat (.tuple ds)), some (dat (.int (k : Nat)))]) () c (by exact di_range1N (N := ds.length) G.b_range (dx_lenT G.b_len (dx_var 1)) (by omega)) rfl (fun m k i e => dg_name 2 nd) (fun m k i H0 e g σ' H' c => ?_) (fun i σ' H' c => ?_)
      · have hk := List.mem_range.mp (List.mem_of_getElem? e)
        have ha : atI ds (k : Int) = some ds[k] := atI_nat (List.getElem?_eq_getElem hk)
        exact fs_if1 (k := false) c (by exact DT.to (dt_not (dt_val (dx_call ih hr ⟨ds[k], h2 _ (List.getElem_mem hk)⟩ (da_cons (dx_ixT (dx_var 0) (dx_var 2) ha) (da_cons (dx_ixT (dx_var 1) (dx_var 2) ha) da_nil))))) rfl) (fun hk => by cases hk) fun _ H' c => fs_nil ⟨(), c.sub (by fail "sub")⟩
      · exact fs_retE c dx_bl q
    | list ds =>
      obtain ⟨h1, h2⟩ := ok
      refine fs_if1 (k := false) c (by exact DT.to (DC.dt (dc_isN (d := .list ds) (dx_var 1) dx_non)) rfl) (fun hk => by cases hk) fun _ H' c => ?_
      refine fs_if1 (k := false) c (by exact dt_val (dx_isi (d := .list ds) G.b_isinstance G.b_bool (by rfl) (dx_var 1) (by rfl))) (fun hk => by cases hk) fun _ H' c => ?_
      refine fs_if1 (k := false) c (by exact dt_val (dx_isi (d := .list ds) G.b_isinstance G.b_int (by rfl) (dx_var 1) (by rfl))) (fun hk => by cases hk) fun _ H' c => ?_
      refine fs_if1 (k := false) c (by exact dt_val (dx_isi (d := .list ds) G.b_isinstance G.b_str (by rfl) (dx_var 1) (by rfl))) (fun hk => by cases hk) fun _ H' c => ?_
      refine fs_if1 (k := false) c (by exact DT.to (DW.dt (dw_or (DC.dt (dc_neB (dx_isi (d := .list ds) (k := false) G.b_isinstance G.b_tuple (by rfl) (dx_var 1) (by rfl)) (dx_isi (d := .list ds) (k := false) G.b_isinstance G.b_tuple (by rfl) (dx_var 0) (by rfl)))) fun _ => dw_one (DC.dt (dc_neB (dx_isi (d := .list ds) (k := true) G.b_isinstance G.b_list (by rfl) (dx_var 1) (by rfl)) (dx_isi (d := .list ds) (k := true) G.b_isinstance G.b_list (by rfl) (dx_var 0) (by rfl)))))) rfl) (fun hk => by cases hk) fun _ H' c => ?_
      refine fs_if1 (k := false) c (by exact DT.to (DC.dt (dc_neI (dx_lenL G.b_len (dx_var 0)) (dx_lenL G.b_len (dx_var 1)))) (by rw [decide_eq_true rfl]; rfl)) (fun hk => by cases hk) fun _ H' c => ?_
      refine fs_forM (ι := Unit) (xs := List.range ds.length) (js := [2]) (fun _ _ => [some (dat (.list ds)), some (dat (.list ds)), none]) (fun _ _ => oN) (fun _ k _ => [some (dat (.list ds)), some (dat (.list ds)), some (dat (.int (k : Nat)))]) () c (by exact di_range1N (N := ds.length) G.b_range (dx_lenL G.b_len (dx_var 1)) (by omega)) rfl (fun m k i e => dg_name 2 nd) (fun m k i H0 e g σ' H' c => ?_) (fun i σ' H' c => ?_)
      · have hk := List.mem_range.mp (List.mem_of_getElem? e)
        have ha : atI ds (k : Int) = some ds[k] := atI_nat (List.getElem?_eq_getElem hk)
        exact fs_if1 (k := false) c (by exact DT.to (dt_not (dt_val (dx_call ih hr ⟨ds[k], h2 _ (List.getElem_mem hk)⟩ (da_cons (dx_ixL (dx_var 0) (dx_var 2) ha) (da_cons (dx_ixL (dx_var 1) (dx_var 2) ha) da_nil))))) rfl) (fun hk => by cases hk) fun _ H' c => fs_nil ⟨(), c.sub (by fail "sub")⟩
      · exact fs_retE c dx_bl q
    | none => exact absurd ok id
    | bool b => exact absurd ok id
    | str x => exact absurd ok id
    | dict x => exact absurd ok id
/-! ### pairs -/
theorem fn_law_is_ahead (G : Md K mg) : C8.Cal P w K mg base 2 "_law_is_ahead" (spP T (fun (i : {p : Board × Board // RowOk p.1 ∧ RowOk p.2}) => [dat i.1.1.enc, dat i.1.2.enc]) fun i => dat (.bool (isAhead i.1.1 i.1.2))) [] := by
  refine fn_mk G.d__law_is_ahead ["_law_longer", "_law_shorter"] (by decide +kernel) (fun _ => rfl) fun ⟨⟨a, b⟩, ok1, ok2⟩ cdv A outer s H vs Q E f hr nd q c => ?_
  have hu := hr.units
  refine fs_if1 (k := decide (a.row.length ≠ b.row.length + 1 ∨ a.row.dropLast ≠ b.row)) c (by exact DT.to (DW.dt (dw_or (DC.dt (dc_neI (dx_lenT G.b_len (dx_ixT (dx_var 0) dx_int (by fail "side"))) (dx_add (dx_lenT G.b_len (dx_ixT (dx_var 1) dx_int (by fail "side"))) dx_int))) fun _ => dw_one (DC.dt (dc_neD hu (dx_slT (dx_ixT (dx_var 0) dx_int (by fail "side")) do_none (do_some (dx_neg dx_int))) (dx_ixT (dx_var 1) dx_int (by fail "side")) (by rw [cutD_last, ← List.map_dropLast]; exact shaped_strs fun z hz => ok1 z (List.dropLast_subset _ hz)) (shaped_strs ok2))))) (by
    rw [List.length_map, List.length_map, cutD_last, ← List.map_dropLast, eqvAll_strs, Bool.eq_iff_iff, decide_eq_true_iff, Bool.or_eq_true, Bool.not_eq_true', Bool.not_eq_true', decide_eq_false_iff_not, decide_eq_false_iff_not]
    show (¬ (((a.row.length : Nat) : Int) = ((b.row.length : Nat) : Int) + 1) ∨ ¬ (a.row.dropLast = b.row)) ↔ _
    exact ⟨fun h => h.imp (fun h => by omega) id, fun h => h.imp (fun h => by omega) id⟩)) (fun hk H' c => ?_) fun hk H' c => ?_
  · refine fs_retE c dx_bl ?_
    have e : isAhead a b = false := if_pos (of_decide_eq_true hk)
    rw [e] at q
    exact q
  · have e : isAhead a b = decide (b.row.length % 2 ≠ a.side) := if_neg (of_decide_eq_false hk)
    rw [e] at q
    exact fs_retE c (by exact DX.dat (DC.dx (dc_neI (dx_mod (dx_int1 G.b_int (dx_lenT G.b_len (dx_ixT (dx_var 1) dx_int (by fail "side")))) dx_int (by decide)) (dx_ixT (dx_var 0) dx_int (by fail "side")))) (congrArg PyData.bool (by
      rw [Bool.eq_iff_iff, decide_eq_true_iff, Bool.not_eq_true', decide_eq_false_iff_not, List.length_map]
      show ¬ (((b.row.length : Nat) : Int) % 2 = ((a.side : Nat) : Int)) ↔ _
      omega))) q
theorem fn_law_are_pair (G : Md K mg) : C8.Cal P w K mg base 3 "_law_are_pair" (spP T (fun (i : {p : Board × Board // RowOk p.1 ∧ RowOk p.2}) => [dat i.1.1.enc, dat i.1.2.enc]) fun i => dat (.bool (arePair i.1.1 i.1.2))) [] := by
  refine fn_mk G.d__law_are_pair ["_law_one", "_law_other"] (by decide +kernel) (fun _ => rfl) fun ⟨⟨a, b⟩, ok1, ok2⟩ cdv A outer s H vs Q E f hr nd q c => ?_
  have hu := hr.units
  refine fs_if1 (k := decide (a.name ≠ b.name ∨ a.side = b.side)) c (by exact DT.to (DW.dt (dw_or (DC.dt (dc_neS (dx_ixT (dx_var 0) dx_int (by fail "side")) (dx_ixT (dx_var 1) dx_int (by fail "side")))) fun _ => dw_one (DC.dt (dc_eqI (dx_ixT (dx_var 0) dx_int (by fail "side")) (dx_ixT (dx_var 1) dx_int (by fail "side")))))) (by
    rw [Bool.eq_iff_iff, decide_eq_true_iff, Bool.or_eq_true, Bool.not_eq_true', decide_eq_false_iff_not, decide_eq_true_iff]
    show (¬ (a.name = b.name) ∨ (((a.side : Nat) : Int) = ((b.side : Nat) : Int))) ↔ _
    exact ⟨fun h => h.imp id (fun h => by omega), fun h => h.imp id (fun h => by omega)⟩)) (fun hk H' c => ?_) fun hk H' c => ?_
  · refine fs_retE c dx_bl ?_
    have e : arePair a b = false := if_pos (of_decide_eq_true hk)
    rw [e] at q
    exact q
  · have e : arePair a b = (decide (a.row = b.row) || (isAhead a b || isAhead b a)) := (if_neg (of_decide_eq_false hk)).trans (Bool.or_assoc _ _ _)
    rw [e] at q
    exact fs_retE c (by exact DX.dat (dx_or (DC.dx (dc_eqD hu (dx_ixT (dx_var 0) dx_int (by fail "side")) (dx_ixT (dx_var 1) dx_int (by fail "side")) (shaped_strs ok1) (shaped_strs ok2))) fun _ => dx_or (dx_call (fn_law_is_ahead G) hr ⟨(a, b), ok1, ok2⟩ (da_cons (dx_var 0) (da_cons (dx_var 1) da_nil))) fun _ => DX.one (dx_call (fn_law_is_ahead G) hr ⟨(b, a), ok2, ok1⟩ (da_cons (dx_var 1) (da_cons (dx_var 0) da_nil)))) (by rw [eqvAll_strs])) q
theorem fn_law_pairs (G : Md K mg) : C8.Cal P w K mg base 4 "_law_pairs" (spP T (fun (i : {bs : List Board // OkPairs bs}) => [dat (.tuple (i.1.map Board.enc))]) fun i => dat (.list ((allPairs i.1).map pD))) [] := by
  refine fn_mk G.d__law_pairs ["_law_boards_here", "_law_found", "_law_one", "_law_other"] (by decide +kernel) (fun _ => rfl) fun ⟨bs, ok⟩ cdv A outer s H vs Q E f hr nd q c => ?_
  have hl : bs.length ≤ 50 := ok.len
  have ezl : bs.zipIdx.length = bs.length := List.length_zipIdx
  have ezi : ∀ n, n < bs.length → bs.zipIdx[n]? = some (bs.getD n board0, n) := fun n hn => by
    rw [List.getElem?_zipIdx, List.getElem?_eq_getElem hn, List.getD_eq_getElem?_getD, List.getElem?_eq_getElem hn]
    simp
  refine fs_own 1 nd c (fun _ => pe_lst pa_nil) fun a σ H' c => ?_
  refine fs_forM (ι := Unit) (xs := List.range bs.length) (js := [2]) (fun n _ => [some (dat (.tuple (bs.map Board.enc))), some (tyv (.ref a)), none, none]) (fun n _ => oC a (((bs.zipIdx.take n).flatMap fun q => pairsAt bs q.1 q.2 (bs.length - (q.2 + 1))).map pD) oN) (fun n x _ => [some (dat (.tuple (bs.map Board.enc))), some (tyv (.ref a)), some (dat (.int (x : Nat))), none]) () c (by exact di_range1N (N := bs.length) G.b_range (DX.dat (dx_lenT G.b_len (dx_var 0)) (by rw [List.length_map])) (by omega)) rfl (fun n x i e => dg_name 2 nd) (fun n x i H0 e g σ' H' c => ?_) (fun i σ' H' c => ?_)
  · have hx := List.mem_range.mp (List.mem_of_getElem? e)
    have ex : x = n := by
      rw [List.getElem?_range (by have := (List.getElem?_eq_some_iff.mp e).1; rwa [List.length_range] at this)] at e
      exact (Option.some.inj e).symm
    subst ex
    have ez := ezi x hx
    have hb : bs.getD x board0 ∈ bs := getD_mem hx
    generalize hbx : bs.getD x board0 = b at ez hb
    have hK : ((bs.length : Nat) : Int) - (((x : Nat) : Int) + 1) = ((bs.length - (x + 1) : Nat) : Int) := by omega
    have gx : atI (bs.map Board.enc) (x : Int) = some b.enc := by rw [← hbx]; exact get_enc hx
    refine fs_forM (ι := Unit) (xs := List.range (bs.length - (x + 1))) (js := [3]) (fun m _ => [some (dat (.tuple (bs.map Board.enc))), some (tyv (.ref a)), some (dat (.int (x : Nat))), none]) (fun m _ => oC a (((bs.zipIdx.take x).flatMap (fun q => pairsAt bs q.1 q.2 (bs.length - (q.2 + 1))) ++ pairsAt bs b x m).map pD) oN) (fun m k _ => [some (dat (.tuple (bs.map Board.enc))), some (tyv (.ref a)), some (dat (.int (x : Nat))), some (dat (.int (((x : Nat) : Int) + 1 + (k : Int))))]) () (by
      have z : pairsAt bs b x 0 = [] := rfl
      rw [z, List.append_nil]
      exact c) (by exact di_range2N G.b_range (dx_add (dx_var 2) dx_int) (DX.dat (dx_lenT G.b_len (dx_var 0)) (by rw [List.length_map])) (by omega) (by omega) hK) rfl (fun m k i e => dg_name 3 nd) (fun m k i H0 ek g σ' H' c => ?_) (fun i σ' H' c => ?_)
    · have hkm : k = m ∧ m < bs.length - (x + 1) := by
        have hm : m < (List.range (bs.length - (x + 1))).length := (List.getElem?_eq_some_iff.mp ek).1
        rw [List.length_range] at hm
        rw [List.getElem?_range hm] at ek
        exact ⟨(Option.some.inj ek).symm, hm⟩
      obtain ⟨rfl, hm⟩ := hkm
      have hlt : x + 1 + k < bs.length := by omega
      have eo : bs.getD (x + 1 + k) board0 ∈ bs := getD_mem hlt
      have hlen : ((bs.zipIdx.take x).flatMap (fun q => pairsAt bs q.1 q.2 (bs.length - (q.2 + 1))) ++ pairsAt bs b x k).length ≤ 100000 := by
        have z1 := flat_len bs (bs.zipIdx.take x)
        have z2 := pairsAt_len bs b x k
        have z3 : (bs.zipIdx.take x).length ≤ 50 := by rw [List.length_take, List.length_zipIdx]; omega
        have z4 : (bs.zipIdx.take x).length * bs.length ≤ 50 * 50 := Nat.mul_le_mul z3 hl
        rw [List.length_append]
        omega
      have ex := pairsAt_succ bs b x k
      refine fs_if1 (k := arePair b (bs.getD (x + 1 + k) board0)) c (by exact dt_val (dx_call (fn_law_are_pair G) hr ⟨(b, bs.getD (x + 1 + k) board0), ok.row b hb, ok.row _ eo⟩ (da_cons (dx_ixT (dx_var 0) (dx_var 2) gx) (da_cons (dx_ixT (dx_var 0) (dx_var 3) (get_enc hlt)) da_nil)))) (fun hk H' c => ?_) fun hk H' c => ?_
      · refine fs_app 1 (d := pD (x, x + 1 + k)) c rfl (by rw [List.length_map]; exact hlen) (by exact DX.dat (dx_tup (ds := [.int (x : Nat), .int (((x : Nat) : Int) + 1 + (k : Int))]) (da_cons (dx_var 2) (da_cons (dx_var 3) da_nil))) (pD_eq rfl (by omega))) fun H' c => fs_nil (fs_nil ⟨(), ?_⟩)
        rw [ex, if_pos hk, ← List.append_assoc, List.map_append]
        exact c.sub (by fail "sub")
      · refine fs_nil ⟨(), ?_⟩
        rw [ex, if_neg (by rw [hk]; exact Bool.false_ne_true), List.append_nil]
        exact c.sub (by fail "sub")
    · rw [List.length_range] at c
      refine fs_nil ⟨(), ?_⟩
      rw [flat_take bs ez]
      exact c.sub (by fail "sub")
  · have c2 := c.rel 1 rfl
    rw [List.length_range, List.take_of_length_le (by omega)] at c2
    exact fs_retE c2 (by exact (dx_var 1)) q
end
end G
set_option Elab.async false
set_option linter.all false
set_option maxRecDepth 100000
set_option maxHeartbeats 1000000
set_option pp.maxSteps 400
namespace L2
open PySem PySem.Spec PyProof.Rows
theorem flat_ints0 (ys : List Int) : (ys.map V.int).all flatV = true := by
  rw [List.all_map]
  exact List.all_eq_true.mpr fun _ _ => rfl
section
variable {X : Cx}
/-- t.index(x) of ints, the first place -/
theorem mt_tup_indexI : MtR X "tuple.index" (fun x xs H Q => ∃ p, ∃ ys : List Int, ∃ z j, x = .ref p ∧ xs = [.int z] ∧ SqT X.K H p (ys.map V.int) ∧ ys[j]? = some z ∧ (∀ m, m < j → ys[m]? ≠ some z) ∧ Q (.int (j : Nat)) H) := by
  intro pins s σ H x xs v us Q I rx rs h
  obtain ⟨p, ys, z, j, rfl, rfl, hq, hy, hno, q⟩ := h
  cases rx
  obtain ⟨u, rfl, t, rfl⟩ := vals1 rs
  obtain ⟨its, r, pl, hz⟩ := I.tuple hq
  obtain ⟨⟨cls, dd, dt, sl⟩, ho, hc, n, hd⟩ := pl
  simp only at hc hd
  subst hc
  subst hd
  have hl : its.toArray.size = ys.length := by rw [List.size_toArray, ← r.length, List.length_map]
  have hj : j < its.toArray.size := by rw [hl]; exact (List.getElem?_eq_some_iff.mp hy).1
  have at' : ∀ (m : Nat) (hm : m < its.toArray.size), ∃ y t', ys[m]? = some y ∧ its.toArray[m] = Value.int y t' := fun m hm => by
    have hm' : m < ys.length := by rw [← hl]; exact hm
    obtain ⟨w, hw, t', hw'⟩ := r.get (i := m) (x := .int ys[m]) (by simp [hm'])
    refine ⟨ys[m], t', List.getElem?_eq_getElem hm', ?_⟩
    have e := (List.getElem?_eq_some_iff.mp hw).2
    rw [← hw', ← e]
    simp
  refine call_meets PySem.F.slot_tuple_index ⟨_, ho, rfl⟩ PySem.F.entry_tuple_index (PySem.F.args_tuple_index_2 _ _) (_root_.TI.tuple_indexAt p its.toArray n dd sl (.int z t) (eqU (.int z)) j hj ?_ ?_)
    ⟨ho, fun w hw => mem_eqAt (x := .int z) ⟨t, rfl⟩ rfl r (flat_ints0 ys) w (by simpa using hw), ⟨.int (j : Nat), H, I.tok _, ⟨_, rfl⟩, q⟩⟩
  · obtain ⟨y, t', h1, h2⟩ := at' j hj
    rw [hy] at h1
    cases h1
    rw [h2]
    show (z == z) = true
    exact beq_self_eq_true z
  · intro m hm hmj
    obtain ⟨y, t', h1, h2⟩ := at' m hm
    rw [h2]
    show (y == z) = false
    exact beq_eq_false_iff_ne.mpr fun e => hno m hmj (e ▸ h1)
end
end L2
namespace G
open PySem PySem.Spec L2 LamX NdefX PyProof.Rows
local macro_rules | `(tactic| fail "sub") => `(tactic| first | exact Sub.nil | (refine Sub.drop ?_; fail "sub") | (refine Sub.same ?_; fail "sub"))
local macro_rules | `(tactic| fail "side") => `(tactic| first | assumption | rfl | omega | decide)
/-! ### tuples of which it is known that they have no dict -/
section
variable {X : Cx} {o e a : Expr} {es : List Expr} {to ta : TE} {t : TA} {pos cpos apos p : Pos}
def zOk (o : Obj) : Prop := o.cls = .type "tuple" ∧ o.dict = none
def tTupZ (t : TA) : TE := fun σ H Q => t σ H fun xs H1 => xs.length ≤ sizeLine ∧ ∀ p o, zOk o → H1 p = none → Q (.ref p) (upd H1 p (.frz o (.tup xs)))
theorem pe_tupZ {x1} (h : PA X es t) : PE X (.Tuple es x1 pos) (tTupZ t) := by
  refine ⟨fun pins s σ H Q I hq => ?_⟩
  refine wpAny_Tuple_spliced (thn (h.run pos pins s σ H _ I hq) fun us s1 ⟨xs, H1, I1, r, z, q⟩ => ⟨by rw [← r.length]; exact z, ?_⟩)
  have hf : H1 s1.heap.objs.size = none := I1.hok.fresh (Nat.le_refl _)
  refine ⟨.ref s1.heap.objs.size, upd H1 s1.heap.objs.size (.frz { cls := .type "tuple", data := .seq us.toArray } (.tup xs)), I1.laid (t' := s1.toks) (fun b u e => Heap.get?_push_of_some _ e) (Nat.le_refl _) ?_, rfl, q _ _ ⟨rfl, rfl⟩ hf⟩
  exact ⟨Heap.get?_push_size _ rfl, z, us, r, ⟨_, Heap.get?_push_size _ rfl, rfl, _, rfl⟩⟩
/-- t + u, both not empty -/
def rCatZ (K : PySem.W.Frag) : R2 := fun x y H Q => ∃ a b xs ys, x = .ref a ∧ y = .ref b ∧ SqT K H a xs ∧ SqT K H b ys ∧ xs.length + ys.length ≤ sizeLine ∧ ys ≠ [] ∧
  (xs = [] → Q (.ref b) H) ∧ (xs ≠ [] → ∀ p o, zOk o → H p = none → Q (.ref p) (upd H p (.frz o (.tup (xs ++ ys)))))
theorem op_catZ : OpR X (binaryOp .Add) (rCatZ X.K) := by
  intro pins s σ H x y v u Q I rx ry h
  obtain ⟨a, b, xs, ys, rfl, rfl, ha, hb, hz, hy, q0, q1⟩ := h
  cases rx
  cases ry
  obtain ⟨its, r1, p1, _⟩ := I.tuple ha
  obtain ⟨its2, r2, p2, _⟩ := I.tuple hb
  by_cases hx : xs = []
  · subst hx
    cases r1
    exact L2.cat_tup0 p1 p2 ⟨.ref b, H, I, rfl, q0 rfl⟩
  · refine HT.cat_tup p1 p2 (fun z => hx (r1.nil_iff.mp z)) (fun z => absurd (r2.nil_iff.mp z) hy) (fun z => ?_) (by rw [← r1.length, ← r2.length]; exact hz)
    refine ⟨.ref s.heap.objs.size, _, I.laid (t' := s.toks) (o := .frz { cls := .type "tuple", data := .seq (its ++ its2).toArray } (.tup (xs ++ ys))) (fun b ob q => Heap.get?_push_of_some _ q) (Nat.le_refl _) ?_, rfl, q1 hx _ _ ⟨rfl, rfl⟩ (I.hok.fresh (Nat.le_refl _))⟩
    exact ⟨Heap.get?_push_size _ rfl, by rw [List.length_append]; exact hz, _, r1.append r2, IsTup.new _ _⟩
/-- tuple(l), l a list -/
def kTupZ (K : PySem.W.Frag) (x : V) (H : Hp) (Q : VK) : Prop := ∃ p xs, x = .ref p ∧ SqL K H p xs ∧ ∀ q o, zOk o → H q = none → Q (.ref q) (upd H q (.frz o (.tup xs)))
theorem rl_tupleZ (pins : List (Addr × Obj)) (s : Shared) (σ : L2.St) (H : Hp) (x : V) (v : Value) (Q : VK) (I : Inv X pins σ H s) (r : L2.RelV x v) (h : kTupZ X.K x H Q) :
    wpAny (model X.prog X.w) X.A (call (.type "tuple") [v]) (EP X pins σ Q) X.xe s := by
  obtain ⟨p, xs, rfl, hs, q⟩ := h
  obtain rfl : v = .ref p := r
  obtain ⟨its, rv, pl, hz⟩ := I.list hs
  refine call_tuple_list pl.isList (fun h' hk => ?_) (by rw [List.size_toArray, ← rv.length]; exact hz)
  have I1 : Inv X pins σ H { s with heap := h' } := I.kept (t' := s.toks) hk
  have I2 : Inv X pins σ (upd H h'.objs.size (.frz { cls := .type "tuple", data := .seq its.toArray } (.tup xs))) { s with heap := h'.push { cls := .type "tuple", data := .seq its.toArray } } :=
    I1.laid (t' := s.toks) (fun b o e => Heap.get?_push_of_some _ e) (Nat.le_refl _) (show ObjOk X.prog X.w _ _ _ (.frz _ (.tup xs)) from ⟨Heap.get?_push_size _ rfl, hz, its, rv, IsTup.new _ _⟩)
  exact ⟨.ref h'.objs.size, upd H h'.objs.size (.frz _ (.tup xs)), I2, rfl, q _ _ ⟨rfl, rfl⟩ (I1.hok.fresh (Nat.le_refl _))⟩
theorem pe_tupleOfZ (hg : Gl X "tuple") (hm : X.mg "tuple" = none) (ha : PE X a ta) (na : starEach [a] X.env = (false, eval a X.env) :: starEach [] X.env := by rfl) :
    PE X (.Call (.Name "tuple" p) [a] [] pos) (tThen ta (kTupZ X.K)) := by
  refine ⟨fun pins s σ H Q I h => ?_⟩
  exact Call_ (ld_blt I hg hm boot_tuple (PyProof.Rows.callWith_type1 (one_arg ha I h (fun v s2 x H2 I2 r q => rl_tupleZ pins s2 σ H2 x v Q I2 r q) na) na))
/-- a method of such a tuple -/
def isZ (x : V) (H : Hp) : Prop := ∃ a o xs, x = .ref a ∧ H a = some (.frz o (.tup xs)) ∧ zOk o
def tBMZ (r : V → List V → Hp → VK → Prop) (to : TE) (t : TA) : TE := fun σ H Q => to σ H fun x H1 => isZ x H1 ∧ t σ H1 fun xs H2 => r x xs H2 Q
theorem pe_bmZ {name : Str} {id : String} {r : V → List V → Hp → VK → Prop} (slot : Slot "tuple" name id) (hty : typeOf (.builtin id) = pure (.type "method_descriptor")) (hm : MtR X id r) (ho : PE X o to) (ha : PA X (e :: es) t)
    (hbase : attributeBase o name X.env (eval o X.env) = eval o X.env := by rfl)
    (hfew : ((backTo cpos (starEach (e :: es) X.env)).all (fun x => !x.1) && (backToKw cpos (keywordEach [] X.env)).all (fun x => x.1.isSome)
      && decide ((e :: es).length + ([] : List Keyword).length + (if ([] : List Keyword).isEmpty then 0 else 1) < 30)) = true := by rfl)
    (hline : (apos.endLine == cpos.line) = true := by rfl) (hs : starEach (e :: es) X.env = (false, eval e X.env) :: starEach es X.env := by rfl) (hplain : (backTo cpos (starEach es X.env)).any (·.1) = false := by rfl) :
    PE X (.Call (.Attribute o name apos) (e :: es) [] cpos) (tBMZ r to t) := by
  refine ⟨fun pins s σ H Q I h => ?_⟩
  refine wpAny_Call_method_late hbase hfew hline rfl (thn (ho.run pins s σ H _ I h) fun v s1 ⟨x, H1, I1, r1, ty, q1⟩ => ?_)
  obtain ⟨a, ob, xs, rfl, hf, hc, hd⟩ := ty
  obtain rfl : v = .ref a := r1
  have ho : s1.heap.get? a = some ob := (I1.hok a _ hf).1
  refine ⟨"tuple", id, PySem.F.plainAttrs_tuple, slot, hty, ⟨ob, ho, hc⟩, fun b eb => ?_, ?_⟩
  · cases eb
    exact ⟨ob, ho, hd⟩
  have hA := ha.run cpos pins s1 σ H1 _ I1 q1
  rw [hs] at hA ⊢
  refine Calls.callWith_builtin (by show (false || (backTo cpos (starEach es X.env)).any (·.1)) = false; rw [hplain] <;> rfl) (Calls.evalArgs_plain ?_)
  exact thn hA fun us s2 ⟨vs, H2, I2, r2, q2⟩ => hm pins s2 σ H2 (.ref a) vs (.ref a) us Q I2 rfl r2 q2
end
/-- a lot, of which it is known that it has no dict, if it is not empty -/
def lotT (l : List Nat) : Ty := ⟨fun v H => Dq H v (lotD l) ∧ (l ≠ [] → isZ v H), fun e h => ⟨dq_ext e _ _ h.1, fun z => let ⟨a, o, xs, h1, h2, h3⟩ := h.2 z; ⟨a, o, xs, h1, e _ _ h2 (fun _ q => by cases q), h3⟩⟩⟩
/-- a list of things of these types -/
def listT (ts : List Ty) : Ty := ⟨fun v H => ∃ a xs, v = .ref a ∧ H a = some (.lst xs) ∧ TyAll ts xs H, fun e ⟨a, xs, h1, h2, h3⟩ => ⟨a, xs, h1, e _ _ h2 (fun _ q => by cases q), tyAll_ext e h3⟩⟩
theorem lots_dq {H : Hp} : ∀ {ls : List (List Nat)} {vs : List V}, TyAll (ls.map lotT) vs H → DqAll H vs (ls.map lotD)
  | [], [], _ => .nil
  | l :: ls, v :: vs, h => .cons h.1.1 (lots_dq h.2)
  | [], _ :: _, h => h.elim
  | _ :: _, [], h => h.elim
theorem canLayAll_of : ∀ {ds : List PyData}, (∀ d ∈ ds, d.canLay0 = true) → PyData.canLayAll0 ds = true
  | [], _ => by rw [PyData.canLayAll0]
  | d :: ds, h => by rw [PyData.canLayAll0, h d List.mem_cons_self, canLayAll_of fun x hx => h x (List.mem_cons_of_mem _ hx)]; rfl
theorem smok_lay : ∀ (n : Nat) (d : PyData), SmOk n d → d.canLay0 = true ∧ d.depth ≤ n
  | 0, d, h => absurd h (by cases d <;> exact id)
  | n + 1, d, h => by
    cases d with
    | int i => exact ⟨by rw [PyData.canLay0], by rw [PyData.depth]; exact Nat.zero_le _⟩
    | tuple ds =>
      have z := fun d hd => smok_lay n d (h.2 d hd)
      exact ⟨by rw [PyData.canLay0]; exact canLayAll_of fun d hd => (z d hd).1, by rw [PyData.depth]; have := depthAll_le (n := n) fun d hd => (z d hd).2; omega⟩
    | list ds =>
      have z := fun d hd => smok_lay n d (h.2 d hd)
      exact ⟨by rw [PyData.canLay0]; exact canLayAll_of fun d hd => (z d hd).1, by rw [PyData.depth]; have := depthAll_le (n := n) fun d hd => (z d hd).2; omega⟩
    | none => exact absurd h id
    | bool b => exact absurd h id
    | str x => exact absurd h id
    | dict x => exact absurd h id
theorem smok_shaped {n : Nat} {d : PyData} (h : SmOk n d) (hn : n ≤ 64) : SeqAt.shaped d = true := by
  obtain ⟨h1, h2⟩ := smok_lay n d h
  unfold SeqAt.shaped
  rw [h1, decide_eq_true (by omega : d.depth ≤ 64)]
  rfl
theorem smok_lot {l : List Nat} (h : l.length ≤ 1000) : SmOk 2 (lotD l) := by
  refine ⟨by rw [List.length_map, cs_len]; omega, fun d hd => ?_⟩
  obtain ⟨x, _, rfl⟩ := List.mem_map.mp hd
  trivial
theorem smok_pD (p : Nat × Nat) : SmOk 2 (pD p) := by
  refine ⟨by show 2 ≤ 100000; decide, fun d hd => ?_⟩
  rcases List.mem_cons.mp hd with rfl | hd
  · trivial
  · rcases List.mem_cons.mp hd with rfl | hd
    · trivial
    · cases hd
theorem smok_list {n : Nat} {ds : List PyData} (hl : ds.length ≤ 100000) (h : ∀ d ∈ ds, SmOk n d) : SmOk (n + 1) (.list ds) := ⟨hl, h⟩
theorem smok_tuple {n : Nat} {ds : List PyData} (hl : ds.length ≤ 100000) (h : ∀ d ∈ ds, SmOk n d) : SmOk (n + 1) (.tuple ds) := ⟨hl, h⟩
theorem eqv_ints : ∀ xs ys : List Int, PyData.eqvAll (xs.map .int) (ys.map .int) = decide (xs = ys)
  | [], [] => by rw [List.map_nil, PyData.eqvAll]; rfl
  | [], y :: ys => by rw [List.map_nil, List.map_cons, PyData.eqvAll]; rfl
  | x :: xs, [] => by rw [List.map_nil, List.map_cons, PyData.eqvAll]; rfl
  | x :: xs, y :: ys => by
    rw [List.map_cons, List.map_cons, PyData.eqvAll, eqv_ints xs ys, PyData.eqv, Bool.eq_iff_iff, Bool.and_eq_true, decide_eq_true_iff, decide_eq_true_iff, List.cons.injEq, beq_iff_eq]
theorem cs_inj {l m : List Nat} (h : cs l = cs m) : l = m := by
  have z := congrArg (List.map Int.toNat) h
  unfold cs at z
  rw [List.map_map, List.map_map] at z
  have e : (Int.toNat ∘ fun (n : Nat) => (n : Int)) = id := by funext n; simp
  rw [show (List.map (Int.toNat ∘ fun (n : Nat) => (n : Int)) l) = l by rw [e]; simp, show (List.map (Int.toNat ∘ fun (n : Nat) => (n : Int)) m) = m by rw [e]; simp] at z
  exact z
theorem eqv_lot (l m : List Nat) : PyData.eqv (lotD l) (lotD m) = decide (l = m) := by
  unfold lotD
  rw [PyData.eqv, eqv_ints, Bool.eq_iff_iff, decide_eq_true_iff, decide_eq_true_iff]
  exact ⟨cs_inj, fun h => by rw [h]⟩
theorem eqv_pD (p q : Nat × Nat) : PyData.eqv (pD p) (pD q) = decide (p = q) := by
  have h := eqv_lot [p.1, p.2] [q.1, q.2]
  have e1 : lotD [p.1, p.2] = pD p := rfl
  have e2 : lotD [q.1, q.2] = pD q := rfl
  rw [e1, e2] at h
  rw [h, Bool.eq_iff_iff, decide_eq_true_iff, decide_eq_true_iff]
  exact ⟨fun h => by
    simp only [List.cons.injEq, and_true] at h
    exact Prod.ext h.1 h.2, fun h => by rw [h]⟩
section
variable {T : List NTab} {X : Cx} {Γ : Gam} {a b e : Expr} {pos p apos : Pos}
/-- xs == [] -/
theorem dc_eqNil {n : Nat} {ds : List PyData} {pos' : Pos} (hu : X.A.units + 64 < cLine) (ha : DX T X Γ a (dat (.list ds))) (hs : SmOk n (.list ds)) (hn : n ≤ 64) : DC T X Γ a .Eq (.List [] pos') (dat (.bool ds.isEmpty)) := by
  have h : DC T X Γ a .Eq (.List [] pos') (dat (.bool (PyData.eqv (.list ds) (.list [])))) := dc_eqD hu ha (dx_lst (ds := []) da_nil) (smok_shaped hs hn) (smok_shaped (n := 1) (smok_list (n := 0) (by decide) (fun d hd => by cases hd)) (by decide))
  have e : PyData.eqv (.list ds) (.list []) = ds.isEmpty := by
    rw [PyData.eqv]
    cases ds <;> rw [PyData.eqvAll] <;> rfl
  rw [e] at h
  exact h
/-- lot in lots -/
theorem dc_inLots {ls : List (List Nat)} {l : List Nat} (hu : X.A.units + 65 < cLine) (hm : behindInMarks .In b = false) (ha : DX T X Γ a (dat (lotD l))) (hb : DX T X Γ b (dat (.list (ls.map lotD)))) (h1 : l.length ≤ 1000) (h2 : ls.length ≤ 100000) (h3 : ∀ x ∈ ls, x.length ≤ 1000) : DC T X Γ a .In b (dat (.bool (decide (l ∈ ls)))) := by
  have h : DC T X Γ a .In b (dat (.bool ((ls.map lotD).any fun z => PyData.eqv z (lotD l)))) := dc_inD hu hm ha hb (smok_shaped (smok_lot h1) (by decide)) (smok_shaped (smok_list (n := 2) (by rw [List.length_map]; exact h2) (fun d hd => by
    obtain ⟨x, hx, rfl⟩ := List.mem_map.mp hd
    exact smok_lot (h3 x hx))) (by decide))
  have e : ((ls.map lotD).any fun z => PyData.eqv z (lotD l)) = decide (l ∈ ls) := by
    rw [List.any_map, Bool.eq_iff_iff, decide_eq_true_iff, List.any_eq_true]
    constructor
    · rintro ⟨x, hx, hz⟩
      have hz : PyData.eqv (lotD x) (lotD l) = true := hz
      rw [eqv_lot, decide_eq_true_iff] at hz
      exact hz ▸ hx
    · intro hx
      refine ⟨l, hx, ?_⟩
      show PyData.eqv (lotD l) (lotD l) = true
      rw [eqv_lot]
      exact decide_eq_true rfl
  rw [e] at h
  exact h
theorem dx_unZ {l : List Nat} {e : Expr} (h : DX T X Γ e (lotT l)) : DX T X Γ e (dat (lotD l)) := h.to fun v H p => p.1
theorem dx_unZs {ls : List (List Nat)} {e : Expr} (h : DX T X Γ e (listT (ls.map lotT))) : DX T X Γ e (dat (.list (ls.map lotD))) := h.to fun v H ⟨a, xs, h1, h2, h3⟩ => h1 ▸ .lst h2 (lots_dq h3)
/-- lot.index(n) -/
theorem dx_lotIndex {l : List Nat} {n j : Nat} (ha : DX T X Γ a (lotT l)) (hb : DX T X Γ b (dat (.int (n : Nat)))) (h1 : l[j]? = some n) (h2 : ∀ m, m < j → l[m]? ≠ some n) (hbase : attributeBase a "index" X.env (eval a X.env) = eval a X.env := by rfl)
    (hfew : ((backTo pos (starEach (b :: []) X.env)).all (fun x => !x.1) && (backToKw pos (keywordEach [] X.env)).all (fun x => x.1.isSome)
      && decide ((b :: []).length + ([] : List Keyword).length + (if ([] : List Keyword).isEmpty then 0 else 1) < 30)) = true := by rfl)
    (hline : (apos.endLine == pos.line) = true := by rfl) (hs : starEach (b :: []) X.env = (false, eval b X.env) :: starEach [] X.env := by rfl) (hpl : (backTo pos (starEach [] X.env)).any (·.1) = false := by rfl) : DX T X Γ (.Call (.Attribute a "index" apos) [b] [] pos) (dat (.int (j : Nat))) := fun σ H s Q q =>
  we_of (pe_bmZ PySem.F.slot_tuple_index PySem.F.type_tuple_index mt_tup_indexI pe_we (pa_cons pe_we pa_nil hs) hbase hfew hline hs hpl) (ha σ H s _ fun x H1 g1 p1 => by
    have hne : l ≠ [] := fun z => by rw [z] at h1; simp at h1
    have hz := p1.2 hne
    obtain ⟨t, xs, rfl, h3, h4⟩ := dat_tup p1.1
    refine ⟨hz, hb σ H1 (s.ext g1.ext) _ fun y H2 g2 p2 => ?_⟩
    cases dat_int p2
    cases dqa_ints h4
    have at_ : ∀ m z, (cs l)[m]? = some z ↔ ∃ k : Nat, l[m]? = some k ∧ z = (k : Int) := fun m z => by
      unfold cs
      rw [List.getElem?_map, Option.map_eq_some_iff]
      exact ⟨fun ⟨k, h, e⟩ => ⟨k, h, e.symm⟩, fun ⟨k, h, e⟩ => ⟨k, h, e.symm⟩⟩
    refine ⟨t, cs l, (n : Int), j, rfl, rfl, sqT_rd (rd_ext g2.ext h3), (at_ _ _).mpr ⟨n, h1, rfl⟩, fun m hm e => ?_, q _ H2 (g1.trans g2) (.int _)⟩
    obtain ⟨k, e1, e2⟩ := (at_ _ _).mp e
    exact h2 m hm (by rw [e1]; congr 1; omega))
/-- lot + (n,) -/
theorem dx_lotCat {l : List Nat} {n : Nat} {kk : Nat} {ep : Pos} {e1 : Expr} (ha : DX T X Γ a (dat (lotD l))) (hb : DX T X Γ e1 (dat (.int (n : Nat)))) (hl : l.length ≤ 1000) (hs : starEach [e1] X.env = (false, eval e1 X.env) :: starEach [] X.env := by rfl) : DX T X Γ (.BinOp a .Add (.Tuple [e1] kk ep) pos) (lotT (l ++ [n])) := by
  have hb2 : DX T X Γ (.Tuple [e1] kk ep) (lotT [n]) := fun σ H s Q q => we_of (pe_tupZ pa_wa) (da_cons hb da_nil hs σ H s _ fun vs H1 g1 p1 => by
    obtain ⟨v, rfl, h0⟩ := tyAll1 p1
    cases dat_int h0
    exact ⟨by show 1 ≤ _; decide, fun p o hz hp => q _ _ (g1.trans (Ge.new hp)) ⟨.tup (.inr ⟨o, upd_same⟩) (.cons (.int _) .nil), fun _ => ⟨p, o, _, rfl, upd_same, hz⟩⟩⟩)
  refine dx_op op_catZ ha hb2 fun x y H Q h1 h2 q => ?_
  obtain ⟨l1, xs, rfl, e1, f1⟩ := dat_tup h1
  obtain ⟨l2, ys, rfl, e2, f2⟩ := dat_tup h2.1
  cases dqa_ints f1
  cases dqa_ints f2
  have hlen : ((cs l).map V.int).length + ((cs [n]).map V.int).length ≤ sizeLine := by
    rw [List.length_map, List.length_map, cs_len, cs_len]
    show l.length + 1 ≤ _
    exact Nat.le_trans (by omega : l.length + 1 ≤ 1001) (by decide)
  have hne : (cs [n]).map V.int ≠ [] := fun z => nomatch z
  refine ⟨l1, l2, (cs l).map V.int, (cs [n]).map V.int, rfl, rfl, sqT_rd e1, sqT_rd e2, hlen, hne, fun z => ?_, fun z p o hz hp => q _ _ (Ge.new hp) ⟨?_, fun _ => ⟨p, o, _, rfl, upd_same, hz⟩⟩⟩
  · have hl : l = [] := by
      cases l with
      | nil => rfl
      | cons a b => exact nomatch z
    subst hl
    exact q _ H (Ge.refl H) h2
  · show Dq _ _ (lotD (l ++ [n]))
    have e : (cs (l ++ [n])).map PyData.int = (cs l).map .int ++ (cs [n]).map .int := by unfold cs; rw [List.map_append, List.map_append]
    unfold lotD
    rw [e]
    exact .tup (.inr ⟨o, upd_same⟩) (dqa_ext (Ge.new (T := T) hp).ext _ _ (dqa_app f1 f2))
/-- pairs.index(pair) -/
theorem dx_pairIndex {ps : List (Nat × Nat)} {x : Nat × Nat} {j : Nat} (hu : X.A.units + 65 < cLine) (ha : DX T X Γ a (dat (.list (ps.map pD)))) (hb : DX T X Γ b (dat (pD x))) (hl : ps.length ≤ 100000) (h1 : ps[j]? = some x) (h2 : ∀ m, m < j → ps[m]? ≠ some x) (hbase : attributeBase a "index" X.env (eval a X.env) = eval a X.env := by rfl)
    (hfew : ((backTo pos (starEach (b :: []) X.env)).all (fun x => !x.1) && (backToKw pos (keywordEach [] X.env)).all (fun x => x.1.isSome)
      && decide ((b :: []).length + ([] : List Keyword).length + (if ([] : List Keyword).isEmpty then 0 else 1) < 30)) = true := by rfl)
    (hline : (apos.endLine == pos.line) = true := by rfl) (hs : starEach (b :: []) X.env = (false, eval b X.env) :: starEach [] X.env := by rfl) : DX T X Γ (.Call (.Attribute a "index" apos) [b] [] pos) (dat (.int (j : Nat))) := fun σ H s Q q =>
  we_of (pe_bm PySem.F.plainAttrs_list PySem.F.slot_list_index PySem.F.type_list_index (mt_indexD hu) pe_we (pa_cons pe_we pa_nil hs) hbase hfew hline hs rfl) (ha σ H s _ fun v H1 g1 p1 => by
    obtain ⟨t, xs, rfl, h3, h4⟩ := dat_lst p1
    refine ⟨.inl ⟨rfl, _, .inl (.inl h3)⟩, hb σ H1 (s.ext g1.ext) _ fun y H2 g2 p2 => ?_⟩
    refine ⟨t, y, pD x, ps.map pD, j, pD x, rfl, rfl, dq_dp _ _ ((dat (.list (ps.map pD))).mono g2.ext p1), dq_dp _ _ p2, smok_shaped (smok_list (n := 2) (by rw [List.length_map]; exact hl) (fun d hd => by
      obtain ⟨z, _, rfl⟩ := List.mem_map.mp hd
      exact smok_pD z)) (by decide), smok_shaped (smok_pD x) (by decide), by rw [List.getElem?_map, h1]; rfl, by rw [eqv_pD]; exact decide_eq_true rfl, fun m z hm e => ?_, q _ H2 (g1.trans g2) (.int _)⟩
    rw [List.getElem?_map] at e
    obtain ⟨k, e1, rfl⟩ := Option.map_eq_some_iff.mp e
    rw [eqv_pD]
    exact decide_eq_false fun z => h2 m hm (z ▸ e1))
end
end G
set_option Elab.async false
set_option linter.all false
set_option maxRecDepth 100000
set_option maxHeartbeats 1000000
set_option pp.maxSteps 400
namespace G
open PySem PySem.Spec L2 LamX NdefX
local macro_rules | `(tactic| fail "sub") => `(tactic| first | exact Sub.nil | (refine Sub.drop ?_; fail "sub") | (refine Sub.same ?_; fail "sub"))
local macro_rules | `(tactic| fail "side") => `(tactic| first | assumption | rfl | omega | decide)
/-! ### lists of typed things -/
section
variable {T : List NTab} {X : Cx} {Γ : Gam} {a b c e elt tg iter : Expr} {es : List Expr} {pos p apos p2 : Pos} {t u : Ty}
theorem steps_listT {K : PySem.W.Frag} {H : Hp} {l : Addr} {xs : List V} {ts : List Ty} (h : H l = some (.lst xs)) (hd : TyAll ts xs H) : Steps T (Itl K l) H ts where
  go := fun i t e L Hb f ap g => by
    have q : Ex H (addAll Hb L) := (g.trans (ge_addAll (T := T) f ap)).ext
    have hl : addAll Hb L l = some (.lst xs) := q _ _ h fun _ z => by cases z
    obtain ⟨v, hv, pv⟩ := tyAll_get2 hd e
    refine ⟨⟨xs, v, SqL.of hl, hv⟩, fun x H'' y => ⟨Hb, y.1, ap, Ge.refl _, ?_⟩⟩
    have e2 := y.2 xs (SqL.of hl)
    rw [hv] at e2
    cases e2
    exact t.mono g.ext pv
  stop := fun L Hb f ap g => by
    have q : Ex H (addAll Hb L) := (g.trans (ge_addAll (T := T) f ap)).ext
    exact ⟨xs, SqL.of (q _ _ h fun _ z => by cases z), by rw [tyAll_len hd]; exact Nat.le_refl _⟩
theorem di_listT {ts : List Ty} (h : DX T X Γ e (listT ts)) : DI T X Γ tg e ts := fun σ H s R q => wi_of (pi_list pe_we) (h σ H s _ fun v H' g ⟨l, xs, e1, h1, h2⟩ => ⟨l, e1, ⟨xs, SqL.of h1⟩, q _ H' g (steps_listT h1 h2)⟩)
theorem dx_catLT {ts us : List Ty} (ha : DX T X Γ a (listT ts)) (hb : DX T X Γ b (listT us)) (hz : ts.length + us.length ≤ 100000) : DX T X Γ (.BinOp a .Add b pos) (listT (ts ++ us)) :=
  dx_op op_cat ha hb fun x y H Q ⟨l, xs, h0, e1, f1⟩ ⟨m, ys, h0', e2, f2⟩ q => by
    subst h0 h0'
    have l1 := tyAll_len f1
    have l2 := tyAll_len f2
    exact ⟨l, m, xs, ys, rfl, rfl, e1, e2, by rw [l1, l2]; exact Nat.le_trans hz (by decide), fun p hp => q _ _ (Ge.new hp) ⟨p, _, rfl, upd_same, tyAll_ext (Ge.new (T := T) hp).ext (tyAll_app f1 f2)⟩⟩
theorem dx_lstT {ts : List Ty} (h : DA T X Γ es ts) (hl : ts.length ≤ 1000 := by exact Nat.le_of_ble_eq_true rfl) : DX T X Γ (.List es pos) (listT ts) := fun σ H s Q q =>
  we_of (pe_lst pa_wa) (h σ H s _ fun vs H1 g1 p1 => ⟨by
    have e := tyAll_len p1
    rw [e]
    exact Nat.le_trans hl (by decide), fun p hp => q _ _ (g1.trans (Ge.new hp)) ⟨p, _, rfl, upd_same, tyAll_ext (Ge.new (T := T) hp).ext p1⟩⟩)
variable {α β : Type} {xs : List α} {τ : α → Ty} {r : α → Ty} {js : List Nat} {scope : Scope} {Γ' : α → Gam} {own : List (Str × Nat)} {vs : List Nat}
theorem map_take_succ {n : Nat} {x : α} (e : xs[n]? = some x) : (xs.take (n + 1)).map r = (xs.take n).map r ++ [r x] := by
  rw [List.take_succ, e, List.map_append]
  rfl
theorem lc_goT (hi : DI T X Γ tg iter (xs.map τ)) (hl : xs.length ≤ 100000)
    (hg : ∀ x ∈ xs, ∀ s H0 C cl fp, DG (X.blk s H0 scope (compEnvC scope cl C X.env) fp) tg (τ x) (wipeG Γ vs) (Γ' x) js) (hjs : ∀ j ∈ js, j ∈ vs)
    (he : ∀ x ∈ xs, ∀ s H0 C cl fp, DX T (X.blk s H0 scope (compEnvC scope cl C X.env) fp) (Γ' x) elt (r x)) :
    ∀ σ H, Sat Γ σ H → ∀ Q : VK, (∀ v H', Ge T H H' → (listT (xs.map r)).P v H' → Q v H') → tLc (WI X tg iter) (WGb X scope tg) tYes (WEb X scope elt) vs σ H Q := by
  intro σ H s Q q
  refine hi σ H s _ fun J H1 g1 st D hD => ?_
  refine ⟨fun n m H2 => m = xs.length - n ∧ n ≤ xs.length ∧ ∃ Hb ws, H2 = upd Hb D (.lst ws) ∧ Hb D = none ∧ Ge T H1 Hb ∧ TyAll ((xs.take n).map r) ws Hb, ⟨xs.length, by simp, Nat.zero_le _, H1, [], rfl, hD, Ge.refl _, by rw [List.take_zero]; exact trivial⟩, ?_⟩
  rintro n m H2 ⟨rfl, hn, Hb, ws, rfl, hb, g2, dq⟩
  by_cases hlt : n < xs.length
  · have e : xs[n]? = some xs[n] := List.getElem?_eq_getElem hlt
    have em : (xs.map τ)[n]? = some (τ xs[n]) := by rw [List.getElem?_map, e]; rfl
    have hmem : xs[n] ∈ xs := List.getElem_mem hlt
    generalize xs[n] = x at e em hmem
    obtain ⟨go, y⟩ := st.go n _ em [(D, .lst ws)] Hb fr1 (ap1 hb) g2
    refine .inr ⟨go, fun H' => ∃ Hb ws, H' = upd Hb D (.lst ws) ∧ Hb D = none ∧ Ge T H1 Hb ∧ TyAll ((xs.take (n + 1)).map r) ws Hb, fun H' z => ⟨xs.length - (n + 1), by omega, rfl, hlt, z⟩, fun v H' hy s0 H0 C cl fp => ?_⟩
    obtain ⟨Hc, rfl, apc, gc, px⟩ := y v H' hy
    have sc : Sat (wipeG Γ vs) (L2.wipe σ vs) Hc := (s.ext (g1.trans (g2.trans gc)).ext).wipe vs
    refine hg x hmem s0 H0 C cl fp v _ Hc _ (ge_addAll (T := T) fr1 apc).ext px sc _ fun σ2 s2 out => ⟨wipe_of_out hjs out, ?_⟩
    dsimp only [tYes]
    rw [if_pos rfl]
    refine fun s4 H4 C4 cl4 fp4 => we_frame fr1 apc (he x hmem s4 H4 C4 cl4 fp4 σ2 Hc s2 _ fun w H5 g5 pw ap5 => ?_)
    have d5 := tyAll_ext (gc.trans g5).ext dq
    have hlen := tyAll_len d5
    have hle : ((xs.take n).map r).length ≤ 100000 := by
      rw [List.length_map]
      exact Nat.le_trans (List.length_take_le _ _) (by omega)
    refine ⟨ws, upd_same, Nat.lt_of_le_of_lt (hlen ▸ hle) (by decide), H5, ws ++ [w], upd_upd, ap1' ap5, g2.trans (gc.trans g5), ?_⟩
    rw [map_take_succ e]
    exact tyAll_app d5 ⟨pw, trivial⟩
  · have e : n = xs.length := by omega
    subst e
    have hm : (xs.map τ).length = xs.length := List.length_map _
    refine .inl ⟨hm ▸ st.stop [(D, .lst ws)] Hb fr1 (ap1 hb) g2, q _ _ (g1.trans (g2.trans (Ge.new hb))) ?_⟩
    rw [List.take_of_length_le (Nat.le_refl _)] at dq
    exact ⟨D, ws, rfl, upd_same, tyAll_ext (Ge.new (T := T) hb).ext dq⟩
/-- [elt for tg in iter], typed -/
theorem dx_lcT (own : List (Str × Nat)) (xs : List α) (r : α → Ty) (nd : X.N.Nodup) (hc : X.calm = true) (ok : blkC X.N X.env.scope scope own = true) (hi : DI T X Γ tg iter (xs.map τ)) (hl : xs.length ≤ 100000)
    (hg : ∀ x ∈ xs, ∀ s H0 C cl fp, DG (X.blk s H0 scope (compEnvC scope cl C X.env) fp) tg (τ x) (wipeG Γ (own.map (·.2))) (Γ' x) js)
    (he : ∀ x ∈ xs, ∀ s H0 C cl fp, DX T (X.blk s H0 scope (compEnvC scope cl C X.env) fp) (Γ' x) elt (r x)) (hjs : ∀ j ∈ js, j ∈ own.map (·.2) := by decide) (hs : ∀ x, foldedSetIterable iter X.env x = pure x := by intro _; rfl) : DX T X Γ (.ListComp elt [⟨tg, iter, [], 0⟩] scope pos) (listT (xs.map r)) := fun σ H s Q q =>
  we_of (pe_lc (tt := tYes) (te := WEb X scope elt) (g := WGb X scope tg) hc nd pi_wi (blkOk_by ok) (fun s H C cl fp => ⟨fun pins s1 σ H v u Q I r h => h s _ C cl fp pins s1 u I r⟩) (fun s H C cl fp => pts_nil) (fun s H C cl fp => ⟨fun pins s1 σ H1 Q I h => h s H C cl fp pins s1 I⟩) hs)
    (lc_goT hi hl hg hjs he σ H s Q q)
end
/-! ### pairings -/
def apartB (ps : List (Nat × Nat)) (x : Nat × Nat) : Bool := (ps.filter fun y => (decide (x.1 = y.1 ∨ x.1 = y.2) || decide (x.2 = y.1 ∨ x.2 = y.2))).isEmpty
def lawPg (ps : List (Nat × Nat)) : List (List (Nat × Nat)) := ps.foldl (fun found x => found ++ (found.filter fun qs => apartB qs x).map fun qs => qs ++ [x]) [[]]
theorem lawPg_take {ps : List (Nat × Nat)} {n : Nat} {x : Nat × Nat} (e : ps[n]? = some x) : lawPg (ps.take (n + 1)) = lawPg (ps.take n) ++ ((lawPg (ps.take n)).filter fun qs => apartB qs x).map fun qs => qs ++ [x] := by
  unfold lawPg
  rw [List.take_succ, e, List.foldl_append]
  rfl
theorem lawPg_len (ps : List (Nat × Nat)) : ∀ n, (lawPg (ps.take n)).length ≤ 2 ^ n ∧ ∀ qs ∈ lawPg (ps.take n), qs.length ≤ n
  | 0 => by simp [lawPg]
  | n + 1 => by
    obtain ⟨h1, h2⟩ := lawPg_len ps n
    have hp : 2 ^ (n + 1) = 2 ^ n + 2 ^ n := by rw [Nat.pow_succ]; omega
    cases e : ps[n]? with
    | none =>
      have z : ps.take (n + 1) = ps.take n := by rw [List.take_succ, e, Option.toList_none, List.append_nil]
      rw [z]
      exact ⟨by omega, fun qs hq => Nat.le_succ_of_le (h2 qs hq)⟩
    | some x =>
      rw [lawPg_take e]
      refine ⟨?_, fun qs hq => ?_⟩
      · rw [List.length_append, List.length_map]
        have := List.length_filter_le (fun qs => apartB qs x) (lawPg (ps.take n))
        omega
      · rcases List.mem_append.mp hq with hq | hq
        · exact Nat.le_succ_of_le (h2 qs hq)
        · obtain ⟨rs, hr, rfl⟩ := List.mem_map.mp hq
          have := h2 rs (List.mem_filter.mp hr).1
          rw [List.length_append, List.length_singleton]
          omega
section
variable {P : Program} {w : World} {K : PySem.W.Frag} {mg : Str → Option Value} {base : Heap} {T : List NTab}
theorem cs2 (x : Nat) (y : Nat × Nat) : decide (((x : Nat) : Int) ∈ [((y.1 : Nat) : Int), ((y.2 : Nat) : Int)]) = decide (x = y.1 ∨ x = y.2) := by
  rw [Bool.eq_iff_iff, decide_eq_true_iff, decide_eq_true_iff]
  simp only [List.mem_cons, List.not_mem_nil, or_false]
  omega
theorem fn_law_pairings (G : Md K mg) : C8.Cal P w K mg base 1 "_law_pairings" (spP T (fun (i : {ps : List (Nat × Nat) // ps.length ≤ 10}) => [dat (.list (i.1.map pD))]) fun i => dat (.list ((lawPg i.1).map ppD))) [] := by
  refine fn_mk G.d__law_pairings ["_law_pairs_here", "_law_found", "_law_pair", "_law_longer", "_law_pairing", "_law_one"] (by decide +kernel) (fun _ => rfl) fun ⟨ps, ok⟩ cdv A outer s H vs Q E f hr nd q c => ?_
  have hu := hr.units
  have ok : ps.length ≤ 10 := ok
  have p10 : ∀ n, n ≤ 10 → 2 ^ n ≤ 1024 := fun n h => Nat.pow_le_pow_right (by decide) h
  refine fs_set 1 (t := dat (.list ((lawPg (ps.take 0)).map ppD))) nd c (by exact dx_lst (ds := [.tuple []]) (da_cons (dx_tup (ds := []) da_nil) da_nil)) fun σ H' c => ?_
  refine fs_forM (ι := Unit) (xs := ps) (js := [2]) (fun n _ => [some (dat (.list (ps.map pD))), some (dat (.list ((lawPg (ps.take n)).map ppD))), none, none, none, none]) (fun n _ => oN) (fun n x _ => [some (dat (.list (ps.map pD))), some (dat (.list ((lawPg (ps.take n)).map ppD))), some (dat (pD x)), none, none, none]) () c (di_listM (dx_var 0)) rfl (fun n x i e => dg_name 2 nd) (fun n x i H0 e g σ' H' c => ?_) (fun i σ' H' c => ?_)
  · have hn := (List.getElem?_eq_some_iff.mp e).1
    obtain ⟨l1, l2⟩ := lawPg_len ps n
    have l3 := p10 n (by omega)
    have et := lawPg_take e
    generalize hL : lawPg (ps.take n) = L at c l1 l2 et
    refine fs_own 3 nd c (fun _ => pe_lst pa_nil) fun a σ H' c => ?_
    refine fs_forM (ι := Unit) (xs := L) (js := [4]) (fun m _ => [some (dat (.list (ps.map pD))), some (dat (.list (L.map ppD))), some (dat (pD x)), some (tyv (.ref a)), none, none]) (fun m _ => oC a ((((L.take m).filter fun qs => apartB qs x).map fun qs => qs ++ [x]).map ppD) oN) (fun m qs _ => [some (dat (.list (ps.map pD))), some (dat (.list (L.map ppD))), some (dat (pD x)), some (tyv (.ref a)), some (dat (ppD qs)), none]) () c (di_listM (dx_var 1)) rfl (fun m y i e => dg_name 4 nd) (fun m qs i H0 e2 g2 σ' H' c => ?_) (fun i σ' H' c => ?_)
    · have hq := l2 qs (List.mem_of_getElem? e2)
      have hlm : (((L.take m).filter fun qs => apartB qs x).map fun qs => qs ++ [x]).length ≤ 100000 := by
        rw [List.length_map]
        have := List.length_filter_le (fun qs => apartB qs x) (L.take m)
        have := List.length_take_le m L
        have := List.length_take_le' m L
        omega
      have es : ((L.take (m + 1)).filter fun qs => apartB qs x).map (fun qs => qs ++ [x]) = ((L.take m).filter fun qs => apartB qs x).map (fun qs => qs ++ [x]) ++ (if apartB qs x = true then [qs ++ [x]] else []) := by
        rw [List.take_succ, e2, List.filter_append, List.map_append]
        congr 1
        simp only [Option.toList_some, List.filter_cons, List.filter_nil]
        split <;> rfl
      refine fs_if1 (k := apartB qs x) c (by exact DT.to (DC.dt (dc_eqNil (n := 3) hu (dx_lcIf [("_law_one", 5)] qs (fun y => (decide (x.1 = y.1 ∨ x.1 = y.2) || decide (x.2 = y.1 ∨ x.2 = y.2))) pD nd rfl (by rfl) (di_tupM (dx_var 4)) (by omega) (fun y hy s0 H0 C cl fp => dg_name 5 nd) (fun y hy s0 H0 C cl fp => by exact DT.to (DW.dt (dw_or (DC.dt (dc_inIT (ns := [((y.1 : Nat) : Int), ((y.2 : Nat) : Int)]) (by rfl) (dx_ixT (d := .int (x.1 : Nat)) (ds := [.int (x.1 : Nat), .int (x.2 : Nat)]) (dx_var 2) dx_int (by fail "side")) (dx_var 5))) fun _ => dw_one (DC.dt (dc_inIT (ns := [((y.1 : Nat) : Int), ((y.2 : Nat) : Int)]) (by rfl) (dx_ixT (d := .int (x.2 : Nat)) (ds := [.int (x.1 : Nat), .int (x.2 : Nat)]) (dx_var 2) dx_int (by fail "side")) (dx_var 5))))) (by rw [cs2, cs2])) (fun y hy _ s0 H0 C cl fp => by exact (dx_var 5))) (smok_list (n := 2) (by rw [List.length_map]; have := List.length_filter_le (fun y : Nat × Nat => (decide (x.1 = y.1 ∨ x.1 = y.2) || decide (x.2 = y.1 ∨ x.2 = y.2))) qs; omega) (fun d hd => by obtain ⟨z, _, rfl⟩ := List.mem_map.mp hd; exact smok_pD z)) (by decide))) (by unfold apartB; rw [List.isEmpty_map])) (fun hk H' c => ?_) fun hk H' c => ?_
      · refine fs_app 3 (d := ppD (qs ++ [x])) c rfl (by rw [List.length_map]; exact hlm) (by exact DX.dat (dx_catT (dx_var 4) (dx_tup (ds := [pD x]) (da_cons (dx_var 2) da_nil)) (by rw [List.length_map]; show qs.length + 1 ≤ _; omega)) (by unfold ppD; rw [List.map_append]; rfl)) fun H' c => fs_nil (fs_nil ⟨(), ?_⟩)
        rw [es, if_pos hk, List.map_append]
        exact c.sub (by fail "sub")
      · refine fs_nil ⟨(), ?_⟩
        rw [es, if_neg (by rw [hk]; exact Bool.false_ne_true), List.append_nil]
        exact c.sub (by fail "sub")
    · have c2 := c.rel 3 rfl
      rw [List.take_of_length_le (Nat.le_refl _)] at c2
      have hcl : (L.map ppD).length + (((L.filter fun qs => apartB qs x).map fun qs => qs ++ [x]).map ppD).length ≤ 100000 := by
        rw [List.length_map, List.length_map, List.length_map]
        have := List.length_filter_le (fun qs => apartB qs x) L
        omega
      refine fs_set 1 (t := dat (.list ((lawPg (ps.take (n + 1))).map ppD))) nd c2 (by exact DX.dat (dx_catL (dx_var 1) (dx_var 3) hcl) (by rw [et, List.map_append])) fun σ H' c => fs_nil ⟨(), c.sub (by fail "sub")⟩
  · rw [List.take_of_length_le (Nat.le_refl _)] at c
    exact fs_retE c (by exact (dx_var 1)) q
/-! ### outcomes -/
def lawOuts (ps : List (Nat × Nat)) : List (List Nat) := ps.foldl (fun found x => (found.map fun l => l ++ [x.1]) ++ found.map fun l => l ++ [x.2]) [[]]
def intsD (l : List Nat) : PyData := .list ((cs l).map .int)
theorem lawOuts_take {ps : List (Nat × Nat)} {n : Nat} {x : Nat × Nat} (e : ps[n]? = some x) : lawOuts (ps.take (n + 1)) = ((lawOuts (ps.take n)).map fun l => l ++ [x.1]) ++ (lawOuts (ps.take n)).map fun l => l ++ [x.2] := by
  unfold lawOuts
  rw [List.take_succ, e, List.foldl_append]
  rfl
theorem lawOuts_len (ps : List (Nat × Nat)) : ∀ n, (lawOuts (ps.take n)).length ≤ 2 ^ n ∧ ∀ qs ∈ lawOuts (ps.take n), qs.length ≤ n
  | 0 => by simp [lawOuts]
  | n + 1 => by
    obtain ⟨h1, h2⟩ := lawOuts_len ps n
    have hp : 2 ^ (n + 1) = 2 ^ n + 2 ^ n := by rw [Nat.pow_succ]; omega
    cases e : ps[n]? with
    | none =>
      have z : ps.take (n + 1) = ps.take n := by rw [List.take_succ, e, Option.toList_none, List.append_nil]
      rw [z]
      exact ⟨by omega, fun qs hq => Nat.le_succ_of_le (h2 qs hq)⟩
    | some x =>
      rw [lawOuts_take e]
      refine ⟨by rw [List.length_append, List.length_map, List.length_map]; omega, fun qs hq => ?_⟩
      rcases List.mem_append.mp hq with hq | hq <;>
      · obtain ⟨rs, hr, rfl⟩ := List.mem_map.mp hq
        have := h2 rs hr
        rw [List.length_append, List.length_singleton]
        omega
theorem intsD_app (l : List Nat) (n : Nat) : intsD (l ++ [n]) = .list ((cs l).map .int ++ [.int (n : Nat)]) := by
  unfold intsD cs
  rw [List.map_append, List.map_append]
  rfl
theorem fn_law_outcomes (G : Md K mg) : C8.Cal P w K mg base 1 "_law_outcomes" (spP T (fun (i : {ps : List (Nat × Nat) // ps.length ≤ 13}) => [dat (ppD i.1)]) fun i => dat (.list ((lawOuts i.1).map intsD))) [] := by
  refine fn_mk G.d__law_outcomes ["_law_pairing", "_law_found", "_law_one", "_law_other", "_law_won"] (by decide +kernel) (fun _ => rfl) fun ⟨ps, ok⟩ cdv A outer s H vs Q E f hr nd q c => ?_
  have ok : ps.length ≤ 13 := ok
  have p13 : ∀ n, n ≤ 13 → 2 ^ n ≤ 8192 := fun n h => Nat.pow_le_pow_right (by decide) h
  refine fs_set 1 (t := dat (.list ((lawOuts (ps.take 0)).map intsD))) nd c (by exact dx_lst (ds := [.list []]) (da_cons (dx_lst (ds := []) da_nil) da_nil)) fun σ H' c => ?_
  refine fs_forM (ι := Unit) (xs := ps) (js := [2, 3]) (fun n _ => [some (dat (ppD ps)), some (dat (.list ((lawOuts (ps.take n)).map intsD))), none, none, none]) (fun n _ => oN) (fun n x _ => [some (dat (ppD ps)), some (dat (.list ((lawOuts (ps.take n)).map intsD))), some (dat (.int (x.1 : Nat))), some (dat (.int (x.2 : Nat))), none]) () c (di_tupM (r := pD) (dx_var 0)) rfl (fun n x i e => dg_tup2 (i1 := 2) (i2 := 3) rfl nd) (fun n x i H0 e g σ' H' c => ?_) (fun i σ' H' c => ?_)
  · have hn := (List.getElem?_eq_some_iff.mp e).1
    obtain ⟨l1, l2⟩ := lawOuts_len ps n
    have l3 := p13 n (by omega)
    have et := lawOuts_take e
    generalize hL : lawOuts (ps.take n) = L at c l1 l2 et
    refine fs_set 1 (t := dat (.list ((lawOuts (ps.take (n + 1))).map intsD))) nd c (by exact DX.dat (dx_catL (dx_lc [("_law_won", 4)] L (fun l => intsD (l ++ [x.1])) nd rfl (by rfl) (di_listM (dx_var 1)) (by omega) (fun l hl s0 H0 C cl fp => dg_name 4 nd) (fun l hl s0 H0 C cl fp => by exact DX.dat (dx_catL (dx_var 4) (dx_lst (ds := [.int (x.1 : Nat)]) (da_cons (dx_var 2) da_nil)) (by have := l2 l hl; rw [List.length_map, cs_len]; show l.length + 1 ≤ _; omega)) (by rw [intsD_app]))) (dx_lc [("_law_won", 4)] L (fun l => intsD (l ++ [x.2])) nd rfl (by rfl) (di_listM (dx_var 1)) (by omega) (fun l hl s0 H0 C cl fp => dg_name 4 nd) (fun l hl s0 H0 C cl fp => by exact DX.dat (dx_catL (dx_var 4) (dx_lst (ds := [.int (x.2 : Nat)]) (da_cons (dx_var 3) da_nil)) (by have := l2 l hl; rw [List.length_map, cs_len]; show l.length + 1 ≤ _; omega)) (by rw [intsD_app]))) (by rw [List.length_map, List.length_map]; omega)) (by rw [et, List.map_append, List.map_map, List.map_map]; rfl)) fun σ H' c => fs_nil ⟨(), c.sub (by fail "sub")⟩
  · rw [List.take_of_length_le (Nat.le_refl _)] at c
    exact fs_retE c (by exact (dx_var 1)) q
end
end G
set_option Elab.async false
set_option linter.all false
set_option maxRecDepth 100000
set_option maxHeartbeats 1000000
set_option pp.maxSteps 400
namespace G
open PySem PySem.Spec L2 LamX NdefX
local macro_rules | `(tactic| fail "sub") => `(tactic| first | exact Sub.nil | (refine Sub.drop ?_; fail "sub") | (refine Sub.same ?_; fail "sub"))
local macro_rules | `(tactic| fail "side") => `(tactic| first | assumption | rfl | omega | decide)
theorem mask_fold (n : Nat) : ∀ (l : List Nat) (m : Nat), (l.foldl (fun m i => m ||| 2 ^ i) m).testBit n = (m.testBit n || decide (n ∈ l))
  | [], m => by simp
  | x :: l, m => by
    rw [List.foldl_cons, mask_fold n l, Nat.testBit_or, Nat.testBit_two_pow, Bool.or_assoc]
    congr 1
    rw [Bool.eq_iff_iff, Bool.or_eq_true, decide_eq_true_iff, decide_eq_true_iff, decide_eq_true_iff, List.mem_cons]
    exact ⟨fun h => h.imp (fun h => h.symm) id, fun h => h.imp (fun h => h.symm) id⟩
theorem mask_bit (l : List Nat) (n : Nat) : (maskOf l).testBit n = decide (n ∈ l) := by
  unfold maskOf
  rw [mask_fold, Nat.zero_testBit, Bool.false_or]
mutual
def Aim.within (lot : List Nat) : Aim → Aim
  | .bd n => if n ∈ lot then .bd (lot.idxOf n) else .node .some []
  | .node kd as => .node kd (Aim.withins lot as)
def Aim.withins (lot : List Nat) : List Aim → List Aim
  | [] => []
  | a :: as => a.within lot :: Aim.withins lot as
end
theorem withins_map (lot : List Nat) : ∀ as : List Aim, Aim.withins lot as = as.map (Aim.within lot)
  | [] => rfl
  | a :: as => by rw [Aim.withins, withins_map lot as]; rfl
def lotsL : Nat → List (List Nat)
  | 0 => [[]]
  | n + 1 => lotsL n ++ (lotsL n).map fun l => l ++ [n]
theorem lotsL_len : ∀ n, (lotsL n).length = 2 ^ n ∧ ∀ l ∈ lotsL n, l.length ≤ n
  | 0 => by simp [lotsL]
  | n + 1 => by
    obtain ⟨h1, h2⟩ := lotsL_len n
    refine ⟨by rw [lotsL, List.length_append, List.length_map, h1, Nat.pow_succ]; omega, fun l hl => ?_⟩
    rw [lotsL] at hl
    rcases List.mem_append.mp hl with hl | hl
    · exact Nat.le_succ_of_le (h2 l hl)
    · obtain ⟨k, hk, rfl⟩ := List.mem_map.mp hl
      have := h2 k hk
      rw [List.length_append, List.length_singleton]
      omega
def minus (l : List Nat) (x : Nat) : List Nat := l.filter fun y => !decide (y = x)
def leastOne (ls : List (List Nat)) (l : List Nat) : Bool := (l.filter fun x => decide (minus l x ∈ ls)).isEmpty
def leastLaw (ls : List (List Nat)) : List (List Nat) := sortLots (ls.filter (leastOne ls))
section
variable {P : Program} {w : World} {K : PySem.W.Frag} {mg : Str → Option Value} {base : Heap} {T : List NTab}
theorem fn_law_reaches (G : Md K mg) (d : Nat) : C8.Cal P w K mg base (d + 1) "_law_reaches" (spP T (fun (i : {p : Aim × List Nat // p.1.depth ≤ d ∧ ∃ m, p.1.ok m}) => [dat i.1.1.enc, dat (intsD i.1.2)]) fun i => dat (.bool (i.1.1.holds (maskOf i.1.2)))) [] := by
  induction d with
  | zero =>
    refine fn_mk G.d__law_reaches ["_law_aim_here", "_law_won", "_law_good", "_law_one"] (by decide +kernel) (fun _ => rfl) fun ⟨⟨a, m⟩, ok⟩ cdv A outer s H vs Q E f hr nd q c => ?_
    have z := ok.1
    have z2 := depth_pos a
    exact absurd z (by show ¬ a.depth ≤ 0; omega)
  | succ d ih =>
    refine fn_mk G.d__law_reaches ["_law_aim_here", "_law_won", "_law_good", "_law_one"] (by decide +kernel) (fun _ => rfl) fun ⟨⟨a, l⟩, ok⟩ cdv A outer s H vs Q E f hr nd q c => ?_
    cases a with
    | bd n =>
      refine fs_if1 (k := true) c (by exact DT.to (dt_not (dt_val (dx_isi (d := .int (n : Nat)) G.b_isinstance G.b_tuple (by rfl) (dx_var 0) (by rfl)))) rfl) (fun _ H' c => ?_) fun hk => by cases hk
      exact fs_retE c (by exact DX.dat (DC.dx (dc_inIL (ns := cs l) (by rfl) (dx_var 0) (dx_var 1))) (congrArg PyData.bool (by
        rw [mem_cs, Aim.holds, mask_bit]))) q
    | node kd as =>
      obtain ⟨hdep, mo, hok⟩ := ok
      have hdep : 1 + Aim.depths as ≤ d + 1 := hdep
      rw [Aim.ok] at hok
      obtain ⟨ok1, ok2, ok3⟩ := hok
      have hd : ∀ x ∈ as, x.depth ≤ d := depths_le.mp (by omega)
      have hcount : ∀ m, ((as.filter fun x => x.holds m).map Aim.enc).length = (Aim.holdss m as).countP id := fun m => by
        rw [List.length_map, holdss_map, List.countP_map, List.countP_eq_length_filter]
        rfl
      have hall : ∀ m, (Aim.holdss m as).all id = decide ((Aim.holdss m as).countP id = as.length) := fun m => by
        have e : (Aim.holdss m as).length = as.length := by rw [holdss_map, List.length_map]
        rw [← e, Bool.eq_iff_iff, decide_eq_true_iff, List.all_eq_true, List.countP_eq_length]
      have hany : ∀ m, (Aim.holdss m as).any id = decide (0 < (Aim.holdss m as).countP id) := fun m => by
        rw [Bool.eq_iff_iff, decide_eq_true_iff, List.any_eq_true, List.countP_pos_iff]
      cases kd with
      | all =>
        refine fs_if1 (k := false) c (by exact DT.to (dt_not (dt_val (dx_isi (d := (Aim.node .all as).enc) G.b_isinstance G.b_tuple (by rfl) (dx_var 0) (by rfl)))) rfl) (fun hk => by cases hk) fun _ H' c => ?_
        refine fs_set 2 nd c (by exact DX.dat (dx_lenL G.b_len (dx_lcIf [("_law_one", 3)] as (fun x => x.holds (maskOf l)) Aim.enc nd rfl (by rfl) (di_tupM (r := Aim.enc) (dx_ixT (dx_var 0) (dx_neg dx_int) (by rw [encs_map]; rfl))) (by omega) (fun x hx s0 H0 C cl fp => dg_name 3 nd) (fun x hx s0 H0 C cl fp => by exact dt_val (dx_call ih hr ⟨(x, l), hd x hx, mo, oks_iff.mp ok3 x hx⟩ (da_cons (dx_var 3) (da_cons (dx_var 1) da_nil)))) (fun x hx _ s0 H0 C cl fp => by exact (dx_var 3)))) (by rw [hcount])) fun σ H' c => ?_
        refine fs_if1 (k := true) c (by exact DT.to (DC.dt (dc_eqS (dx_ixT (dx_var 0) dx_int (by fail "side")) dx_str)) rfl) (fun _ H' c => ?_) fun hk => by cases hk
        exact fs_retE c (by exact DX.dat (DC.dx (dc_eqI (dx_var 2) (dx_lenT G.b_len (dx_ixT (dx_var 0) (dx_neg dx_int) (by rw [encs_map]; rfl))))) (congrArg PyData.bool (by
          show decide ((((Aim.holdss (maskOf l) as).countP id : Nat) : Int) = ((as.map Aim.enc).length : Nat)) = (Aim.holdss (maskOf l) as).all id
          rw [hall, List.length_map, Bool.eq_iff_iff, decide_eq_true_iff, decide_eq_true_iff]
          omega))) q
      | some =>
        refine fs_if1 (k := false) c (by exact DT.to (dt_not (dt_val (dx_isi (d := (Aim.node .some as).enc) G.b_isinstance G.b_tuple (by rfl) (dx_var 0) (by rfl)))) rfl) (fun hk => by cases hk) fun _ H' c => ?_
        refine fs_set 2 nd c (by exact DX.dat (dx_lenL G.b_len (dx_lcIf [("_law_one", 3)] as (fun x => x.holds (maskOf l)) Aim.enc nd rfl (by rfl) (di_tupM (r := Aim.enc) (dx_ixT (dx_var 0) (dx_neg dx_int) (by rw [encs_map]; rfl))) (by omega) (fun x hx s0 H0 C cl fp => dg_name 3 nd) (fun x hx s0 H0 C cl fp => by exact dt_val (dx_call ih hr ⟨(x, l), hd x hx, mo, oks_iff.mp ok3 x hx⟩ (da_cons (dx_var 3) (da_cons (dx_var 1) da_nil)))) (fun x hx _ s0 H0 C cl fp => by exact (dx_var 3)))) (by rw [hcount])) fun σ H' c => ?_
        refine fs_if1 (k := false) c (by exact DT.to (DC.dt (dc_eqS (dx_ixT (dx_var 0) dx_int (by fail "side")) dx_str)) rfl) (fun hk => by cases hk) fun _ H' c => ?_
        refine fs_if1 (k := true) c (by exact DT.to (DC.dt (dc_eqS (dx_ixT (dx_var 0) dx_int (by fail "side")) dx_str)) rfl) (fun _ H' c => ?_) fun hk => by cases hk
        exact fs_retE c (by exact DX.dat (DC.dx (dc_gt (dx_var 2) dx_int)) (congrArg PyData.bool (by
          show decide ((0 : Int) < (((Aim.holdss (maskOf l) as).countP id : Nat) : Int)) = (Aim.holdss (maskOf l) as).any id
          rw [hany, Bool.eq_iff_iff, decide_eq_true_iff, decide_eq_true_iff]
          omega))) q
      | least k =>
        refine fs_if1 (k := false) c (by exact DT.to (dt_not (dt_val (dx_isi (d := (Aim.node (.least k) as).enc) G.b_isinstance G.b_tuple (by rfl) (dx_var 0) (by rfl)))) rfl) (fun hk => by cases hk) fun _ H' c => ?_
        refine fs_set 2 nd c (by exact DX.dat (dx_lenL G.b_len (dx_lcIf [("_law_one", 3)] as (fun x => x.holds (maskOf l)) Aim.enc nd rfl (by rfl) (di_tupM (r := Aim.enc) (dx_ixT (dx_var 0) (dx_neg dx_int) (by rw [encs_map]; rfl))) (by omega) (fun x hx s0 H0 C cl fp => dg_name 3 nd) (fun x hx s0 H0 C cl fp => by exact dt_val (dx_call ih hr ⟨(x, l), hd x hx, mo, oks_iff.mp ok3 x hx⟩ (da_cons (dx_var 3) (da_cons (dx_var 1) da_nil)))) (fun x hx _ s0 H0 C cl fp => by exact (dx_var 3)))) (by rw [hcount])) fun σ H' c => ?_
        refine fs_if1 (k := false) c (by exact DT.to (DC.dt (dc_eqS (dx_ixT (dx_var 0) dx_int (by fail "side")) dx_str)) rfl) (fun hk => by cases hk) fun _ H' c => ?_
        refine fs_if1 (k := false) c (by exact DT.to (DC.dt (dc_eqS (dx_ixT (dx_var 0) dx_int (by fail "side")) dx_str)) rfl) (fun hk => by cases hk) fun _ H' c => ?_
        exact fs_retE c (by exact DX.dat (DC.dx (dc_ge (dx_var 2) (dx_ixT (dx_var 0) dx_int (by fail "side")))) (congrArg PyData.bool (by
          show decide (((k : Nat) : Int) ≤ (((Aim.holdss (maskOf l) as).countP id : Nat) : Int)) = decide (k ≤ (Aim.holdss (maskOf l) as).countP id)
          rw [Bool.eq_iff_iff, decide_eq_true_iff, decide_eq_true_iff]
          omega))) q
theorem fn_law_within (G : Md K mg) (d : Nat) : C8.Cal P w K mg base (d + 1) "_law_within" (spP T (fun (i : {p : Aim × List Nat // p.1.depth ≤ d ∧ ∃ m, p.1.ok m}) => [dat i.1.1.enc, lotT i.1.2]) fun i => dat (i.1.1.within i.1.2).enc) [] := by
  induction d with
  | zero =>
    refine fn_mk G.d__law_within ["_law_aim_here", "_law_lot", "_law_one"] (by decide +kernel) (fun _ => rfl) fun ⟨⟨a, m⟩, ok⟩ cdv A outer s H vs Q E f hr nd q c => ?_
    have z := ok.1
    have z2 := depth_pos a
    exact absurd z (by show ¬ a.depth ≤ 0; omega)
  | succ d ih =>
    refine fn_mk G.d__law_within ["_law_aim_here", "_law_lot", "_law_one"] (by decide +kernel) (fun _ => rfl) fun ⟨⟨a, l⟩, ok⟩ cdv A outer s H vs Q E f hr nd q c => ?_
    cases a with
    | bd n =>
      refine fs_if1 (k := true) c (by exact DT.to (dt_not (dt_val (dx_isi (d := .int (n : Nat)) G.b_isinstance G.b_tuple (by rfl) (dx_var 0) (by rfl)))) rfl) (fun _ H' c => ?_) fun hk => by cases hk
      have hix : decide (n ∈ l) = true → l[l.idxOf n]? = some n := fun hk => by
        have hm : n ∈ l := of_decide_eq_true hk
        have hlt : l.findIdx (· == n) < l.length := List.findIdx_lt_length_of_exists ⟨n, hm, by simp⟩
        have z := List.findIdx_getElem (w := hlt)
        show l[l.findIdx (· == n)]? = some n
        rw [List.getElem?_eq_getElem hlt, beq_iff_eq.mp z]
      have hfi : ∀ m, m < l.idxOf n → l[m]? ≠ some n := fun m hm e => by
        have h2 := List.not_of_lt_findIdx hm
        obtain ⟨hlt, he⟩ := List.getElem?_eq_some_iff.mp e
        simp [he] at h2
      have e1 : decide (n ∈ l) = true → PyData.int ((l.idxOf n : Nat) : Int) = ((Aim.bd n).within l).enc := fun hk => by
        rw [Aim.within, if_pos (of_decide_eq_true hk)]
        rfl
      have e2 : decide (n ∈ l) = false → PyData.tuple [.str "some", .tuple []] = ((Aim.bd n).within l).enc := fun hk => by
        rw [Aim.within, if_neg (of_decide_eq_false hk)]
        rfl
      exact fs_retE c (by exact dx_ifExp (k := decide (n ∈ l)) (DT.to (DC.dt (dc_inIT (ns := cs l) (by rfl) (dx_var 0) (dx_unZ (dx_var 1)))) mem_cs) (fun hk => DX.dat (dx_lotIndex (l := l) (n := n) (j := l.idxOf n) (dx_var 1) (dx_var 0) (hix hk) hfi) (e1 hk)) (fun hk => DX.dat (dx_tup (ds := [.str "some", .tuple []]) (da_cons dx_str (da_cons (dx_tup (ds := []) da_nil) da_nil))) (e2 hk))) q
    | node kd as =>
      obtain ⟨hdep, mo, hok⟩ := ok
      have hdep : 1 + Aim.depths as ≤ d + 1 := hdep
      rw [Aim.ok] at hok
      obtain ⟨ok1, ok2, ok3⟩ := hok
      have hd : ∀ x ∈ as, x.depth ≤ d := depths_le.mp (by omega)
      have ew : Aim.encs (Aim.withins l as) = as.map fun x => (x.within l).enc := by rw [encs_map, withins_map, List.map_map]; rfl
      cases kd with
      | all =>
        refine fs_if1 (k := false) c (by exact DT.to (dt_not (dt_val (dx_isi (d := (Aim.node .all as).enc) G.b_isinstance G.b_tuple (by rfl) (dx_var 0) (by rfl)))) rfl) (fun hk => by cases hk) fun _ H' c => ?_
        exact fs_retE c (by exact DX.dat (dx_catT (ds := [.str "all"]) (DX.dat (dx_slT (ds := [.str "all", .tuple (Aim.encs as)]) (dx_var 0) do_none (do_some (dx_neg dx_int))) rfl) (dx_tup (ds := [.tuple (Aim.encs (Aim.withins l as))]) (da_cons (DX.dat (dx_tupOfL G.b_tuple (dx_lc [("_law_one", 2)] as (fun x => (x.within l).enc) nd rfl (by rfl) (di_tupM (r := Aim.enc) (dx_ixT (dx_var 0) (dx_neg dx_int) (by rw [encs_map]; rfl))) (by omega) (fun x hx s0 H0 C cl fp => dg_name 2 nd) (fun x hx s0 H0 C cl fp => by exact dx_call ih hr ⟨(x, l), hd x hx, mo, oks_iff.mp ok3 x hx⟩ (da_cons (dx_var 2) (da_cons (dx_var 1) da_nil))))) (by rw [ew])) da_nil)) (by show 1 + 1 ≤ _; decide)) rfl) q
      | some =>
        refine fs_if1 (k := false) c (by exact DT.to (dt_not (dt_val (dx_isi (d := (Aim.node .some as).enc) G.b_isinstance G.b_tuple (by rfl) (dx_var 0) (by rfl)))) rfl) (fun hk => by cases hk) fun _ H' c => ?_
        exact fs_retE c (by exact DX.dat (dx_catT (ds := [.str "some"]) (DX.dat (dx_slT (ds := [.str "some", .tuple (Aim.encs as)]) (dx_var 0) do_none (do_some (dx_neg dx_int))) rfl) (dx_tup (ds := [.tuple (Aim.encs (Aim.withins l as))]) (da_cons (DX.dat (dx_tupOfL G.b_tuple (dx_lc [("_law_one", 2)] as (fun x => (x.within l).enc) nd rfl (by rfl) (di_tupM (r := Aim.enc) (dx_ixT (dx_var 0) (dx_neg dx_int) (by rw [encs_map]; rfl))) (by omega) (fun x hx s0 H0 C cl fp => dg_name 2 nd) (fun x hx s0 H0 C cl fp => by exact dx_call ih hr ⟨(x, l), hd x hx, mo, oks_iff.mp ok3 x hx⟩ (da_cons (dx_var 2) (da_cons (dx_var 1) da_nil))))) (by rw [ew])) da_nil)) (by show 1 + 1 ≤ _; decide)) rfl) q
      | least k =>
        refine fs_if1 (k := false) c (by exact DT.to (dt_not (dt_val (dx_isi (d := (Aim.node (.least k) as).enc) G.b_isinstance G.b_tuple (by rfl) (dx_var 0) (by rfl)))) rfl) (fun hk => by cases hk) fun _ H' c => ?_
        exact fs_retE c (by exact DX.dat (dx_catT (ds := [.str "least", .int (k : Nat)]) (DX.dat (dx_slT (ds := [.str "least", .int (k : Nat), .tuple (Aim.encs as)]) (dx_var 0) do_none (do_some (dx_neg dx_int))) rfl) (dx_tup (ds := [.tuple (Aim.encs (Aim.withins l as))]) (da_cons (DX.dat (dx_tupOfL G.b_tuple (dx_lc [("_law_one", 2)] as (fun x => (x.within l).enc) nd rfl (by rfl) (di_tupM (r := Aim.enc) (dx_ixT (dx_var 0) (dx_neg dx_int) (by rw [encs_map]; rfl))) (by omega) (fun x hx s0 H0 C cl fp => dg_name 2 nd) (fun x hx s0 H0 C cl fp => by exact dx_call ih hr ⟨(x, l), hd x hx, mo, oks_iff.mp ok3 x hx⟩ (da_cons (dx_var 2) (da_cons (dx_var 1) da_nil))))) (by rw [ew])) da_nil)) (by show 2 + 1 ≤ _; decide)) rfl) q
theorem fn_law_lots (G : Md K mg) : C8.Cal P w K mg base 1 "_law_lots" (spP T (fun (i : {m : Nat // m ≤ 10}) => [dat (.int (i.1 : Nat))]) fun i => listT ((lotsL i.1).map lotT)) [] := by
  refine fn_mk G.d__law_lots ["_law_many", "_law_found", "_law_item", "_law_lot"] (by decide +kernel) (fun _ => rfl) fun ⟨m, ok⟩ cdv A outer s H vs Q E f hr nd q c => ?_
  have ok : m ≤ 10 := ok
  have p10 : ∀ n, n ≤ 10 → 2 ^ n ≤ 1024 := fun n h => Nat.pow_le_pow_right (by decide) h
  refine fs_set 1 (t := listT ((lotsL 0).map lotT)) nd c (by exact dx_lstT (ts := [lotT []]) (da_cons ((dx_tup (ds := []) da_nil).to fun v H p => ⟨p, fun z => absurd rfl z⟩) da_nil)) fun σ H' c => ?_
  refine fs_forM (ι := Unit) (xs := List.range m) (js := [2]) (fun n _ => [some (dat (.int (m : Nat))), some (listT ((lotsL n).map lotT)), none, none]) (fun n _ => oN) (fun n x _ => [some (dat (.int (m : Nat))), some (listT ((lotsL n).map lotT)), some (dat (.int (x : Nat))), none]) () c (by exact di_range1N (N := m) G.b_range (dx_var 0) (by omega)) rfl (fun n x i e => dg_name 2 nd) (fun n x i H0 e g σ' H' c => ?_) (fun i σ' H' c => ?_)
  · have hk := (List.getElem?_eq_some_iff.mp e).1
    rw [List.length_range] at hk
    have ek : x = n := by
      rw [List.getElem?_range hk] at e
      exact (Option.some.inj e).symm
    subst ek
    obtain ⟨h1, h2⟩ := lotsL_len x
    have h3 := p10 x (by omega)
    refine fs_set 1 (t := listT ((lotsL (x + 1)).map lotT)) nd c (by
      have z : (lotsL (x + 1)).map lotT = (lotsL x).map lotT ++ (lotsL x).map fun l => lotT (l ++ [x]) := by rw [lotsL, List.map_append, List.map_map]; rfl
      rw [z]
      exact dx_catLT (dx_var 1) (dx_lcT [("_law_lot", 3)] (lotsL x) (fun l => lotT (l ++ [x])) nd rfl (by rfl) (di_listT (dx_var 1)) (by omega) (fun l hl s0 H0 C cl fp => dg_name 3 nd) (fun l hl s0 H0 C cl fp => by exact dx_lotCat (dx_unZ (dx_var 3)) (dx_var 2) (by have := h2 l hl; omega))) (by rw [List.length_map, List.length_map]; omega)) fun σ H' c => fs_nil ⟨(), c.sub (by fail "sub")⟩
  · rw [List.length_range] at c
    exact fs_retE c (by exact (dx_var 1)) q
structure OkLeast (ls : List (List Nat)) : Prop where
  len : ls.length ≤ 5000
  lens : ∀ l ∈ ls, l.length ≤ 1000
  ne : (∀ l ∈ ls.filter (leastOne ls), l ≠ []) ∨ (ls.filter (leastOne ls)).length ≤ 1
theorem fn_law_least (G : Md K mg) : C8.Cal P w K mg base 1 "_law_least" (spP T (fun (i : {ls : List (List Nat) // OkLeast ls}) => [dat (.list (i.1.map lotD))]) fun i => dat (.list ((leastLaw i.1).map lotD))) [] := by
  refine fn_mk G.d__law_least ["_law_lots_here", "_law_found", "_law_lot", "_law_item", "_law_other"] (by decide +kernel) (fun _ => rfl) fun ⟨ls, ok⟩ cdv A outer s H vs Q E f hr nd q c => ?_
  have hu := hr.units
  have hu65 : (bodyX P w K mg base ["_law_lots_here", "_law_found", "_law_lot", "_law_item", "_law_other"] "_law_least" (top 108) f cdv A outer s H E).A.units + 65 < cLine := by have := hr.un; omega
  have hl : ls.length ≤ 5000 := ok.len
  refine fs_own 1 nd c (fun _ => pe_lst pa_nil) fun a σ H' c => ?_
  refine fs_forM (ι := Unit) (xs := ls) (js := [2]) (fun n _ => [some (dat (.list (ls.map lotD))), some (tyv (.ref a)), none, none, none]) (fun n _ => oC a (((ls.take n).filter (leastOne ls)).map lotD) oN) (fun n l _ => [some (dat (.list (ls.map lotD))), some (tyv (.ref a)), some (dat (lotD l)), none, none]) () c (di_listM (dx_var 0)) rfl (fun n x i e => dg_name 2 nd) (fun n l i H0 e g σ' H' c => ?_) (fun i σ' H' c => ?_)
  · have hll : l.length ≤ 1000 := ok.lens l (List.mem_of_getElem? e)
    have hn := (List.getElem?_eq_some_iff.mp e).1
    have es : (ls.take (n + 1)).filter (leastOne ls) = (ls.take n).filter (leastOne ls) ++ (if leastOne ls l = true then [l] else []) := by
      rw [List.take_succ, e, List.filter_append]
      congr 1
      simp only [Option.toList_some, List.filter_cons, List.filter_nil]
    have hlen : ((ls.take n).filter (leastOne ls)).length ≤ 100000 := by
      have := List.length_filter_le (leastOne ls) (ls.take n)
      have := List.length_take_le n ls
      omega
    have em : ∀ x, lotD (minus l x) = .tuple (((cs l).filter fun y => !decide (y = ((x : Nat) : Int))).map .int) := fun x => by
      unfold minus lotD
      rw [filter_cs]
    refine fs_if1 (k := leastOne ls l) c (by exact DT.to (DC.dt (dc_eqNil (n := 2) hu (dx_lcIf [("_law_item", 3)] l (fun x => decide (minus l x ∈ ls)) (fun x => .int (x : Nat)) nd rfl (by rfl) (di_tupM (r := fun n : Nat => PyData.int (n : Int)) (DX.dat (dx_var 2) (by unfold lotD cs; rw [List.map_map]; rfl))) (by omega) (fun y hy s0 H0 C cl fp => dg_name 3 nd) (fun y hy s0 H0 C cl fp => by exact DC.dt (dc_inLots hu65 (by rfl) (DX.dat (dx_tupOfL G.b_tuple (dx_lcIf [("_law_other", 4)] (cs l) (fun z => !decide (z = ((y : Nat) : Int))) (fun z => .int z) nd rfl (by rfl) (di_tupM (r := PyData.int) (dx_var 2)) (by rw [cs_len]; omega) (fun z hz s0 H0 C cl fp => dg_name 4 nd) (fun z hz s0 H0 C cl fp => by exact DC.dt (dc_neI (dx_var 4) (dx_var 3))) (fun z hz _ s0 H0 C cl fp => by exact (dx_var 4)))) (em y).symm) (dx_var 0) (Nat.le_trans (List.length_filter_le _ _) hll) (by omega) ok.lens)) (fun y hy _ s0 H0 C cl fp => by exact (dx_var 3))) (smok_list (n := 1) (by rw [List.length_map]; have := List.length_filter_le (fun x => decide (minus l x ∈ ls)) l; omega) (fun d hd => by obtain ⟨z, _, rfl⟩ := List.mem_map.mp hd; trivial)) (by decide))) (by unfold leastOne; rw [List.isEmpty_map])) (fun hk H' c => ?_) fun hk H' c => ?_
    · refine fs_app 1 (d := lotD l) c rfl (by rw [List.length_map]; exact hlen) (by exact (dx_var 2)) fun H' c => fs_nil (fs_nil ⟨(), ?_⟩)
      rw [es, if_pos hk, List.map_append]
      exact c.sub (by fail "sub")
    · refine fs_nil ⟨(), ?_⟩
      rw [es, if_neg (by rw [hk]; exact Bool.false_ne_true), List.append_nil]
      exact c.sub (by fail "sub")
  · have c2 := c.rel 1 rfl
    rw [List.take_of_length_le (Nat.le_refl _)] at c2
    have q' : ∀ v H'', Ge T H H'' → (dat (.list (sortD ((ls.filter (leastOne ls)).map lotD)))).P v H'' → Q v H'' := by
      rw [sortLots_map]
      exact q
    exact fs_retE c2 (by exact dx_sortedL hu G.b_sorted (dx_var 1) (PySem.W.AllAlike.of alike_lot) (sortable_lots ok.ne) (fun d hd => by
      obtain ⟨l, _, rfl⟩ := List.mem_map.mp hd
      have := depth_lot l
      omega)) q'
end
end G
set_option Elab.async false
set_option linter.all false
set_option maxRecDepth 100000
set_option maxHeartbeats 4000000
set_option pp.maxSteps 400
namespace L2
open PySem PySem.Spec PyProof.Rows
theorem tuple_mulW1 (l : Addr) (items : Array Value) (n : Nat) (dd : Option Addr) (sl : Array (Option Value)) (u : Tok) :
    Meets (Builtin.«tuple.__mul__» ⟨[.ref l, .int 1 u], []⟩) (fun _ R s => s.heap.get? l = some { cls := .type "tuple", dict := dd, data := .seq items n, slots := sl } ∧
      R (.ok (.ret (Value.ref l))) s) :=
  .of_wp fun prog w A R s h => by
    obtain ⟨hp, g, d, tk, os⟩ := s
    obtain ⟨hl, h⟩ := h
    have f1 := AutoSeq1.idx_int
    have c0 : (decide ((1 : Int) < -(2 ^ 63)) || decide ((1 : Int) ≥ 2 ^ 63)) = false := by decide
    have c1 : (items.isEmpty || (1 : Int) == 1) = true := by simp
    wp_walk using wpAny_loadPart' hl
    repeat (first
      | (refine wpAny_ite_false (decide_eq_false (by rw [c0]; exact Bool.false_ne_true)) ?_; wp_walk using wpAny_loadPart' hl)
      | (refine wpAny_ite_true (decide_eq_true (by rw [c1])) ?_; wp_walk using wpAny_loadPart' hl))
    exact ⟨_, rfl, h⟩
/-- t * 1 -/
def rRepT1 (K : PySem.W.Frag) : R2 := fun x y H Q => ∃ l xs, x = .ref l ∧ y = .int 1 ∧ SqT K H l xs ∧ Q (.ref l) H
theorem op_repT1 {X : Cx} : OpR X (binaryOp .Mult) (rRepT1 X.K) := by
  intro pins s σ H x y v u Q I rx ry h
  obtain ⟨l, xs, rfl, rfl, hT, q⟩ := h
  cases rx
  obtain ⟨t, rfl⟩ := ry
  obtain ⟨its, r, ⟨⟨cls, dd, data, sl⟩, ho, hc, n, hd⟩, hs⟩ := I.tuple hT
  simp only at hc hd
  subst hc hd
  exact wpAny_binaryOp_repeat_ref (T := "tuple") (U := "int") (by decide) ⟨_, ho, rfl⟩ (fun s' => typeIs_int s' 1 t) noFill_tuple_mul F.fills_int_mul F.slot_int_rmul repeat_tuple F.slot_int_index.lookup
    (call_meets F.slot_int_rmul (typeIs_int s 1 t) F.entry_int_rmul (F.args_int_rmul_2 _ _) (int_rmul_tuple 1 t l its.toArray n dd sl)
      ⟨ho, rfl, ⟨_, ho, rfl⟩, call_meets F.slot_tuple_mul ⟨_, ho, rfl⟩ F.entry_tuple_mul (F.args_tuple_mul_2 _ _) (tuple_mulW1 l its.toArray n dd sl t) ⟨ho, ⟨.ref l, H, I, rfl, q⟩⟩⟩)
end L2
namespace G
open PySem PySem.Spec L2 LamX NdefX
open PySem.W (AllAlike Sortable alike)
local macro_rules | `(tactic| fail "sub") => `(tactic| first | exact Sub.nil | (refine Sub.drop ?_; fail "sub") | (refine Sub.same ?_; fail "sub"))
local macro_rules | `(tactic| fail "side") => `(tactic| first | assumption | rfl | omega | decide)
section
variable {T : List NTab} {X : Cx} {Γ : Gam} {a b : Expr} {pos p p2 : Pos}
theorem dqa_of_ints {H : Hp} : ∀ ns : List Int, DqAll H (ns.map V.int) (ns.map PyData.int)
  | [] => .nil
  | x :: ns => .cons (.int x) (dqa_of_ints ns)
theorem rep_ones (m : Nat) : (List.replicate m [V.int 1]).flatten = ((cs (List.replicate m 1)).map V.int) := by
  induction m with
  | zero => rfl
  | succ m ih => rw [List.replicate_succ, List.flatten_cons, ih, List.replicate_succ]; rfl
/-- (1,) * m -/
theorem dx_ones {m : Nat} {kk} {j : Nat} (hb : DX T X Γ b (dat (.int (m : Nat)))) (h1 : 1 ≤ m) (h2 : m ≤ 50) (hs : starEach [.Constant (.int 1) j p2] X.env = (false, eval (.Constant (.int 1) j p2) X.env) :: starEach [] X.env := by rfl) : DX T X Γ (.BinOp (.Tuple [.Constant (.int 1) j p2] kk p) .Mult b pos) (dat (lotD (List.replicate m 1))) := by
  have ha : DX T X Γ (.Tuple [.Constant (.int 1) j p2] kk p) (dat (.tuple [.int 1])) := dx_tup (ds := [.int 1]) (da_cons dx_int da_nil hs)
  by_cases hm : m = 1
  · subst hm
    refine dx_op op_repT1 ha hb fun x y H Q h1 h2 q => ?_
    obtain ⟨l, xs, rfl, e1, f1⟩ := dat_tup h1
    cases dat_int h2
    exact ⟨l, xs, rfl, rfl, sqT_rd e1, q _ H (Ge.refl H) h1⟩
  · refine dx_op op_repT ha hb fun x y H Q h1 h2 q => ?_
    obtain ⟨l, xs, rfl, e1, f1⟩ := dat_tup h1
    cases dat_int h2
    cases dqa_ints (ns := [1]) f1
    refine ⟨l, (m : Int), _, rfl, rfl, sqT_rd e1, (fun z => nomatch z), by omega, by omega, by show 1 ≤ _; decide, fun p hp => q _ _ (Ge.new hp) (.tup (.inl upd_same) ?_)⟩
    have e := rep_ones m
    rw [Int.toNat_natCast]
    rw [show (List.replicate m ([1].map V.int)).flatten = _ from e]
    exact dqa_of_ints _
/-- tuple(range(m)) -/
theorem dx_tupRange {m : Nat} {p1 : Pos} (hc : X.calm = true) (hr : X.mg "range" = none) (ht : X.mg "tuple" = none) (ha : DX T X Γ a (dat (.int (m : Nat)))) (hm : m ≤ 1000) (hg1 : Gl X "tuple" := by rfl) (hg2 : Gl X "range" := by rfl) (hs : starEach [a] X.env = (false, eval a X.env) :: starEach [] X.env := by rfl)
    (hs2 : starEach [.Call (.Name "range" p1) [a] [] p2] X.env = (false, eval (.Call (.Name "range" p1) [a] [] p2) X.env) :: starEach [] X.env := by rfl) : DX T X Γ (.Call (.Name "tuple" p) [.Call (.Name "range" p1) [a] [] p2] [] pos) (dat (lotD (List.range m))) := fun σ H s Q q =>
  we_of (pe_tupRg hc hg1 ht (prg_1 hg2 hr pe_we hs) hs2) (ha σ H s _ fun v H1 g1 p1 => by
    cases dat_int p1
    refine ⟨(m : Int), rfl, RgOk.of_le (by decide) (by omega) (by decide) (by omega), fun r hr => q _ _ (g1.trans (Ge.new hr)) (.tup (.inl upd_same) ?_)⟩
    have e : rgV 0 (m : Int) = (cs (List.range m)).map V.int := by
      unfold rgV cs
      rw [Int.sub_zero, Int.toNat_natCast, List.map_map]
      refine List.map_congr_left fun i _ => ?_
      show V.int (0 + (i : Int)) = V.int (i : Int)
      rw [Int.zero_add]
    rw [e]
    exact dqa_of_ints _)
end
end G
set_option Elab.async false
set_option linter.all false
set_option maxRecDepth 100000
set_option maxHeartbeats 1000000
set_option pp.maxSteps 400
namespace G
open PySem PySem.Spec L2 LamX NdefX
open PySem.W (AllAlike Sortable alike)
local macro_rules | `(tactic| fail "sub") => `(tactic| first | exact Sub.nil | (refine Sub.drop ?_; fail "sub") | (refine Sub.same ?_; fail "sub"))
local macro_rules | `(tactic| fail "side") => `(tactic| first | assumption | rfl | omega | decide)
def sureIn (bs : List Board) (a : Aim) (l : List Nat) : Bool := if l = [] then a.holds 0 else (sureL (pick bs l) (a.within l)).isSome
structure OkSu (p : List Board × Aim) : Prop where
  su : OkSure p
  ai : OkAim (p.2, p.1.length)
structure OkIn (p : List Board × Aim × List Nat) : Prop where
  dep : p.2.1.depth ≤ 8
  ok : ∃ m, p.2.1.ok m
  len : p.2.2.length ≤ 1000
  on : p.2.2 ≠ [] → OkOnly (p.1, p.2.2) ∧ OkSu (pick p.1 p.2.2, p.2.1.within p.2.2)
def costL (pr : List Nat) (ls : List (List Nat)) : List PyData := sortD (ls.map (costD pr))
abbrev sureLots (bs : List Board) (a : Aim) : List (List Nat) := (lotsL bs.length).filter (sureIn bs a)
structure OkEf (p : List Board × Aim × List Nat) : Prop where
  len : p.1.length ≤ 6
  inn : ∀ l ∈ lotsL p.1.length, OkIn (p.1, p.2.1, l)
  le : OkLeast (sureLots p.1 p.2.1)
  en : OkEn (p.1, p.2.1)
  ch : OkCh (p.1, p.2.1, p.2.2)
  su : OkSu (p.1, p.2.1)
  eq : enL p.1 p.2.1 = leastLaw (sureLots p.1 p.2.1)
  mn : ∀ d ds, costL p.2.2 (leastLaw (sureLots p.1 p.2.1)) = d :: ds → minDef ((leastLaw (sureLots p.1 p.2.1)).map (costD p.2.2)) = d
  no : (sureL p.1 p.2.1).isNone = (leastLaw (sureLots p.1 p.2.1)).isEmpty
def goodPg (a : Aim) (ps : List (Nat × Nat)) : Bool := ((lawOuts ps).filter fun l => !a.holds (maskOf l)).isEmpty
def idxP (pairs ps : List (Nat × Nat)) : List Nat := ps.map fun p => pairs.idxOf p
def rowsL (a : Aim) (pairs : List (Nat × Nat)) : List (List Nat) := ((lawPg pairs).filter (goodPg a)).map (idxP pairs)
def meetsAll (rows : List (List Nat)) (lot : List Nat) : Bool := (rows.filter fun row => (row.filter fun n => decide (n ∈ lot)).isEmpty).isEmpty
abbrev meetLots (bs : List Board) (a : Aim) : List (List Nat) := (lotsL (allPairs bs).length).filter (meetsAll (rowsL a (allPairs bs)))
structure OkBf (p : List Board × Aim) : Prop where
  pr : OkPairs p.1
  len : (allPairs p.1).length ≤ 10
  dep : p.2.depth ≤ 8
  ok : ∃ m, p.2.ok m
  mem : ∀ ps ∈ lawPg (allPairs p.1), ∀ x ∈ ps, x ∈ allPairs p.1
  bar : OkBar p
  le : OkLeast (meetLots p.1 p.2)
  su : OkSu p
  eq : barL p.1 p.2 = leastLaw (meetLots p.1 p.2)
  no : decide (barL p.1 p.2 = [[]]) = (sureL p.1 p.2).isNone
def leastA (k m : Nat) : Aim := .node (.least k) ((List.range m).map .bd)
structure OkPf (bs : List Board) : Prop where
  len : 1 ≤ bs.length ∧ bs.length ≤ 20
  gr : (OkGr bs ∧ bs.length ≤ 24) ∧ ∀ ps ∈ greatL bs, (∀ q ∈ ps, q.1 < bs.length ∧ q.2 < bs.length) ∧ ps.length ≤ 1000
  mo : ∃ ps, mostL (greatL bs) = some ps ∧ ps.length ≤ bs.length ∧ OkSu (bs, leastA ps.length bs.length) ∧ OkSu (bs, leastA (ps.length + 1) bs.length) ∧ (sureL bs (leastA ps.length bs.length)).isNone = false ∧ (sureL bs (leastA (ps.length + 1) bs.length)).isNone = true
def mirrorP (l : List Nat) : List (Nat × Nat) := (List.range l.length).map fun k => (k, l.length + l.getD k 0)
structure OkFf (p : List Board × Aim × List Nat) : Prop where
  ne : p.2.2 ≠ []
  on : OkOnly (p.1, p.2.2)
  dep : p.2.1.depth ≤ 8
  ok : ∃ m, p.2.1.ok m
  fol : OkFol ⟨pick p.1 p.2.2, p.2.1.within p.2.2, p.1, p.2.1⟩
  isf : OkIsF (⟨pick p.1 p.2.2, p.2.1.within p.2.2, p.1, p.2.1⟩, mirrorP p.2.2)
  r1 : (sureL (faceB ⟨pick p.1 p.2.2, p.2.1.within p.2.2, p.1, p.2.1⟩) (faceA ⟨pick p.1 p.2.2, p.2.1.within p.2.2, p.1, p.2.1⟩)).isNone = false
  r2 : (spoil (faceA ⟨pick p.1 p.2.2, p.2.1.within p.2.2, p.1, p.2.1⟩) (mirrorP p.2.2)).isNone = true
section
variable {P : Program} {w : World} {K : PySem.W.Frag} {mg : Str → Option Value} {base : Heap} {T : List NTab}
theorem fn_law_is_sure_in (G : Md K mg) (M : Mc K mg) (S : AtSearch K mg) : C8.Cal P w K mg base 45 "_law_is_sure_in" (spP T (fun (i : {p : List Board × Aim × List Nat // OkIn p}) => [hallT K i.1.1, dat i.1.2.1.enc, lotT i.1.2.2]) fun i => dat (.bool (sureIn i.1.1 i.1.2.1 i.1.2.2))) [] := by
  refine fn_mk G.d__law_is_sure_in ["_law_hall", "_law_aim_here", "_law_lot"] (by decide +kernel) (fun _ => rfl) fun ⟨⟨bs, a, l⟩, ok⟩ cdv A outer s H vs Q E f hr nd q c => ?_
  have hu := hr.units
  have hl : l.length ≤ 1000 := ok.len
  refine fs_if1 (k := decide (l = [])) c (by exact DT.to (DC.dt (dc_eqD hu (dx_unZ (dx_var 2)) (dx_tup (ds := []) da_nil) (smok_shaped (smok_lot hl) (by decide)) (smok_shaped (n := 1) (smok_tuple (n := 0) (by decide) (fun d hd => by cases hd)) (by decide)))) (eqv_lot l [])) (fun hk H' c => ?_) fun hk H' c => ?_
  · have h0 : l = [] := of_decide_eq_true hk
    exact fs_retE c (by exact DX.dat (dx_call (fn_law_reaches G 8) hr ⟨(a, []), ok.dep, ok.ok⟩ (da_cons (dx_var 1) (da_cons (DX.dat (dx_lst (ds := []) da_nil) rfl) da_nil))) (by unfold sureIn; rw [if_pos h0]; rfl)) q
  · have h0 : l ≠ [] := of_decide_eq_false hk
    obtain ⟨o1, o2⟩ := ok.on h0
    exact fs_retE c (by exact DX.dat (DC.dx (dc_notN (dx_call (fn_sure G S) hr ⟨(pick bs l, a.within l), o2.su, o2.ai⟩ (da_cons (dx_call (fn_only G M) hr ⟨(bs, l), o1⟩ (da_cons (dx_var 0) (da_cons (dx_unZ (dx_var 2)) da_nil))) (da_cons (dx_call (fn_law_within G 8) hr ⟨(a, l), ok.dep, ok.ok⟩ (da_cons (dx_var 1) (da_cons (dx_var 2) da_nil))) da_nil))) dx_non)) (by
      rw [optP_isNon]
      show PyData.bool (!(sureL (pick bs l) (a.within l)).isNone) = .bool (sureIn bs a l)
      unfold sureIn
      rw [if_neg h0]
      cases sureL (pick bs l) (a.within l) <;> rfl)) q
theorem alike_cost (pr : List Nat) (l m : List Nat) : alike (costD pr l) (costD pr m) = true := by
  unfold costD
  simp only [PySem.W.alike, PySem.W.alikeAll, Bool.and_true, Bool.true_and]
  exact alike_lot l m
theorem depth_cost (pr : List Nat) (l : List Nat) : (costD pr l).depth ≤ 60 := by
  have := depth_lot l
  unfold costD
  simp only [PyData.depth, PyData.depthAll]
  omega
theorem smok_cost {pr l : List Nat} (h : l.length ≤ 1000) : SmOk 3 (costD pr l) := smok_tuple (by show 2 ≤ 100000; decide) fun d hd => by
  rcases List.mem_cons.mp hd with rfl | hd
  · trivial
  · rcases List.mem_cons.mp hd with rfl | hd
    · exact smok_lot h
    · cases hd
theorem fn_law_enough_fits (G : Md K mg) (M : Mc K mg) (S : AtSearch K mg) {cc : Addr} (F : AtC K mg "enough_lots" ["hall", "aim"] (top 73) cc) (TB : TabB base mg cc 461) : C8.Cal P w K mg base 46 "_law_enough_fits" (spP TB0 (fun (i : {p : List Board × Aim × List Nat // OkEf p}) => [tyT (hallT K i.1.1), dat i.1.2.1.enc, dat (lotD i.1.2.2)]) fun i => dat (.bool true)) [] := by
  refine fn_mk G.d__law_enough_fits ["_law_hall", "_law_aim_here", "_law_prices", "_law_many", "_law_due", "_law_costs", "_law_lot", "_law_board"] (by decide +kernel) (fun _ => rfl) fun ⟨⟨bs, a, pr⟩, ok⟩ cdv A outer s H vs Q E f hr nd q c => ?_
  have hu := hr.units
  have hl : bs.length ≤ 6 := ok.len
  obtain ⟨e1, e2⟩ := lotsL_len bs.length
  have p6 : 2 ^ bs.length ≤ 64 := Nat.pow_le_pow_right (by decide) hl
  refine fs_set 3 (t := dat (.int (bs.length : Nat))) nd c (by exact DX.dat (dx_lenT G.b_len (dx_boards (DX.unT (dx_var 0)))) (by rw [List.length_map])) fun σ H' c => ?_
  have hD : ∀ l ∈ leastLaw (sureLots bs a), l.length ≤ 1000 ∧ ∀ b ∈ l, b < bs.length := fun l hl => ok.ch.lt l (by have z : enL bs a = leastLaw (sureLots bs a) := ok.eq; show l ∈ enL bs a; rw [z]; exact hl)
  have hDl : (leastLaw (sureLots bs a)).length ≤ 5000 := by have z : enL bs a = leastLaw (sureLots bs a) := ok.eq; rw [← z]; exact ok.ch.few
  refine fs_set 4 nd c (by exact dx_call (fn_law_least G) hr ⟨sureLots bs a, ok.le⟩ (da_cons (dx_lcIf [("_law_lot", 6)] (lotsL bs.length) (sureIn bs a) lotD nd rfl (by rfl) (di_listT (by exact dx_call (fn_law_lots G) hr ⟨bs.length, by show bs.length ≤ 10; omega⟩ (da_cons (dx_var 3) da_nil))) (by omega) (fun l hl s0 H0 C cl fp => dg_name 6 nd) (fun l hl s0 H0 C cl fp => by exact dt_val (dx_call (fn_law_is_sure_in G M S) hr ⟨(bs, a, l), ok.inn l hl⟩ (da_cons (DX.unT (dx_var 0)) (da_cons (dx_var 1) (da_cons (dx_var 6) da_nil))))) (fun l hl _ s0 H0 C cl fp => by exact dx_unZ (dx_var 6))) da_nil)) fun σ H' c => ?_
  have heq : enL bs a = leastLaw (sureLots bs a) := ok.eq
  have hch : OkCh (bs, a, pr) := ok.ch
  have hmn : ∀ d ds, costL pr (leastLaw (sureLots bs a)) = d :: ds → minDef ((leastLaw (sureLots bs a)).map (costD pr)) = d := ok.mn
  have hno : (sureL bs a).isNone = (leastLaw (sureLots bs a)).isEmpty := ok.no
  generalize hDD : leastLaw (sureLots bs a) = D at c heq hmn hno hD hDl
  have hsm : SmOk 3 (.list (D.map lotD)) := smok_list (by rw [List.length_map]; omega) fun d hd => by
    obtain ⟨l, hl, rfl⟩ := List.mem_map.mp hd
    exact smok_lot (hD l hl).1
  refine fs_if1 (k := false) c (by exact DT.to (dt_not (dt_val (dx_call (fn_law_same G 3) hr ⟨.list (D.map lotD), hsm⟩ (da_cons (DX.dat (dx_call (fn_enough G F TB) hr ⟨(bs, a), ok.en, ok.su.ai⟩ (da_cons (dx_var 0) (da_cons (dx_var 1) da_nil))) (by rw [heq])) (da_cons (dx_var 4) da_nil))))) rfl) (fun hk => by cases hk) fun _ H' c => ?_
  have hat : ∀ b, b < bs.length → atI ((cs pr).map PyData.int) (b : Int) = some (.int ((pr.getD b 0 : Nat) : Int)) := fun b hb => atI_cs (by
    have hp : b < pr.length := by rw [show pr.length = bs.length from hch.len]; exact hb
    rw [List.getD_eq_getElem?_getD, List.getElem?_eq_getElem hp]
    rfl)
  refine fs_set 5 (t := dat (.list (costL pr D))) nd c (by exact dx_sortedL hu G.b_sorted (dx_lc [("_law_lot", 6)] D (costD pr) nd rfl (by rfl) (di_listM (dx_var 4)) (by omega) (fun l hl s0 H0 C cl fp => dg_name 6 nd) (fun l hl s0 H0 C cl fp => by
    obtain ⟨h1, h2⟩ := hD l hl
    exact (by exact dx_tup (ds := [.int (costI pr l), lotD l]) (da_cons (dx_sum (ns := l.map fun b => ((pr.getD b 0 : Nat) : Int)) rfl G.b_sum (DX.dat (dx_lc [("_law_board", 7)] l (fun b => .int ((pr.getD b 0 : Nat) : Int)) nd rfl (by rfl) (di_tupM (r := fun n : Nat => PyData.int (n : Int)) (DX.dat (dx_var 6) (by unfold lotD cs; rw [List.map_map]; rfl))) (by omega) (fun b hb s0 H0 C cl fp => dg_name 7 nd) (fun b hb s0 H0 C cl fp => by exact dx_ixT (dx_var 2) (dx_var 7) (hat b (h2 b hb)))) (by rw [List.map_map]; rfl))) (da_cons (dx_var 6) da_nil))))) (AllAlike.of (alike_cost pr)) (.inl (Sortable.tuples fun l => ⟨_, _, rfl⟩)) (fun d hd => by obtain ⟨l, _, rfl⟩ := List.mem_map.mp hd; exact depth_cost pr l)) fun σ H' c => ?_
  have hpm : (costL pr D).Perm (D.map (costD pr)) := List.mergeSort_perm _ _
  have hcm : SmOk 4 (.list (costL pr D)) := smok_list (by rw [hpm.length_eq, List.length_map]; omega) fun d hd => by
    obtain ⟨l, hl, rfl⟩ := List.mem_map.mp (hpm.mem_iff.mp hd)
    exact smok_cost (hD l hl).1
  have hemp : (costL pr D).isEmpty = D.isEmpty := by
    have z := hpm.length_eq
    rw [List.length_map] at z
    cases h1 : costL pr D with
    | nil => rw [h1] at z; cases D with
      | nil => rfl
      | cons x y => simp at z
    | cons x y => rw [h1] at z; cases D with
      | nil => simp at z
      | cons x y => rfl
  refine fs_if1 (k := (costL pr D).isEmpty) c (by exact DC.dt (dc_eqNil (n := 4) hu (dx_var 5) hcm (by decide))) (fun hk H' c => ?_) fun hk H' c => ?_
  · have hD0 : D = [] := by
      rw [hemp] at hk
      exact List.isEmpty_iff.mp hk
    exact fs_retE c (by exact DX.dat (dx_and (DC.dx (dc_isN (dx_call (fn_cheapest G F TB) hr ⟨(bs, a, pr), hch⟩ (da_cons (dx_var 0) (da_cons (dx_var 1) (da_cons (dx_var 2) da_nil)))) dx_non)) fun _ => DX.one (DC.dx (dc_isN (dx_call (fn_sure G S) hr ⟨(bs, a), ok.su.su, ok.su.ai⟩ (da_cons (DX.unT (dx_var 0)) (da_cons (dx_var 1) da_nil))) dx_non))) (by
      rw [optP_isNon]
      show PyData.bool (isNonD (minDef ((enL bs a).map (costD pr))) && (sureL bs a).isNone) = .bool true
      rw [heq, hno, hD0]
      rfl)) q
  · obtain ⟨d, ds, hds⟩ : ∃ d ds, costL pr D = d :: ds := by
      cases h1 : costL pr D with
      | nil => rw [h1] at hk; cases hk
      | cons d ds => exact ⟨d, ds, rfl⟩
    have hd : SmOk 3 d := hcm.2 d (by rw [hds]; exact List.mem_cons_self)
    have hDe : D.isEmpty = false := by rw [← hemp]; exact hk
    exact fs_retE c (by exact DX.dat (dx_and (dx_call (fn_law_same G 3) hr ⟨d, hd⟩ (da_cons (DX.dat (dx_call (fn_cheapest G F TB) hr ⟨(bs, a, pr), hch⟩ (da_cons (dx_var 0) (da_cons (dx_var 1) (da_cons (dx_var 2) da_nil)))) (by show minDef ((enL bs a).map (costD pr)) = d; rw [heq]; exact hmn d ds hds)) (da_cons (dx_ixL (dx_var 5) dx_int (by rw [hds]; exact atI_nat (j := 0) rfl)) da_nil))) fun _ => DX.one (DC.dx (dc_notN (dx_call (fn_sure G S) hr ⟨(bs, a), ok.su.su, ok.su.ai⟩ (da_cons (DX.unT (dx_var 0)) (da_cons (dx_var 1) da_nil))) dx_non))) (by
      rw [optP_isNon]
      show PyData.bool (true && !(sureL bs a).isNone) = .bool true
      rw [hno, hDe]
      rfl)) q
end
end G
set_option Elab.async false
set_option linter.all false
set_option maxRecDepth 100000
set_option maxHeartbeats 1000000
set_option pp.maxSteps 400
namespace G
open PySem PySem.Spec L2 LamX NdefX
local macro_rules | `(tactic| fail "sub") => `(tactic| first | exact Sub.nil | (refine Sub.drop ?_; fail "sub") | (refine Sub.same ?_; fail "sub"))
local macro_rules | `(tactic| fail "side") => `(tactic| first | assumption | rfl | omega | decide)
theorem eqv_lots : ∀ ls ms : List (List Nat), PyData.eqvAll (ls.map lotD) (ms.map lotD) = decide (ls = ms)
  | [], [] => by rw [List.map_nil, PyData.eqvAll]; rfl
  | [], y :: ys => by rw [List.map_nil, List.map_cons, PyData.eqvAll]; rfl
  | x :: xs, [] => by rw [List.map_nil, List.map_cons, PyData.eqvAll]; rfl
  | x :: xs, y :: ys => by
    rw [List.map_cons, List.map_cons, PyData.eqvAll, eqv_lots xs ys, eqv_lot, Bool.eq_iff_iff, Bool.and_eq_true, decide_eq_true_iff, decide_eq_true_iff, decide_eq_true_iff, List.cons.injEq]
theorem leastA_enc (k m : Nat) : (leastA k m).enc = .tuple [.str "least", .int (k : Nat), lotD (List.range m)] := by
  unfold leastA
  rw [Aim.enc, encs_map, List.map_map]
  unfold lotD cs
  rw [List.map_map]
  rfl
section
variable {P : Program} {w : World} {K : PySem.W.Frag} {mg : Str → Option Value} {base : Heap} {T : List NTab}
theorem fn_law_bars_fit (G : Md K mg) (S : AtSearch K mg) {cc dc : Addr} (F : AtC K mg "sure_lots" ["hall", "aim", "some"] (top 77) cc) (TB : TabB base mg cc 485) (F2 : AtC K mg "bars" ["hall", "aim"] (top 78) dc) (TB2 : TabB base mg dc 492) : C8.Cal P w K mg base 46 "_law_bars_fit" (spP TB0 (fun (i : {p : List Board × Aim // OkBf p}) => [tyT (hallT K i.1.1), dat i.1.2.enc]) fun i => dat (.bool true)) [] := by
  refine fn_mk G.d__law_bars_fit ["_law_hall", "_law_aim_here", "_law_pairs_here", "_law_good", "_law_pairing", "_law_meeting", "_law_lot", "_law_told", "_law_won", "_law_row", "_law_pair", "_law_number"] (by decide +kernel) (fun _ => rfl) fun ⟨⟨bs, a⟩, ok⟩ cdv A outer s H vs Q E f hr nd q c => ?_
  have hu := hr.units
  have hu65 : (bodyX P w K mg base ["_law_hall", "_law_aim_here", "_law_pairs_here", "_law_good", "_law_pairing", "_law_meeting", "_law_lot", "_law_told", "_law_won", "_law_row", "_law_pair", "_law_number"] "_law_bars_fit" (top 110) f cdv A outer s H E).A.units + 65 < cLine := by have := hr.un; omega
  have hl : (allPairs bs).length ≤ 10 := ok.len
  refine fs_set 2 nd c (by exact dx_call (fn_law_pairs G) hr ⟨bs, ok.pr⟩ (da_cons (dx_boards (DX.unT (dx_var 0))) da_nil)) fun σ H' c => ?_
  refine fs_own 3 nd c (fun _ => pe_lst pa_nil) fun fa σ H' c => ?_
  obtain ⟨hPl, hPe⟩ := lawPg_len (allPairs bs) (allPairs bs).length
  rw [List.take_length] at hPl hPe
  have p10 : 2 ^ (allPairs bs).length ≤ 1024 := Nat.pow_le_pow_right (by decide) hl
  have hmem : ∀ ps ∈ lawPg (allPairs bs), ∀ x ∈ ps, x ∈ allPairs bs := ok.mem
  have hix : ∀ x ∈ allPairs bs, (allPairs bs)[(allPairs bs).idxOf x]? = some x := fun x hx => by
    have hlt : (allPairs bs).findIdx (· == x) < (allPairs bs).length := List.findIdx_lt_length_of_exists ⟨x, hx, by simp⟩
    have z := List.findIdx_getElem (w := hlt)
    show (allPairs bs)[(allPairs bs).findIdx (· == x)]? = some x
    rw [List.getElem?_eq_getElem hlt, beq_iff_eq.mp z]
  have hfi : ∀ x m, m < (allPairs bs).idxOf x → (allPairs bs)[m]? ≠ some x := fun x m hm e => by
    have h2 := List.not_of_lt_findIdx hm
    obtain ⟨hlt, he⟩ := List.getElem?_eq_some_iff.mp e
    simp [he] at h2
  have hmL : meetLots bs a = (lotsL (allPairs bs).length).filter (meetsAll (rowsL a (allPairs bs))) := rfl
  have hrowlen : ∀ r ∈ rowsL a (allPairs bs), r.length ≤ 10 := fun r hr => by
    obtain ⟨ps, hps, rfl⟩ := List.mem_map.mp hr
    have := hPe ps (List.mem_filter.mp hps).1
    unfold idxP
    rw [List.length_map]
    omega
  have hrl : (rowsL a (allPairs bs)).length ≤ 1024 := by
    unfold rowsL
    rw [List.length_map]
    have := List.length_filter_le (goodPg a) (lawPg (allPairs bs))
    omega
  refine fs_forM (ι := Unit) (xs := lawPg (allPairs bs)) (js := [4]) (fun n _ => [some (tyT (hallT K bs)), some (dat a.enc), some (dat (.list ((allPairs bs).map pD))), some (tyv (.ref fa)), none, none, none, none, none, none, none, none]) (fun n _ => oC fa (((((lawPg (allPairs bs)).take n).filter (goodPg a)).map (idxP (allPairs bs))).map intsD) oN) (fun n ps _ => [some (tyT (hallT K bs)), some (dat a.enc), some (dat (.list ((allPairs bs).map pD))), some (tyv (.ref fa)), some (dat (ppD ps)), none, none, none, none, none, none, none]) () c (di_listM (by exact dx_call (fn_law_pairings G) hr ⟨allPairs bs, hl⟩ (da_cons (dx_var 2) da_nil))) rfl (fun n x i e => dg_name 4 nd) (fun n ps i H0 e g σ' H' c => ?_) (fun i σ' H' c => ?_)
  · have hps := List.mem_of_getElem? e
    have hpl : ps.length ≤ 10 := by have := hPe ps hps; omega
    have hol := lawOuts_len ps ps.length
    rw [List.take_length] at hol
    obtain ⟨ho1, ho2⟩ := hol
    have po : 2 ^ ps.length ≤ 1024 := Nat.pow_le_pow_right (by decide) hpl
    have es : (((lawPg (allPairs bs)).take (n + 1)).filter (goodPg a)).map (idxP (allPairs bs)) = (((lawPg (allPairs bs)).take n).filter (goodPg a)).map (idxP (allPairs bs)) ++ (if goodPg a ps = true then [idxP (allPairs bs) ps] else []) := by
      rw [List.take_succ, e, List.filter_append, List.map_append]
      congr 1
      simp only [Option.toList_some, List.filter_cons, List.filter_nil]
      split <;> rfl
    have hgl : ((((lawPg (allPairs bs)).take n).filter (goodPg a)).map (idxP (allPairs bs))).length ≤ 100000 := by
      rw [List.length_map]
      have := List.length_filter_le (goodPg a) ((lawPg (allPairs bs)).take n)
      have := List.length_take_le' n (lawPg (allPairs bs))
      omega
    refine fs_if1 (k := goodPg a ps) c (by exact DT.to (DC.dt (dc_eqNil (n := 3) hu (dx_lcIf [("_law_won", 8)] (lawOuts ps) (fun l => !a.holds (maskOf l)) intsD nd rfl (by rfl) (di_listM (by exact dx_call (fn_law_outcomes G) hr ⟨ps, by show ps.length ≤ 13; omega⟩ (da_cons (dx_var 4) da_nil))) (by omega) (fun l hl s0 H0 C cl fp => dg_name 8 nd) (fun l hl s0 H0 C cl fp => by exact dt_not (dt_val (dx_call (fn_law_reaches G 8) hr ⟨(a, l), ok.dep, ok.ok⟩ (da_cons (dx_var 1) (da_cons (dx_var 8) da_nil))))) (fun l hl _ s0 H0 C cl fp => by exact (dx_var 8))) (smok_list (n := 2) (by rw [List.length_map]; have := List.length_filter_le (fun l => !a.holds (maskOf l)) (lawOuts ps); omega) (fun d hd => by
      obtain ⟨l, hl, rfl⟩ := List.mem_map.mp hd
      have := ho2 l (List.mem_filter.mp hl).1
      exact smok_list (n := 1) (by rw [List.length_map, cs_len]; omega) (fun d hd => by obtain ⟨z, _, rfl⟩ := List.mem_map.mp hd; trivial))) (by decide))) (by unfold goodPg; rw [List.isEmpty_map])) (fun hk H' c => ?_) fun hk H' c => ?_
    · refine fs_app 3 (d := intsD (idxP (allPairs bs) ps)) c rfl (by rw [List.length_map]; exact hgl) (by exact DX.dat (dx_lc [("_law_pair", 10)] ps (fun x => .int ((allPairs bs).idxOf x : Nat)) nd rfl (by rfl) (di_tupM (r := pD) (dx_var 4)) (by omega) (fun x hx s0 H0 C cl fp => dg_name 10 nd) (fun x hx s0 H0 C cl fp => by exact dx_pairIndex hu65 (dx_var 2) (dx_var 10) (by omega) (hix x (hmem ps hps x hx)) (hfi x))) (by unfold intsD idxP cs; rw [List.map_map, List.map_map]; rfl)) fun H' c => fs_nil (fs_nil ⟨(), ?_⟩)
      rw [es, if_pos hk, List.map_append]
      exact c.sub (by fail "sub")
    · refine fs_nil ⟨(), ?_⟩
      rw [es, if_neg (by rw [hk]; exact Bool.false_ne_true), List.append_nil]
      exact c.sub (by fail "sub")
  · have c2 := c.rel 3 rfl
    rw [List.take_of_length_le (Nat.le_refl _)] at c2
    have c3 : FC TB0 H [some (tyT (hallT K bs)), some (dat a.enc), some (dat (.list ((allPairs bs).map pD))), some (dat (.list ((rowsL a (allPairs bs)).map intsD))), none, none, none, none, none, none, none, none] oN σ' H' := c2
    obtain ⟨e1, e2⟩ := lotsL_len (allPairs bs).length
    have hD : ∀ l ∈ leastLaw (meetLots bs a), l.length ≤ 1000 := fun l hl => by
      have z := (List.mergeSort_perm _ _).mem_iff.mp hl
      exact ok.le.lens l (List.mem_filter.mp z).1
    have hDl : (leastLaw (meetLots bs a)).length ≤ 5000 := by
      have z : (leastLaw (meetLots bs a)).length = ((meetLots bs a).filter (leastOne (meetLots bs a))).length := (List.mergeSort_perm _ _).length_eq
      have := List.length_filter_le (leastOne (meetLots bs a)) (meetLots bs a)
      have h5 : (meetLots bs a).length ≤ 5000 := ok.le.len
      omega
    have hle : OkLeast (meetLots bs a) := ok.le
    have heq : barL bs a = leastLaw (meetLots bs a) := ok.eq
    generalize hR : rowsL a (allPairs bs) = R at c3 hrowlen hrl hmL
    generalize hML : meetLots bs a = ML at hmL hle heq hD hDl
    refine fs_own 5 nd c3 (fun _ => pe_lst pa_nil) fun ma σ H' c => ?_
    refine fs_forM (ι := Unit) (xs := lotsL (allPairs bs).length) (τ := lotT) (js := [6]) (fun n _ => [some (tyT (hallT K bs)), some (dat a.enc), some (dat (.list ((allPairs bs).map pD))), some (dat (.list (R.map intsD))), none, some (tyv (.ref ma)), none, none, none, none, none, none]) (fun n _ => oC ma ((((lotsL (allPairs bs).length).take n).filter (meetsAll R)).map lotD) oN) (fun n l _ => [some (tyT (hallT K bs)), some (dat a.enc), some (dat (.list ((allPairs bs).map pD))), some (dat (.list (R.map intsD))), none, some (tyv (.ref ma)), some (lotT l), none, none, none, none, none]) () (c.sub (by fail "sub")) (di_listT (by exact dx_call (fn_law_lots G) hr ⟨(allPairs bs).length, hl⟩ (da_cons (DX.dat (dx_lenL G.b_len (dx_var 2)) (by rw [List.length_map])) da_nil))) rfl (fun n x i e => dg_name 6 nd) (fun n l i H0 e g σ' H' c => ?_) (fun i σ' H' c => ?_)
    · have hll := e2 l (List.mem_of_getElem? e)
      have es : ((lotsL (allPairs bs).length).take (n + 1)).filter (meetsAll R) = ((lotsL (allPairs bs).length).take n).filter (meetsAll R) ++ (if meetsAll R l = true then [l] else []) := by
        rw [List.take_succ, e, List.filter_append]
        congr 1
        simp only [Option.toList_some, List.filter_cons, List.filter_nil]
      have hgl : (((lotsL (allPairs bs).length).take n).filter (meetsAll R)).length ≤ 100000 := by
        have := List.length_filter_le (meetsAll R) ((lotsL (allPairs bs).length).take n)
        have := List.length_take_le' n (lotsL (allPairs bs).length)
        omega
      refine fs_if1 (k := meetsAll R l) c (by exact DT.to (DC.dt (dc_eqNil (n := 3) hu (dx_lcIf [("_law_row", 9)] R (fun row => (row.filter fun n => decide (n ∈ l)).isEmpty) intsD nd rfl (by rfl) (di_listM (dx_var 3)) (by omega) (fun r hr0 s0 H0 C cl fp => dg_name 9 nd) (fun r hr0 s0 H0 C cl fp => by exact DT.to (DC.dt (dc_eqNil (n := 2) hu (dx_lcIf [("_law_number", 11)] r (fun n => decide (n ∈ l)) (fun n => .int (n : Nat)) nd rfl (by rfl) (di_listM (r := fun n : Nat => PyData.int (n : Int)) (DX.dat (dx_var 9) (by unfold intsD cs; rw [List.map_map]; rfl))) (by have := hrowlen r hr0; omega) (fun x hx s0 H0 C cl fp => dg_name 11 nd) (fun x hx s0 H0 C cl fp => by exact DT.to (DC.dt (dc_inIT (ns := cs l) (by rfl) (dx_var 11) (dx_unZ (dx_var 6)))) mem_cs) (fun x hx _ s0 H0 C cl fp => by exact (dx_var 11))) (smok_list (n := 1) (by rw [List.length_map]; have := List.length_filter_le (fun n => decide (n ∈ l)) r; have := hrowlen r hr0; omega) (fun d hd => by obtain ⟨z, _, rfl⟩ := List.mem_map.mp hd; trivial)) (by decide))) (by rw [List.isEmpty_map])) (fun r hr0 _ s0 H0 C cl fp => by exact (dx_var 9))) (smok_list (n := 2) (by rw [List.length_map]; have := List.length_filter_le (fun row : List Nat => (row.filter fun n => decide (n ∈ l)).isEmpty) R; omega) (fun d hd => by
        obtain ⟨r, hr0, rfl⟩ := List.mem_map.mp hd
        have := hrowlen r (List.mem_filter.mp hr0).1
        exact smok_list (n := 1) (by rw [List.length_map, cs_len]; omega) (fun d hd => by obtain ⟨z, _, rfl⟩ := List.mem_map.mp hd; trivial))) (by decide))) (by unfold meetsAll; rw [List.isEmpty_map])) (fun hk H' c => ?_) fun hk H' c => ?_
      · refine fs_app 5 (d := lotD l) c rfl (by rw [List.length_map]; exact hgl) (by exact dx_unZ (dx_var 6)) fun H' c => fs_nil (fs_nil ⟨(), ?_⟩)
        rw [es, if_pos hk, List.map_append]
        exact c.sub (by fail "sub")
      · refine fs_nil ⟨(), ?_⟩
        rw [es, if_neg (by rw [hk]; exact Bool.false_ne_true), List.append_nil]
        exact c.sub (by fail "sub")
    · have c4 := c.rel 5 rfl
      rw [List.take_of_length_le (Nat.le_refl _), ← hmL] at c4
      refine fs_set 7 (t := dat (.list ((barL bs a).map lotD))) nd c4 (by exact dx_call (fn_bars G F TB F2 TB2) hr ⟨(bs, a), ok.bar⟩ (da_cons (dx_var 0) (da_cons (dx_var 1) da_nil))) fun σ H' c => ?_
      have hsm : SmOk 3 (.list ((leastLaw ML).map lotD)) := smok_list (by rw [List.length_map]; omega) fun d hd => by
        obtain ⟨l, hl, rfl⟩ := List.mem_map.mp hd
        exact smok_lot (hD l hl)
      have hsm2 : SmOk 3 (.list [.tuple []]) := smok_list (n := 2) (by decide) fun d hd => by
        rw [List.mem_singleton.mp hd]
        exact smok_tuple (n := 1) (by decide) fun d hd => by cases hd
      have hno : decide (barL bs a = [[]]) = (sureL bs a).isNone := ok.no
      have c5 : FC TB0 H [some (tyT (hallT K bs)), some (dat a.enc), some (dat (.list ((allPairs bs).map pD))), some (dat (.list (R.map intsD))), none, some (dat (.list (ML.map lotD))), none, some (dat (.list ((barL bs a).map lotD))), none, none, none, none] oN σ H' := c
      rw [heq] at c5 hno
      exact fs_retE c5 (by exact DX.dat (dx_and (dx_call (fn_law_same G 3) hr ⟨_, hsm⟩ (da_cons (dx_var 7) (da_cons (dx_call (fn_law_least G) hr ⟨ML, hle⟩ (da_cons (dx_var 5) da_nil)) da_nil))) fun _ => DX.one (DC.dx (dc_eqB (DC.dx (dc_eqD hu (dx_var 7) (dx_lst (ds := [.tuple []]) (da_cons (dx_tup (ds := []) da_nil) da_nil)) (smok_shaped hsm (by decide)) (smok_shaped hsm2 (by decide)))) (DC.dx (dc_isN (dx_call (fn_sure G S) hr ⟨(bs, a), ok.su.su, ok.su.ai⟩ (da_cons (DX.unT (dx_var 0)) (da_cons (dx_var 1) da_nil))) dx_non))))) (by
        rw [optP_isNon]
        have z : PyData.eqv (.list ((leastLaw ML).map lotD)) (.list [.tuple []]) = decide (leastLaw ML = [[]]) := by
          rw [PyData.eqv]
          exact eqv_lots (leastLaw ML) [[]]
        rw [z]
        show PyData.bool (true && (decide (leastLaw ML = [[]]) == (sureL bs a).isNone)) = .bool true
        rw [hno]
        simp)) q
theorem fn_law_points_fit (G : Md K mg) (S : AtSearch K mg) : C8.Cal P w K mg base 46 "_law_points_fit" (spP T (fun (i : {bs : List Board // OkPf bs}) => [hallT K i.1]) fun i => dat (.bool true)) [] := by
  refine fn_mk G.d__law_points_fit ["_law_hall", "_law_many", "_law_told", "_law_counted"] (by decide +kernel) (fun _ => rfl) fun ⟨bs, ok⟩ cdv A outer s H vs Q E f hr nd q c => ?_
  obtain ⟨ps, hps, hpl, s1, s2, r1, r2⟩ := ok.mo
  obtain ⟨l1, l2⟩ := ok.len
  refine fs_set 1 (t := dat (.int (bs.length : Nat))) nd c (by exact DX.dat (dx_lenT G.b_len (dx_boards (dx_var 0))) (by rw [List.length_map])) fun σ H' c => ?_
  refine fs_set 2 (t := dat (.tuple [.int (ps.length : Nat), ppD ps])) nd c (by exact DX.dat (dx_call (fn_most_points G S) hr ⟨bs, ok.gr⟩ (da_cons (dx_var 0) (da_cons (dx_ones (dx_var 1) l1 (by show bs.length ≤ 50; omega)) da_nil))) (by
    show mostD (mostL (greatL bs)) = _
    rw [hps]
    rfl)) fun σ H' c => ?_
  refine fs_if1 (k := false) c (by exact DT.to (DW.dt (dw_or (dt_not (dt_val (dx_isi (d := .tuple [.int (ps.length : Nat), ppD ps]) G.b_isinstance G.b_tuple (by rfl) (dx_var 2) (by rfl)))) fun _ => dw_or (DC.dt (dc_neI (dx_lenT (ds := [.int (ps.length : Nat), ppD ps]) G.b_len (dx_var 2)) dx_int)) fun _ => dw_or (dt_not (dt_val (dx_call (fn_law_is_int G) hr ((ps.length : Nat) : Int) (da_cons (dx_ixT (d := .int (ps.length : Nat)) (ds := [.int (ps.length : Nat), ppD ps]) (dx_var 2) dx_int (by fail "side")) da_nil)))) fun _ => dw_or (DC.dt (dc_lt (dx_ixT (d := .int (ps.length : Nat)) (ds := [.int (ps.length : Nat), ppD ps]) (dx_var 2) dx_int (by fail "side")) dx_int)) fun _ => dw_one (DC.dt (dc_gt (dx_ixT (d := .int (ps.length : Nat)) (ds := [.int (ps.length : Nat), ppD ps]) (dx_var 2) dx_int (by fail "side")) (dx_var 1))))) (by
    show (!true || (!decide ((2 : Int) = 2) || (!true || (decide (((ps.length : Nat) : Int) < 0) || decide (((bs.length : Nat) : Int) < ((ps.length : Nat) : Int)))))) = false
    rw [decide_eq_false (by omega : ¬ ((ps.length : Nat) : Int) < 0), decide_eq_false (by omega : ¬ ((bs.length : Nat) : Int) < ((ps.length : Nat) : Int))]
    rfl)) (fun hk => by cases hk) fun _ H' c => ?_
  refine fs_set 3 (t := dat (lotD (List.range bs.length))) nd c (by exact dx_tupRange rfl G.b_range G.b_tuple (dx_var 1) (by omega)) fun σ H' c => ?_
  exact fs_retE c (by exact DX.dat (dx_and (DC.dx (dc_notN (dx_call (fn_sure G S) hr ⟨(bs, leastA ps.length bs.length), s1.su, s1.ai⟩ (da_cons (dx_var 0) (da_cons (DX.dat (dx_tup (ds := [.str "least", .int (ps.length : Nat), lotD (List.range bs.length)]) (da_cons dx_str (da_cons (dx_ixT (d := .int (ps.length : Nat)) (ds := [.int (ps.length : Nat), ppD ps]) (dx_var 2) dx_int (by fail "side")) (da_cons (dx_var 3) da_nil)))) (leastA_enc _ _).symm) da_nil))) dx_non)) fun _ => DX.one (DC.dx (dc_isN (dx_call (fn_sure G S) hr ⟨(bs, leastA (ps.length + 1) bs.length), s2.su, s2.ai⟩ (da_cons (dx_var 0) (da_cons (DX.dat (dx_tup (ds := [.str "least", .int ((ps.length : Nat) + 1), lotD (List.range bs.length)]) (da_cons dx_str (da_cons (dx_add (dx_ixT (d := .int (ps.length : Nat)) (ds := [.int (ps.length : Nat), ppD ps]) (dx_var 2) dx_int (by fail "side")) dx_int) (da_cons (dx_var 3) da_nil)))) (leastA_enc (ps.length + 1) _).symm) da_nil))) dx_non))) (by
    rw [optP_isNon, optP_isNon]
    show PyData.bool (!(sureL bs (leastA ps.length bs.length)).isNone && (sureL bs (leastA (ps.length + 1) bs.length)).isNone) = .bool true
    rw [r1, r2]
    rfl)) q
theorem fn_law_follows (G : Md K mg) (M : Mc K mg) (S : AtSearch K mg) : C8.Cal P w K mg base 46 "_law_follows" (spP T (fun (i : {p : List Board × Aim × List Nat // OkFf p}) => [hallT K i.1.1, dat i.1.2.1.enc, lotT i.1.2.2]) fun i => dat (.bool true)) [] := by
  refine fn_mk G.d__law_follows ["_law_hall", "_law_aim_here", "_law_lot", "_law_part", "_law_near", "_law_mirror", "_law_k"] (by decide +kernel) (fun _ => rfl) fun ⟨⟨bs, a, l⟩, ok⟩ cdv A outer s H vs Q E f hr nd q c => ?_
  have hll : l.length ≤ bs.length := lot_len ok.on.lot
  have hbl : bs.length ≤ 50 := ok.on.len
  refine fs_set 3 nd c (by exact dx_call (fn_only G M) hr ⟨(bs, l), ok.on⟩ (da_cons (dx_var 0) (da_cons (dx_unZ (dx_var 2)) da_nil))) fun σ H' c => ?_
  refine fs_set 4 nd c (by exact dx_call (fn_law_within G 8) hr ⟨(a, l), ok.dep, ok.ok⟩ (da_cons (dx_var 1) (da_cons (dx_var 2) da_nil))) fun σ H' c => ?_
  have hat : ∀ k, k < l.length → atI ((cs l).map PyData.int) (k : Int) = some (.int ((l.getD k 0 : Nat) : Int)) := fun k hk => atI_cs (by
    rw [List.getD_eq_getElem?_getD, List.getElem?_eq_getElem hk]
    rfl)
  refine fs_set 5 (t := dat (ppD (mirrorP l))) nd c (by exact DX.dat (dx_tupOfL G.b_tuple (dx_lc [("_law_k", 6)] (List.range l.length) (fun k => pD (k, l.length + l.getD k 0)) nd rfl (by rfl) (di_range1N (N := l.length) G.b_range (DX.dat (dx_lenT (ds := (cs l).map .int) G.b_len (dx_unZ (dx_var 2))) (by rw [List.length_map, cs_len])) (by omega)) (by rw [List.length_range]; omega) (fun k hk s0 H0 C cl fp => dg_name 6 nd) (fun k hk s0 H0 C cl fp => by exact DX.dat (dx_tup (ds := [.int (k : Nat), .int (((l.length : Nat) : Int) + ((l.getD k 0 : Nat) : Int))]) (da_cons (dx_var 6) (da_cons (dx_add (DX.dat (dx_lenT (ds := (cs l).map .int) G.b_len (dx_unZ (dx_var 2))) (by rw [List.length_map, cs_len])) (dx_ixT (dx_unZ (dx_var 2)) (dx_var 6) (hat k (List.mem_range.mp hk)))) da_nil))) (pD_eq rfl (by omega))))) (by unfold ppD mirrorP; rw [List.map_map]; rfl)) fun σ H' c => ?_
  exact fs_retE c (by exact DX.dat (dx_and (DC.dx (dc_notN (dx_call (fn_following G M S) hr ⟨⟨pick bs l, a.within l, bs, a⟩, ok.fol⟩ (da_cons (dx_var 3) (da_cons (dx_var 4) (da_cons (dx_var 0) (da_cons (dx_var 1) da_nil))))) dx_non)) fun _ => DX.one (DC.dx (dc_isB (dx_call (fn_is_following G M) hr ⟨(⟨pick bs l, a.within l, bs, a⟩, mirrorP l), ok.isf⟩ (da_cons (dx_var 3) (da_cons (dx_var 4) (da_cons (dx_var 0) (da_cons (dx_var 1) (da_cons (dx_var 5) da_nil)))))) dx_bl))) (by
    rw [optP_isNon]
    show PyData.bool (!(sureL (faceB ⟨pick bs l, a.within l, bs, a⟩) (faceA ⟨pick bs l, a.within l, bs, a⟩)).isNone && decide ((spoil (faceA ⟨pick bs l, a.within l, bs, a⟩) (mirrorP l)).isNone = true)) = .bool true
    rw [ok.r1, ok.r2]
    rfl)) q
end
end G
set_option Elab.async false
set_option linter.all false
set_option maxRecDepth 100000
set_option maxHeartbeats 1000000
set_option pp.maxSteps 400
namespace G
open PySem PySem.Spec L2 LamX NdefX
local macro_rules | `(tactic| fail "sub") => `(tactic| first | exact Sub.nil | (refine Sub.drop ?_; fail "sub") | (refine Sub.same ?_; fail "sub"))
local macro_rules | `(tactic| fail "side") => `(tactic| first | assumption | rfl | omega | decide)
section
variable {T : List NTab} {X : Cx} {Γ Γ' : Gam} {O O' O2 : OS} {Hin : Hp} {σ : L2.St} {H : Hp} {D : Ends} {a b c e eb ei tg : Expr} {es : List Expr} {rest body bl : List Stmt} {pos pos' p apos p2 : Pos} {t u ta tb : Ty} {ts : List Ty} {x : Str} {k : Bool} {S S1 S2 : PyData → Prop} {i j : Int}
/-- two owned things change places -/
theorem FC.swap {l m : Addr} {ds es : List PyData} (c : FC T Hin Γ (oC l ds (oC m es O)) σ H) : FC T Hin Γ (oC m es (oC l ds O)) σ H := by
  obtain ⟨Hb, L, rfl, fr, ap, g, s, ⟨vs, L1, rfl, h2, ws, L2, rfl, h4, h5⟩, _⟩ := c
  have nd := fr.nd
  rw [List.map_cons, List.map_cons, List.nodup_cons, List.nodup_cons] at nd
  obtain ⟨n1, n2, n3⟩ := nd
  have ne : l ≠ m := fun z => n1 (by rw [z]; exact List.mem_cons_self)
  refine ⟨Hb, (m, .lst ws) :: (l, .lst vs) :: L2, ?_, ⟨?_, fun q hq => ?_⟩, fun q hq => ?_, g, s, ⟨ws, _, rfl, h4, vs, L2, rfl, h2, h5⟩, trivial⟩
  · show upd (upd (addAll Hb L2) m _) l _ = upd (upd (addAll Hb L2) l _) m _
    exact upd_comm ne.symm
  · rw [List.map_cons, List.map_cons, List.nodup_cons, List.nodup_cons]
    refine ⟨fun z => ?_, fun z => n1 (List.mem_cons_of_mem _ z), n3⟩
    rcases List.mem_cons.mp z with z | z
    · exact ne z.symm
    · exact n2 z
  · rcases List.mem_cons.mp hq with rfl | hq
    · rfl
    · rcases List.mem_cons.mp hq with rfl | hq
      · rfl
      · exact fr.pl q (List.mem_cons_of_mem _ (List.mem_cons_of_mem _ hq))
  · rcases List.mem_cons.mp hq with rfl | hq
    · exact ap _ (List.mem_cons_of_mem _ List.mem_cons_self)
    · rcases List.mem_cons.mp hq with rfl | hq
      · exact ap _ List.mem_cons_self
      · exact ap q (List.mem_cons_of_mem _ (List.mem_cons_of_mem _ hq))
/-- the source goes below, above -/
theorem FC.down {s m : Addr} {es : List PyData} (c : FC T Hin Γ (oSrc s (oC m es O)) σ H) : FC T Hin Γ (oC m es (oSrc s O)) σ H := by
  obtain ⟨p, c⟩ := c.openO
  exact c.swap.os fun H L ⟨vs, L', e, h, o⟩ => ⟨vs, L', e, h, p, o⟩
theorem FC.up {s m : Addr} {es : List PyData} (c : FC T Hin Γ (oC m es (oSrc s O)) σ H) : FC T Hin Γ (oSrc s (oC m es O)) σ H := by
  obtain ⟨Hb, L, e, fr, ap, g, st, ⟨vs, L1, eL, h2, p, h3⟩, _⟩ := c
  have c' : FC T Hin Γ (oC m es (oC s p.ds O)) σ H := ⟨Hb, L, e, fr, ap, g, st, ⟨vs, L1, eL, h2, h3⟩, trivial⟩
  exact c'.swap.os fun H L h => ⟨p, h⟩
theorem ownSrc {s m : Addr} {es : List PyData} {O : OS} : OwnAt (oSrc s (oC m es O)) m es := fun H L ⟨p, vs, L', e, _, o⟩ => by
  obtain ⟨ws, h1, h2⟩ := ownC (O := O) H L' o
  exact ⟨ws, by rw [e]; exact List.mem_cons_of_mem _ h1, h2⟩
theorem FC.dropS {s : Addr} (c : FC T Hin Γ (oSrc s O) σ H) : FC T Hin Γ O σ H := by
  obtain ⟨p, c⟩ := c.openO
  exact c.drop
/-- a draw -/
theorem db_take {sa : Addr} {n m : Nat} {e1 : Expr} {K0 : Md X.K X.mg} (hr : Room m X.A) (hs : DX T X Γ e (tyv (.ref sa))) (hn : DX T X Γ e1 (dat (.int (n : Nat)))) (h1 : 0 < n) (h2 : n ≤ 1000000) (hm : 1 ≤ m := by first | decide | omega) (hg : Gl X "_law_take" := by rfl) (he : starEach [e, e1] X.env = (false, eval e X.env) :: starEach [e1] X.env := by rfl) (he2 : starEach [e1] X.env = (false, eval e1 X.env) :: starEach [] X.env := by rfl)
    (hpl : (backTo pos (starEach [e1] X.env)).any (·.1) = false := by rfl) : DB T X Γ (oSrc sa O) (.Call (.Name "_law_take" p) [e, e1] [] pos) (tyS (ltN n)) (oSrc sa O) :=
  db_call (fn_take K0) hr ⟨(sa, n, O), h1, h2⟩ (dba_cons (hs.db (O := oSrc sa O)) (dba_cons (hn.db (O := oSrc sa O)) dba_nil he2) he) rfl rfl hm hg (by decide) he hpl
theorem db_takeI {sa : Addr} {n m : Nat} {e1 : Expr} (K0 : Md X.K X.mg) (hr : Room m X.A) (hs : DX T X Γ e (tyv (.ref sa))) (hn : DX T X Γ e1 (dat (.int (n : Nat)))) (h1 : 0 < n) (h2 : n ≤ 1000000) (hm : 1 ≤ m := by first | decide | omega) (hg : Gl X "_law_take" := by rfl) (he : starEach [e, e1] X.env = (false, eval e X.env) :: starEach [e1] X.env := by rfl) (he2 : starEach [e1] X.env = (false, eval e1 X.env) :: starEach [] X.env := by rfl)
    (hpl : (backTo pos (starEach [e1] X.env)).any (·.1) = false := by rfl) : DB T X Γ (oSrc sa O) (.Call (.Name "_law_take" p) [e, e1] [] pos) (tyS (isI fun i => ∃ k : Nat, i = (k : Int) ∧ k < n)) (oSrc sa O) :=
  (db_take (K0 := K0) hr hs hn h1 h2 hm hg he he2 hpl).toS fun d ⟨k, e, h⟩ => ⟨_, e, k, rfl, h⟩
/-- 1 + a draw -/
theorem db_onePlus {sa : Addr} {n m j : Nat} {e1 : Expr} {cp : Pos} (K0 : Md X.K X.mg) (hr : Room m X.A) (hs : DX T X Γ e (tyv (.ref sa))) (hn : DX T X Γ e1 (dat (.int (n : Nat)))) (h1 : 0 < n) (h2 : n ≤ 1000000) (hm : 1 ≤ m := by first | decide | omega) (hg : Gl X "_law_take" := by rfl) (he : starEach [e, e1] X.env = (false, eval e X.env) :: starEach [e1] X.env := by rfl) (he2 : starEach [e1] X.env = (false, eval e1 X.env) :: starEach [] X.env := by rfl)
    (hpl : (backTo pos (starEach [e1] X.env)).any (·.1) = false := by rfl) : DB T X Γ (oSrc sa O) (.BinOp (.Constant (.int 1) j cp) .Add (.Call (.Name "_law_take" p) [e, e1] [] pos) pos') (tyS (isI fun i => ∃ k : Nat, i = ((k + 1 : Nat) : Int) ∧ k < n)) (oSrc sa O) :=
  (db_add (p1 := (· = 1)) (p2 := fun i => ∃ k : Nat, i = (k : Int) ∧ k < n) ((dx_int.db (O := oSrc sa O)).to fun v H h => ⟨_, ⟨_, rfl, rfl⟩, h⟩) (db_takeI K0 hr hs hn h1 h2 hm hg he he2 hpl)).toS fun d ⟨z, e, i, j, h1, ⟨k, h2, h3⟩, h4⟩ => ⟨z, e, k, by rw [h4, h1, h2]; omega, h3⟩
/-- ''.join(drawn letters) -/
theorem db_join {W : List Nat → Prop} {jj : Nat} (hb : DB T X Γ O b (tyS fun d => ∃ ks : List Nat, d = .list (ks.map fun c => .str ⟨#[c]⟩) ∧ W ks ∧ ks.length ≤ 1000) O') (hs : starEach [b] X.env = [(false, eval b X.env)] := by rfl) (hbase : attributeBase (.Constant (.str "") jj p) "join" X.env (eval (.Constant (.str "") jj p) X.env) = eval (.Constant (.str "") jj p) X.env := by rfl) (hline : (apos.endLine == pos.line) = true := by rfl) :
    DB T X Γ O (.Call (.Attribute (.Constant (.str "") jj p) "join" apos) [b] [] pos) (tyS fun d => ∃ ks : List Nat, d = .str ⟨ks.toArray⟩ ∧ W ks) O' := fun σ Hb L f ap s o Q q =>
  we_of (pe_join pe_str pe_we hs hbase hline) (⟨⟨_, rfl⟩, hb σ Hb L f ap s o _ fun v Hb1 L1 f1 ap1 g1 o1 ⟨d, ⟨ks, e1, hw, hl⟩, p1⟩ => by
    subst e1
    obtain ⟨l, xs, rfl, h1, h2⟩ := dat_lst p1
    have hx : xs = (ks.map fun c => (⟨#[c]⟩ : Str)).map V.str := by
      have := dqa_strs (vs := xs) (ns := ks.map fun c => (⟨#[c]⟩ : Str)) (by rw [List.map_map]; exact h2)
      exact this
    subst hx
    have ej : ∀ ks : List Nat, TL.joinL [] (ks.map fun c => [c]) = ks := by
      intro ks
      induction ks with
      | nil => rfl
      | cons c ks ih => cases ks with
        | nil => rfl
        | cons c2 ks => show [c] ++ ([] ++ TL.joinL [] ((c2 :: ks).map fun c => [c])) = _; rw [ih]; rfl
    have e2 : Txt.join (Str.ofString "") (ks.map fun c => (⟨#[c]⟩ : Str)) = ⟨ks.toArray⟩ := by
      have z := SX.join_S [] (ks.map fun c => [c])
      rw [List.map_map, ej] at z
      exact z
    refine ⟨_, l, ks.map fun c => (⟨#[c]⟩ : Str), rfl, rfl, .inl (SqL.of ((ge_addAll (T := T) f1 ap1).ext _ _ h1 fun _ z => by cases z)), ?_, ?_⟩
    · have e3 : (ks.map fun c => (⟨#[c]⟩ : Str)).map (·.length) = ks.map fun _ => 1 := by rw [List.map_map]; rfl
      rw [e3, List.map_const', List.sum_replicate_nat, List.length_map]
      show ks.length * 1 + ks.length * 0 ≤ _
      omega
    · rw [e2]
      exact q _ Hb1 L1 f1 ap1 g1 o1 ⟨_, ⟨ks, rfl, hw⟩, .str _⟩⟩)
/-- a text not in an owned list of texts -/
theorem dbt_notInOwn {l : Addr} {ns : List Str} {z : Str} (hO : OwnAt O l (ns.map .str)) (hm : behindInMarks .NotIn b = false) (ha : DX T X Γ a (dat (.str z))) (hb : DX T X Γ b (tyv (.ref l))) : DBT T X Γ O (.Compare a [.NotIn] [b] pos) (· = !decide (z ∈ ns)) O := fun σ Hb L f ap s o Q q =>
  wt_of (pt_cmpR op_notIn_seq pe_we pe_we hm) (ha.db (O := O) σ Hb L f ap s o _ fun x Hb1 L1 f1 ap1 g1 o1 q1 => hb.db (O := O) σ Hb1 L1 f1 ap1 (s.ext g1.ext) o1 _ fun y Hb2 L2 f2 ap2 g2 o2 q2 => by
    cases dat_str q1
    have q2 : y = .ref l := q2
    subst q2
    obtain ⟨vs, h1, h2⟩ := hO _ _ o2
    cases dqa_strs h2
    refine ⟨l, _, rfl, .inl (SqL.of (addAll_at f2 h1)), rfl, flat_strs' ns, ⟨!decide (z ∈ ns), ?_, q _ Hb2 L2 f2 ap2 (g1.trans g2) o2 rfl⟩⟩
    rw [inV_str]
    rfl)
end
section
variable {P : Program} {w : World} {K : PySem.W.Frag} {mg : Str → Option Value} {base : Heap} {T : List NTab}
theorem FV.imp {Γ : Gam} {O : OS} {Hin : Hp} {σ : L2.St} {H : Hp} {R R' : Hp → Prop} (c : FV T Hin Γ O σ H R) (h : ∀ H, R H → R' H) : FV T Hin Γ O σ H R' := by
  obtain ⟨Hb, L, e, f, ap, g, s, o, p⟩ := c
  exact ⟨Hb, L, e, f, ap, g, s, o, h _ p⟩
theorem allS_chars {P : Nat → Prop} {α : Type} : ∀ {xs : List α} {ds : List PyData}, AllS (xs.map fun _ d => ∃ c, d = .str ⟨#[c]⟩ ∧ P c) ds → ∃ ks : List Nat, ds = ks.map (fun c => .str ⟨#[c]⟩) ∧ (∀ c ∈ ks, P c) ∧ ks.length = xs.length
  | [], [], _ => ⟨[], rfl, (fun c h => nomatch h), rfl⟩
  | x :: xs, d :: ds, ⟨⟨c, e, hc⟩, h⟩ => by
    obtain ⟨ks, e2, h2, h3⟩ := allS_chars h
    exact ⟨c :: ks, by rw [e, e2]; rfl, fun z hz => by
      rcases List.mem_cons.mp hz with rfl | hz
      · exact hc
      · exact h2 z hz, by rw [List.length_cons, List.length_cons, h3]⟩
  | [], _ :: _, h => h.elim
  | _ :: _, [], h => h.elim
structure OkNs (ns : List Str) (n : Nat) : Prop where
  len : ns.length ≤ n
  ne : 0 < n → ns ≠ []
  ok : ∀ z ∈ ns, OkName z 8
def oneTwo : PyData → Prop := isI fun i => ∃ k : Nat, i = (k : Int) ∧ 1 ≤ k ∧ k ≤ 2
def namesP : PyData → Prop := fun d => ∃ ns : List Str, d = .list (ns.map .str) ∧ OkNs ns 2 ∧ ns ≠ []
theorem fn_law_names (G : Md K mg) : C8.Cal P w K mg base 2 "_law_names" (spB T (fun (i : Addr × OS) => [tyv (.ref i.1), tyS oneTwo]) (fun i => oSrc i.1 i.2) (fun _ => tyS namesP) (fun i => oSrc i.1 i.2)) [] := by
  refine fn_mkB G.d__law_names ["_law_source_here", "_law_many", "_law_letters", "_law_found", "_law_k", "_law_size", "_law_word", "_law_sign"] (by decide +kernel) (fun _ => rfl) fun ⟨sa, O⟩ cdv A outer s H vs Q E f Hb hr nd q c => ?_
  obtain ⟨d, ⟨i, rfl, m, rfl, hm1, hm2⟩, c⟩ := FC.open_ (S := oneTwo) c 1 rfl
  refine fs_set 2 (t := dat (.str letters)) nd c (by exact dx_str) fun σ H' c => ?_
  refine fs_own 3 nd c (fun _ => pe_lst pa_nil) fun fa σ H' c => ?_
  have c := c.up
  refine fs_forM (ι := {ns : List Str // True}) (xs := List.range m) (js := [4]) (fun n i => [some (tyv (.ref sa)), some (dat (.int (m : Nat))), some (dat (.str letters)), some (tyv (.ref fa)), none, none, none, none]) (fun n i => oP (OkNs i.1 n) (oSrc sa (oC fa (i.1.map .str) O))) (fun n x i => [some (tyv (.ref sa)), some (dat (.int (m : Nat))), some (dat (.str letters)), some (tyv (.ref fa)), some (dat (.int (x : Nat))), none, none, none]) ⟨[], trivial⟩ (FC.put (c.sub (by fail "sub")) ⟨Nat.le_refl _, fun h => absurd h (Nat.lt_irrefl _), fun z hz => nomatch hz⟩) (by exact di_range1N (N := m) G.b_range (dx_var 1) (by omega)) rfl (fun n x i e => dg_name 4 nd) (fun n x i H0 e g σ' H' c => ?_) (fun i σ' H' c => ?_)
  · obtain ⟨⟨o1, o2, o3⟩, c⟩ := c.get
    obtain ⟨ns, _⟩ := i
    have hn : n < m := by
      have := (List.getElem?_eq_some_iff.mp e).1
      rwa [List.length_range] at this
    have o1 : ns.length ≤ n := o1
    have o3 : ∀ z ∈ ns, OkName z 8 := o3
    refine fb_set 5 nd c (by exact db_onePlus G hr (dx_var 0) dx_int (n := 8) (by decide) (by decide)) fun σ' H' c => ?_
    obtain ⟨d, ⟨z, rfl, j, rfl, hj⟩, c⟩ := FC.open_ (S := isI fun i => ∃ k : Nat, i = ((k + 1 : Nat) : Int) ∧ k < 8) c 5 rfl
    have hlet : ∀ i : Int, (∃ k : Nat, i = (k : Int) ∧ k < 26) → ∃ c, atI letters.cps.toList i = some c ∧ ∃ c', PyData.str ⟨#[c]⟩ = .str ⟨#[c']⟩ ∧ c' ∈ letters.cps.toList := fun i ⟨k, e, hk⟩ => by
      have hl : letters.cps.toList.length = 26 := by decide +kernel
      have hk2 : k < letters.cps.toList.length := by omega
      exact ⟨letters.cps.toList[k], by rw [e]; exact atI_nat (List.getElem?_eq_getElem hk2), _, rfl, List.getElem_mem hk2⟩
    refine fb_set (O' := oSrc sa (oC fa (ns.map .str) O)) 6 (t := tyS fun d => ∃ ks : List Nat, d = .str ⟨ks.toArray⟩ ∧ (ks.length = j + 1 ∧ ∀ c ∈ ks, c ∈ letters.cps.toList)) nd c (by exact db_join (W := fun ks => ks.length = j + 1 ∧ ∀ c ∈ ks, c ∈ letters.cps.toList) ((db_lc (Sx := fun _ d => ∃ c, d = .str ⟨#[c]⟩ ∧ c ∈ letters.cps.toList) [("_law_sign", 7)] nd rfl (by rfl) (DI.dbi (di_range1N (N := j + 1) G.b_range (dx_var 5) (by omega))) (fun xs hxs => by rw [hxs, List.length_range]; omega) (fun x s0 H0 C cl fp => dg_name 7 nd) (fun x s0 H0 C cl fp => by exact db_ixS (p1 := fun i => ∃ k : Nat, i = (k : Int) ∧ k < 26) (dx_var 2) (db_takeI G hr (dx_var 0) dx_int (n := 26) (by decide) (by decide)) (by decide +kernel) hlet)).toS fun d ⟨xs, ds, e1, e2, e3⟩ => by
      obtain ⟨ks, e4, e5, e6⟩ := allS_chars e3
      rw [e2, List.length_range] at e6
      exact ⟨ks, by rw [e1, e4], ⟨e6, e5⟩, by omega⟩)) fun σ' H' c => ?_
    obtain ⟨d, ⟨ks, rfl, hk1, hk2⟩, c⟩ := FC.open_ (S := fun d => ∃ ks : List Nat, d = .str ⟨ks.toArray⟩ ∧ (ks.length = j + 1 ∧ ∀ c ∈ ks, c ∈ letters.cps.toList)) c 6 rfl
    have hw : OkName ⟨ks.toArray⟩ 8 := ⟨by show 1 ≤ ((ks.toArray.size : Nat) : Int); rw [List.size_toArray]; omega, by show ((ks.toArray.size : Nat) : Int) ≤ 8; rw [List.size_toArray]; omega, by decide, fun c hc => hk2 c (by simpa using hc)⟩
    generalize (⟨ks.toArray⟩ : Str) = wd at c hw
    refine fb_if1 c (dbt_notInOwn (ns := ns) ownSrc (by rfl) (by exact (dx_var 6)) (by exact (dx_var 3))) (fun hk H' c => ?_) fun hk H' c => ?_
    · refine fs_app 3 (d := .str wd) c.down rfl (by rw [List.length_map]; omega) (by exact (dx_var 6)) fun H' c => fs_nil (fs_nil ⟨⟨ns ++ [wd], trivial⟩, ?_⟩)
      have e2 : (ns ++ [wd]).map PyData.str = ns.map .str ++ [.str wd] := by rw [List.map_append]; rfl
      refine FC.put (p := OkNs (ns ++ [wd]) (n + 1)) ?_ ⟨by rw [List.length_append, List.length_singleton]; omega, fun _ => by simp, fun z hz => ?_⟩
      · rw [e2]
        exact c.up.sub (by fail "sub")
      · rcases List.mem_append.mp hz with hz | hz
        · exact o3 z hz
        · rw [List.mem_singleton.mp hz]
          exact hw
    · refine fs_nil ⟨⟨ns, trivial⟩, FC.put (p := OkNs ns (n + 1)) (c.sub (by fail "sub")) ⟨by omega, fun _ hz => ?_, o3⟩⟩
      rw [hz] at hk
      simp at hk
  · obtain ⟨⟨o1, o2, o3⟩, c⟩ := c.get
    obtain ⟨ns, _⟩ := i
    rw [List.length_range] at o1 o2
    have o1 : ns.length ≤ m := o1
    have o2 : ns ≠ [] := o2 (by omega)
    refine fb_ret c.down ((by exact (dx_var 3) : DX T (bodyX P w K mg base ["_law_source_here", "_law_many", "_law_letters", "_law_found", "_law_k", "_law_size", "_law_word", "_law_sign"] "_law_names" (top 104) f cdv A outer s H E) _ _ (tyv (.ref fa))).db) fun v H' c => q v H' _ _ ((FV.rel c).imp fun H p => ⟨_, ⟨ns, rfl, ⟨by omega, fun _ => o2, o3⟩, o2⟩, p⟩)
end
end G
set_option Elab.async false
set_option linter.all false
set_option maxRecDepth 100000
set_option maxHeartbeats 1000000
set_option pp.maxSteps 400
namespace G
open PySem PySem.Spec L2 LamX NdefX
local macro_rules | `(tactic| fail "sub") => `(tactic| first | exact Sub.nil | (refine Sub.drop ?_; fail "sub") | (refine Sub.same ?_; fail "sub"))
local macro_rules | `(tactic| fail "side") => `(tactic| first | assumption | rfl | omega | decide)
section
variable {T : List NTab} {X : Cx} {Γ Γ' : Gam} {O O' O2 : OS} {Hin : Hp} {σ : L2.St} {H : Hp} {D : Ends} {a b c e eb ei tg : Expr} {es : List Expr} {rest body bl : List Stmt} {pos pos' p apos p2 : Pos} {t u ta tb : Ty} {ts : List Ty} {x : Str} {k : Bool} {S S1 S2 : PyData → Prop} {i j : Int}
/-- a draw below what a list has -/
theorem db_takeB {sa : Addr} {n m : Nat} {e1 : Expr} (K0 : Md X.K X.mg) (hr : Room m X.A) (hs : DX T X Γ e (tyv (.ref sa))) (hn : DB T X Γ (oSrc sa O) e1 (dat (.int (n : Nat))) (oSrc sa O)) (h1 : 0 < n) (h2 : n ≤ 1000000) (hm : 1 ≤ m := by first | decide | omega) (hg : Gl X "_law_take" := by rfl) (he : starEach [e, e1] X.env = (false, eval e X.env) :: starEach [e1] X.env := by rfl) (he2 : starEach [e1] X.env = (false, eval e1 X.env) :: starEach [] X.env := by rfl)
    (hpl : (backTo pos (starEach [e1] X.env)).any (·.1) = false := by rfl) : DB T X Γ (oSrc sa O) (.Call (.Name "_law_take" p) [e, e1] [] pos) (tyS (isI fun i => ∃ k : Nat, i = (k : Int) ∧ k < n)) (oSrc sa O) :=
  DB.toS (db_call (fn_take K0) hr ⟨(sa, n, O), h1, h2⟩ (dba_cons (hs.db (O := oSrc sa O)) (dba_cons hn dba_nil he2) he) rfl rfl hm hg (by decide) he hpl) fun d ⟨k, e, h⟩ => ⟨_, e, k, rfl, h⟩
/-- own != [] -/
theorem dbt_neNilOwn {l : Addr} {ds : List PyData} (hu : X.A.units + 64 < cLine) (hO : OwnAt O l ds) (ha : DX T X Γ a (tyv (.ref l))) (s1 : SeqAt.shaped (.list ds) = true) : DBT T X Γ O (.Compare a [.NotEq] [.List [] p2] pos) (· = !ds.isEmpty) O := fun σ Hb L f ap s o Q q =>
  wt_of (pt_cmpR (op_neD hu) pe_we pe_we (nomark _)) (ha.db (O := O) σ Hb L f ap s o _ fun x Hb1 L1 f1 ap1 g1 o1 q1 => (dx_lst (ds := []) da_nil).db (O := O) σ Hb1 L1 f1 ap1 (s.ext g1.ext) o1 _ fun y Hb2 L2 f2 ap2 g2 o2 q2 => by
    have q1 : x = .ref l := q1
    subst q1
    obtain ⟨vs, h1, h2⟩ := hO _ _ o2
    have d1 : Dq (addAll Hb2 L2) (.ref l) (.list ds) := .lst (addAll_at f2 h1) (dqa_ext (ge_addAll (T := T) f2 ap2).ext _ _ h2)
    have d2 : Dq (addAll Hb2 L2) y (.list []) := dq_ext (ge_addAll (T := T) f2 ap2).ext _ _ q2
    refine ⟨.list ds, .list [], dq_dp _ _ d1, dq_dp _ _ d2, s1, smok_shaped (n := 1) (smok_list (n := 0) (by decide) (fun d hd => by cases hd)) (by decide), !ds.isEmpty, ?_, q _ Hb2 L2 f2 ap2 (g1.trans g2) o2 rfl⟩
    have e : PyData.eqv (.list ds) (.list []) = ds.isEmpty := by
      rw [PyData.eqv]
      cases ds <;> rw [PyData.eqvAll] <;> rfl
    rw [e])
/-- known tuple + drawn tuple -/
theorem db_catT {ds : List PyData} {R : List PyData → Prop} (ha : DX T X Γ a (dat (.tuple ds))) (hb : DB T X Γ O b (tyS fun d => ∃ es, d = .tuple es ∧ R es) O') (hz : ∀ es, R es → ds.length + es.length ≤ 100000) : DB T X Γ O (.BinOp a .Add b pos) (tyS fun d => ∃ es, d = .tuple (ds ++ es) ∧ R es) O' := fun σ Hb L f ap s o Q q =>
  we_of (pe_op op_catA pe_we pe_we) (ha.db (O := O) σ Hb L f ap s o _ fun x Hb1 L1 f1 ap1 g1 o1 q1 => hb σ Hb1 L1 f1 ap1 (s.ext g1.ext) o1 _ fun y Hb2 L2 f2 ap2 g2 o2 ⟨d, ⟨es, e1, hR⟩, q2⟩ => by
    subst e1
    obtain ⟨l, xs, rfl, h1, h2⟩ := dat_tup ((dat (.tuple ds)).mono g2.ext q1)
    obtain ⟨m, ys, rfl, h3, h4⟩ := dat_tup q2
    have l1 := dqa_len h2
    have l2 := dqa_len h4
    have ex := (ge_addAll (T := T) f2 ap2).ext
    refine ⟨l, m, xs, ys, rfl, rfl, sqT_rd (rd_ext ex h1), sqT_rd (rd_ext ex h3), by rw [l1, l2]; exact Nat.le_trans (hz es hR) (by decide), fun z => ?_, fun _ z => ?_, fun _ _ r hr => ?_⟩
    · subst z
      cases h2
      exact q _ Hb2 L2 f2 ap2 (g1.trans g2) o2 ⟨_, ⟨es, rfl, hR⟩, q2⟩
    · subst z
      cases h4
      refine q _ Hb2 L2 f2 ap2 (g1.trans g2) o2 ⟨_, ⟨[], rfl, hR⟩, ?_⟩
      rw [List.append_nil]
      exact (dat (.tuple ds)).mono g2.ext q1
    · obtain ⟨n1, n2, n3, n4⟩ := new_over (T := T) (o := .tup (xs ++ ys)) ap2 hr
      rw [n1]
      exact q _ _ L2 f2 n2 ((g1.trans g2).trans n3) (O'.mono n3.ext o2) ⟨_, ⟨es, rfl, hR⟩, .tup (.inl upd_same) (dqa_ext n3.ext _ _ (dqa_app h2 h4))⟩)
/-- tuple(own) -/
theorem db_tupOwn {l : Addr} {ds : List PyData} (hm : X.mg "tuple" = none) (hO : OwnAt O l ds) (ha : DX T X Γ a (tyv (.ref l))) (hg : Gl X "tuple" := by rfl) (hs : starEach [a] X.env = (false, eval a X.env) :: starEach [] X.env := by rfl) : DB T X Γ O (.Call (.Name "tuple" p) [a] [] pos) (dat (.tuple ds)) O := fun σ Hb L f ap s o Q q =>
  we_of (pe_tupleOf hg hm pe_we hs) (ha.db (O := O) σ Hb L f ap s o _ fun v Hb1 L1 f1 ap1 g1 o1 q1 => by
    have q1 : v = .ref l := q1
    subst q1
    obtain ⟨vs, h1, h2⟩ := hO _ _ o1
    refine .inl ⟨l, vs, rfl, SqL.of (addAll_at f1 h1), fun r hr => ?_⟩
    obtain ⟨n1, n2, n3, n4⟩ := new_over (T := T) (o := .tup vs) ap1 hr
    rw [n1]
    exact q _ _ L1 f1 n2 (g1.trans n3) (O.mono n3.ext o1) (.tup (.inl upd_same) (dqa_ext n3.ext _ _ h2)))
/-- tuple(a drawn list), known to have no dict -/
theorem db_tupOfZ {R : List Nat → Prop} (hm : X.mg "tuple" = none) (ha : DB T X Γ O a (tyS fun d => ∃ l : List Nat, d = intsD l ∧ R l) O') (hg : Gl X "tuple" := by rfl) (hs : starEach [a] X.env = (false, eval a X.env) :: starEach [] X.env := by rfl) : DB T X Γ O (.Call (.Name "tuple" p) [a] [] pos) ⟨fun v H => ∃ l, R l ∧ (lotT l).P v H, fun e ⟨l, h1, h2⟩ => ⟨l, h1, (lotT l).mono e h2⟩⟩ O' := fun σ Hb L f ap s o Q q =>
  we_of (pe_tupleOfZ hg hm pe_we hs) (ha σ Hb L f ap s o _ fun v Hb1 L1 f1 ap1 g1 o1 ⟨d, ⟨l, e, hr⟩, p1⟩ => by
    subst e
    obtain ⟨q0, xs, rfl, h1, h2⟩ := dat_lst p1
    have hl : addAll Hb1 L1 q0 = some (.lst xs) := (ge_addAll (T := T) f1 ap1).ext _ _ h1 fun _ z => by cases z
    refine ⟨q0, xs, rfl, SqL.of hl, fun r ob hz hr2 => ?_⟩
    obtain ⟨n1, n2, n3, n4⟩ := new_over (T := T) (o := .frz ob (.tup xs)) ap1 hr2
    rw [n1]
    exact q _ _ L1 f1 n2 (g1.trans n3) (O'.mono n3.ext o1) ⟨l, hr, .tup (.inr ⟨ob, upd_same⟩) (dqa_ext n3.ext _ _ h2), fun _ => ⟨r, ob, xs, rfl, upd_same, hz⟩⟩)
end
/-- what is known of a slot is told less closely -/
theorem FC.close {T : List NTab} {Hin : Hp} {Γ : Gam} {O : OS} {σ : L2.St} {H : Hp} {S : PyData → Prop} {d : PyData} (c : FC T Hin Γ O σ H) (i : Nat) (hi : Γ[i]? = some (some (dat d))) (hd : S d) : FC T Hin (Γ.set i (some (tyS S))) O σ H := by
  obtain ⟨Hb, L, e, f, ap, g, s, o, _⟩ := c
  obtain ⟨v, h1, h2⟩ := s.at_ i _ hi
  have es : σ.set i (some v) = σ := by
    obtain ⟨hlt, he⟩ := List.getElem?_eq_some_iff.mp h1
    rw [← he]
    exact List.set_getElem_self hlt
  have s2 := s.set (i := i) (t := tyS S) (v := v) ⟨d, hd, h2⟩
  rw [es] at s2
  exact ⟨Hb, L, e, f, ap, g, s2, o, trivial⟩
theorem cut20 {α : Type} (xs : List α) : cutD xs none (some 20) = xs.take 20 := by
  unfold cutD
  rw [HT.sIx_none, show (20 : Int) = ((20 : Nat) : Int) from rfl, HT.sIx_nat, List.drop_zero, Nat.sub_zero]
  rcases Nat.le_total 20 xs.length with h | h
  · rw [Nat.min_eq_left h]
  · rw [Nat.min_eq_right h, List.take_of_length_le (Nat.le_refl _), List.take_of_length_le h]
/-! ### boards -/
theorem name_strOk {z : Str} {m : Int} (h : OkName z m) : PyData.strOk z = true := by
  unfold PyData.strOk
  rw [Array.all_eq_true']
  intro c hc
  have z := h.ok c (by simpa using hc)
  have hl : ∀ c ∈ letters.cps.toList, decide (c < 0x110000) = true := by decide +kernel
  exact hl c z
def rowP (n : Nat) : PyData → Prop := fun d => ∃ r : List Str, d = .tuple (r.map .str) ∧ r.length ≤ n ∧ ∀ z ∈ r, OkName z 20
def nameP (ns : List Str) : PyData → Prop := fun d => ∃ z ∈ ns, d = .str z
def sideP : PyData → Prop := isI fun i => ∃ k : Nat, i = (k : Int) ∧ k < 2
structure BdOk (ns : List Str) (b : Board) : Prop where
  nm : b.name ∈ ns
  sd : b.side ≤ 1
  len : b.row.length ≤ 20
  wd : ∀ z ∈ b.row, OkName z 20
def brdP (ns : List Str) : PyData → Prop := fun d => ∃ b : Board, d = b.enc ∧ BdOk ns b
theorem board_lay {ns : List Str} {b : Board} (hn : ∀ z ∈ ns, OkName z 8) (h : BdOk ns b) : b.enc.canLay0 = true ∧ b.enc.depth ≤ 3 := by
  have h1 := name_strOk (hn _ h.nm)
  have h2 := canLay_strs (xs := b.row) fun z hz => name_strOk (h.wd z hz)
  have h3 := depth_strs b.row
  unfold Board.enc
  constructor
  · simp only [PyData.canLay0, PyData.canLayAll0, h1, h2, Bool.and_self]
  · simp only [PyData.depth, PyData.depthAll, h3]
    omega
theorem boards_shaped {ns : List Str} {bs : List Board} (hn : ∀ z ∈ ns, OkName z 8) (h : ∀ b ∈ bs, BdOk ns b) : SeqAt.shaped (.list (bs.map Board.enc)) = true := by
  have z : ∀ d ∈ bs.map Board.enc, d.canLay0 = true ∧ d.depth ≤ 3 := fun d hd => by
    obtain ⟨b, hb, rfl⟩ := List.mem_map.mp hd
    exact board_lay hn (h b hb)
  unfold SeqAt.shaped
  rw [PyData.canLay0, canLayAll_of fun d hd => (z d hd).1, PyData.depth]
  have := depthAll_le (n := 3) fun d hd => (z d hd).2
  rw [decide_eq_true (by omega)]
  rfl
theorem dg_brd {X : Cx} {Γ : Gam} {ns : List Str} {x1 x2 x3 : Str} {i1 i2 i3 : Nat} {q1 q2 q3 pos : Pos} {kk : Nat} (hc : X.calm = true) (nd : X.N.Nodup) (hi1 : X.N[i1]? = some x1 := by rfl) (hx1 : Loc X.env.scope x1 := by first | exact Or.inl rfl | exact Or.inr rfl) (hf1 : X.fn x1 = true ∨ X.env.scope.names.lookup x1 = some .local := by first | exact .inl rfl | exact .inr rfl)
    (hi2 : X.N[i2]? = some x2 := by rfl) (hx2 : Loc X.env.scope x2 := by first | exact Or.inl rfl | exact Or.inr rfl) (hf2 : X.fn x2 = true ∨ X.env.scope.names.lookup x2 = some .local := by first | exact .inl rfl | exact .inr rfl)
    (hi3 : X.N[i3]? = some x3 := by rfl) (hx3 : Loc X.env.scope x3 := by first | exact Or.inl rfl | exact Or.inr rfl) (hf3 : X.fn x3 = true ∨ X.env.scope.names.lookup x3 = some .local := by first | exact .inl rfl | exact .inr rfl) :
    DG X (.Tuple [.Name x1 q1, .Name x2 q2, .Name x3 q3] kk pos) (tyS (brdP ns)) Γ (((Γ.set i1 (some (tyS (nameP ns)))).set i2 (some (tyS sideP))).set i3 (some (tyS (rowP 20)))) [i1, i2, i3] :=
  fun v σ Hb H e ⟨d, ⟨b, hd, hb⟩, h⟩ s Q q => wg_of (pg_tup (n := 3) hc (pgs_cons (pg_name nd hi1 hx1 hf1) (pgs_cons (pg_name nd hi2 hx2 hf2) (pgs_cons (pg_name nd hi3 hx3 hf3) pgs_nil)))) (by
    subst hd
    obtain ⟨l, xs, rfl, h1, h2⟩ := dat_tup (ds := [.str b.name, .int (b.side : Nat), .tuple (b.row.map .str)]) h
    cases h2 with
    | cons a1 h2 =>
      cases h2 with
      | cons a2 h2 =>
        cases h2 with
        | cons a3 h2 =>
          cases h2
          exact ⟨l, _, rfl, sqT_rd (rd_ext e h1), rfl, _, _, rfl, _, _, rfl, _, _, rfl, rfl, q _ (((s.set (t := tyS (nameP ns)) ⟨_, ⟨_, hb.nm, rfl⟩, a1⟩).set (t := tyS sideP) ⟨_, ⟨_, rfl, b.side, rfl, Nat.lt_succ_of_le hb.sd⟩, a2⟩).set (t := tyS (rowP 20)) ⟨_, ⟨b.row, rfl, hb.len, hb.wd⟩, a3⟩) ((out_set.trans out_set).trans out_set)⟩)
end G
set_option Elab.async false
set_option linter.all false
set_option maxRecDepth 100000
set_option maxHeartbeats 1000000
set_option pp.maxSteps 400
namespace G
open PySem PySem.Spec L2 LamX NdefX
local macro_rules | `(tactic| fail "sub") => `(tactic| first | exact Sub.nil | (refine Sub.drop ?_; fail "sub") | (refine Sub.same ?_; fail "sub"))
local macro_rules | `(tactic| fail "side") => `(tactic| first | assumption | rfl | omega | decide)
def manyP : PyData → Prop := isI fun i => ∃ k : Nat, i = ((k + 1 : Nat) : Int) ∧ k < 5
structure HallP (bs : List Board) : Prop where
  lo : 1 ≤ bs.length
  hi : bs.length ≤ 5
  ns : ∃ ns : List Str, ns.length ≤ 2 ∧ (∀ z ∈ ns, OkName z 8) ∧ ∀ b ∈ bs, BdOk ns b
def hallPd : PyData → Prop := fun d => ∃ bs : List Board, d = .tuple (bs.map Board.enc) ∧ HallP bs
def wordsL : List Str := ["a", "b", "cd"]
theorem words_ok : ∀ z ∈ wordsL, OkName z 20 := fun z hz => by
  have h : ∀ z ∈ wordsL, 1 ≤ z.length ∧ z.length ≤ 20 ∧ ∀ c ∈ z.cps.toList, c ∈ letters.cps.toList := by decide +kernel
  obtain ⟨h1, h2, h3⟩ := h z hz
  exact ⟨by omega, by omega, by decide, h3⟩
theorem allS_words {α : Type} : ∀ {xs : List α} {ds : List PyData}, AllS (xs.map fun _ d => ∃ z ∈ wordsL, d = PyData.str z) ds → ∃ r : List Str, ds = r.map .str ∧ (∀ z ∈ r, z ∈ wordsL) ∧ r.length = xs.length
  | [], [], _ => ⟨[], rfl, (fun c h => nomatch h), rfl⟩
  | x :: xs, d :: ds, ⟨⟨c, hc, e⟩, h⟩ => by
    obtain ⟨ks, e2, h2, h3⟩ := allS_words h
    exact ⟨c :: ks, by rw [e, e2]; rfl, fun z hz => by
      rcases List.mem_cons.mp hz with rfl | hz
      · exact hc
      · exact h2 z hz, by rw [List.length_cons, List.length_cons, h3]⟩
  | [], _ :: _, h => h.elim
  | _ :: _, [], h => h.elim
/-- what stands below is let go, the value is kept -/
theorem FV.fcdrop {T : List NTab} {Γ : Gam} {O : OS} {Hin : Hp} {σ : L2.St} {H : Hp} {sa fa : Addr} {ds : List PyData} {t : Ty} {v : V} (c : FV T Hin Γ (oSrc sa (oC fa ds O)) σ H (t.P v)) : FV T Hin Γ (oSrc sa O) σ H (t.P v) := by
  obtain ⟨Hb, L, rfl, fr, ap, g, s, ⟨p, vs, L1, rfl, h2, ws, L2, rfl, h4, h5⟩, pv⟩ := c
  have nd := fr.nd
  rw [List.map_cons, List.map_cons, List.nodup_cons, List.nodup_cons] at nd
  obtain ⟨n1, n2, n3⟩ := nd
  have ne : sa ≠ fa := fun z => n1 (by rw [z]; exact List.mem_cons_self)
  have hf : Hb fa = none := ap _ (List.mem_cons_of_mem _ List.mem_cons_self)
  have gn : Ge T Hb (upd Hb fa (.lst ws)) := Ge.new hf
  have n4 : sa ∉ L2.map (·.1) := fun z => n1 (List.mem_cons_of_mem _ z)
  refine ⟨upd Hb fa (.lst ws), (sa, .lst vs) :: L2, ?_, ⟨?_, fun q hq => ?_⟩, fun q hq => ?_, g.trans gn, s.ext gn.ext, ⟨p, vs, L2, rfl, dqa_ext gn.ext _ _ h2, O.mono gn.ext h5⟩, t.mono gn.ext pv⟩
  · show upd (upd (addAll Hb L2) fa _) sa _ = upd (addAll (upd Hb fa _) L2) sa _
    rw [addAll_upd n2]
  · rw [List.map_cons, List.nodup_cons]
    exact ⟨n4, n3⟩
  · rcases List.mem_cons.mp hq with rfl | hq
    · rfl
    · exact fr.pl q (List.mem_cons_of_mem _ (List.mem_cons_of_mem _ hq))
  · rcases List.mem_cons.mp hq with rfl | hq
    · rw [upd_ne ne]
      exact ap _ List.mem_cons_self
    · have nq : q.1 ≠ fa := fun z => n2 (z ▸ List.mem_map.mpr ⟨q, hq, rfl⟩)
      rw [upd_ne nq]
      exact ap q (List.mem_cons_of_mem _ (List.mem_cons_of_mem _ hq))
structure BsOk (ns : List Str) (bs : List Board) (n : Nat) : Prop where
  len : bs.length = n
  ok : ∀ b ∈ bs, BdOk ns b
section
variable {P : Program} {w : World} {K : PySem.W.Frag} {mg : Str → Option Value} {base : Heap} {T : List NTab}
theorem fn_law_boards (G : Md K mg) : C8.Cal P w K mg base 2 "_law_boards" (spB T (fun (i : Addr × OS) => [tyv (.ref i.1), tyS manyP, tyS namesP, tyS (isB fun _ => True)]) (fun i => oSrc i.1 i.2) (fun _ => tyS hallPd) (fun i => oSrc i.1 i.2)) [] := by
  refine fn_mkB G.d__law_boards ["_law_source_here", "_law_many", "_law_names_here", "_law_is_fresh", "_law_words", "_law_found", "_law_k", "_law_name", "_law_side", "_law_row", "_law_other", "_law_turn"] (by decide +kernel) (fun _ => rfl) fun ⟨sa, O⟩ cdv A outer s H vs Q E f Hb hr nd q c => ?_
  have hu := hr.units
  obtain ⟨d, ⟨i, rfl, m0, rfl, hm0⟩, c⟩ := FC.open_ (S := manyP) c 1 rfl
  obtain ⟨d, ⟨ns, rfl, hns, hns0⟩, c⟩ := FC.open_ (S := namesP) c 2 rfl
  obtain ⟨d, ⟨fb, rfl, _⟩, c⟩ := FC.open_ (S := isB fun _ => True) c 3 rfl
  have hnl : ns.length ≤ 2 := hns.len
  have hn0 : 0 < ns.length := List.length_pos_iff.mpr hns0
  have hnok : ∀ z ∈ ns, OkName z 8 := hns.ok
  refine fs_set 4 (t := dat (.list (wordsL.map .str))) nd c (by exact dx_lst (ds := [.str "a", .str "b", .str "cd"]) (da_cons dx_str (da_cons dx_str (da_cons dx_str da_nil)))) fun σ H' c => ?_
  refine fs_own 5 nd c (fun _ => pe_lst pa_nil) fun fa σ H' c => ?_
  have c := c.up
  have hword : ∀ i : Int, (∃ k : Nat, i = (k : Int) ∧ k < 3) → ∃ d, atI (wordsL.map PyData.str) i = some d ∧ ∃ z ∈ wordsL, d = .str z := fun i ⟨k, e, hk⟩ => by
    have hk2 : k < wordsL.length := hk
    exact ⟨.str wordsL[k], by rw [e]; exact atI_nat (by rw [List.getElem?_map, List.getElem?_eq_getElem hk2]; rfl), _, List.getElem_mem hk2, rfl⟩
  have hname : ∀ i : Int, (∃ k : Nat, i = (k : Int) ∧ k < ns.length) → ∃ d, atI (ns.map PyData.str) i = some d ∧ nameP ns d := fun i ⟨k, e, hk⟩ => ⟨.str ns[k], by rw [e]; exact atI_nat (by rw [List.getElem?_map, List.getElem?_eq_getElem hk]; rfl), _, List.getElem_mem hk, rfl⟩
  refine fs_forM (ι := List Board) (xs := List.range (m0 + 1)) (js := [6]) (fun n bs => [some (tyv (.ref sa)), some (dat (.int ((m0 + 1 : Nat) : Int))), some (dat (.list (ns.map .str))), some (dat (.bool fb)), some (dat (.list (wordsL.map .str))), some (tyv (.ref fa)), none, none, none, none, none, none]) (fun n bs => oP (BsOk ns bs n) (oSrc sa (oC fa (bs.map Board.enc) O))) (fun n x bs => [some (tyv (.ref sa)), some (dat (.int ((m0 + 1 : Nat) : Int))), some (dat (.list (ns.map .str))), some (dat (.bool fb)), some (dat (.list (wordsL.map .str))), some (tyv (.ref fa)), some (dat (.int (x : Nat))), none, none, none, none, none]) [] (FC.put (c.sub (by fail "sub")) ⟨rfl, fun b hb => nomatch hb⟩) (by exact di_range1N (N := m0 + 1) G.b_range (dx_var 1) (by omega)) rfl (fun n x i e => dg_name 6 nd) (fun n x bs H0 e g σ' H' c => ?_) (fun bs σ' H' c => ?_)
  · obtain ⟨⟨o1, o2⟩, c⟩ := c.get
    have hn : n < m0 + 1 := by
      have := (List.getElem?_eq_some_iff.mp e).1
      rwa [List.length_range] at this
    have hsh := boards_shaped hnok o2
    refine fb_set 7 (t := tyS (nameP ns)) nd c (by exact db_ixL (p1 := fun i => ∃ k : Nat, i = (k : Int) ∧ k < ns.length) (dx_var 2) (db_takeI G hr (dx_var 0) (DX.dat (dx_lenL G.b_len (dx_var 2)) (by rw [List.length_map])) hn0 (by omega)) hname) fun σ' H' c => ?_
    refine fb_set 8 (t := tyS sideP) nd c (by exact db_takeI G hr (dx_var 0) dx_int (n := 2) (by decide) (by decide)) fun σ' H' c => ?_
    refine fs_set 9 (t := tyS (rowP 30)) nd c (by exact dx_tyS (dx_tup (ds := []) da_nil) ⟨[], rfl, Nat.zero_le _, fun z hz => nomatch hz⟩) fun σ' H' c => ?_
    have hrowtup : ∀ {r : List Str}, (∀ z ∈ r, z ∈ wordsL) → r.length ≤ 30 → rowP 30 (.tuple (r.map .str)) := fun {r} h1 h2 => ⟨r, rfl, h2, fun z hz => words_ok z (h1 z hz)⟩
    refine fs_seq (fun σ' H' => FC T H0 [some (tyv (.ref sa)), some (dat (.int ((m0 + 1 : Nat) : Int))), some (dat (.list (ns.map .str))), some (dat (.bool fb)), some (dat (.list (wordsL.map .str))), some (tyv (.ref fa)), none, some (tyS (nameP ns)), some (tyS sideP), some (tyS (rowP 30)), none, none] (oSrc sa (oC fa (bs.map Board.enc) O)) σ' H') ?_ fun σ' H' c => ?_
    · refine fw_if (k := !fb) c (by exact dt_not (dt_val (dx_var 3))) (fun hk H' c => ?_) fun hk H' c => fs_nil (c.sub (by fail "sub"))
      refine fb_set 9 (t := tyS fun d => ∃ ds, d = .tuple ds ∧ ∃ r : List Str, ds = r.map .str ∧ (∀ z ∈ r, z ∈ wordsL) ∧ r.length ≤ 3) nd c (by exact db_tupOf (R := fun ds => ∃ r : List Str, ds = r.map .str ∧ (∀ z ∈ r, z ∈ wordsL) ∧ r.length ≤ 3) G.b_tuple ((db_lc (Sx := fun _ d => ∃ z ∈ wordsL, d = PyData.str z) [("_law_turn", 11)] nd rfl (by rfl) (dbi_range (N := 3) G.b_range (by decide) (db_take (K0 := G) hr (dx_var 0) dx_int (n := 3) (by decide) (by decide))) (fun xs ⟨k, hk, hxs⟩ => by rw [hxs, List.length_range]; omega) (fun x s0 H0 C cl fp => dg_name 11 nd) (fun x s0 H0 C cl fp => by exact db_ixL (p1 := fun i => ∃ k : Nat, i = (k : Int) ∧ k < 3) (dx_var 4) (db_takeI G hr (dx_var 0) dx_int (n := 3) (by decide) (by decide)) hword)).toS fun d ⟨xs, ds, e1, ⟨k, hk, e2⟩, e3⟩ => by
        obtain ⟨r, e4, e5, e6⟩ := allS_words e3
        rw [e2, List.length_range] at e6
        exact ⟨ds, e1, r, e4, e5, by omega⟩)) fun σ' H' c => ?_
      obtain ⟨d, ⟨ds, rfl, r, rfl, hr1, hr2⟩, c⟩ := FC.open_ (S := fun d => ∃ ds, d = .tuple ds ∧ ∃ r : List Str, ds = r.map .str ∧ (∀ z ∈ r, z ∈ wordsL) ∧ r.length ≤ 3) c 9 rfl
      have hlo : (bs.map Board.enc).length = bs.length := List.length_map _
      refine fb_if1 (B := fun k => k = true → bs ≠ []) (O' := oSrc sa (oC fa (bs.map Board.enc) O)) c (DBW.dt (dbw_and (k := !(bs.map Board.enc).isEmpty) (dbt_neNilOwn hu ownSrc (by exact (dx_var 5)) hsh) (fun hk => dbw_one ((dbt_eqI (j := 1) (db_takeI G hr (by exact (dx_var 0)) (by exact dx_int) (n := 2) (by decide) (by decide)) (by exact dx_int)).to fun v _ _ hz => by rw [hz] at hk; cases hk)) (fun hk hz => by cases hz))) (fun hk H' c => ?_) fun hk H' c => fs_nil ?_
      · have hb0 : 0 < bs.length := List.length_pos_iff.mpr (hk rfl)
        refine fb_asg (t := tyS (brdP ns)) c (by exact db_ixOwn (S := brdP ns) (p1 := fun i => ∃ k : Nat, i = (k : Int) ∧ k < bs.length) ownSrc (dx_var 5) (db_takeB G hr (dx_var 0) ((db_lenOwn ownSrc G.b_len (dx_var 5)).to fun v H h => by rw [hlo] at h; exact h) hb0 (by omega)) (fun i ⟨k, e, hk⟩ => ⟨bs[k].enc, by rw [e]; exact atI_nat (by rw [List.getElem?_map, List.getElem?_eq_getElem hk]; rfl), bs[k], rfl, o2 _ (List.getElem_mem hk)⟩)) (dg_brd (ns := ns) (i1 := 7) (i2 := 10) (i3 := 9) rfl nd) fun σ' H' c => ?_
        refine fb_if1 (B := fun _ => True) (O' := oSrc sa (oC fa (bs.map Board.enc) O)) c ((dbt_eqI (j := 1) (db_takeI G hr (by exact (dx_var 0)) (by exact dx_int) (n := 2) (by decide) (by decide)) (by exact dx_int)).to fun _ _ => trivial) (fun _ H' c => ?_) fun _ H' c => fs_nil (fs_nil (by
          obtain ⟨d, ⟨r3, rfl, h3, h4⟩, c⟩ := FC.open_ (S := rowP 20) c 9 rfl
          exact (c.close (S := rowP 30) 9 rfl ⟨r3, rfl, by omega, h4⟩).sub (by fail "sub")))
        obtain ⟨d, ⟨r2, rfl, hl2, hw2⟩, c⟩ := FC.open_ (S := rowP 20) c 9 rfl
        have hcat : ∀ d : PyData, (∃ es : List PyData, d = .tuple (r2.map PyData.str ++ es) ∧ AllS [fun d => ∃ z ∈ wordsL, d = PyData.str z] es) → rowP 30 d := fun d ⟨es, e1, hes⟩ => by
          match es, hes with
          | [x], ⟨⟨z, hz, ez⟩, _⟩ =>
            refine ⟨r2 ++ [z], by rw [e1, ez, List.map_append]; rfl, by rw [List.length_append, List.length_singleton]; omega, fun y hy => ?_⟩
            rcases List.mem_append.mp hy with hy | hy
            · exact hw2 y hy
            · rw [List.mem_singleton.mp hy]
              exact words_ok z hz
        have hcl : ∀ es : List PyData, AllS [fun d => ∃ z ∈ wordsL, d = PyData.str z] es → (r2.map PyData.str).length + es.length ≤ 100000 := fun es hes => by
          rw [allS_len hes, List.length_map]
          show r2.length + 1 ≤ _
          omega
        exact fb_set 9 (t := tyS (rowP 30)) nd c (by exact (db_catT (R := AllS [fun d => ∃ z ∈ wordsL, d = PyData.str z]) (dx_var 9) (db_tup (Ss := [fun d => ∃ z ∈ wordsL, d = PyData.str z]) (dba_cons (db_ixL (p1 := fun i => ∃ k : Nat, i = (k : Int) ∧ k < 3) (dx_var 4) (db_takeI G hr (dx_var 0) dx_int (n := 3) (by decide) (by decide)) hword) dba_nil)) hcl).toS hcat) fun σ' H' c => fs_nil (fs_nil (fs_nil (c.sub (by fail "sub"))))
      · exact (c.close (S := rowP 30) 9 rfl (hrowtup hr1 (by omega))).sub (by fail "sub")
    · obtain ⟨d, ⟨zn, hzn, rfl⟩, c⟩ := FC.open_ (S := nameP ns) c 7 rfl
      obtain ⟨d, ⟨i, rfl, sd, rfl, hsd⟩, c⟩ := FC.open_ (S := sideP) c 8 rfl
      obtain ⟨d, ⟨r, rfl, hrl, hrw⟩, c⟩ := FC.open_ (S := rowP 30) c 9 rfl
      have hbd : BdOk ns ⟨zn, sd, r.take 20⟩ := ⟨hzn, by show sd ≤ 1; omega, by show (r.take 20).length ≤ 20; rw [List.length_take]; omega, fun z hz => hrw z (List.mem_of_mem_take hz)⟩
      have o1 : bs.length = n := o1
      refine fs_app 5 (d := Board.enc ⟨zn, sd, r.take 20⟩) c.down rfl (by rw [List.length_map]; omega) (by exact dx_tup (ds := [.str zn, .int (sd : Nat), .tuple ((r.take 20).map .str)]) (da_cons (dx_var 7) (da_cons (dx_var 8) (da_cons (DX.dat (dx_slT (dx_var 9) do_none (do_some dx_int)) (by rw [cut20, List.map_take])) da_nil)))) fun H' c => fs_nil ⟨bs ++ [⟨zn, sd, r.take 20⟩], FC.put (p := BsOk ns (bs ++ [⟨zn, sd, r.take 20⟩]) (n + 1)) ?_ ⟨by rw [List.length_append, List.length_singleton, o1], fun b hb => ?_⟩⟩
      · rw [List.map_append]
        exact c.up.sub (by fail "sub")
      · rcases List.mem_append.mp hb with hb | hb
        · exact o2 b hb
        · rw [List.mem_singleton.mp hb]
          exact hbd
  · obtain ⟨⟨o1, o2⟩, c⟩ := c.get
    rw [List.length_range] at o1
    have o1 : bs.length = m0 + 1 := o1
    exact fb_ret c (db_tupOwn G.b_tuple ownSrc (by exact (dx_var 5))) fun v H' c => q v H' _ _ (FV.imp (FV.fcdrop c) fun H p => ⟨_, ⟨bs, rfl, by omega, by omega, ns, hnl, hnok, o2⟩, p⟩)
end
end G
set_option Elab.async false
set_option linter.all false
set_option maxRecDepth 100000
set_option maxHeartbeats 1000000
set_option pp.maxSteps 400
namespace G
open PySem PySem.Spec L2 LamX NdefX
local macro_rules | `(tactic| fail "sub") => `(tactic| first | exact Sub.nil | (refine Sub.drop ?_; fail "sub") | (refine Sub.same ?_; fail "sub"))
local macro_rules | `(tactic| fail "side") => `(tactic| first | assumption | rfl | omega | decide)
def szA : Nat → Nat
  | 0 => 1
  | n + 1 => 1 + 3 * szA n
structure AimOk (m n : Nat) (a : Aim) : Prop where
  ok : a.ok m
  dep : a.depth ≤ n + 1
  siz : a.size ≤ szA n
def aimP (m n : Nat) : PyData → Prop := fun d => ∃ a : Aim, d = a.enc ∧ AimOk m n a
theorem szA_pos : ∀ n, 1 ≤ szA n
  | 0 => Nat.le_refl _
  | n + 1 => by rw [szA]; omega
theorem allS_aims {m n : Nat} {α : Type} : ∀ {xs : List α} {ds : List PyData}, AllS (xs.map fun _ => aimP m n) ds → ∃ as : List Aim, ds = as.map Aim.enc ∧ (∀ a ∈ as, AimOk m n a) ∧ as.length = xs.length
  | [], [], _ => ⟨[], rfl, (fun c h => nomatch h), rfl⟩
  | x :: xs, d :: ds, ⟨⟨a, e, ha⟩, h⟩ => by
    obtain ⟨ks, e2, h2, h3⟩ := allS_aims h
    exact ⟨a :: ks, by rw [e, e2]; rfl, fun z hz => by
      rcases List.mem_cons.mp hz with rfl | hz
      · exact ha
      · exact h2 z hz, by rw [List.length_cons, List.length_cons, h3]⟩
  | [], _ :: _, h => h.elim
  | _ :: _, [], h => h.elim
theorem sizes_le {as : List Aim} {s : Nat} (h : ∀ a ∈ as, a.size ≤ s) : Aim.sizes as ≤ as.length * s := by
  induction as with
  | nil => rw [Aim.sizes]; exact Nat.zero_le _
  | cons a as ih =>
    have h1 := h a List.mem_cons_self
    have h2 := ih fun x hx => h x (List.mem_cons_of_mem _ hx)
    rw [Aim.sizes, List.length_cons, Nat.succ_mul]
    omega
theorem aim_node {m n : Nat} {kd : Kd} {as : List Aim} (hk : kd.ok) (hl : as.length ≤ 3) (h : ∀ a ∈ as, AimOk m n a) : AimOk m (n + 1) (.node kd as) := by
  refine ⟨?_, ?_, ?_⟩
  · rw [Aim.ok]
    exact ⟨hk, by omega, oks_iff.mpr fun a ha => (h a ha).ok⟩
  · rw [Aim.depth]
    have := depths_le.mpr fun a ha => (h a ha).dep
    omega
  · rw [Aim.size, szA]
    have h1 := sizes_le fun a ha => (h a ha).siz
    have h2 : as.length * szA n ≤ 3 * szA n := Nat.mul_le_mul_right _ hl
    omega
section
variable {P : Program} {w : World} {K : PySem.W.Frag} {mg : Str → Option Value} {base : Heap} {T : List NTab}
theorem fn_law_aim (G : Md K mg) (n : Nat) : C8.Cal P w K mg base (n + 2) "_law_aim" (spB T (fun (i : {p : Addr × OS × Nat // (1 ≤ p.2.2 ∧ p.2.2 ≤ 10) ∧ n ≤ 100}) => [tyv (.ref i.1.1), dat (.int (i.1.2.2 : Nat)), dat (.int ((n + 1 : Nat) : Int))]) (fun i => oSrc i.1.1 i.1.2.1) (fun i => tyS (aimP i.1.2.2 n)) (fun i => oSrc i.1.1 i.1.2.1)) [] := by
  induction n with
  | zero =>
    refine fn_mkB G.d__law_aim ["_law_source_here", "_law_many", "_law_deep", "_law_kind", "_law_inner", "_law_k"] (by decide +kernel) (fun _ => rfl) fun ⟨⟨sa, O, m⟩, ⟨hm1, hm2⟩, hnn⟩ cdv A outer s H vs Q E f Hb hr nd q c => ?_
    have hm1 : 1 ≤ m := hm1
    have hm2 : m ≤ 10 := hm2
    refine fb_set 3 nd c (by exact db_takeI G hr (dx_var 0) dx_int (n := 4) (by decide) (by decide)) fun σ' H' c => ?_
    obtain ⟨d, ⟨i, rfl, kd, rfl, hk⟩, c⟩ := FC.open_ (S := isI fun i => ∃ k : Nat, i = (k : Int) ∧ k < 4) c 3 rfl
    refine fs_if1 (k := true) c (by exact DT.to (DW.dt (dw_or (DC.dt (dc_eqI (dx_var 2) dx_int)) (fun _ => dw_one (DC.dt (dc_eqI (dx_var 3) dx_int))))) (by rw [decide_eq_true (by rfl : ((0 + 1 : Nat) : Int) = 1), Bool.true_or])) (fun _ H' c => ?_) fun hk => by cases hk
    exact fb_ret c (db_takeI G hr (by exact (dx_var 0)) (by exact (dx_var 1)) (n := m) hm1 (by omega)) fun v H' c => q v H' _ _ (FV.imp c fun H ⟨d, ⟨i, e1, k, e2, h⟩, p⟩ => ⟨d, ⟨.bd k, by rw [e1, e2]; rfl, ⟨h, by rw [Aim.depth]; exact Nat.le_refl _, by rw [Aim.size]; exact szA_pos 0⟩⟩, p⟩)
  | succ n ih =>
    refine fn_mkB G.d__law_aim ["_law_source_here", "_law_many", "_law_deep", "_law_kind", "_law_inner", "_law_k"] (by decide +kernel) (fun _ => rfl) fun ⟨⟨sa, O, m⟩, ⟨hm1, hm2⟩, hnn⟩ cdv A outer s H vs Q E f Hb hr nd q c => ?_
    have hm1 : 1 ≤ m := hm1
    have hm2 : m ≤ 10 := hm2
    refine fb_set 3 nd c (by exact db_takeI G hr (dx_var 0) dx_int (n := 4) (by decide) (by decide)) fun σ' H' c => ?_
    obtain ⟨d, ⟨i, rfl, kd, rfl, hk⟩, c⟩ := FC.open_ (S := isI fun i => ∃ k : Nat, i = (k : Int) ∧ k < 4) c 3 rfl
    refine fs_if1 (k := decide (kd = 0)) c (by exact DT.to (DW.dt (dw_or (DC.dt (dc_eqI (dx_var 2) dx_int)) (fun _ => dw_one (DC.dt (dc_eqI (dx_var 3) dx_int))))) (by
      rw [decide_eq_false (by omega : ¬ ((n + 1 + 1 : Nat) : Int) = 1), Bool.false_or, Bool.eq_iff_iff, decide_eq_true_iff, decide_eq_true_iff]
      omega)) (fun _ H' c => ?_) fun hk0 H' c => ?_
    · exact fb_ret c (db_takeI G hr (by exact (dx_var 0)) (by exact (dx_var 1)) (n := m) hm1 (by omega)) fun v H' c => q v H' _ _ (FV.imp c fun H ⟨d, ⟨i, e1, k, e2, h⟩, p⟩ => ⟨d, ⟨.bd k, by rw [e1, e2]; rfl, ⟨h, by rw [Aim.depth]; omega, by rw [Aim.size]; exact szA_pos _⟩⟩, p⟩)
    · have hk0 : kd ≠ 0 := of_decide_eq_false hk0
      refine fb_set 4 (t := tyS fun d => ∃ ds, d = .tuple ds ∧ ∃ as : List Aim, ds = as.map Aim.enc ∧ as.length ≤ 3 ∧ ∀ a ∈ as, AimOk m n a) nd c (by exact db_tupOf (R := fun ds => ∃ as : List Aim, ds = as.map Aim.enc ∧ as.length ≤ 3 ∧ ∀ a ∈ as, AimOk m n a) G.b_tuple ((db_lc (Sx := fun _ => aimP m n) [("_law_k", 5)] nd rfl (by rfl) (dbi_range (N := 4) G.b_range (by decide) (db_take (K0 := G) hr (dx_var 0) dx_int (n := 4) (by decide) (by decide))) (fun xs ⟨k, hk, hxs⟩ => by rw [hxs, List.length_range]; omega) (fun x s0 H0 C cl fp => dg_name 5 nd) (fun x s0 H0 C cl fp => by exact db_call ih hr ⟨(sa, O, m), ⟨hm1, hm2⟩, by show n ≤ 100; omega⟩ (dba_cons (dx_var 0).db (dba_cons (dx_var 1).db (dba_cons (DX.dat (dx_sub (dx_var 2) dx_int) (by congr 1; omega)).db dba_nil))))).toS fun d ⟨xs, ds, e1, ⟨k, hk, e2⟩, e3⟩ => by
        obtain ⟨as, e4, e5, e6⟩ := allS_aims e3
        rw [e2, List.length_range] at e6
        exact ⟨ds, e1, as, e4, by omega, e5⟩)) fun σ' H' c => ?_
      obtain ⟨d, ⟨ds, rfl, as, rfl, hal, has⟩, c⟩ := FC.open_ (S := fun d => ∃ ds, d = .tuple ds ∧ ∃ as : List Aim, ds = as.map Aim.enc ∧ as.length ≤ 3 ∧ ∀ a ∈ as, AimOk m n a) c 4 rfl
      refine fs_if1 (k := decide (kd = 3)) c (by exact DT.to (DC.dt (dc_eqI (dx_var 3) dx_int)) (by rw [Bool.eq_iff_iff, decide_eq_true_iff, decide_eq_true_iff]; omega)) (fun hk3 H' c => ?_) fun hk3 H' c => ?_
      · have hst : ∀ d : PyData, (∃ ds, d = .tuple ds ∧ AllS [(· = PyData.str "least"), isI fun i => ∃ k : Nat, i = (k : Int) ∧ k < as.length + 2, (· = PyData.tuple (as.map Aim.enc))] ds) → aimP m (n + 1) d := fun d ⟨ds, e, h⟩ => by
          match ds, h with
          | [d1, d2, d3], ⟨h1, ⟨i, h2, k, h3, h4⟩, h5, _⟩ =>
            refine ⟨.node (.least k) as, ?_, aim_node (by show k ≤ 25; omega) hal has⟩
            rw [e, h1, h2, h3, h5, Aim.enc, encs_map]
        exact fb_ret c ((db_tup (Ss := [(· = PyData.str "least"), isI fun i => ∃ k : Nat, i = (k : Int) ∧ k < as.length + 2, (· = PyData.tuple (as.map Aim.enc))]) (dba_cons ((by exact dx_str : DX T (bodyX P w K mg base ["_law_source_here", "_law_many", "_law_deep", "_law_kind", "_law_inner", "_law_k"] "_law_aim" (top 102) f cdv A outer s H E) _ _ (dat (.str "least"))).db.to fun v H h => ⟨_, rfl, h⟩) (dba_cons (db_takeI G hr (by exact (dx_var 0)) (by exact DX.dat (dx_add (dx_lenT G.b_len (dx_var 4)) dx_int) (by rw [List.length_map]; rfl)) (n := as.length + 2) (by omega) (by omega)) (dba_cons ((by exact (dx_var 4) : DX T (bodyX P w K mg base ["_law_source_here", "_law_many", "_law_deep", "_law_kind", "_law_inner", "_law_k"] "_law_aim" (top 102) f cdv A outer s H E) _ _ (dat (.tuple (as.map Aim.enc)))).db.to fun v H h => ⟨_, rfl, h⟩) dba_nil)))).toS hst) fun v H' c => q v H' _ _ c
      · have hk3 : kd ≠ 3 := of_decide_eq_false hk3
        have hkk : kd = 1 ∨ kd = 2 := by omega
        rcases hkk with rfl | rfl
        · exact fb_ret c (DX.db (by exact dx_tyS (dx_tup (ds := [.str "all", .tuple (as.map Aim.enc)]) (da_cons (dx_ixL (ds := [.str "all", .str "some"]) (dx_lst (ds := [.str "all", .str "some"]) (da_cons dx_str (da_cons dx_str da_nil))) (dx_sub (dx_var 3) dx_int) (by rfl)) (da_cons (dx_var 4) da_nil))) (⟨.node .all as, by rw [Aim.enc, encs_map], aim_node trivial hal has⟩ : aimP m (n + 1) _))) fun v H' c => q v H' _ _ c
        · exact fb_ret c (DX.db (by exact dx_tyS (dx_tup (ds := [.str "some", .tuple (as.map Aim.enc)]) (da_cons (dx_ixL (ds := [.str "all", .str "some"]) (dx_lst (ds := [.str "all", .str "some"]) (da_cons dx_str (da_cons dx_str da_nil))) (dx_sub (dx_var 3) dx_int) (by rfl)) (da_cons (dx_var 4) da_nil))) (⟨.node .some as, by rw [Aim.enc, encs_map], aim_node trivial hal has⟩ : aimP m (n + 1) _))) fun v H' c => q v H' _ _ c
end
end G
set_option Elab.async false
set_option linter.all false
set_option maxRecDepth 100000
set_option maxHeartbeats 1000000
set_option pp.maxSteps 400
namespace G
open PySem PySem.Spec L2 LamX NdefX
local macro_rules | `(tactic| fail "sub") => `(tactic| first | exact Sub.nil | (refine Sub.drop ?_; fail "sub") | (refine Sub.same ?_; fail "sub"))
local macro_rules | `(tactic| fail "side") => `(tactic| first | assumption | rfl | omega | decide)
/-- what the walk asks of the mathematics -/
structure Maths : Prop where
  pf : ∀ bs, HallP bs → OkPf bs
  ef : ∀ bs a pr, HallP bs → AimOk bs.length 2 a → pr.length = bs.length → (∀ x ∈ pr, x < 10) → OkEf (bs, a, pr)
  bf : ∀ bs a, HallP bs → AimOk bs.length 2 a → OkBf (bs, a)
  ff : ∀ bs a l, HallP bs → AimOk bs.length 2 a → l.Sublist (List.range bs.length) → l ≠ [] → OkFf (bs, a, l)
theorem hall_boards {bs : List Board} (h : HallP bs) : OkBoards bs := by
  obtain ⟨ns, h1, h2, h3⟩ := h.ns
  exact ⟨h.lo, Nat.le_trans h.hi (by decide), fun b hb => ⟨h2 _ (h3 b hb).nm, (h3 b hb).sd, (h3 b hb).len, (h3 b hb).wd⟩⟩
section
variable {T : List NTab} {X : Cx} {Γ : Gam} {O : OS} {Hin : Hp} {σ : L2.St} {H : Hp} {e : Expr} {t t0 : Ty}
theorem DX.toT (i0 : Nat) (h : DX T X Γ e t) (h0 : Γ[i0]? = some (some (tyT t0))) : DX T X Γ e (tyT t) := fun σ H s Q q => h σ H s Q fun v H' g p => by
  obtain ⟨v0, e0, p0⟩ := s.at_ i0 _ h0
  exact q v H' g ⟨p, g.ext.t p0.2⟩
def exT {α : Type} (R : α → Prop) (f : α → Ty) : Ty := ⟨fun v H => ∃ l, R l ∧ (f l).P v H, fun e ⟨l, h1, h2⟩ => ⟨l, h1, (f l).mono e h2⟩⟩
theorem FC.openE {α : Type} {R : α → Prop} {f : α → Ty} (c : FC T Hin Γ O σ H) (i : Nat) (hi : Γ[i]? = some (some (exT R f))) : ∃ l, R l ∧ FC T Hin (Γ.set i (some (f l))) O σ H := by
  obtain ⟨Hb, L, rfl, fr, ap, g, s, o, _⟩ := c
  obtain ⟨v, h1, l, h2, h3⟩ := s.at_ i _ hi
  refine ⟨l, h2, Hb, L, rfl, fr, ap, g, ?_, o, trivial⟩
  have es : σ.set i (some v) = σ := by
    obtain ⟨hlt, he⟩ := List.getElem?_eq_some_iff.mp h1
    rw [← he]
    exact List.set_getElem_self hlt
  have z := s.set (i := i) (t := f l) (v := v) h3
  rw [es] at z
  exact z
end
theorem allS_below {α : Type} {k : Nat} : ∀ {xs : List α} {ds : List PyData}, AllS (xs.map fun _ => ltN k) ds → ∃ r : List Nat, ds = (cs r).map .int ∧ (∀ z ∈ r, z < k) ∧ r.length = xs.length
  | [], [], _ => ⟨[], rfl, (fun c h => nomatch h), rfl⟩
  | x :: xs, d :: ds, ⟨⟨c, e, hc⟩, h⟩ => by
    obtain ⟨ks, e2, h2, h3⟩ := allS_below h
    exact ⟨c :: ks, by rw [e, e2]; rfl, fun z hz => by
      rcases List.mem_cons.mp hz with rfl | hz
      · exact hc
      · exact h2 z hz, by rw [List.length_cons, List.length_cons, h3]⟩
  | [], _ :: _, h => h.elim
  | _ :: _, [], h => h.elim
section
variable {P : Program} {w : World} {K : PySem.W.Frag} {mg : Str → Option Value} {base : Heap}
abbrev lawN : List Str := ["_law_script", "_law_source_here", "_law_names_here", "_law_boards_here", "_law_hall", "_law_at", "_law_aim_here", "_law_prices", "_law_lot", "_law_board"]
theorem fn_mkF {T : List NTab} {ι : Type} {args : ι → List Ty} {res : ι → Ty} {k : Nat} {x : Str} {ps : List Str} {st : Stmt} {f : Addr} {fd : FuncData} (D : C8.Def K mg x st f fd) (N : List Str) (S : C8.scC N ps (C8.fnScope st) = true) (hlen : ∀ i, (args i).length = ps.length)
    (hb : ∀ i cdv A outer s H vs Q E f, Room k (bodyX P w K mg base N x st f cdv A outer s H E).A → (bodyX P w K mg base N x st f cdv A outer s H E).N.Nodup → (∀ v H', Ge T H H' → (res i).P v H' → Q v H') → FC T H (gam0 N (args i)) oN (L2.start N vs) H →
      WSs (bodyX P w K mg base N x st f cdv A outer s H E) (C8.fnBody st) { nx := fun _ H' => Q .non H', rt := Q } (L2.start N vs) H) : FnOk P w K mg base C8.CX0 (k + 1) f fd ps (spP T args res) := by
  have S' := C8.fnScope_by S
  refine C8.fn0 D.fn S' (fun vs H Q E h => ?_) fun cdv A outer s H vs Q E hr h => ?_
  · obtain ⟨i, h1, _⟩ := h
    rw [tyAll_len h1]
    exact hlen i
  · obtain ⟨i, h1, q⟩ := h
    exact ⟨_, pss_wss, hb i cdv A outer s H vs Q E f hr S'.nd q (fc_start (sat0 h1))⟩
theorem fn_law {fl : Addr} {fdl : FuncData} (D : C8.Def K mg "law" (top 113) fl fdl) (G : Md K mg) (M : Mc K mg) (S : AtSearch K mg) {c1 c2 c3 : Addr} (F1 : AtC K mg "enough_lots" ["hall", "aim"] (top 73) c1) (T1 : TabB base mg c1 461) (F2 : AtC K mg "sure_lots" ["hall", "aim", "some"] (top 77) c2) (T2 : TabB base mg c2 485) (F3 : AtC K mg "bars" ["hall", "aim"] (top 78) c3) (T3 : TabB base mg c3 492) (MA : Maths) :
    FnOk P w K mg base C8.CX0 47 fl fdl ["_law_script"] (spP TB0 (fun (i : {zs : List Int // zs.length ≤ 1000}) => [tyT (scrT K i.1)]) fun _ => dat (.bool true)) := by
  refine fn_mkF D lawN (by decide +kernel) (fun _ => rfl) fun ⟨zs, ok⟩ cdv A outer s H vs Q E f hr nd q c => ?_
  have hu := hr.units
  have ok : zs.length ≤ 1000 := ok
  refine fb_setNew 1 nd c (fn_source G) hr ⟨(zs, 0), ok, by show 0 ≤ 1000; decide⟩ (by exact da_cons (DX.unT (dx_var 0)) (da_cons dx_int da_nil)) fun sa p σ' H' c => ?_
  have c := c.os srcOwn
  refine fb_set 2 (t := tyS namesP) (O' := oSrc sa oN) nd c (by exact db_call (fn_law_names G) hr (sa, oN) (dba_cons (dx_var 1).db (dba_cons ((db_onePlus G hr (dx_var 1) dx_int (n := 2) (by decide) (by decide)).toS fun d ⟨i, e, k, h1, h2⟩ => ⟨i, e, k + 1, h1, by omega, by omega⟩) dba_nil))) fun σ' H' c => ?_
  refine fb_set 3 (t := tyS hallPd) (O' := oSrc sa oN) nd c (by exact db_call (fn_law_boards G) hr (sa, oN) (dba_cons (dx_var 1).db (dba_cons (db_onePlus G hr (dx_var 1) dx_int (n := 5) (by decide) (by decide)) (dba_cons (dx_var 2).db (dba_cons ((db_eqI (j := 1) (db_takeI G hr (dx_var 1) dx_int (n := 2) (by decide) (by decide)) dx_int).toS fun d ⟨k, e, _⟩ => ⟨k, e, trivial⟩) dba_nil))))) fun σ' H' c => ?_
  have c := c.dropS
  obtain ⟨d, ⟨bs, rfl, hP⟩, c⟩ := FC.open_ (S := hallPd) c 3 rfl
  have hb5 : bs.length ≤ 5 := hP.hi
  have hb1 : 1 ≤ bs.length := hP.lo
  refine fs_set 4 (t := tyT (hallT K bs)) nd c (by exact DX.toT 0 (dx_hall G M hr (dx_var 3) (hall_boards hP)) rfl) fun σ' H' c => ?_
  refine fs_if1 (k := false) c (by exact DT.to (dt_not (dt_val (dx_call (fn_law_points_fit G S) hr ⟨bs, MA.pf bs hP⟩ (da_cons (DX.unT (dx_var 4)) da_nil)))) rfl) (fun hk => by cases hk) fun _ H' c => ?_
  generalize hmn : (if (((zs.length : Nat) : Int)) < 4 then (((zs.length : Nat) : Int)) else (4 : Int)) = mn
  have hmn1 : 0 ≤ mn ∧ mn ≤ 4 := by
    rw [← hmn]
    split <;> omega
  generalize hmx : (if mn > (2 : Int) then mn else (2 : Int)) = mx
  have hmx1 : 2 ≤ mx ∧ mx ≤ 4 := by
    rw [← hmx]
    split <;> omega
  have hN : mx - 1 = (((mx - 1).toNat : Nat) : Int) := by omega
  refine fs_forM (ι := Unit) (xs := List.range (mx - 1).toNat) (js := [5]) (fun _ _ => [some (tyT (scrT K zs)), none, none, some (dat (.tuple (bs.map Board.enc))), some (tyT (hallT K bs)), none, none, none, none, none]) (fun _ _ => oN) (fun _ k _ => [some (tyT (scrT K zs)), none, none, some (dat (.tuple (bs.map Board.enc))), some (tyT (hallT K bs)), some (dat (.int (1 + (k : Int)))), none, none, none, none]) () (c.sub (by fail "sub")) (by exact di_range2N (m := 1) (n := mx) G.b_range dx_int (DX.dat (dx_max2 rfl G.b_max (da_cons dx_int (da_cons (DX.dat (dx_min2 rfl G.b_min (da_cons dx_int (da_cons (dx_lenSq G.b_len (DX.unT (dx_var 0))) da_nil))) (congrArg PyData.int hmn)) da_nil))) (congrArg PyData.int hmx)) (by omega) (by omega) hN) rfl (fun m k i e => dg_name 5 nd) (fun n k i H0 e g σ' H' c => ?_) (fun i σ' H' c => ?_)
  · have hk := List.mem_range.mp (List.mem_of_getElem? e)
    have hk3 : k ≤ 10 := by omega
    refine fb_setNew 1 nd c (fn_source G) hr ⟨(zs, 1 + k), ok, by show 1 + k ≤ 1000; omega⟩ (by exact da_cons (DX.unT (dx_var 0)) (da_cons (DX.dat (dx_var 5) (by congr 1)) da_nil)) fun sa p σ' H' c => ?_
    have c := c.os srcOwn
    refine fb_set 6 (t := tyS (aimP bs.length 2)) (O' := oSrc sa oN) nd c (by exact db_call (fn_law_aim G 2) hr ⟨(sa, oN, bs.length), ⟨hb1, by show bs.length ≤ 10; omega⟩, by decide⟩ (dba_cons (dx_var 1).db (dba_cons (DX.dat (dx_lenT G.b_len (dx_var 3)) (by rw [List.length_map])).db (dba_cons dx_int.db dba_nil)))) fun σ' H' c => ?_
    obtain ⟨d, ⟨a, rfl, ha⟩, c⟩ := FC.open_ (S := aimP bs.length 2) c 6 rfl
    refine fb_set 7 (t := tyS fun d => ∃ ds, d = .tuple ds ∧ ∃ pr : List Nat, ds = (cs pr).map .int ∧ pr.length = bs.length ∧ ∀ x ∈ pr, x < 10) (O' := oSrc sa oN) nd c (by exact db_tupOf (R := fun ds => ∃ pr : List Nat, ds = (cs pr).map .int ∧ pr.length = bs.length ∧ ∀ x ∈ pr, x < 10) G.b_tuple ((db_lc (Sx := fun _ => ltN 10) [("_law_board", 9)] nd rfl (by rfl) (DI.dbi (xs := bs) (di_tupM (r := Board.enc) (dx_var 3))) (fun xs hxs => by rw [hxs]; omega) (fun x s0 H0 C cl fp => dg_name 9 nd) (fun x s0 H0 C cl fp => by exact db_take (K0 := G) hr (dx_var 1) dx_int (n := 10) (by decide) (by decide))).toS fun d ⟨xs, ds, e1, e2, e3⟩ => by
      obtain ⟨r, e4, e5, e6⟩ := allS_below e3
      exact ⟨ds, e1, r, e4, by rw [e6, e2], e5⟩)) fun σ' H' c => ?_
    obtain ⟨d, ⟨ds, rfl, pr, rfl, hpr, hpx⟩, c⟩ := FC.open_ (S := fun d => ∃ ds, d = .tuple ds ∧ ∃ pr : List Nat, ds = (cs pr).map .int ∧ pr.length = bs.length ∧ ∀ x ∈ pr, x < 10) c 7 rfl
    refine fs_if1 (k := false) c (by exact DT.to (DW.dt (dw_or (dt_not (dt_val (dx_call (fn_law_enough_fits G M S F1 T1) hr ⟨(bs, a, pr), MA.ef bs a pr hP ha hpr hpx⟩ (da_cons (dx_var 4) (da_cons (dx_var 6) (da_cons (dx_var 7) da_nil)))))) fun _ => dw_one (dt_not (dt_val (dx_call (fn_law_bars_fit G S F2 T2 F3 T3) hr ⟨(bs, a), MA.bf bs a hP ha⟩ (da_cons (dx_var 4) (da_cons (dx_var 6) da_nil))))))) rfl) (fun hk => by cases hk) fun _ H' c => ?_
    refine fb_set 8 (t := exT (fun l : List Nat => l.Sublist (List.range bs.length)) lotT) (O' := oSrc sa oN) nd c (by exact db_tupOfZ (R := fun l : List Nat => l.Sublist (List.range bs.length)) G.b_tuple ((db_lcIf (r := fun k : Nat => PyData.int (k : Int)) (Bx := fun _ _ => True) [("_law_board", 9)] nd rfl (by rfl) (DI.dbi (xs := List.range bs.length) (di_range1N (N := bs.length) G.b_range (DX.dat (dx_lenT G.b_len (dx_var 3)) (by rw [List.length_map])) (by omega))) (fun xs hxs => by rw [hxs, List.length_range]; omega) (fun x s0 H0 C cl fp => dg_name 9 nd) (fun x s0 H0 C cl fp => by exact DBT.to (dbt_gtI (j := 0) (db_takeI G hr (dx_var 1) dx_int (n := 3) (by decide) (by decide)) dx_int) (fun _ _ => trivial)) (fun x s0 H0 C cl fp => by exact (dx_var 9))).toS fun d ⟨xs, ys, e1, e2, e3⟩ => ⟨ys, by rw [e1]; unfold intsD cs; rw [List.map_map]; rfl, e2 ▸ e3⟩)) fun σ' H' c => ?_
    obtain ⟨l, hl, c⟩ := FC.openE (R := fun l : List Nat => l.Sublist (List.range bs.length)) (f := lotT) c 8 rfl
    have c := c.dropS
    have hll : l.length ≤ 1000 := by
      have := hl.length_le
      rw [List.length_range] at this
      omega
    refine fs_if1 (k := false) c (by exact DT.to (DW.dt (dw_and (DC.dt (dc_neD hu (dx_unZ (dx_var 8)) (dx_tup (ds := []) da_nil) (smok_shaped (smok_lot hll) (by decide)) (smok_shaped (n := 1) (smok_tuple (n := 0) (by decide) (fun d hd => by cases hd)) (by decide)))) fun hne => dw_one (dt_not (dt_val (dx_call (fn_law_follows G M S) hr ⟨(bs, a, l), MA.ff bs a l hP ha hl (fun z => by
      have z2 := eqv_lot l []
      rw [z, decide_eq_true rfl] at z2
      rw [z] at hne
      rw [show PyData.eqv (lotD []) (.tuple []) = true from z2] at hne
      cases hne)⟩ (da_cons (DX.unT (dx_var 4)) (da_cons (dx_var 6) (da_cons (dx_var 8) da_nil)))))))) (Bool.and_false _)) (fun hk => by cases hk) fun _ H' c => fs_nil ⟨(), c.sub (by fail "sub")⟩
  · exact fs_retE c dx_bl q
end
end G
set_option Elab.async false
set_option linter.all false
set_option maxRecDepth 100000
set_option maxHeartbeats 1000000
set_option pp.maxSteps 400
namespace G
open PySem PySem.Spec L2 LamX NdefX
open PySem.W (keyToks keyToksAll dataLt)
/-! ### the order of data -/
theorem leD_trans (a b c : PyData) (h1 : leD a b = true) (h2 : leD b c = true) : leD a c = true := by
  unfold leD dataLt at *
  rw [Bool.not_eq_true'] at *
  cases e : PyProof.Rows.lexLt PyProof.Rows.itemOrd (keyToks c) (keyToks a) with
  | false => rfl
  | true =>
    rcases PyProof.Rows.lex_negTrans _ (keyToks b) _ e with z | z
    · rw [h2] at z; cases z
    · rw [h1] at z; cases z
theorem leD_total (a b : PyData) : (leD a b || leD b a) = true := by
  unfold leD dataLt
  cases e : PyProof.Rows.lexLt PyProof.Rows.itemOrd (keyToks b) (keyToks a) with
  | false => rfl
  | true =>
    cases e2 : PyProof.Rows.lexLt PyProof.Rows.itemOrd (keyToks a) (keyToks b) with
    | false => rfl
    | true =>
      have z := PyProof.Rows.lex_trans _ _ _ e e2
      rw [PyProof.Rows.lex_irrefl] at z
      cases z
theorem leD_anti {a b : PyData} (h1 : leD a b = true) (h2 : leD b a = true) : keyToks a = keyToks b := by
  unfold leD dataLt at *
  rw [Bool.not_eq_true'] at *
  exact PyProof.Rows.lex_total _ _ h2 h1
theorem toks_ints : ∀ {a b : List Nat}, keyToksAll ((cs a).map .int) = keyToksAll ((cs b).map .int) → a = b
  | [], [], _ => rfl
  | [], y :: b, h => by
    have h : keyToksAll [] = keyToksAll (PyData.int ((y : Nat) : Int) :: (cs b).map .int) := h
    simp [keyToksAll] at h
  | x :: a, [], h => by
    have h : keyToksAll (PyData.int ((x : Nat) : Int) :: (cs a).map .int) = keyToksAll [] := h
    simp [keyToksAll] at h
  | x :: a, y :: b, h => by
    have h : keyToksAll (PyData.int ((x : Nat) : Int) :: (cs a).map .int) = keyToksAll (PyData.int ((y : Nat) : Int) :: (cs b).map .int) := h
    simp only [keyToksAll, keyToks, List.cons_append, List.nil_append, List.cons.injEq, Sum.inl.injEq, true_and] at h
    rw [toks_ints h.2]
    have := h.1
    congr 1
    omega
theorem lotD_toks {a b : List Nat} (h : keyToks (lotD a) = keyToks (lotD b)) : a = b := by
  unfold lotD at h
  rw [keyToks, keyToks] at h
  exact toks_ints h
theorem costD_toks {pr a b : List Nat} (h : keyToks (costD pr a) = keyToks (costD pr b)) : costD pr a = costD pr b := by
  unfold costD at h ⊢
  simp only [keyToks, keyToksAll, List.cons_append, List.nil_append, List.cons.injEq, Sum.inl.injEq, true_and] at h
  have z := List.append_cancel_right h.2
  rw [h.1, lotD_toks z]
theorem sort_perm_eq {α : Type} {le : α → α → Bool} (tr : ∀ a b c, le a b = true → le b c = true → le a c = true) (to : ∀ a b, (le a b || le b a) = true) (an : ∀ a b, le a b = true → le b a = true → a = b) {xs ys : List α} (h : xs.Perm ys) : xs.mergeSort le = ys.mergeSort le := by
  have p : (xs.mergeSort le).Perm (ys.mergeSort le) := (List.mergeSort_perm xs le).trans (h.trans (List.mergeSort_perm ys le).symm)
  exact p.eq_of_pairwise (le := fun a b => le a b = true) (fun a b _ _ h1 h2 => an a b h1 h2) (List.pairwise_mergeSort tr to xs) (List.pairwise_mergeSort tr to ys)
theorem sortLots_eq {xs ys : List (List Nat)} (h : xs.Perm ys) : sortLots xs = sortLots ys :=
  sort_perm_eq (le := fun a b => leD (lotD a) (lotD b)) (fun a b c => leD_trans _ _ _) (fun a b => leD_total _ _) (fun a b h1 h2 => lotD_toks (leD_anti h1 h2)) h
/-- least by folding, least by sorting -/
theorem minD_spec : ∀ (ds : List PyData) (d : PyData), (PySem.W.minD d ds = d ∨ PySem.W.minD d ds ∈ ds) ∧ leD (PySem.W.minD d ds) d = true ∧ ∀ x ∈ ds, leD (PySem.W.minD d ds) x = true
  | [], d => ⟨.inl rfl, by
    have z := leD_total d d
    rw [Bool.or_self] at z
    exact z, fun x h => nomatch h⟩
  | y :: ds, d => by
    have e : PySem.W.minD d (y :: ds) = PySem.W.minD (if dataLt y d then y else d) ds := rfl
    rw [e]
    obtain ⟨h1, h2, h3⟩ := minD_spec ds (if dataLt y d then y else d)
    have rf : ∀ x, leD x x = true := fun x => by
      have z := leD_total x x
      rw [Bool.or_self] at z
      exact z
    have k : leD (if dataLt y d then y else d) d = true ∧ leD (if dataLt y d then y else d) y = true := by
      cases q : dataLt y d with
      | true =>
        rw [if_pos rfl]
        refine ⟨?_, rf y⟩
        have z := leD_total y d
        have w : leD d y = false := by unfold leD; rw [q]; rfl
        rw [w, Bool.or_false] at z
        exact z
      | false =>
        rw [if_neg Bool.false_ne_true]
        exact ⟨rf d, by unfold leD; rw [q]; rfl⟩
    refine ⟨?_, leD_trans _ _ _ h2 k.1, fun x hx => ?_⟩
    · rcases h1 with h1 | h1
      · rw [h1]
        split
        · exact .inr List.mem_cons_self
        · exact .inl rfl
      · exact .inr (List.mem_cons_of_mem _ h1)
    · rcases List.mem_cons.mp hx with rfl | hx
      · exact leD_trans _ _ _ h2 k.2
      · exact h3 x hx
theorem min_head {pr : List Nat} {ls : List (List Nat)} {d : PyData} {ds : List PyData} (e : costL pr ls = d :: ds) : minDef (ls.map (costD pr)) = d := by
  unfold costL sortD at e
  have p := List.mergeSort_perm (ls.map (costD pr)) leD
  have w := List.pairwise_mergeSort (le := leD) leD_trans leD_total (ls.map (costD pr))
  rw [e] at p w
  have hd : d ∈ ls.map (costD pr) := p.mem_iff.mp List.mem_cons_self
  cases q : ls.map (costD pr) with
  | nil => rw [q] at hd; cases hd
  | cons x xs =>
    show PySem.W.minD x xs = d
    obtain ⟨h1, h2, h3⟩ := minD_spec xs x
    rw [q] at hd p
    have hm : PySem.W.minD x xs ∈ x :: xs := by
      rcases h1 with h1 | h1
      · rw [h1]; exact List.mem_cons_self
      · exact List.mem_cons_of_mem _ h1
    have l1 : leD (PySem.W.minD x xs) d = true := by
      rcases List.mem_cons.mp hd with z | z
      · rw [z]; exact h2
      · exact h3 _ z
    have l2 : leD d (PySem.W.minD x xs) = true := by
      rcases List.mem_cons.mp (p.mem_iff.mpr hm) with z | z
      · rw [z]
        have z := leD_total d d
        rw [Bool.or_self] at z
        exact z
      · exact (List.pairwise_cons.mp w).1 _ z
    have t := leD_anti l1 l2
    rw [← q] at hm hd
    obtain ⟨a, _, ea⟩ := List.mem_map.mp hm
    obtain ⟨b, _, eb⟩ := List.mem_map.mp hd
    rw [← ea, ← eb] at t ⊢
    exact costD_toks t
/-! ### what an aim holds of -/
mutual
def Aim.holdW (w : Nat → Bool) : Aim → Bool
  | .bd n => w n
  | .node .all as => (Aim.holdWs w as).all id
  | .node .some as => (Aim.holdWs w as).any id
  | .node (.least k) as => decide (k ≤ (Aim.holdWs w as).countP id)
def Aim.holdWs (w : Nat → Bool) : List Aim → List Bool
  | [] => []
  | a :: as => a.holdW w :: Aim.holdWs w as
end
mutual
theorem hold_eq (m : Nat) : ∀ a : Aim, a.holds m = a.holdW m.testBit
  | .bd n => by rw [Aim.holds, Aim.holdW]
  | .node .all as => by rw [Aim.holds, Aim.holdW, holds_eq m as]
  | .node .some as => by rw [Aim.holds, Aim.holdW, holds_eq m as]
  | .node (.least k) as => by rw [Aim.holds, Aim.holdW, holds_eq m as]
theorem holds_eq (m : Nat) : ∀ as : List Aim, Aim.holdss m as = Aim.holdWs m.testBit as
  | [] => by rw [Aim.holdss, Aim.holdWs]
  | a :: as => by rw [Aim.holdss, Aim.holdWs, hold_eq m a, holds_eq m as]
end
def LeB : List Bool → List Bool → Prop
  | [], [] => True
  | a :: as, b :: bs => (a = true → b = true) ∧ LeB as bs
  | _, _ => False
theorem leB_all : ∀ {xs ys : List Bool}, LeB xs ys → xs.all id = true → ys.all id = true
  | [], [], _, _ => rfl
  | x :: xs, y :: ys, h, k => by
    rw [List.all_cons, Bool.and_eq_true] at k ⊢
    exact ⟨h.1 k.1, leB_all h.2 k.2⟩
  | [], _ :: _, h, _ => h.elim
  | _ :: _, [], h, _ => h.elim
theorem leB_any : ∀ {xs ys : List Bool}, LeB xs ys → xs.any id = true → ys.any id = true
  | [], [], _, k => k
  | x :: xs, y :: ys, h, k => by
    rw [List.any_cons, Bool.or_eq_true] at k ⊢
    exact k.imp h.1 (leB_any h.2)
  | [], _ :: _, h, _ => h.elim
  | _ :: _, [], h, _ => h.elim
theorem leB_cnt : ∀ {xs ys : List Bool}, LeB xs ys → xs.countP id ≤ ys.countP id
  | [], [], _ => Nat.le_refl _
  | x :: xs, y :: ys, h => by
    have q := leB_cnt h.2
    rw [List.countP_cons, List.countP_cons]
    have h1 := h.1
    cases x <;> cases y <;> simp_all <;> omega
  | [], _ :: _, h => h.elim
  | _ :: _, [], h => h.elim
mutual
theorem hold_mono {w w' : Nat → Bool} (h : ∀ n, w n = true → w' n = true) : ∀ a : Aim, a.holdW w = true → a.holdW w' = true
  | .bd n => by rw [Aim.holdW, Aim.holdW]; exact h n
  | .node .all as => by rw [Aim.holdW, Aim.holdW]; exact leB_all (holds_mono h as)
  | .node .some as => by rw [Aim.holdW, Aim.holdW]; exact leB_any (holds_mono h as)
  | .node (.least k) as => by
    rw [Aim.holdW, Aim.holdW, decide_eq_true_iff, decide_eq_true_iff]
    intro z
    exact Nat.le_trans z (leB_cnt (holds_mono h as))
theorem holds_mono {w w' : Nat → Bool} (h : ∀ n, w n = true → w' n = true) : ∀ as : List Aim, LeB (Aim.holdWs w as) (Aim.holdWs w' as)
  | [] => by rw [Aim.holdWs, Aim.holdWs]; trivial
  | a :: as => by rw [Aim.holdWs, Aim.holdWs]; exact ⟨hold_mono h a, holds_mono h as⟩
end
theorem holdWs_len (w : Nat → Bool) : ∀ as : List Aim, (Aim.holdWs w as).length = as.length
  | [] => by rw [Aim.holdWs]; rfl
  | a :: as => by rw [Aim.holdWs, List.length_cons, List.length_cons, holdWs_len w as]
theorem not_all : ∀ xs : List Bool, (xs.map not).any id = !xs.all id
  | [] => rfl
  | x :: xs => by rw [List.map_cons, List.any_cons, List.all_cons, not_all xs]; cases x <;> rfl
theorem not_any : ∀ xs : List Bool, (xs.map not).all id = !xs.any id
  | [] => rfl
  | x :: xs => by rw [List.map_cons, List.any_cons, List.all_cons, not_any xs]; cases x <;> rfl
theorem not_cnt : ∀ xs : List Bool, (xs.map not).countP id + xs.countP id = xs.length
  | [] => rfl
  | x :: xs => by
    have := not_cnt xs
    rw [List.map_cons, List.countP_cons, List.countP_cons, List.length_cons]
    generalize (xs.map not).countP id = c at *
    cases x <;> simp <;> omega
mutual
theorem dual_hold (w : Nat → Bool) : ∀ a : Aim, a.dual.holdW (fun n => !w n) = !a.holdW w
  | .bd n => by rw [Aim.dual, Aim.holdW, Aim.holdW]
  | .node .all as => by rw [Aim.dual, Aim.holdW, Aim.holdW, duals_hold w as, not_all]
  | .node .some as => by rw [Aim.dual, Aim.holdW, Aim.holdW, duals_hold w as, not_any]
  | .node (.least k) as => by
    rw [Aim.dual, Aim.holdW, Aim.holdW, duals_hold w as, Bool.eq_iff_iff, decide_eq_true_iff, Bool.not_eq_true', decide_eq_false_iff_not]
    have h := not_cnt (Aim.holdWs w as)
    rw [holdWs_len] at h
    omega
theorem duals_hold (w : Nat → Bool) : ∀ as : List Aim, Aim.holdWs (fun n => !w n) (Aim.duals as) = (Aim.holdWs w as).map not
  | [] => by rw [Aim.duals, Aim.holdWs, Aim.holdWs]; rfl
  | a :: as => by rw [Aim.duals, Aim.holdWs, Aim.holdWs, List.map_cons, dual_hold w a, duals_hold w as]
end
mutual
theorem moved_hold (w : Nat → Bool) (b : Nat) : ∀ a : Aim, (a.moved b).holdW w = a.holdW fun n => w (n + b)
  | .bd n => by rw [Aim.moved, Aim.holdW, Aim.holdW]
  | .node .all as => by rw [Aim.moved, Aim.holdW, Aim.holdW, moveds_hold w b as]
  | .node .some as => by rw [Aim.moved, Aim.holdW, Aim.holdW, moveds_hold w b as]
  | .node (.least k) as => by rw [Aim.moved, Aim.holdW, Aim.holdW, moveds_hold w b as]
theorem moveds_hold (w : Nat → Bool) (b : Nat) : ∀ as : List Aim, Aim.holdWs w (Aim.moveds b as) = Aim.holdWs (fun n => w (n + b)) as
  | [] => by rw [Aim.moveds, Aim.holdWs, Aim.holdWs]
  | a :: as => by rw [Aim.moveds, Aim.holdWs, Aim.holdWs, moved_hold w b a, moveds_hold w b as]
end
mutual
theorem within_hold (w : Nat → Bool) (l : List Nat) : ∀ a : Aim, (a.within l).holdW w = a.holdW fun n => decide (n ∈ l) && w (l.idxOf n)
  | .bd n => by
    rw [Aim.within]
    by_cases h : n ∈ l
    · rw [if_pos h, Aim.holdW, Aim.holdW, decide_eq_true h]; rfl
    · rw [if_neg h, Aim.holdW, Aim.holdW, Aim.holdWs, decide_eq_false h]; rfl
  | .node .all as => by rw [Aim.within, Aim.holdW, Aim.holdW, withins_hold w l as]
  | .node .some as => by rw [Aim.within, Aim.holdW, Aim.holdW, withins_hold w l as]
  | .node (.least k) as => by rw [Aim.within, Aim.holdW, Aim.holdW, withins_hold w l as]
theorem withins_hold (w : Nat → Bool) (l : List Nat) : ∀ as : List Aim, Aim.holdWs w (Aim.withins l as) = Aim.holdWs (fun n => decide (n ∈ l) && w (l.idxOf n)) as
  | [] => by rw [Aim.withins, Aim.holdWs, Aim.holdWs]
  | a :: as => by rw [Aim.withins, Aim.holdWs, Aim.holdWs, within_hold w l a, withins_hold w l as]
end
/-! sizes -/
mutual
theorem within_ok {m : Nat} (l : List Nat) : ∀ a : Aim, a.ok m → (a.within l).ok l.length
  | .bd n, h => by
    rw [Aim.within]
    by_cases z : n ∈ l
    · rw [if_pos z, Aim.ok]; exact List.idxOf_lt_length_of_mem z
    · rw [if_neg z, Aim.ok, Aim.oks]; exact ⟨trivial, Nat.zero_le _, trivial⟩
  | .node kd as, h => by
    rw [Aim.ok] at h
    rw [Aim.within, Aim.ok]
    exact ⟨h.1, by rw [withins_map, List.length_map]; exact h.2.1, withins_ok l as h.2.2⟩
theorem withins_ok {m : Nat} (l : List Nat) : ∀ as : List Aim, Aim.oks m as → Aim.oks l.length (Aim.withins l as)
  | [], h => by rw [Aim.withins, Aim.oks]; trivial
  | a :: as, h => by
    rw [Aim.oks] at h
    rw [Aim.withins, Aim.oks]
    exact ⟨within_ok l a h.1, withins_ok l as h.2⟩
end
mutual
theorem within_depth (l : List Nat) : ∀ a : Aim, (a.within l).depth = a.depth
  | .bd n => by
    rw [Aim.within]
    split
    · rw [Aim.depth, Aim.depth]
    · rw [Aim.depth, Aim.depth, Aim.depths]
  | .node kd as => by rw [Aim.within, Aim.depth, Aim.depth, withins_depth l as]
theorem withins_depth (l : List Nat) : ∀ as : List Aim, Aim.depths (Aim.withins l as) = Aim.depths as
  | [] => by rw [Aim.withins]
  | a :: as => by rw [Aim.withins, Aim.depths, Aim.depths, within_depth l a, withins_depth l as]
end
mutual
theorem within_size (l : List Nat) : ∀ a : Aim, (a.within l).size = a.size
  | .bd n => by
    rw [Aim.within]
    split
    · rw [Aim.size, Aim.size]
    · rw [Aim.size, Aim.size, Aim.sizes]
  | .node kd as => by rw [Aim.within, Aim.size, Aim.size, withins_size l as]
theorem withins_size (l : List Nat) : ∀ as : List Aim, Aim.sizes (Aim.withins l as) = Aim.sizes as
  | [] => by rw [Aim.withins]
  | a :: as => by rw [Aim.withins, Aim.sizes, Aim.sizes, within_size l a, withins_size l as]
end
mutual
theorem dual_ok {m : Nat} : ∀ a : Aim, a.ok m → a.dual.ok m
  | .bd n, h => by rw [Aim.dual]; exact h
  | .node .all as, h => by
    rw [Aim.ok] at h
    rw [Aim.dual, Aim.ok]
    exact ⟨trivial, by rw [duals_len]; exact h.2.1, duals_ok as h.2.2⟩
  | .node .some as, h => by
    rw [Aim.ok] at h
    rw [Aim.dual, Aim.ok]
    exact ⟨trivial, by rw [duals_len]; exact h.2.1, duals_ok as h.2.2⟩
  | .node (.least k) as, h => by
    rw [Aim.ok] at h
    rw [Aim.dual, Aim.ok]
    have h2 := h.2.1
    exact ⟨by show as.length + 1 - k ≤ 25; omega, by rw [duals_len]; exact h.2.1, duals_ok as h.2.2⟩
theorem duals_ok {m : Nat} : ∀ as : List Aim, Aim.oks m as → Aim.oks m (Aim.duals as)
  | [], h => by rw [Aim.duals]; exact h
  | a :: as, h => by
    rw [Aim.oks] at h
    rw [Aim.duals, Aim.oks]
    exact ⟨dual_ok a h.1, duals_ok as h.2⟩
end
mutual
theorem dual_depth : ∀ a : Aim, a.dual.depth = a.depth
  | .bd n => by rw [Aim.dual]
  | .node .all as => by rw [Aim.dual, Aim.depth, Aim.depth, duals_depth as]
  | .node .some as => by rw [Aim.dual, Aim.depth, Aim.depth, duals_depth as]
  | .node (.least k) as => by rw [Aim.dual, Aim.depth, Aim.depth, duals_depth as]
theorem duals_depth : ∀ as : List Aim, Aim.depths (Aim.duals as) = Aim.depths as
  | [] => by rw [Aim.duals]
  | a :: as => by rw [Aim.duals, Aim.depths, Aim.depths, dual_depth a, duals_depth as]
end
mutual
theorem moved_ok {m : Nat} (b : Nat) : ∀ a : Aim, a.ok m → (a.moved b).ok (m + b)
  | .bd n, h => by
    rw [Aim.ok] at h
    rw [Aim.moved, Aim.ok]
    omega
  | .node kd as, h => by
    rw [Aim.ok] at h
    rw [Aim.moved, Aim.ok]
    exact ⟨h.1, by rw [moveds_map, List.length_map]; exact h.2.1, moveds_ok b as h.2.2⟩
theorem moveds_ok {m : Nat} (b : Nat) : ∀ as : List Aim, Aim.oks m as → Aim.oks (m + b) (Aim.moveds b as)
  | [], h => by rw [Aim.moveds, Aim.oks]; trivial
  | a :: as, h => by
    rw [Aim.oks] at h
    rw [Aim.moveds, Aim.oks]
    exact ⟨moved_ok b a h.1, moveds_ok b as h.2⟩
end
mutual
theorem moved_depth (b : Nat) : ∀ a : Aim, (a.moved b).depth = a.depth
  | .bd n => by rw [Aim.moved, Aim.depth, Aim.depth]
  | .node kd as => by rw [Aim.moved, Aim.depth, Aim.depth, moveds_depth b as]
theorem moveds_depth (b : Nat) : ∀ as : List Aim, Aim.depths (Aim.moveds b as) = Aim.depths as
  | [] => by rw [Aim.moveds]
  | a :: as => by rw [Aim.moveds, Aim.depths, Aim.depths, moved_depth b a, moveds_depth b as]
end
mutual
theorem ok_mono {m k : Nat} (h : m ≤ k) : ∀ a : Aim, a.ok m → a.ok k
  | .bd n, z => by rw [Aim.ok] at z ⊢; omega
  | .node kd as, z => by
    rw [Aim.ok] at z ⊢
    exact ⟨z.1, z.2.1, oks_mono h as z.2.2⟩
theorem oks_mono {m k : Nat} (h : m ≤ k) : ∀ as : List Aim, Aim.oks m as → Aim.oks k as
  | [], _ => by rw [Aim.oks]; trivial
  | a :: as, z => by
    rw [Aim.oks] at z ⊢
    exact ⟨ok_mono h a z.1, oks_mono h as z.2⟩
end
/-! ### what a pairing makes sure -/
def Cov (w : Nat → Bool) (ps : List (Nat × Nat)) : Prop := ∀ p ∈ ps, w p.1 = true ∨ w p.2 = true
def GoodS (a : Aim) (ps : List (Nat × Nat)) : Prop := ∀ w, Cov w ps → a.holdW w = true
theorem GoodS.mono {a : Aim} {ps qs : List (Nat × Nat)} (h : GoodS a ps) (k : ∀ p ∈ ps, p ∈ qs) : GoodS a qs := fun w c => h w fun p hp => c p (k p hp)
theorem bit_or (m n i : Nat) : (m ||| 2 ^ i).testBit n = (m.testBit n || decide (n = i)) := by
  rw [Nat.testBit_or, Nat.testBit_two_pow]
  congr 1
  exact decide_eq_decide.mpr ⟨fun z => z.symm, fun z => z.symm⟩
theorem outs_app (ps : List (Nat × Nat)) (p : Nat × Nat) : outs (ps ++ [p]) = outStep (outs ps) p := by
  unfold outs
  rw [List.foldl_append]
  rfl
theorem rev_ind {α : Type} {P : List α → Prop} (h0 : P []) (h1 : ∀ l x, P l → P (l ++ [x])) (l : List α) : P l := by
  have z : ∀ l : List α, P l.reverse := fun l => by
    induction l with
    | nil => exact h0
    | cons x l ih => rw [List.reverse_cons]; exact h1 _ _ ih
  have q := z l.reverse
  rw [List.reverse_reverse] at q
  exact q
theorem outs_cov (ps : List (Nat × Nat)) : (∀ m ∈ outs ps, Cov m.testBit ps) ∧ ∀ w, Cov w ps → ∃ m ∈ outs ps, ∀ n, m.testBit n = true → w n = true := by
  refine rev_ind (P := fun ps => (∀ m ∈ outs ps, Cov m.testBit ps) ∧ ∀ w, Cov w ps → ∃ m ∈ outs ps, ∀ n, m.testBit n = true → w n = true) ?_ (fun ps p ih => ?_) ps
  · refine ⟨fun m hm p hp => (List.not_mem_nil hp).elim, fun w _ => ⟨0, List.mem_singleton.mpr rfl, fun n h => ?_⟩⟩
    rw [Nat.zero_testBit] at h
    cases h
  · rw [outs_app]
    unfold outStep
    obtain ⟨i1, i2⟩ := ih
    refine ⟨fun m hm q hq => ?_, fun w c => ?_⟩
    · rcases List.mem_append.mp hm with hm | hm
      · obtain ⟨m0, h0, rfl⟩ := List.mem_map.mp hm
        rw [bit_or, bit_or]
        rcases List.mem_append.mp hq with hq | hq
        · exact (i1 m0 h0 q hq).imp (fun z => by rw [z]; rfl) fun z => by rw [z]; rfl
        · rw [List.mem_singleton.mp hq]
          exact .inl (by simp)
      · obtain ⟨m0, h0, rfl⟩ := List.mem_map.mp hm
        rw [bit_or, bit_or]
        rcases List.mem_append.mp hq with hq | hq
        · exact (i1 m0 h0 q hq).imp (fun z => by rw [z]; rfl) fun z => by rw [z]; rfl
        · rw [List.mem_singleton.mp hq]
          exact .inr (by simp)
    · obtain ⟨m, h1, h2⟩ := i2 w fun q hq => c q (List.mem_append_left _ hq)
      rcases c p (List.mem_append_right _ (List.mem_singleton.mpr rfl)) with z | z
      · refine ⟨m ||| 2 ^ p.1, List.mem_append_left _ (List.mem_map.mpr ⟨m, h1, rfl⟩), fun n hn => ?_⟩
        rw [bit_or, Bool.or_eq_true, decide_eq_true_iff] at hn
        rcases hn with hn | hn
        · exact h2 n hn
        · rw [hn]; exact z
      · refine ⟨m ||| 2 ^ p.2, List.mem_append_right _ (List.mem_map.mpr ⟨m, h1, rfl⟩), fun n hn => ?_⟩
        rw [bit_or, Bool.or_eq_true, decide_eq_true_iff] at hn
        rcases hn with hn | hn
        · exact h2 n hn
        · rw [hn]; exact z
theorem spoil_iff {a : Aim} {ps : List (Nat × Nat)} : (spoil a ps).isNone = true ↔ GoodS a ps := by
  obtain ⟨h1, h2⟩ := outs_cov ps
  unfold spoil
  rw [Option.isNone_iff_eq_none, List.find?_eq_none]
  constructor
  · intro h w c
    obtain ⟨m, hm, hw⟩ := h2 w c
    have z := h m hm
    rw [hold_eq] at z
    refine hold_mono hw a ?_
    simpa using z
  · intro h m hm
    rw [hold_eq, h _ (h1 m hm)]
    simp
theorem lawOuts_app (ps : List (Nat × Nat)) (p : Nat × Nat) : lawOuts (ps ++ [p]) = ((lawOuts ps).map fun l => l ++ [p.1]) ++ (lawOuts ps).map fun l => l ++ [p.2] := by
  unfold lawOuts
  rw [List.foldl_append]
  rfl
theorem lawOuts_cov (ps : List (Nat × Nat)) : (∀ l ∈ lawOuts ps, Cov (fun n => decide (n ∈ l)) ps) ∧ ∀ w : Nat → Bool, Cov w ps → ∃ l ∈ lawOuts ps, ∀ n ∈ l, w n = true := by
  refine rev_ind (P := fun ps => (∀ l ∈ lawOuts ps, Cov (fun n => decide (n ∈ l)) ps) ∧ ∀ w : Nat → Bool, Cov w ps → ∃ l ∈ lawOuts ps, ∀ n ∈ l, w n = true) ?_ (fun ps p ih => ?_) ps
  · exact ⟨fun m hm p hp => (List.not_mem_nil hp).elim, fun w _ => ⟨[], List.mem_singleton.mpr rfl, fun n h => (List.not_mem_nil h).elim⟩⟩
  · rw [lawOuts_app]
    obtain ⟨i1, i2⟩ := ih
    refine ⟨fun m hm q hq => ?_, fun w c => ?_⟩
    · rcases List.mem_append.mp hm with hm | hm
      · obtain ⟨m0, h0, rfl⟩ := List.mem_map.mp hm
        rcases List.mem_append.mp hq with hq | hq
        · have z := i1 m0 h0 q hq
          simp only [decide_eq_true_iff, List.mem_append] at z ⊢
          exact z.imp .inl .inl
        · rw [List.mem_singleton.mp hq]
          simp
      · obtain ⟨m0, h0, rfl⟩ := List.mem_map.mp hm
        rcases List.mem_append.mp hq with hq | hq
        · have z := i1 m0 h0 q hq
          simp only [decide_eq_true_iff, List.mem_append] at z ⊢
          exact z.imp .inl .inl
        · rw [List.mem_singleton.mp hq]
          simp
    · obtain ⟨m, h1, h2⟩ := i2 w fun q hq => c q (List.mem_append_left _ hq)
      rcases c p (List.mem_append_right _ (List.mem_singleton.mpr rfl)) with z | z
      · refine ⟨m ++ [p.1], List.mem_append_left _ (List.mem_map.mpr ⟨m, h1, rfl⟩), fun n hn => ?_⟩
        rcases List.mem_append.mp hn with hn | hn
        · exact h2 n hn
        · rw [List.mem_singleton.mp hn]; exact z
      · refine ⟨m ++ [p.2], List.mem_append_right _ (List.mem_map.mpr ⟨m, h1, rfl⟩), fun n hn => ?_⟩
        rcases List.mem_append.mp hn with hn | hn
        · exact h2 n hn
        · rw [List.mem_singleton.mp hn]; exact z
theorem maskOf_bits (l : List Nat) : (maskOf l).testBit = fun n => decide (n ∈ l) := by
  funext n
  exact mask_bit l n
theorem goodPg_iff {a : Aim} {ps : List (Nat × Nat)} : goodPg a ps = true ↔ GoodS a ps := by
  obtain ⟨h1, h2⟩ := lawOuts_cov ps
  unfold goodPg
  rw [List.isEmpty_iff, List.filter_eq_nil_iff]
  constructor
  · intro h w c
    obtain ⟨m, hm, hw⟩ := h2 w c
    have z := h m hm
    rw [hold_eq, maskOf_bits] at z
    refine hold_mono (w := fun n => decide (n ∈ m)) (fun n hn => hw n (of_decide_eq_true hn)) a ?_
    simpa using z
  · intro h m hm
    rw [hold_eq, maskOf_bits, h _ (h1 m hm)]
    simp
end G
set_option Elab.async false
set_option linter.all false
set_option maxRecDepth 100000
set_option maxHeartbeats 1000000
set_option pp.maxSteps 400
namespace G
open PySem PySem.Spec L2 LamX NdefX
/-! ### pairings of a hall -/
theorem arePair_spec {a b : Board} (h : arePair a b = true) : a.name = b.name ∧ a.side ≠ b.side := by
  unfold arePair at h
  by_cases z : a.name ≠ b.name ∨ a.side = b.side
  · rw [if_pos z] at h; cases h
  · exact ⟨Decidable.not_not.mp fun q => z (.inl q), fun q => z (.inr q)⟩
theorem pairs_iff {bs : List Board} {p : Nat × Nat} : p ∈ allPairs bs ↔ p.1 < p.2 ∧ p.2 < bs.length ∧ arePair (bs.getD p.1 board0) (bs.getD p.2 board0) = true := by
  constructor
  · exact allPairs_lt
  · rintro ⟨h1, h2, h3⟩
    unfold allPairs
    have hlt : p.1 < bs.length := by omega
    refine List.mem_flatMap.mpr ⟨(bs.getD p.1 board0, p.1), ?_, ?_⟩
    · refine List.mem_iff_getElem?.mpr ⟨p.1, ?_⟩
      rw [List.getElem?_zipIdx, List.getElem?_eq_getElem hlt]
      simp [List.getD_eq_getElem?_getD, List.getElem?_eq_getElem hlt]
    · unfold pairsAt
      have e : p.1 + 1 + (p.2 - (p.1 + 1)) = p.2 := by omega
      refine List.mem_map.mpr ⟨p.2 - (p.1 + 1), List.mem_filter.mpr ⟨List.mem_range.mpr ?_, ?_⟩, ?_⟩
      · show p.2 - (p.1 + 1) < bs.length - (p.1 + 1)
        omega
      · show arePair (bs.getD p.1 board0) (bs.getD (p.1 + 1 + (p.2 - (p.1 + 1))) board0) = true
        rw [e]
        exact h3
      · show (p.1, p.1 + 1 + (p.2 - (p.1 + 1))) = p
        rw [e]
theorem pairs_nodup (bs : List Board) : (allPairs bs).Nodup := by
  unfold allPairs
  refine List.pairwise_flatMap.mpr ⟨fun q _ => ?_, ?_⟩
  · unfold pairsAt
    refine List.pairwise_map.mpr (((List.nodup_range (n := bs.length - (q.2 + 1))).filter _).imp fun {a b} h e => h ?_)
    have := congrArg Prod.snd e
    have this : q.2 + 1 + a = q.2 + 1 + b := this
    omega
  · have z : (bs.zipIdx.map (·.2)).Nodup := by
      rw [List.zipIdx_map_snd]
      exact List.nodup_range'
    refine (List.pairwise_map.mp z).imp fun {a b} h x hx y hy e => h ?_
    unfold pairsAt at hx hy
    obtain ⟨_, _, rfl⟩ := List.mem_map.mp hx
    obtain ⟨_, _, rfl⟩ := List.mem_map.mp hy
    exact congrArg Prod.fst e
structure MtOn (E ps : List (Nat × Nat)) : Prop where
  mem : ∀ p ∈ ps, p ∈ E
  nd : (flatP ps).Nodup
theorem flatP_filter (f : Nat × Nat → Bool) : ∀ {M : List (Nat × Nat)}, (flatP M).Nodup → (flatP (M.filter f)).Nodup
  | [], h => h
  | p :: M, h => by
    rw [flatP_cons, List.nodup_cons, List.nodup_cons] at h
    obtain ⟨a, b, c⟩ := h
    have sub : ∀ x, x ∈ flatP (M.filter f) → x ∈ flatP M := fun x hx => by
      obtain ⟨q, hq, z⟩ := mem_flatP.mp hx
      exact mem_flatP.mpr ⟨q, (List.mem_filter.mp hq).1, z⟩
    rw [List.filter_cons]
    split
    · rw [flatP_cons, List.nodup_cons, List.nodup_cons]
      refine ⟨fun z => a ?_, fun z => b (sub _ z), flatP_filter f c⟩
      rcases List.mem_cons.mp z with z | z
      · exact List.mem_cons.mpr (.inl z)
      · exact List.mem_cons_of_mem _ (sub _ z)
    · exact flatP_filter f c
theorem flatP_perm {M N : List (Nat × Nat)} (h : M.Perm N) : (flatP M).Perm (flatP N) := List.Perm.flatMap_right _ h
theorem great_isM {ps M : List (Nat × Nat)} (hlt : ∀ p ∈ ps, p.1 < p.2) (h : MtOn ps M) : IsM (nearOf ps) M :=
  ⟨fun p hp => hlt p (h.mem p hp), fun p hp => ((nf0 ps).mem _ _).mpr (.inl (h.mem p hp)), h.nd⟩
theorem great_sound {ps R : List (Nat × Nat)} (hlt : ∀ p ∈ ps, p.1 < p.2) (h : R ∈ greatOf ps) : MtOn ps R := by
  have z := goL_ok (nm := nearOf ps) (keysG ps) [] [] [] rfl ((gr_of ps).asc.imp fun h => Nat.ne_of_lt h) ⟨fun p hp => (List.not_mem_nil hp).elim, fun p hp => (List.not_mem_nil hp).elim, List.nodup_nil⟩ R h
  refine ⟨fun p hp => ?_, z.nd⟩
  rcases ((nf0 ps).mem _ _).mp (z.adj p hp) with q | q
  · exact q
  · have a := hlt _ q
    have b := z.lt p hp
    have a : p.2 < p.1 := a
    omega
theorem great_has {ps M : List (Nat × Nat)} (hlt : ∀ p ∈ ps, p.1 < p.2) (h : MtOn ps M) : ∃ R ∈ greatOf ps, ∀ p ∈ M, p ∈ R := by
  obtain ⟨h1, h2, h3⟩ := extM_ok (nm := nearOf ps) ps M (fun e he => ⟨hlt e he, ((nf0 ps).mem _ _).mpr (.inl he)⟩) (great_isM hlt h)
  have mx : MaxM (nearOf ps) (extM ps M) := fun a b hb => by
    rcases ((nf0 ps).mem _ _).mp hb with q | q
    · exact h3 _ q
    · exact (h3 _ q).symm
  obtain ⟨R, hR, hs⟩ := goL_has (gr_of ps) h1 mx (keysG ps) [] [] [] [] rfl (fun p hp => (List.not_mem_nil hp).elim) rfl (fun p hp => (List.not_mem_nil hp).elim) (fun p _ hp => (List.not_mem_nil hp).elim)
  exact ⟨R, hR, fun p hp => hs p (h2 p hp)⟩
abbrev nmAt (bs : List Board) (i : Nat) : Str := (bs.getD i board0).name
theorem mem_ofName {bs : List Board} {n : Str} {p : Nat × Nat} : p ∈ ofName bs n ↔ p ∈ allPairs bs ∧ nmAt bs p.1 = n := by
  unfold ofName
  rw [List.mem_filter, decide_eq_true_iff]
theorem ofName_lt {bs : List Board} {n : Str} : ∀ p ∈ ofName bs n, p.1 < p.2 := fun p hp => (pairs_iff.mp (mem_ofName.mp hp).1).1
theorem name_pair {bs : List Board} {p : Nat × Nat} (h : p ∈ allPairs bs) : nmAt bs p.2 = nmAt bs p.1 := (arePair_spec (pairs_iff.mp h).2.2).1.symm
theorem mem_keyAdd {ks : List Str} {n x : Str} : x ∈ keyAdd ks n ↔ x ∈ ks ∨ x = n := by
  unfold keyAdd
  split
  · rename_i h
    exact ⟨.inl, fun z => z.elim id fun e => e ▸ h⟩
  · rw [List.mem_append, List.mem_singleton]
theorem nodup_keyAdd {ks : List Str} {n : Str} (h : ks.Nodup) : (keyAdd ks n).Nodup := by
  unfold keyAdd
  split
  · exact h
  · rename_i hn
    refine List.nodup_append.mpr ⟨h, by simp, fun a ha b hb e => ?_⟩
    rw [List.mem_singleton.mp hb] at e
    exact hn (e ▸ ha)
theorem keys_fold : ∀ (l ks : List Str), ks.Nodup → (l.foldl keyAdd ks).Nodup ∧ ∀ x, x ∈ l.foldl keyAdd ks ↔ x ∈ ks ∨ x ∈ l
  | [], ks, h => ⟨h, fun x => by simp⟩
  | n :: l, ks, h => by
    obtain ⟨h1, h2⟩ := keys_fold l (keyAdd ks n) (nodup_keyAdd h)
    refine ⟨h1, fun x => ?_⟩
    rw [List.foldl_cons, h2, mem_keyAdd, List.mem_cons, or_assoc]
theorem names_perm (bs : List Board) : (namesOf bs).Perm ((bs.map (·.name)).foldl keyAdd []) := List.mergeSort_perm _ _
theorem names_nodup (bs : List Board) : (namesOf bs).Nodup := (names_perm bs).nodup_iff.mpr (keys_fold _ _ List.nodup_nil).1
theorem mem_names {bs : List Board} {i : Nat} (h : i < bs.length) : nmAt bs i ∈ namesOf bs := by
  refine (names_perm bs).mem_iff.mpr (((keys_fold _ _ List.nodup_nil).2 _).mpr (.inr (List.mem_map.mpr ⟨bs.getD i board0, getD_mem h, rfl⟩)))
theorem prod_spec (bs : List Board) : ∀ k, k ≤ (namesOf bs).length → (∀ R ∈ prodL bs k, MtOn (allPairs bs) R ∧ ∀ p ∈ R, nmAt bs p.1 ∈ (namesOf bs).take k) ∧ (∀ M, MtOn (allPairs bs) M → ∃ R ∈ prodL bs k, ∀ p ∈ M, nmAt bs p.1 ∈ (namesOf bs).take k → p ∈ R)
  | 0, _ => by
    refine ⟨fun R hR => ?_, fun M hM => ⟨[], List.mem_singleton.mpr rfl, fun p _ hp => (List.not_mem_nil hp).elim⟩⟩
    have hR : R ∈ [[]] := hR
    rw [List.mem_singleton.mp hR]
    exact ⟨⟨fun p hp => (List.not_mem_nil hp).elim, List.nodup_nil⟩, fun p hp => (List.not_mem_nil hp).elim⟩
  | k + 1, hk => by
    obtain ⟨h1, h2⟩ := prod_spec bs k (Nat.le_of_succ_le hk)
    have e : (namesOf bs)[k]? = some (namesOf bs)[k] := List.getElem?_eq_getElem hk
    generalize (namesOf bs)[k] = n at e
    have et : (namesOf bs).take (k + 1) = (namesOf bs).take k ++ [n] := by rw [List.take_succ, e]; rfl
    have hn : n ∉ (namesOf bs).take k := by
      have z := names_nodup bs
      rw [← List.take_append_drop (k + 1) (namesOf bs), et, List.append_assoc] at z
      intro q
      exact (List.nodup_append.mp z).2.2 n q n (List.mem_append_left _ (List.mem_singleton.mpr rfl)) rfl
    rw [prodL_succ e, et]
    unfold prodStep
    constructor
    · intro R hR
      obtain ⟨one, ho, hR⟩ := List.mem_flatMap.mp hR
      obtain ⟨other, ht, rfl⟩ := List.mem_map.mp hR
      obtain ⟨a1, a2⟩ := h1 one ho
      have b := great_sound ofName_lt ht
      refine ⟨⟨fun p hp => ?_, ?_⟩, fun p hp => ?_⟩
      · exact (List.mem_append.mp hp).elim (a1.mem p) fun z => (mem_ofName.mp (b.mem p z)).1
      · rw [flatP_app]
        refine List.nodup_append.mpr ⟨a1.nd, b.nd, fun x hx y hy exy => ?_⟩
        subst exy
        obtain ⟨p, hp, hpx⟩ := mem_flatP.mp hx
        obtain ⟨q, hq, hqx⟩ := mem_flatP.mp hy
        have c1 := a2 p hp
        obtain ⟨c2, c3⟩ := mem_ofName.mp (b.mem q hq)
        have d1 : nmAt bs x = nmAt bs p.1 := by
          rcases hpx with z | z
          · rw [z]
          · rw [z, name_pair (a1.mem p hp)]
        have d2 : nmAt bs x = n := by
          rcases hqx with z | z
          · rw [z]; exact c3
          · rw [z, name_pair c2]; exact c3
        rw [← d1, d2] at c1
        exact hn c1
      · rcases List.mem_append.mp hp with z | z
        · exact List.mem_append_left _ (a2 p z)
        · exact List.mem_append_right _ (List.mem_singleton.mpr (mem_ofName.mp (b.mem p z)).2)
    · intro M hM
      obtain ⟨one, ho, hs⟩ := h2 M hM
      obtain ⟨other, ht, hs2⟩ := great_has (ps := ofName bs n) (M := M.filter fun p => decide (nmAt bs p.1 = n)) ofName_lt ⟨fun p hp => by
        obtain ⟨q1, q2⟩ := List.mem_filter.mp hp
        exact mem_ofName.mpr ⟨hM.mem p q1, of_decide_eq_true q2⟩, flatP_filter _ hM.nd⟩
      refine ⟨one ++ other, List.mem_flatMap.mpr ⟨one, ho, List.mem_map.mpr ⟨other, ht, rfl⟩⟩, fun p hp hnp => ?_⟩
      rcases List.mem_append.mp hnp with z | z
      · exact List.mem_append_left _ (hs p hp z)
      · exact List.mem_append_right _ (hs2 p (List.mem_filter.mpr ⟨hp, decide_eq_true (List.mem_singleton.mp z)⟩))
theorem mem_greatL {bs : List Board} {R : List (Nat × Nat)} : R ∈ greatL bs ↔ ∃ R0 ∈ prodL bs (namesOf bs).length, sortP R0 = R := by
  unfold greatL
  rw [(List.mergeSort_perm _ _).mem_iff, List.mem_map]
theorem greatL_sound {bs : List Board} {R : List (Nat × Nat)} (h : R ∈ greatL bs) : MtOn (allPairs bs) R := by
  obtain ⟨R0, h0, rfl⟩ := mem_greatL.mp h
  have z := ((prod_spec bs _ (Nat.le_refl _)).1 R0 h0).1
  exact ⟨fun p hp => z.mem p ((sortP_perm R0).mem_iff.mp hp), (flatP_perm (sortP_perm R0)).nodup_iff.mpr z.nd⟩
theorem greatL_has {bs : List Board} {M : List (Nat × Nat)} (h : MtOn (allPairs bs) M) : ∃ R ∈ greatL bs, ∀ p ∈ M, p ∈ R := by
  obtain ⟨R0, h0, hs⟩ := (prod_spec bs _ (Nat.le_refl _)).2 M h
  refine ⟨sortP R0, mem_greatL.mpr ⟨R0, h0, rfl⟩, fun p hp => (sortP_perm R0).mem_iff.mpr (hs p hp ?_)⟩
  rw [List.take_length]
  obtain ⟨q1, q2, _⟩ := pairs_iff.mp (h.mem p hp)
  exact mem_names (Nat.lt_trans q1 q2)
theorem sureL_iff {bs : List Board} {a : Aim} : (sureL bs a).isNone = false ↔ ∃ M, MtOn (allPairs bs) M ∧ GoodS a M := by
  unfold sureL
  rw [Option.isNone_eq_false_iff, List.find?_isSome]
  constructor
  · rintro ⟨R, hR, hs⟩
    exact ⟨R, greatL_sound hR, spoil_iff.mp hs⟩
  · rintro ⟨M, hM, hg⟩
    obtain ⟨R, hR, hs⟩ := greatL_has hM
    exact ⟨R, hR, spoil_iff.mpr (hg.mono hs)⟩
/-! ### how many -/
structure Brd (bs : List Board) : Prop where
  len : bs.length ≤ 10
  row : ∀ b ∈ bs, RowOk b
  sd : ∀ b ∈ bs, b.side ≤ 1
abbrev colA (bs : List Board) (i : Nat) : Bool := decide ((bs.getD i board0).side = 1)
theorem col_ne {bs : List Board} (B : Brd bs) {p : Nat × Nat} (h : p ∈ allPairs bs) : colA bs p.1 ≠ colA bs p.2 := fun e => by
  obtain ⟨h1, h2, h3⟩ := pairs_iff.mp h
  have z := (arePair_spec h3).2
  have a := B.sd _ (getD_mem (Nat.lt_trans h1 h2))
  have b := B.sd _ (getD_mem h2)
  have e := decide_eq_decide.mp e
  omega
theorem cnt_or {α : Type} {p q r : α → Bool} (h : ∀ i, r i = (p i || q i)) (d : ∀ i, (p i && q i) = false) : ∀ l : List α, l.countP r = l.countP p + l.countP q
  | [] => rfl
  | x :: l => by
    rw [List.countP_cons, List.countP_cons, List.countP_cons, cnt_or h d l, h x]
    have := d x
    generalize l.countP p = u
    generalize l.countP q = v
    cases hp : p x <;> cases hq : q x
    · simp
    · simp
      omega
    · simp
      omega
    · rw [hp, hq] at this; cases this
theorem cnt_two {α : Type} (p c : α → Bool) : ∀ l : List α, l.countP (fun i => p i && (c i == false)) + l.countP (fun i => p i && (c i == true)) ≤ l.length
  | [] => Nat.le_refl _
  | x :: l => by
    have := cnt_two p c l
    rw [List.countP_cons, List.countP_cons, List.length_cons]
    generalize l.countP (fun i => p i && (c i == false)) = u at *
    generalize l.countP (fun i => p i && (c i == true)) = v at *
    cases p x <;> cases c x <;> simp <;> omega
abbrev cnN (bs : List Board) (f : Nat → Bool) (x : Bool) : Nat := (List.range bs.length).countP fun i => f i && (colA bs i == x)
theorem cnN_two (bs : List Board) (f : Nat → Bool) : cnN bs f false + cnN bs f true ≤ bs.length := by
  have z := cnt_two f (colA bs) (List.range bs.length)
  rw [List.length_range] at z
  exact z
theorem great_len {bs : List Board} (B : Brd bs) (n : Str) : (greatOf (ofName bs n)).length ≤ F (cnN bs (fun i => decide (nmAt bs i = n)) false) (cnN bs (fun i => decide (nmAt bs i = n)) true) := by
  have pn : (ofName bs n).Nodup := (pairs_nodup bs).filter _
  have N := nf0 (ofName bs n)
  have g := gr_of (ofName bs n)
  have bl := B.len
  have two := cnN_two bs fun i => decide (nmAt bs i = n)
  have kn : (keysG (ofName bs n)).Nodup := g.asc.imp fun h => Nat.ne_of_lt h
  have kin : ∀ x ∈ keysG (ofName bs n), x < bs.length ∧ nmAt bs x = n := fun x hx => by
    have z : x ∈ (nearOf (ofName bs n)).map (·.1) := (sortN_perm _).mem_iff.mp hx
    obtain ⟨p, hp, hpx⟩ := (N.keys x).mp z
    obtain ⟨q1, q2⟩ := mem_ofName.mp hp
    obtain ⟨h1, h2, h3⟩ := pairs_iff.mp q1
    rcases hpx with e | e
    · rw [e]; exact ⟨Nat.lt_trans h1 h2, q2⟩
    · rw [e]; exact ⟨h2, by rw [name_pair q1]; exact q2⟩
  have cle : ∀ k, cntC (colA bs) k (keysG (ofName bs n)) [] ≤ cnN bs (fun i => decide (nmAt bs i = n)) k := fun k => by
    unfold cntC cnN
    rw [List.countP_eq_length_filter]
    refine nodup_len_le (kn.filter _) fun x hx => ?_
    obtain ⟨q1, q2⟩ := List.mem_filter.mp hx
    obtain ⟨h1, h2⟩ := kin x q1
    rw [Bool.and_eq_true] at q2
    exact List.mem_filter.mpr ⟨List.mem_range.mpr h1, by rw [Bool.and_eq_true]; exact ⟨decide_eq_true h2, q2.2⟩⟩
  refine goL_len (c := colA bs) (fun a b hb => ?_) (N.nbnd pn ofName_lt) (keysG (ofName bs n)) [] [] [] _ _ g.asc (fun a _ b hb _ => g.mem _ _ (g.symm _ _ hb)) (cle false) (cle true) (by omega)
  rcases (N.mem a b).mp hb with q | q
  · exact col_ne B (mem_ofName.mp q).1
  · exact (col_ne B (mem_ofName.mp q).1).symm
theorem prod_len {bs : List Board} (B : Brd bs) : ∀ k, k ≤ (namesOf bs).length → (prodL bs k).length ≤ F (cnN bs (fun i => decide (nmAt bs i ∈ (namesOf bs).take k)) false) (cnN bs (fun i => decide (nmAt bs i ∈ (namesOf bs).take k)) true)
  | 0, _ => by
    have e : ∀ x, cnN bs (fun i => decide (nmAt bs i ∈ (namesOf bs).take 0)) x = 0 := fun x => by
      unfold cnN
      rw [List.countP_eq_zero]
      intro i _
      rw [List.take_zero]
      simp
    rw [e, e]
    exact Nat.le_refl _
  | k + 1, hk => by
    have ih := prod_len B k (Nat.le_of_succ_le hk)
    have e : (namesOf bs)[k]? = some (namesOf bs)[k] := List.getElem?_eq_getElem hk
    generalize (namesOf bs)[k] = n at e
    have et : (namesOf bs).take (k + 1) = (namesOf bs).take k ++ [n] := by rw [List.take_succ, e]; rfl
    have hn : n ∉ (namesOf bs).take k := by
      have z := names_nodup bs
      rw [← List.take_append_drop (k + 1) (namesOf bs), et, List.append_assoc] at z
      intro q
      exact (List.nodup_append.mp z).2.2 n q n (List.mem_append_left _ (List.mem_singleton.mpr rfl)) rfl
    have ec : ∀ x, cnN bs (fun i => decide (nmAt bs i ∈ (namesOf bs).take (k + 1))) x = cnN bs (fun i => decide (nmAt bs i ∈ (namesOf bs).take k)) x + cnN bs (fun i => decide (nmAt bs i = n)) x := fun x => by
      unfold cnN
      refine cnt_or (fun i => ?_) (fun i => ?_) _
      · rw [et]
        by_cases h1 : nmAt bs i ∈ (namesOf bs).take k <;> by_cases h2 : nmAt bs i = n <;> cases (colA bs i == x) <;> simp [h1, h2]
      · dsimp only
        by_cases h2 : nmAt bs i = n
        · rw [h2, decide_eq_false hn]
          rfl
        · rw [decide_eq_false h2]
          simp
    have two := cnN_two bs fun i => decide (nmAt bs i ∈ (namesOf bs).take (k + 1))
    have bl := B.len
    rw [ec, ec] at two ⊢
    rw [prodL_succ e, prodStep_len]
    refine Nat.le_trans (Nat.mul_le_mul ih (great_len B n)) (F_mul _ (by omega) _ (by omega) _ (by omega) _ (by omega))
theorem pairs_cnt {bs : List Board} (B : Brd bs) : (allPairs bs).length ≤ cnN bs (fun _ => true) false * cnN bs (fun _ => true) true := by
  let L := fun x => (List.range bs.length).filter fun i => true && (colA bs i == x)
  have eL : ∀ x, (L x).length = cnN bs (fun _ => true) x := fun x => by
    unfold cnN
    rw [List.countP_eq_length_filter]
  have key := nodup_len_le (l := (allPairs bs).map fun p => if colA bs p.1 = false then p else (p.2, p.1)) (m := (L false).flatMap fun i => (L true).map fun j => (i, j)) (List.pairwise_map.mpr ((pairs_nodup bs).imp_of_mem fun {p q} hp hq h e => h ?_)) (fun x hx => ?_)
  · have a := (pairs_iff.mp hp).1
    have b := (pairs_iff.mp hq).1
    split at e <;> split at e
    · exact e
    · have e1 := congrArg Prod.fst e
      have e2 := congrArg Prod.snd e
      have e1 : p.1 = q.2 := e1
      have e2 : p.2 = q.1 := e2
      omega
    · have e1 := congrArg Prod.fst e
      have e2 := congrArg Prod.snd e
      have e1 : p.2 = q.1 := e1
      have e2 : p.1 = q.2 := e2
      omega
    · have e1 := congrArg Prod.fst e
      have e2 := congrArg Prod.snd e
      exact Prod.ext e2 e1
  · obtain ⟨p, hp, rfl⟩ := List.mem_map.mp hx
    have hne := col_ne B hp
    obtain ⟨h1, h2, _⟩ := pairs_iff.mp hp
    have inL : ∀ i x, i < bs.length → colA bs i = x → i ∈ L x := fun i x hi hc => List.mem_filter.mpr ⟨List.mem_range.mpr hi, by rw [hc]; simp⟩
    by_cases hc : colA bs p.1 = false
    · rw [if_pos hc]
      have h2c : colA bs p.2 = true := by
        cases z : colA bs p.2 with
        | true => rfl
        | false => exact absurd (hc.trans z.symm) hne
      exact List.mem_flatMap.mpr ⟨p.1, inL _ _ (Nat.lt_trans h1 h2) hc, List.mem_map.mpr ⟨p.2, inL _ _ h2 h2c, rfl⟩⟩
    · rw [if_neg hc]
      have h1c : colA bs p.1 = true := by
        cases z : colA bs p.1 with
        | true => rfl
        | false => exact absurd z hc
      have h2c : colA bs p.2 = false := by
        cases z : colA bs p.2 with
        | false => rfl
        | true => exact absurd (h1c.trans z.symm) hne
      exact List.mem_flatMap.mpr ⟨p.2, inL _ _ h2 h2c, List.mem_map.mpr ⟨p.1, inL _ _ (Nat.lt_trans h1 h2) h1c, rfl⟩⟩
  · rw [List.length_map] at key
    refine Nat.le_trans key ?_
    rw [← eL, ← eL]
    exact flatMap_len_le _ _ _ fun x _ => by rw [List.length_map]; exact Nat.le_refl _
theorem mul25 : ∀ x, x < 11 → ∀ y, y < 11 - x → x * y ≤ 25 := by decide
theorem mul6 : ∀ x, x < 6 → ∀ y, y < 6 - x → x * y ≤ 6 := by decide
theorem pairs_len10 {bs : List Board} (B : Brd bs) : (allPairs bs).length ≤ 25 := by
  have two := cnN_two bs fun _ => true
  have bl := B.len
  exact Nat.le_trans (pairs_cnt B) (mul25 _ (by omega) _ (by omega))
theorem pairs_len5 {bs : List Board} (B : Brd bs) (h : bs.length ≤ 5) : (allPairs bs).length ≤ 6 := by
  have two := cnN_two bs fun _ => true
  exact Nat.le_trans (pairs_cnt B) (mul6 _ (by omega) _ (by omega))
theorem mt_len {bs : List Board} {R : List (Nat × Nat)} (h : MtOn (allPairs bs) R) : 2 * R.length ≤ bs.length := by
  have z := nodup_len_le (m := List.range bs.length) h.nd fun x hx => by
    obtain ⟨p, hp, e⟩ := mem_flatP.mp hx
    obtain ⟨h1, h2, _⟩ := pairs_iff.mp (h.mem p hp)
    rw [List.mem_range]
    rcases e with e | e <;> omega
  rw [flatP_len, List.length_range] at z
  exact z
theorem prod_over {bs : List Board} : ∀ j, prodL bs ((namesOf bs).length + j) = prodL bs (namesOf bs).length := fun j => by
  unfold prodL
  rw [List.take_of_length_le (Nat.le_add_right _ _), List.take_length]
theorem names_len (bs : List Board) : (namesOf bs).length ≤ bs.length := by
  have z := keysOf_len (bs.map (·.name)) []
  rw [← (names_perm bs).length_eq, List.length_map] at z
  simpa using z
theorem great_nil : greatOf [] = [[]] := by
  have e : keysG [] = [] := by
    have z := (sortN_perm ((nearOf []).map (·.1))).length_eq
    exact List.eq_nil_of_length_eq_zero z
  unfold greatOf
  rw [e, goL]
theorem brd_gr {bs : List Board} (B : Brd bs) : OkGr bs := by
  have bl := B.len
  have fewn : ∀ n, (greatOf (ofName bs n)).length ≤ 2000 := fun n => by
    have two := cnN_two bs fun i => decide (nmAt bs i = n)
    exact Nat.le_trans (great_len B n) (Nat.le_trans (F_top _ (by omega) _ (by omega)) (by decide))
  have kk : ∀ k, ∃ j, j ≤ (namesOf bs).length ∧ prodL bs k = prodL bs j := fun k => by
    by_cases h : k ≤ (namesOf bs).length
    · exact ⟨k, h, rfl⟩
    · refine ⟨(namesOf bs).length, Nat.le_refl _, ?_⟩
      have z := prod_over (bs := bs) (k - (namesOf bs).length)
      rw [← z]
      congr 1
      omega
  refine ⟨⟨by omega, B.row⟩, Nat.le_trans (names_len bs) (by omega), fun n => ⟨(pairs_nodup bs).filter _, fun p hp => ?_, ?_, fewn n⟩, fun k => ?_, fun k ps hps => ?_, ?_⟩
  · obtain ⟨h1, h2, _⟩ := pairs_iff.mp (mem_ofName.mp hp).1
    exact ⟨h1, by omega⟩
  · have z := pairs_len10 B
    have q : (ofName bs n).length ≤ (allPairs bs).length := List.length_filter_le _ _
    omega
  · obtain ⟨j, hj, e⟩ := kk k
    rw [e]
    have two := cnN_two bs fun i => decide (nmAt bs i ∈ (namesOf bs).take j)
    exact Nat.le_trans (prod_len B j hj) (Nat.le_trans (F_top _ (by omega) _ (by omega)) (by decide))
  · obtain ⟨j, hj, e⟩ := kk k
    rw [e] at hps
    have z := mt_len ((prod_spec bs j hj).1 ps hps).1
    omega
  · by_cases hp : allPairs bs = []
    · refine .inr ?_
      have one : ∀ k, k ≤ (namesOf bs).length → (prodL bs k).length = 1 := fun k => by
        induction k with
        | zero => intro _; rfl
        | succ k ih =>
          intro hk
          have e : (namesOf bs)[k]? = some (namesOf bs)[k] := List.getElem?_eq_getElem hk
          rw [prodL_succ e, prodStep_len, ih (Nat.le_of_succ_le hk)]
          have q : ofName bs (namesOf bs)[k] = [] := by
            unfold ofName
            rw [hp]
            rfl
          rw [q, great_nil]
          rfl
      rw [one _ (Nat.le_refl _)]
      exact Nat.le_refl _
    · refine .inl fun ps hps e => ?_
      subst e
      obtain ⟨p, hpm⟩ := List.exists_mem_of_ne_nil _ hp
      have hno : ∀ k, k ≤ (namesOf bs).length → [] ∈ prodL bs k → nmAt bs p.1 ∉ (namesOf bs).take k := fun k => by
        induction k with
        | zero => intro _ _ z; exact List.not_mem_nil z
        | succ k ih =>
          intro hk hin z
          have e : (namesOf bs)[k]? = some (namesOf bs)[k] := List.getElem?_eq_getElem hk
          have et : (namesOf bs).take (k + 1) = (namesOf bs).take k ++ [(namesOf bs)[k]] := by rw [List.take_succ, e]; rfl
          rw [prodL_succ e] at hin
          unfold prodStep at hin
          obtain ⟨one, ho, hin⟩ := List.mem_flatMap.mp hin
          obtain ⟨other, ht, ea⟩ := List.mem_map.mp hin
          obtain ⟨e1, e2⟩ := List.append_eq_nil_iff.mp ea
          subst e1
          rw [et] at z
          rcases List.mem_append.mp z with z | z
          · exact ih (Nat.le_of_succ_le hk) ho z
          · refine goL_ne (gr_of (ofName bs (namesOf bs)[k])) ⟨p.1, p.2, ((nf0 _).mem _ _).mpr (.inl (mem_ofName.mpr ⟨hpm, List.mem_singleton.mp z⟩))⟩ (keysG _) [] [] [] [] rfl rfl (fun b hb => (List.not_mem_nil hb).elim) rfl other ht e2
      refine hno _ (Nat.le_refl _) hps ?_
      rw [List.take_length]
      obtain ⟨h1, h2, _⟩ := pairs_iff.mp hpm
      exact mem_names (Nat.lt_trans h1 h2)
theorem brd_sure {bs : List Board} {a : Aim} (B : Brd bs) (hd : a.depth ≤ 8) {m : Nat} (ho : a.ok m) : OkSure (bs, a) := by
  have bl := B.len
  refine ⟨brd_gr B, by show bs.length ≤ 24; omega, hd, ⟨m, ho⟩, fun ps hps => ?_⟩
  have s := greatL_sound (bs := bs) hps
  have z := mt_len s
  refine ⟨by omega, fun p hp => ?_⟩
  obtain ⟨h1, h2, _⟩ := pairs_iff.mp (s.mem p hp)
  omega
theorem brd_su {bs : List Board} {a : Aim} (B : Brd bs) (hd : a.depth ≤ 8) (ho : a.ok bs.length) (hs : a.size ≤ 200) : OkSu (bs, a) := ⟨brd_sure B hd ho, ho, hd, hs⟩
end G
set_option Elab.async false
set_option linter.all false
set_option maxRecDepth 100000
set_option maxHeartbeats 1000000
set_option pp.maxSteps 400
namespace G
open PySem PySem.Spec L2 LamX NdefX
/-! ### lots -/
structure Lot (n : Nat) (l : List Nat) : Prop where
  asc : l.Pairwise (· < ·)
  lt : ∀ x ∈ l, x < n
def SubL (a b : List Nat) : Prop := ∀ x ∈ a, x ∈ b
theorem asc_ext {l m : List Nat} (h1 : l.Pairwise (· < ·)) (h2 : m.Pairwise (· < ·)) (h : ∀ x, x ∈ l ↔ x ∈ m) : l = m := by
  have p : l.Perm m := (List.perm_ext_iff_of_nodup (h1.imp fun z => Nat.ne_of_lt z) (h2.imp fun z => Nat.ne_of_lt z)).mpr h
  exact p.eq_of_pairwise (le := fun a b : Nat => a < b) (fun a b _ _ h1 h2 => absurd h1 (Nat.lt_asymm h2)) h1 h2
theorem Lot.nd {n : Nat} {l : List Nat} (h : Lot n l) : l.Nodup := h.asc.imp fun z => Nat.ne_of_lt z
theorem Lot.len {n : Nat} {l : List Nat} (h : Lot n l) : l.length ≤ n := by
  have z := nodup_len_le (m := List.range n) h.nd fun x hx => List.mem_range.mpr (h.lt x hx)
  rw [List.length_range] at z
  exact z
theorem Lot.nil {n : Nat} : Lot n [] := ⟨List.Pairwise.nil, fun x h => nomatch h⟩
theorem lot_filter {n : Nat} (f : Nat → Bool) : Lot n ((List.range n).filter f) := ⟨List.Pairwise.filter _ List.pairwise_lt_range, fun x h => List.mem_range.mp (List.mem_filter.mp h).1⟩
theorem Lot.filter {n : Nat} {l : List Nat} (h : Lot n l) (f : Nat → Bool) : Lot n (l.filter f) := ⟨h.asc.filter _, fun x hx => h.lt x (List.mem_filter.mp hx).1⟩
theorem lotFrom_spec : ∀ (k m a : Nat), m ≤ k → (∀ x, x ∈ lotFrom a m ↔ a ≤ x ∧ m.testBit (x - a) = true) ∧ (lotFrom a m).Pairwise (· < ·)
  | k, m, a, hk => by
    rw [lotFrom]
    by_cases h0 : m = 0
    · rw [dif_pos h0]
      refine ⟨fun x => ⟨fun z => (List.not_mem_nil z).elim, fun ⟨_, z⟩ => ?_⟩, List.Pairwise.nil⟩
      rw [h0, Nat.zero_testBit] at z
      cases z
    · rw [dif_neg h0]
      have hk0 : 0 < k := by omega
      obtain ⟨i1, i2⟩ := lotFrom_spec (k - 1) (m / 2) (a + 1) (by omega)
      have step : ∀ x, (a ≤ x ∧ m.testBit (x - a) = true) ↔ (x = a ∧ m % 2 = 1) ∨ x ∈ lotFrom (a + 1) (m / 2) := fun x => by
        rw [i1]
        by_cases e : x = a
        · subst e
          rw [Nat.sub_self, Nat.testBit_zero, decide_eq_true_iff]
          constructor
          · rintro ⟨_, z⟩; exact .inl ⟨rfl, z⟩
          · rintro (⟨_, z⟩ | ⟨z, _⟩)
            · exact ⟨Nat.le_refl _, z⟩
            · omega
        · constructor
          · rintro ⟨z1, z2⟩
            have e2 : x - a = (x - (a + 1)) + 1 := by omega
            rw [e2, Nat.testBit_succ] at z2
            exact .inr ⟨by omega, z2⟩
          · rintro (⟨z, _⟩ | ⟨z1, z2⟩)
            · exact absurd z e
            · have e2 : x - a = (x - (a + 1)) + 1 := by omega
              rw [e2, Nat.testBit_succ]
              exact ⟨by omega, z2⟩
      by_cases hm : m % 2 = 1
      · rw [if_pos hm]
        refine ⟨fun x => ?_, List.pairwise_cons.mpr ⟨fun y hy => ?_, i2⟩⟩
        · rw [step, List.mem_cons]
          exact or_congr ⟨fun z => ⟨z, hm⟩, fun z => z.1⟩ Iff.rfl
        · have := ((i1 y).mp hy).1
          omega
      · rw [if_neg hm]
        refine ⟨fun x => ?_, i2⟩
        rw [step]
        exact ⟨fun z => .inr z, fun z => z.elim (fun q => absurd q.2 hm) id⟩
  termination_by k => k
theorem mem_lotOf {m x : Nat} : x ∈ lotOf m ↔ m.testBit x = true := by
  have z := (lotFrom_spec m m 0 (Nat.le_refl _)).1 x
  rw [Nat.sub_zero] at z
  exact z.trans ⟨fun q => q.2, fun q => ⟨Nat.zero_le _, q⟩⟩
theorem bit_lt {m n x : Nat} (h : m < 2 ^ n) (hx : m.testBit x = true) : x < n := by
  by_cases z : x < n
  · exact z
  · rw [Nat.testBit_lt_two_pow (Nat.lt_of_lt_of_le h (Nat.pow_le_pow_right (by decide) (by omega)))] at hx
    cases hx
theorem lot_lotOf {m n : Nat} (h : m < 2 ^ n) : Lot n (lotOf m) := ⟨(lotFrom_spec m m 0 (Nat.le_refl _)).2, fun x hx => bit_lt h (mem_lotOf.mp hx)⟩
theorem mask_lotOf (m : Nat) : maskOf (lotOf m) = m := by
  refine Nat.eq_of_testBit_eq fun i => ?_
  rw [mask_bit, Bool.eq_iff_iff, decide_eq_true_iff]
  exact mem_lotOf
theorem mask_lt {n : Nat} {l : List Nat} (h : Lot n l) : maskOf l < 2 ^ n := by
  refine Nat.lt_pow_two_of_testBit _ fun i hi => ?_
  rw [mask_bit]
  exact decide_eq_false fun z => Nat.not_lt.mpr hi (h.lt i z)
theorem lotOf_mask {n : Nat} {l : List Nat} (h : Lot n l) : lotOf (maskOf l) = l := by
  refine asc_ext (lot_lotOf (mask_lt h)).asc h.asc fun x => ?_
  rw [mem_lotOf, mask_bit, decide_eq_true_iff]
theorem and_sub {k m : Nat} : k &&& m = k ↔ SubL (lotOf k) (lotOf m) := by
  constructor
  · intro h x hx
    rw [mem_lotOf] at hx ⊢
    rw [← h, Nat.testBit_and, Bool.and_eq_true] at hx
    exact hx.2
  · intro h
    refine Nat.eq_of_testBit_eq fun i => ?_
    rw [Nat.testBit_and]
    cases e : k.testBit i with
    | false => rfl
    | true => rw [mem_lotOf.mp (h i (mem_lotOf.mpr e))]; rfl
theorem mem_lotsL : ∀ {n : Nat} {l : List Nat}, l ∈ lotsL n ↔ Lot n l
  | 0, l => by
    constructor
    · intro h
      have h : l ∈ [[]] := h
      rw [List.mem_singleton.mp h]
      exact Lot.nil
    · intro h
      cases l with
      | nil => exact List.mem_singleton.mpr rfl
      | cons x l => exact absurd (h.lt x List.mem_cons_self) (Nat.not_lt_zero x)
  | n + 1, l => by
    rw [lotsL, List.mem_append, mem_lotsL (n := n)]
    constructor
    · rintro (h | h)
      · exact ⟨h.asc, fun x hx => Nat.lt_succ_of_lt (h.lt x hx)⟩
      · obtain ⟨l0, h0, rfl⟩ := List.mem_map.mp h
        have h0 := mem_lotsL.mp h0
        refine ⟨List.pairwise_append.mpr ⟨h0.asc, List.pairwise_singleton _ _, fun a ha b hb => ?_⟩, fun x hx => ?_⟩
        · rw [List.mem_singleton.mp hb]; exact h0.lt a ha
        · rcases List.mem_append.mp hx with z | z
          · exact Nat.lt_succ_of_lt (h0.lt x z)
          · rw [List.mem_singleton.mp z]; exact Nat.lt_succ_self n
    · intro h
      by_cases hn : n ∈ l
      · refine .inr (List.mem_map.mpr ⟨l.filter fun y => !decide (y = n), mem_lotsL.mpr ⟨h.asc.filter _, fun x hx => ?_⟩, ?_⟩)
        · obtain ⟨z1, z2⟩ := List.mem_filter.mp hx
          have := h.lt x z1
          have : x ≠ n := by simpa using z2
          omega
        · refine asc_ext (List.pairwise_append.mpr ⟨h.asc.filter _, List.pairwise_singleton _ _, fun a ha b hb => ?_⟩) h.asc fun x => ?_
          · obtain ⟨z1, z2⟩ := List.mem_filter.mp ha
            have := h.lt a z1
            have : a ≠ n := by simpa using z2
            rw [List.mem_singleton.mp hb]
            omega
          · rw [List.mem_append, List.mem_filter, List.mem_singleton]
            constructor
            · rintro (z | z)
              · exact z.1
              · rw [z]; exact hn
            · intro z
              by_cases e : x = n
              · exact .inr e
              · exact .inl ⟨z, by rw [decide_eq_false e]; rfl⟩
      · refine .inl ⟨h.asc, fun x hx => ?_⟩
        have := h.lt x hx
        have : x ≠ n := fun e => hn (e ▸ hx)
        omega
theorem lotsL_nodup : ∀ n, (lotsL n).Nodup
  | 0 => by rw [lotsL]; simp
  | n + 1 => by
    rw [lotsL]
    refine List.nodup_append.mpr ⟨lotsL_nodup n, List.pairwise_map.mpr ((lotsL_nodup n).imp fun h e => h (List.append_cancel_right e)), fun a ha b hb e => ?_⟩
    subst e
    obtain ⟨l0, h0, e⟩ := List.mem_map.mp hb
    have z := (mem_lotsL.mp ha).lt n (by rw [← e]; exact List.mem_append_right _ (List.mem_singleton.mpr rfl))
    omega
/-! ### the least of them -/
structure MinL (n : Nat) (good : List Nat → Bool) (l : List Nat) : Prop where
  lot : Lot n l
  ok : good l = true
  min : ∀ k, Lot n k → good k = true → SubL k l → k = l
theorem min_below {n : Nat} {good : List Nat → Bool} : ∀ (c : Nat) (l : List Nat), l.length ≤ c → Lot n l → good l = true → ∃ k, MinL n good k ∧ SubL k l
  | c, l, hc, hl, hg => by
    by_cases h : ∃ k, Lot n k ∧ good k = true ∧ SubL k l ∧ k ≠ l
    · obtain ⟨k, h1, h2, h3, h4⟩ := h
      have hlen : k.length < l.length := by
        rcases Nat.lt_or_ge k.length l.length with z | z
        · exact z
        · refine absurd (asc_ext h1.asc hl.asc fun x => ⟨h3 x, ?_⟩) h4
          exact nodup_sub_eq h1.nd h3 z x
      obtain ⟨k0, a, b⟩ := min_below (c - 1) k (by omega) h1 h2
      exact ⟨k0, a, fun x hx => h3 x (b x hx)⟩
    · refine ⟨l, ⟨hl, hg, fun k h1 h2 h3 => ?_⟩, fun x hx => hx⟩
      exact Decidable.not_not.mp fun z => h ⟨k, h1, h2, h3, z⟩
  termination_by c => c
  decreasing_by
    have := hlen
    omega
theorem ord_pw (n : Nat) : (ordL n).Pairwise fun a b => leD (pD a) (pD b) = true := List.pairwise_mergeSort (le := fun a b => leD (pD a) (pD b)) (fun a b c => leD_trans _ _ _) (fun a b => leD_total _ _) _
theorem ord_perm (n : Nat) : (ordL n).Perm ((List.range (2 ^ n)).map pN) := sortP_perm _
theorem ord_nodup (n : Nat) : (ordL n).Nodup := (ord_perm n).nodup_iff.mpr (List.pairwise_map.mpr ((List.nodup_range (n := 2 ^ n)).imp fun h e => h (congrArg Prod.snd e)))
theorem pD_lt {p q : Nat × Nat} (h : p.1 < q.1) : leD (pD q) (pD p) = false := by
  unfold leD pD
  rw [PySem.W.dataLt_ii, decide_eq_true (.inl (by omega))]
  rfl
theorem leastFold {n : Nat} {good : List Nat → Bool} : ∀ (pre suf : List (Nat × Nat)), pre ++ suf = ordL n → (pre.foldl (leastStep good) []).Nodup ∧ ∀ x, x ∈ pre.foldl (leastStep good) [] ↔ (∃ p ∈ pre, p.2 = x) ∧ MinL n good (lotOf x) := fun pre => by
  refine rev_ind (P := fun pre => ∀ suf : List (Nat × Nat), pre ++ suf = ordL n → (pre.foldl (leastStep good) []).Nodup ∧ ∀ x, x ∈ pre.foldl (leastStep good) [] ↔ (∃ p ∈ pre, p.2 = x) ∧ MinL n good (lotOf x)) (fun suf _ => ⟨List.nodup_nil, fun x => ⟨fun z => (List.not_mem_nil z).elim, fun ⟨⟨p, hp, _⟩, _⟩ => (List.not_mem_nil hp).elim⟩⟩) (fun pre p ih suf e => ?_) pre
  rw [List.append_assoc] at e
  obtain ⟨n1, i1⟩ := ih _ e
  have hp : p ∈ ordL n := by rw [← e]; exact List.mem_append_right _ (List.mem_append_left _ (List.mem_singleton.mpr rfl))
  obtain ⟨p1, p2⟩ := ordL_mem hp
  have nd := ord_nodup n
  rw [← e] at nd
  have pnp : ∀ q ∈ pre, q.2 ≠ p.2 := fun q hq z => by
    have hq' : q ∈ ordL n := by rw [← e]; exact List.mem_append_left _ hq
    have eq : q = p := by rw [(ordL_mem hq').2, p2, z]
    exact (List.nodup_append.mp nd).2.2 q hq p (List.mem_append_left _ (List.mem_singleton.mpr rfl)) eq
  have key : (!covers (pre.foldl (leastStep good) []) p.2 && good (lotOf p.2)) = true ↔ MinL n good (lotOf p.2) := by
    rw [Bool.and_eq_true, Bool.not_eq_true']
    constructor
    · rintro ⟨h1, h2⟩
      refine ⟨lot_lotOf p1, h2, fun k hk hg hs => Decidable.not_not.mp fun hne => ?_⟩
      obtain ⟨k0, m0, s0⟩ := min_below k.length k (Nat.le_refl _) hk hg
      have sub0 : SubL k0 (lotOf p.2) := fun x hx => hs x (s0 x hx)
      have hlen : k0.length < (lotOf p.2).length := by
        rcases Nat.lt_or_ge k0.length (lotOf p.2).length with z | z
        · exact z
        · refine absurd (asc_ext hk.asc (lot_lotOf p1).asc fun x => ⟨hs x, fun hx => s0 x ?_⟩) hne
          exact nodup_sub_eq m0.lot.nd sub0 z x hx
      have hk0 : pN (maskOf k0) ∈ ordL n := (ord_perm n).mem_iff.mpr (List.mem_map.mpr ⟨_, List.mem_range.mpr (mask_lt m0.lot), rfl⟩)
      have hin : pN (maskOf k0) ∈ pre := by
        have w := ord_pw n
        rw [← e] at w hk0
        rcases List.mem_append.mp hk0 with z | z
        · exact z
        · exfalso
          have w2 := (List.pairwise_append.mp w).2.1
          rw [List.singleton_append] at w2 z
          have lk : (pN (maskOf k0)).1 = k0.length := by show (lotOf (maskOf k0)).length = _; rw [lotOf_mask m0.lot]
          have lp : p.1 = (lotOf p.2).length := congrArg Prod.fst p2
          rcases List.mem_cons.mp z with z | z
          · rw [z, lp] at lk
            omega
          · have q := (List.pairwise_cons.mp w2).1 _ z
            rw [pD_lt (by omega)] at q
            cases q
      have hf : maskOf k0 ∈ pre.foldl (leastStep good) [] := (i1 _).mpr ⟨⟨_, hin, rfl⟩, by rw [lotOf_mask m0.lot]; exact m0⟩
      unfold covers at h1
      rw [List.any_eq_false] at h1
      refine h1 _ hf (decide_eq_true (and_sub.mpr ?_))
      rw [lotOf_mask m0.lot]
      exact sub0
    · intro h
      refine ⟨?_, h.ok⟩
      unfold covers
      rw [List.any_eq_false]
      intro k hk hc
      obtain ⟨⟨q, hq, eq⟩, mk⟩ := (i1 k).mp hk
      have z := h.min _ mk.lot mk.ok (and_sub.mp (of_decide_eq_true hc))
      have z2 := congrArg maskOf z
      rw [mask_lotOf, mask_lotOf] at z2
      exact pnp q hq (eq.trans z2)
  rw [List.foldl_append, List.foldl_cons, List.foldl_nil]
  by_cases hm : MinL n good (lotOf p.2)
  · have es : leastStep good (pre.foldl (leastStep good) []) p = pre.foldl (leastStep good) [] ++ [p.2] := if_pos (key.mpr hm)
    rw [es]
    refine ⟨List.nodup_append.mpr ⟨n1, by simp, fun a ha b hb eab => ?_⟩, fun x => ?_⟩
    · rw [List.mem_singleton.mp hb] at eab
      obtain ⟨⟨q, hq, eq⟩, _⟩ := (i1 a).mp ha
      exact pnp q hq (eq.trans eab)
    · rw [List.mem_append, i1, List.mem_singleton]
      constructor
      · rintro (⟨⟨q, hq, z⟩, m⟩ | z)
        · exact ⟨⟨q, List.mem_append_left _ hq, z⟩, m⟩
        · rw [z]; exact ⟨⟨p, List.mem_append_right _ (List.mem_singleton.mpr rfl), rfl⟩, hm⟩
      · rintro ⟨⟨q, hq, z⟩, m⟩
        rcases List.mem_append.mp hq with hq | hq
        · exact .inl ⟨⟨q, hq, z⟩, m⟩
        · rw [List.mem_singleton.mp hq] at z; exact .inr z.symm
  · have es : leastStep good (pre.foldl (leastStep good) []) p = pre.foldl (leastStep good) [] := if_neg fun z => hm (key.mp z)
    rw [es]
    refine ⟨n1, fun x => ?_⟩
    rw [i1]
    constructor
    · rintro ⟨⟨q, hq, z⟩, m⟩
      exact ⟨⟨q, List.mem_append_left _ hq, z⟩, m⟩
    · rintro ⟨⟨q, hq, z⟩, m⟩
      rcases List.mem_append.mp hq with hq | hq
      · exact ⟨⟨q, hq, z⟩, m⟩
      · rw [List.mem_singleton.mp hq] at z
        rw [← z] at m
        exact absurd m hm
/-- the lots as found, before the sorting -/
abbrev lotsM (n : Nat) (good : List Nat → Bool) : List (List Nat) := (leastM n good (ordL n).length).map lotOf
theorem lotsM_spec (n : Nat) (good : List Nat → Bool) : (lotsM n good).Nodup ∧ ∀ l, l ∈ lotsM n good ↔ MinL n good l := by
  have e : leastM n good (ordL n).length = (ordL n).foldl (leastStep good) [] := by
    unfold leastM
    rw [List.take_length]
  obtain ⟨h1, h2⟩ := leastFold (n := n) (good := good) (ordL n) [] (List.append_nil _)
  unfold lotsM
  rw [e]
  refine ⟨List.pairwise_map.mpr (h1.imp fun {a b} h z => h (by rw [← mask_lotOf a, ← mask_lotOf b, z])), fun l => ?_⟩
  · rw [List.mem_map]
    constructor
    · rintro ⟨m, hm, rfl⟩
      exact ((h2 m).mp hm).2
    · intro h
      refine ⟨maskOf l, (h2 _).mpr ⟨⟨pN (maskOf l), (ord_perm n).mem_iff.mpr (List.mem_map.mpr ⟨_, List.mem_range.mpr (mask_lt h.lot), rfl⟩), rfl⟩, ?_⟩, lotOf_mask h.lot⟩
      rw [lotOf_mask h.lot]
      exact h
theorem mem_leastL {n : Nat} {good : List Nat → Bool} {l : List Nat} : l ∈ leastL n good ↔ MinL n good l := by
  unfold leastL sortLots
  rw [(List.mergeSort_perm _ _).mem_iff]
  exact (lotsM_spec n good).2 l
theorem leastL_len (n : Nat) (good : List Nat → Bool) : (leastL n good).length ≤ 2 ^ n := by
  unfold leastL sortLots
  rw [List.length_mergeSort, List.length_map]
  refine Nat.le_trans (leastM_len _ _ _) ?_
  rw [ordL_len]
  exact Nat.le_refl _
theorem leastL_nodup (n : Nat) (good : List Nat → Bool) : (leastL n good).Nodup := by
  unfold leastL sortLots
  exact (List.mergeSort_perm _ _).nodup_iff.mpr (lotsM_spec n good).1
theorem min_ne {n : Nat} {good : List Nat → Bool} {ls : List (List Nat)} (hn : ls.Nodup) (h : ∀ l ∈ ls, MinL n good l) : (∀ l ∈ ls, l ≠ []) ∨ ls.length ≤ 1 := by
  by_cases z : [] ∈ ls
  · refine .inr ?_
    have q := nodup_len_le (m := [[]]) hn fun l hl => by
      have e := (h l hl).min [] Lot.nil (h [] z).ok fun x hx => (List.not_mem_nil hx).elim
      exact List.mem_singleton.mpr e.symm
    exact q
  · exact .inl fun l hl e => z (e ▸ hl)
def UpC (n : Nat) (P : List Nat → Bool) : Prop := ∀ k l, Lot n k → Lot n l → SubL k l → P k = true → P l = true
theorem minus_lot {n : Nat} {l : List Nat} (h : Lot n l) (x : Nat) : Lot n (minus l x) := h.filter _
theorem leastOne_iff {n : Nat} {P : List Nat → Bool} {l : List Nat} (hu : UpC n P) (hl : Lot n l) (hp : P l = true) : leastOne ((lotsL n).filter P) l = true ↔ MinL n P l := by
  unfold leastOne
  rw [List.isEmpty_iff, List.filter_eq_nil_iff]
  constructor
  · intro h
    refine ⟨hl, hp, fun k hk hkp hs => asc_ext hk.asc hl.asc fun x => ⟨hs x, fun hx => Decidable.not_not.mp fun z => ?_⟩⟩
    refine h x hx (decide_eq_true (List.mem_filter.mpr ⟨mem_lotsL.mpr (minus_lot hl x), hu k _ hk (minus_lot hl x) (fun y hy => ?_) hkp⟩))
    exact List.mem_filter.mpr ⟨hs y hy, by rw [decide_eq_false (fun e : y = x => z (e ▸ hy))]; rfl⟩
  · intro h x hx hc
    obtain ⟨h1, h2⟩ := List.mem_filter.mp (of_decide_eq_true hc)
    have e := h.min _ (minus_lot hl x) h2 fun y hy => (List.mem_filter.mp hy).1
    have hx2 : x ∈ minus l x := by rw [e]; exact hx
    have z := (List.mem_filter.mp hx2).2
    rw [decide_eq_true rfl] at z
    cases z
theorem law_members {n : Nat} {P : List Nat → Bool} (hu : UpC n P) (l : List Nat) : l ∈ ((lotsL n).filter P).filter (leastOne ((lotsL n).filter P)) ↔ MinL n P l := by
  rw [List.mem_filter, List.mem_filter, mem_lotsL]
  constructor
  · rintro ⟨⟨h1, h2⟩, h3⟩
    exact (leastOne_iff hu h1 h2).mp h3
  · intro h
    exact ⟨⟨h.lot, h.ok⟩, (leastOne_iff hu h.lot h.ok).mpr h⟩
theorem law_nodup (n : Nat) (P : List Nat → Bool) : (((lotsL n).filter P).filter (leastOne ((lotsL n).filter P))).Nodup := ((lotsL_nodup n).filter _).filter _
theorem least_eq {n : Nat} {good P : List Nat → Bool} (hu : UpC n P) (h : ∀ l, MinL n good l ↔ MinL n P l) : leastL n good = leastLaw ((lotsL n).filter P) := by
  unfold leastL leastLaw
  refine sortLots_eq ((List.perm_ext_iff_of_nodup (lotsM_spec n good).1 (law_nodup n P)).mpr fun l => ?_)
  rw [(lotsM_spec n good).2, h, law_members hu]
theorem least_law_ok {n : Nat} {P : List Nat → Bool} (hu : UpC n P) (hn : n ≤ 10) : OkLeast ((lotsL n).filter P) := by
  refine ⟨?_, fun l hl => ?_, min_ne (law_nodup n P) fun l hl => (law_members hu l).mp hl⟩
  · have z := (lotsL_len n).1
    have q := List.length_filter_le P (lotsL n)
    have w : 2 ^ n ≤ 2 ^ 10 := Nat.pow_le_pow_right (by decide) hn
    omega
  · have z := (mem_lotsL.mp (List.mem_filter.mp hl).1).len
    omega
theorem min_cong {n : Nat} {P Q : List Nat → Bool} (h : ∀ l, Lot n l → (P l = true ↔ ∃ k, Lot n k ∧ SubL k l ∧ Q k = true)) (l : List Nat) : MinL n Q l ↔ MinL n P l := by
  constructor
  · intro m
    refine ⟨m.lot, (h l m.lot).mpr ⟨l, m.lot, fun _ z => z, m.ok⟩, fun k hk hp hs => ?_⟩
    obtain ⟨j, hj, hjs, hq⟩ := (h k hk).mp hp
    have e := m.min j hj hq fun x hx => hs x (hjs x hx)
    exact asc_ext hk.asc m.lot.asc fun x => ⟨hs x, fun hx => hjs x (e ▸ hx)⟩
  · intro m
    obtain ⟨k, hk, hs, hq⟩ := (h l m.lot).mp m.ok
    have e := m.min k hk ((h k hk).mpr ⟨k, hk, fun _ z => z, hq⟩) hs
    subst e
    exact ⟨m.lot, hq, fun j hj hjq hjs => m.min j hj ((h j hj).mpr ⟨j, hj, fun _ z => z, hjq⟩) hjs⟩
theorem min_same {n : Nat} {P Q : List Nat → Bool} (h : ∀ l, Lot n l → P l = Q l) (l : List Nat) : MinL n P l ↔ MinL n Q l :=
  ⟨fun m => ⟨m.lot, by rw [← h l m.lot]; exact m.ok, fun k hk hq hs => m.min k hk (by rw [h k hk]; exact hq) hs⟩, fun m => ⟨m.lot, by rw [h l m.lot]; exact m.ok, fun k hk hq hs => m.min k hk (by rw [← h k hk]; exact hq) hs⟩⟩
end G
set_option Elab.async false
set_option linter.all false
set_option maxRecDepth 100000
set_option maxHeartbeats 1000000
set_option pp.maxSteps 400
namespace G
open PySem PySem.Spec L2 LamX NdefX
/-! ### pairings inside a lot -/
def SureOn (bs : List Board) (a : Aim) (l : List Nat) : Prop := ∃ M, MtOn (allPairs bs) M ∧ (∀ x ∈ flatP M, x ∈ l) ∧ GoodS a M
def FullOn (bs : List Board) (a : Aim) (l : List Nat) : Prop := ∃ M, MtOn (allPairs bs) M ∧ (∀ x, x ∈ flatP M ↔ x ∈ l) ∧ GoodS a M
theorem full_sound {nm : Near} (hN : ∀ a b, b ∈ nb nm a → a < b) : ∀ (n : Nat) (l : List Nat), l.length ≤ n → l.Pairwise (· < ·) → ∀ ps ∈ fullN nm n l, (∀ p ∈ ps, p.2 ∈ nb nm p.1) ∧ (flatP ps).Nodup ∧ ∀ y, y ∈ flatP ps ↔ y ∈ l
  | 0, l, hl, _, ps, hp => by
    have e : l = [] := List.eq_nil_of_length_eq_zero (Nat.le_zero.mp hl)
    have hp : ps ∈ [[]] := hp
    rw [List.mem_singleton.mp hp, e]
    exact ⟨fun p h => (List.not_mem_nil h).elim, List.nodup_nil, fun y => Iff.rfl⟩
  | n + 1, [], _, _, ps, hp => by
    have hp : ps ∈ [[]] := hp
    rw [List.mem_singleton.mp hp]
    exact ⟨fun p h => (List.not_mem_nil h).elim, List.nodup_nil, fun y => Iff.rfl⟩
  | n + 1, x :: l, hl, ha, ps, hp => by
    rw [fullN] at hp
    obtain ⟨o, ho, hp⟩ := List.mem_flatMap.mp hp
    obtain ⟨qs, hq, rfl⟩ := List.mem_map.mp hp
    obtain ⟨h1, h2⟩ := List.mem_filter.mp ho
    obtain ⟨a1, a2⟩ := List.pairwise_cons.mp ha
    have hxo := hN x o h1
    have hol : o ∈ l := by
      rcases List.mem_cons.mp (of_decide_eq_true h2) with z | z
      · omega
      · exact z
    have hle := List.length_filter_le (fun b => !decide (b = o)) l
    rw [List.length_cons] at hl
    obtain ⟨i1, i2, i3⟩ := full_sound hN n _ (by omega) (a2.filter fun b => !decide (b = o)) qs hq
    have i4 : ∀ y, y ∈ flatP qs ↔ y ∈ l ∧ y ≠ o := fun y => by
      rw [i3, List.mem_filter]
      refine and_congr Iff.rfl ?_
      rw [Bool.not_eq_true', decide_eq_false_iff_not]
    refine ⟨fun p hp => ?_, ?_, fun y => ?_⟩
    · rcases List.mem_cons.mp hp with e | hp
      · rw [e]; exact h1
      · exact i1 p hp
    · rw [flatP_cons, List.nodup_cons, List.nodup_cons]
      refine ⟨fun z => ?_, fun z => ((i4 o).mp z).2 rfl, i2⟩
      rcases List.mem_cons.mp z with z | z
      · have z : x = o := z
        omega
      · have := a1 x ((i4 x).mp z).1
        omega
    · rw [flatP_cons, List.mem_cons, List.mem_cons, List.mem_cons, i4]
      constructor
      · rintro (z | z | z)
        · exact .inl z
        · right; rw [z]; exact hol
        · exact .inr z.1
      · rintro (z | z)
        · exact .inl z
        · by_cases e : y = o
          · exact .inr (.inl e)
          · exact .inr (.inr ⟨z, e⟩)
theorem full_has {nm : Near} (hN : ∀ a b, b ∈ nb nm a → a < b) : ∀ (n : Nat) (l : List Nat) (M : List (Nat × Nat)), l.length ≤ n → l.Pairwise (· < ·) → (∀ p ∈ M, p.2 ∈ nb nm p.1) → (flatP M).Nodup → (∀ y, y ∈ flatP M ↔ y ∈ l) → ∃ ps ∈ fullN nm n l, ∀ p ∈ M, p ∈ ps
  | n, [], M, _, _, _, _, hM => by
    have e : M = [] := by
      cases M with
      | nil => rfl
      | cons p M => exact (List.not_mem_nil ((hM p.1).mp (by rw [flatP_cons]; exact List.mem_cons_self))).elim
    rw [e]
    refine ⟨[], ?_, fun p h => h⟩
    cases n <;> exact List.mem_singleton.mpr rfl
  | 0, x :: l, M, hl, _, _, _, _ => by
    rw [List.length_cons] at hl
    omega
  | n + 1, x :: l, M, hl, ha, hadj, hnd, hM => by
    obtain ⟨a1, a2⟩ := List.pairwise_cons.mp ha
    obtain ⟨p, hp, hpx⟩ := mem_flatP.mp ((hM x).mpr List.mem_cons_self)
    have hpl := hN _ _ (hadj p hp)
    have h1 : p.1 ∈ x :: l := (hM _).mp (mem_flatP.mpr ⟨p, hp, .inl rfl⟩)
    have h2 : p.2 ∈ x :: l := (hM _).mp (mem_flatP.mpr ⟨p, hp, .inr rfl⟩)
    have ex : x = p.1 := by
      rcases hpx with z | z
      · exact z
      · rcases List.mem_cons.mp h1 with q | q
        · exact q.symm
        · have := a1 _ q
          omega
    have h2l : p.2 ∈ l := by
      rcases List.mem_cons.mp h2 with q | q
      · omega
      · exact q
    have hle := List.length_filter_le (fun b => !decide (b = p.2)) l
    rw [List.length_cons] at hl
    obtain ⟨qs, hq, hs⟩ := full_has hN n (l.filter fun b => !decide (b = p.2)) (M.filter fun q => !decide (q = p)) (by omega) (a2.filter _) (fun q hq => hadj q (List.mem_filter.mp hq).1) (flatP_filter _ hnd) fun y => by
      rw [List.mem_filter, mem_flatP]
      constructor
      · rintro ⟨q, hq, hy⟩
        obtain ⟨q1, q2⟩ := List.mem_filter.mp hq
        have qne : q ≠ p := by simpa using q2
        have hyM := (hM y).mp (mem_flatP.mpr ⟨q, q1, hy⟩)
        have yx : y ≠ x := fun e => qne (pair_uniq hnd q1 hp hy (.inl (e.trans ex)))
        have yo : y ≠ p.2 := fun e => qne (pair_uniq hnd q1 hp hy (.inr e))
        exact ⟨(List.mem_cons.mp hyM).resolve_left yx, by rw [decide_eq_false yo]; rfl⟩
      · rintro ⟨z1, z2⟩
        have yo : y ≠ p.2 := by simpa using z2
        obtain ⟨q, hq, hy⟩ := mem_flatP.mp ((hM y).mpr (List.mem_cons_of_mem _ z1))
        refine ⟨q, List.mem_filter.mpr ⟨hq, ?_⟩, hy⟩
        rw [decide_eq_false]
        · rfl
        · intro e
          subst e
          have := a1 y z1
          rcases hy with e | e
          · omega
          · exact yo e
    refine ⟨(x, p.2) :: qs, ?_, fun q hq' => ?_⟩
    · rw [fullN]
      refine List.mem_flatMap.mpr ⟨p.2, List.mem_filter.mpr ⟨by rw [ex]; exact hadj p hp, decide_eq_true h2⟩, List.mem_map.mpr ⟨qs, hq, rfl⟩⟩
    · by_cases e : q = p
      · rw [e, ex]; exact List.mem_cons_self
      · exact List.mem_cons_of_mem _ (hs q (List.mem_filter.mpr ⟨hq', by rw [decide_eq_false e]; rfl⟩))
theorem later_nb {ps : List (Nat × Nat)} {a b : Nat} : b ∈ nb (laterOf ps) a ↔ (a, b) ∈ ps := by
  have z := nb_later ps.length ps a b
  rw [List.take_length] at z
  exact z
theorem later_lt {bs : List Board} : ∀ a b, b ∈ nb (laterOf (allPairs bs)) a → a < b := fun a b h => (pairs_iff.mp (later_nb.mp h)).1
theorem isEn_iff {bs : List Board} {a : Aim} {l : List Nat} {n : Nat} (hl : Lot n l) (hn : n ≤ 6) : isEn (laterOf (allPairs bs)) a l = true ↔ FullOn bs a l := by
  have hlen : l.length ≤ 6 := Nat.le_trans hl.len hn
  unfold isEn
  rw [Bool.and_eq_true, List.any_eq_true]
  constructor
  · rintro ⟨_, ps, hp, hg⟩
    obtain ⟨h1, h2, h3⟩ := full_sound later_lt 6 l hlen hl.asc ps hp
    exact ⟨ps, ⟨fun p hp => later_nb.mp (h1 p hp), h2⟩, h3, spoil_iff.mp hg⟩
  · rintro ⟨M, hM, hx, hg⟩
    obtain ⟨ps, hp, hs⟩ := full_has later_lt 6 l M hlen hl.asc (fun p hp => later_nb.mpr (hM.mem p hp)) hM.nd hx
    refine ⟨?_, ps, hp, spoil_iff.mpr (hg.mono hs)⟩
    have z : (flatP M).length = l.length := ((List.perm_ext_iff_of_nodup hM.nd hl.nd).mpr hx).length_eq
    rw [flatP_len] at z
    rw [Bool.not_eq_true', decide_eq_false_iff_not]
    omega
theorem pick_len (bs : List Board) (l : List Nat) : (pick bs l).length = l.length := List.length_map _
theorem pick_get {bs : List Board} {l : List Nat} {i : Nat} (h : i < l.length) : (pick bs l).getD i board0 = bs.getD (l.getD i 0) board0 := by
  unfold pick
  rw [List.getD_eq_getElem?_getD, List.getElem?_map, List.getElem?_eq_getElem h]
  rw [List.getD_eq_getElem?_getD (l := l), List.getElem?_eq_getElem h]
  rfl
theorem lget {l : List Nat} {i : Nat} (h : i < l.length) : l.getD i 0 = l[i] := by
  rw [List.getD_eq_getElem?_getD, List.getElem?_eq_getElem h]
  rfl
theorem lget_mem {l : List Nat} {i : Nat} (h : i < l.length) : l.getD i 0 ∈ l := by
  rw [lget h]
  exact List.getElem_mem h
theorem lget_idx {l : List Nat} {x : Nat} (h : x ∈ l) : l.getD (l.idxOf x) 0 = x := by
  rw [lget (List.idxOf_lt_length_of_mem h)]
  exact List.getElem_idxOf _
theorem idx_lget {n : Nat} {l : List Nat} (h : Lot n l) {i : Nat} (hi : i < l.length) : l.idxOf (l.getD i 0) = i := by
  rw [lget hi]
  exact List.Nodup.idxOf_getElem h.nd i hi
theorem lget_mono {n : Nat} {l : List Nat} (h : Lot n l) {i j : Nat} (hij : i < j) (hj : j < l.length) : l.getD i 0 < l.getD j 0 := by
  rw [lget (Nat.lt_trans hij hj), lget hj]
  exact List.pairwise_iff_getElem.mp h.asc i j _ _ hij
theorem idx_mono {n : Nat} {l : List Nat} (h : Lot n l) {x y : Nat} (hx : x ∈ l) (hy : y ∈ l) (hxy : x < y) : l.idxOf x < l.idxOf y := by
  have a := List.idxOf_lt_length_of_mem hx
  have b := List.idxOf_lt_length_of_mem hy
  rcases Nat.lt_trichotomy (l.idxOf x) (l.idxOf y) with z | z | z
  · exact z
  · have q := lget_idx hx
    rw [z, lget_idx hy] at q
    omega
  · have q := lget_mono h z a
    rw [lget_idx hx, lget_idx hy] at q
    omega
theorem flatP_mapP (f : Nat → Nat) (M : List (Nat × Nat)) : flatP (M.map fun p => (f p.1, f p.2)) = (flatP M).map f := by
  unfold flatP
  rw [List.flatMap_map, List.map_flatMap]
  rfl
theorem sure_on {bs : List Board} {a : Aim} {l : List Nat} (hl : Lot bs.length l) : (sureL (pick bs l) (a.within l)).isNone = false ↔ SureOn bs a l := by
  rw [sureL_iff]
  constructor
  · rintro ⟨M, hM, hg⟩
    have hin : ∀ p ∈ M, p.1 < p.2 ∧ p.2 < l.length ∧ arePair (bs.getD (l.getD p.1 0) board0) (bs.getD (l.getD p.2 0) board0) = true := fun p hp => by
      obtain ⟨h1, h2, h3⟩ := pairs_iff.mp (hM.mem p hp)
      rw [pick_len] at h2
      rw [pick_get (Nat.lt_trans h1 h2), pick_get h2] at h3
      exact ⟨h1, h2, h3⟩
    have hfl : ∀ x ∈ flatP M, x < l.length := fun x hx => by
      obtain ⟨p, hp, e⟩ := mem_flatP.mp hx
      obtain ⟨h1, h2, _⟩ := hin p hp
      rcases e with e | e <;> omega
    refine ⟨M.map fun p => (l.getD p.1 0, l.getD p.2 0), ⟨fun q hq => ?_, ?_⟩, fun x hx => ?_, fun w c => ?_⟩
    · obtain ⟨p, hp, rfl⟩ := List.mem_map.mp hq
      obtain ⟨h1, h2, h3⟩ := hin p hp
      exact pairs_iff.mpr ⟨lget_mono hl h1 h2, hl.lt _ (lget_mem h2), h3⟩
    · rw [flatP_mapP fun i => l.getD i 0]
      refine List.pairwise_map.mpr (hM.nd.imp_of_mem fun {i j} hi hj h e => h ?_)
      have z := congrArg l.idxOf e
      rw [idx_lget hl (hfl i hi), idx_lget hl (hfl j hj)] at z
      exact z
    · rw [flatP_mapP fun i => l.getD i 0] at hx
      obtain ⟨i, hi, rfl⟩ := List.mem_map.mp hx
      exact lget_mem (hfl i hi)
    · have z := hg (fun i => w (l.getD i 0)) fun p hp => c _ (List.mem_map.mpr ⟨p, hp, rfl⟩)
      rw [within_hold] at z
      refine hold_mono (fun n hn => ?_) a z
      rw [Bool.and_eq_true] at hn
      have hn2 := hn.2
      rw [lget_idx (of_decide_eq_true hn.1)] at hn2
      exact hn2
  · rintro ⟨M, hM, hin, hg⟩
    have m1 : ∀ p ∈ M, p.1 ∈ l := fun p hp => hin _ (mem_flatP.mpr ⟨p, hp, .inl rfl⟩)
    have m2 : ∀ p ∈ M, p.2 ∈ l := fun p hp => hin _ (mem_flatP.mpr ⟨p, hp, .inr rfl⟩)
    refine ⟨M.map fun p => (l.idxOf p.1, l.idxOf p.2), ⟨fun q hq => ?_, ?_⟩, fun w c => ?_⟩
    · obtain ⟨p, hp, rfl⟩ := List.mem_map.mp hq
      obtain ⟨h1, h2, h3⟩ := pairs_iff.mp (hM.mem p hp)
      have i1 := List.idxOf_lt_length_of_mem (m1 p hp)
      have i2 := List.idxOf_lt_length_of_mem (m2 p hp)
      refine pairs_iff.mpr ⟨idx_mono hl (m1 p hp) (m2 p hp) h1, by rw [pick_len]; exact i2, ?_⟩
      show arePair ((pick bs l).getD (l.idxOf p.1) board0) ((pick bs l).getD (l.idxOf p.2) board0) = true
      rw [pick_get i1, pick_get i2, lget_idx (m1 p hp), lget_idx (m2 p hp)]
      exact h3
    · rw [flatP_mapP fun i => l.idxOf i]
      refine List.pairwise_map.mpr (hM.nd.imp_of_mem fun {i j} hi hj h e => h ?_)
      have z := congrArg (fun k => l.getD k 0) e
      rw [lget_idx (hin i hi), lget_idx (hin j hj)] at z
      exact z
    · rw [within_hold]
      refine hg _ fun p hp => ?_
      rcases c _ (List.mem_map.mpr ⟨p, hp, rfl⟩) with z | z
      · exact .inl (by rw [decide_eq_true (m1 p hp)]; exact z)
      · exact .inr (by rw [decide_eq_true (m2 p hp)]; exact z)
theorem sureIn_iff {bs : List Board} {a : Aim} {l : List Nat} (hl : Lot bs.length l) : sureIn bs a l = true ↔ SureOn bs a l := by
  unfold sureIn
  by_cases h : l = []
  · rw [if_pos h, hold_eq]
    constructor
    · intro z
      refine ⟨[], ⟨fun p h => (List.not_mem_nil h).elim, List.nodup_nil⟩, fun x h => (List.not_mem_nil h).elim, fun w _ => hold_mono (fun n hn => ?_) a z⟩
      rw [Nat.zero_testBit] at hn
      cases hn
    · rintro ⟨M, hM, hin, hg⟩
      have e : M = [] := by
        cases M with
        | nil => rfl
        | cons p M =>
          have z := hin p.1 (by rw [flatP_cons]; exact List.mem_cons_self)
          rw [h] at z
          exact (List.not_mem_nil z).elim
      rw [e] at hg
      exact hg _ fun p h => (List.not_mem_nil h).elim
  · rw [if_neg h, ← sure_on hl]
    cases sureL (pick bs l) (a.within l) <;> simp
theorem sure_up {bs : List Board} {a : Aim} : UpC bs.length (sureIn bs a) := fun k l hk hl hs h => by
  obtain ⟨M, hM, hin, hg⟩ := (sureIn_iff hk).mp h
  exact (sureIn_iff hl).mpr ⟨M, hM, fun x hx => hs x (hin x hx), hg⟩
theorem sure_full {bs : List Board} {a : Aim} (hn : bs.length ≤ 6) (l : List Nat) (hl : Lot bs.length l) : sureIn bs a l = true ↔ ∃ k, Lot bs.length k ∧ SubL k l ∧ isEn (laterOf (allPairs bs)) a k = true := by
  rw [sureIn_iff hl]
  constructor
  · rintro ⟨M, hM, hin, hg⟩
    have hk : Lot bs.length ((List.range bs.length).filter fun x => decide (x ∈ flatP M)) := lot_filter _
    refine ⟨_, hk, fun x hx => hin x (of_decide_eq_true (List.mem_filter.mp hx).2), (isEn_iff hk hn).mpr ⟨M, hM, fun x => ?_, hg⟩⟩
    rw [List.mem_filter, decide_eq_true_iff]
    exact ⟨fun z => ⟨List.mem_range.mpr (hl.lt x (hin x z)), z⟩, fun z => z.2⟩
  · rintro ⟨k, hk, hs, hg⟩
    obtain ⟨M, hM, hx, hg⟩ := (isEn_iff hk hn).mp hg
    exact ⟨M, hM, fun x z => hs x ((hx x).mp z), hg⟩
theorem en_eq {bs : List Board} {a : Aim} (hn : bs.length ≤ 6) : enL bs a = leastLaw (sureLots bs a) := least_eq sure_up (min_cong (sure_full hn))
theorem leastLaw_mem {n : Nat} {P : List Nat → Bool} (hu : UpC n P) (l : List Nat) : l ∈ leastLaw ((lotsL n).filter P) ↔ MinL n P l := by
  unfold leastLaw sortLots
  rw [(List.mergeSort_perm _ _).mem_iff]
  exact law_members hu l
theorem leastLaw_empty {n : Nat} {P : List Nat → Bool} (hu : UpC n P) : (leastLaw ((lotsL n).filter P)).isEmpty = true ↔ ∀ l, Lot n l → P l = false := by
  rw [List.isEmpty_iff]
  constructor
  · intro h l hl
    cases e : P l with
    | false => rfl
    | true =>
      obtain ⟨k, hk, _⟩ := min_below l.length l (Nat.le_refl _) hl e
      have z := (leastLaw_mem hu k).mpr hk
      rw [h] at z
      exact (List.not_mem_nil z).elim
  · intro h
    refine List.eq_nil_iff_forall_not_mem.mpr fun l hl => ?_
    have z := (leastLaw_mem hu l).mp hl
    have q := z.ok
    rw [h l z.lot] at q
    cases q
theorem sure_no (bs : List Board) (a : Aim) : (sureL bs a).isNone = (leastLaw (sureLots bs a)).isEmpty := by
  rw [Bool.eq_iff_iff, leastLaw_empty sure_up]
  constructor
  · intro h l hl
    cases e : sureIn bs a l with
    | false => rfl
    | true =>
      obtain ⟨M, hM, _, hg⟩ := (sureIn_iff hl).mp e
      have z := sureL_iff.mpr ⟨M, hM, hg⟩
      rw [h] at z
      cases z
  · intro h
    cases e : (sureL bs a).isNone with
    | true => rfl
    | false =>
      obtain ⟨M, hM, hg⟩ := sureL_iff.mp e
      have hl : Lot bs.length ((List.range bs.length).filter fun _ => true) := lot_filter _
      have z := (sureIn_iff (a := a) hl).mpr ⟨M, hM, fun x hx => ?_, hg⟩
      · rw [h _ hl] at z
        cases z
      · obtain ⟨p, hp, q⟩ := mem_flatP.mp hx
        obtain ⟨h1, h2, _⟩ := pairs_iff.mp (hM.mem p hp)
        refine List.mem_filter.mpr ⟨List.mem_range.mpr ?_, rfl⟩
        rcases q with q | q <;> omega
end G
set_option Elab.async false
set_option linter.all false
set_option maxRecDepth 100000
set_option maxHeartbeats 1000000
set_option pp.maxSteps 400
namespace G
open PySem PySem.Spec L2 LamX NdefX
/-! ### bars -/
theorem apart_iff {qs : List (Nat × Nat)} {x : Nat × Nat} : apartB qs x = true ↔ x.1 ∉ flatP qs ∧ x.2 ∉ flatP qs := by
  unfold apartB
  rw [List.isEmpty_iff, List.filter_eq_nil_iff, mem_flatP, mem_flatP]
  constructor
  · intro h
    refine ⟨fun ⟨y, hy, z⟩ => h y hy ?_, fun ⟨y, hy, z⟩ => h y hy ?_⟩
    · rw [decide_eq_true z]; rfl
    · rw [decide_eq_true z, Bool.or_true]
  · rintro ⟨h1, h2⟩ y hy z
    rw [Bool.or_eq_true, decide_eq_true_iff, decide_eq_true_iff] at z
    exact z.elim (fun q => h1 ⟨y, hy, q⟩) fun q => h2 ⟨y, hy, q⟩
theorem lawPg_app (ps : List (Nat × Nat)) (x : Nat × Nat) : lawPg (ps ++ [x]) = lawPg ps ++ ((lawPg ps).filter fun qs => apartB qs x).map fun qs => qs ++ [x] := by
  unfold lawPg
  rw [List.foldl_append]
  rfl
theorem lawPg_sound {E : List (Nat × Nat)} : (∀ p ∈ E, p.1 ≠ p.2) → ∀ ps ∈ lawPg E, MtOn E ps := by
  refine rev_ind (P := fun E => (∀ p ∈ E, p.1 ≠ p.2) → ∀ ps ∈ lawPg E, MtOn E ps) (fun _ ps h => ?_) (fun E x ih hE ps h => ?_) E
  · have h : ps ∈ [[]] := h
    rw [List.mem_singleton.mp h]
    exact ⟨fun p h => (List.not_mem_nil h).elim, List.nodup_nil⟩
  · have ih := ih fun p hp => hE p (List.mem_append_left _ hp)
    rw [lawPg_app] at h
    rcases List.mem_append.mp h with h | h
    · have z := ih ps h
      exact ⟨fun p hp => List.mem_append_left _ (z.mem p hp), z.nd⟩
    · obtain ⟨qs, hq, rfl⟩ := List.mem_map.mp h
      obtain ⟨h1, h2⟩ := List.mem_filter.mp hq
      have z := ih qs h1
      obtain ⟨a, b⟩ := apart_iff.mp h2
      refine ⟨fun p hp => ?_, ?_⟩
      · rcases List.mem_append.mp hp with hp | hp
        · exact List.mem_append_left _ (z.mem p hp)
        · exact List.mem_append_right _ hp
      · rw [flatP_app]
        refine List.nodup_append.mpr ⟨z.nd, ?_, fun u hu v hv e => ?_⟩
        · have := hE x (List.mem_append_right _ (List.mem_singleton.mpr rfl))
          rw [flatP_cons]
          refine List.nodup_cons.mpr ⟨fun q => ?_, List.nodup_cons.mpr ⟨fun q => (List.not_mem_nil q).elim, List.nodup_nil⟩⟩
          rcases List.mem_cons.mp q with q | q
          · exact this q
          · exact (List.not_mem_nil q).elim
        · subst e
          rw [flatP_cons] at hv
          rcases List.mem_cons.mp hv with q | q
          · exact a (q ▸ hu)
          · rcases List.mem_cons.mp q with q | q
            · exact b (q ▸ hu)
            · exact (List.not_mem_nil q).elim
theorem lawPg_has {E : List (Nat × Nat)} : ∀ M, MtOn E M → ∃ ps ∈ lawPg E, ∀ p, p ∈ ps ↔ p ∈ M := by
  refine rev_ind (P := fun E => ∀ M, MtOn E M → ∃ ps ∈ lawPg E, ∀ p, p ∈ ps ↔ p ∈ M) (fun M h => ?_) (fun E x ih M h => ?_) E
  · refine ⟨[], List.mem_singleton.mpr rfl, fun p => ⟨fun z => (List.not_mem_nil z).elim, fun z => (List.not_mem_nil (h.mem p z)).elim⟩⟩
  · rw [lawPg_app]
    by_cases hx : x ∈ M
    · obtain ⟨ps, h1, h2⟩ := ih (M.filter fun p => !decide (p = x)) ⟨fun p hp => by
        obtain ⟨q1, q2⟩ := List.mem_filter.mp hp
        have ne : p ≠ x := by simpa using q2
        rcases List.mem_append.mp (h.mem p q1) with z | z
        · exact z
        · exact absurd (List.mem_singleton.mp z) ne, flatP_filter _ h.nd⟩
      have far : ∀ y, (y = x.1 ∨ y = x.2) → y ∉ flatP ps := fun y hy z => by
        obtain ⟨p, hp, e⟩ := mem_flatP.mp z
        obtain ⟨q1, q2⟩ := List.mem_filter.mp ((h2 p).mp hp)
        have ne : p ≠ x := by simpa using q2
        exact ne (pair_uniq h.nd q1 hx e hy)
      refine ⟨ps ++ [x], List.mem_append_right _ (List.mem_map.mpr ⟨ps, List.mem_filter.mpr ⟨h1, apart_iff.mpr ⟨far _ (.inl rfl), far _ (.inr rfl)⟩⟩, rfl⟩), fun p => ?_⟩
      rw [List.mem_append, h2, List.mem_filter, List.mem_singleton]
      constructor
      · rintro (z | z)
        · exact z.1
        · rw [z]; exact hx
      · intro z
        by_cases e : p = x
        · exact .inr e
        · exact .inl ⟨z, by rw [decide_eq_false e]; rfl⟩
    · obtain ⟨ps, h1, h2⟩ := ih M ⟨fun p hp => by
        rcases List.mem_append.mp (h.mem p hp) with z | z
        · exact z
        · exact absurd (List.mem_singleton.mp z ▸ hp) hx, h.nd⟩
      exact ⟨ps, List.mem_append_left _ h1, h2⟩
theorem eget {E : List (Nat × Nat)} {i : Nat} (h : i < E.length) : E.getD i (0, 0) = E[i] := by
  rw [List.getD_eq_getElem?_getD, List.getElem?_eq_getElem h]
  rfl
theorem eget_mem {E : List (Nat × Nat)} {i : Nat} (h : i < E.length) : E.getD i (0, 0) ∈ E := by
  rw [eget h]
  exact List.getElem_mem h
theorem eget_idx {E : List (Nat × Nat)} {x : Nat × Nat} (h : x ∈ E) : E.getD (E.idxOf x) (0, 0) = x := by
  rw [eget (List.idxOf_lt_length_of_mem h)]
  exact List.getElem_idxOf _
theorem idx_eget {E : List (Nat × Nat)} (h : E.Nodup) {i : Nat} (hi : i < E.length) : E.idxOf (E.getD i (0, 0)) = i := by
  rw [eget hi]
  exact List.Nodup.idxOf_getElem h i hi
theorem pickP_nodup {E : List (Nat × Nat)} (h : E.Nodup) {r : List Nat} (hr : Lot E.length r) : (pickP E r).Nodup := by
  unfold pickP
  refine List.pairwise_map.mpr (hr.nd.imp_of_mem fun {i j} hi hj hne e => hne ?_)
  have z := congrArg E.idxOf e
  rw [idx_eget h (hr.lt i hi), idx_eget h (hr.lt j hj)] at z
  exact z
theorem isSl_iff {a : Aim} {E : List (Nat × Nat)} {r : List Nat} : isSl a E r = true ↔ (flatP (pickP E r)).Nodup ∧ GoodS a (pickP E r) := by
  unfold isSl
  rw [Bool.and_eq_true, spoil_iff, decide_eq_true_iff]
  have e : r.length = (pickP E r).length := (List.length_map _).symm
  rw [e, partK_iff]
theorem pick_of {E ps : List (Nat × Nat)} (h : E.Nodup) (hm : MtOn E ps) : ∃ r, Lot E.length r ∧ (∀ p, p ∈ pickP E r ↔ p ∈ ps) ∧ (flatP (pickP E r)).Nodup := by
  have hr : Lot E.length ((List.range E.length).filter fun i => decide (E.getD i (0, 0) ∈ ps)) := lot_filter _
  have hx : ∀ p, p ∈ pickP E ((List.range E.length).filter fun i => decide (E.getD i (0, 0) ∈ ps)) ↔ p ∈ ps := fun p => by
    unfold pickP
    rw [List.mem_map]
    constructor
    · rintro ⟨i, hi, rfl⟩
      exact of_decide_eq_true (List.mem_filter.mp hi).2
    · intro hp
      have hpE := hm.mem p hp
      refine ⟨E.idxOf p, List.mem_filter.mpr ⟨List.mem_range.mpr (List.idxOf_lt_length_of_mem hpE), ?_⟩, eget_idx hpE⟩
      rw [eget_idx hpE]
      exact decide_eq_true hp
  refine ⟨_, hr, hx, ?_⟩
  have p := (List.perm_ext_iff_of_nodup (pickP_nodup h hr) (flatP_nodup_of hm.nd)).mpr hx
  exact (flatP_perm p).nodup_iff.mpr hm.nd
theorem meets_iff {rs : List (List Nat)} {lot : List Nat} : meets (rs.map maskOf) lot = true ↔ ∀ r ∈ rs, ∃ x ∈ lot, x ∈ r := by
  unfold meets
  rw [List.all_eq_true]
  have key : ∀ r, (!decide (maskOf lot &&& maskOf r = 0)) = true ↔ ∃ x ∈ lot, x ∈ r := fun r => by
    rw [Bool.not_eq_true', decide_eq_false_iff_not]
    constructor
    · intro h
      refine Decidable.not_not.mp fun z => h (Nat.eq_of_testBit_eq fun i => ?_)
      rw [Nat.testBit_and, mask_bit, mask_bit, Nat.zero_testBit]
      by_cases h1 : i ∈ lot
      · rw [decide_eq_false fun h2 => z ⟨i, h1, h2⟩, Bool.and_false]
      · rw [decide_eq_false h1, Bool.false_and]
    · rintro ⟨x, h1, h2⟩ z
      have q := congrArg (fun m => Nat.testBit m x) z
      rw [Nat.testBit_and, mask_bit, mask_bit, Nat.zero_testBit, decide_eq_true h1, decide_eq_true h2] at q
      cases q
  constructor
  · intro h r hr
    exact (key r).mp (h _ (List.mem_map.mpr ⟨r, hr, rfl⟩))
  · intro h m hm
    obtain ⟨r, hr, rfl⟩ := List.mem_map.mp hm
    exact (key r).mpr (h r hr)
theorem meetsAll_iff {rows : List (List Nat)} {lot : List Nat} : meetsAll rows lot = true ↔ ∀ r ∈ rows, ∃ x ∈ r, x ∈ lot := by
  unfold meetsAll
  rw [List.isEmpty_iff, List.filter_eq_nil_iff]
  refine forall_congr' fun r => forall_congr' fun _ => ?_
  rw [List.isEmpty_iff, List.filter_eq_nil_iff]
  constructor
  · intro h
    refine Decidable.not_not.mp fun z => h fun x hx q => z ⟨x, hx, of_decide_eq_true q⟩
  · rintro ⟨x, hx, hl⟩ h
    exact h x hx (decide_eq_true hl)
theorem rows_iff {bs : List Board} {a : Aim} {row : List Nat} : row ∈ rowsL a (allPairs bs) ↔ ∃ ps ∈ lawPg (allPairs bs), GoodS a ps ∧ row = idxP (allPairs bs) ps := by
  unfold rowsL
  rw [List.mem_map]
  constructor
  · rintro ⟨ps, h, rfl⟩
    obtain ⟨h1, h2⟩ := List.mem_filter.mp h
    exact ⟨ps, h1, goodPg_iff.mp h2, rfl⟩
  · rintro ⟨ps, h1, h2, rfl⟩
    exact ⟨ps, List.mem_filter.mpr ⟨h1, goodPg_iff.mpr h2⟩, rfl⟩
theorem pairs_ne (bs : List Board) : ∀ p ∈ allPairs bs, p.1 ≠ p.2 := fun p hp => Nat.ne_of_lt (pairs_iff.mp hp).1
theorem meet_same (bs : List Board) (a : Aim) (lot : List Nat) : meets ((slL a (allPairs bs)).map maskOf) lot = meetsAll (rowsL a (allPairs bs)) lot := by
  rw [Bool.eq_iff_iff, meets_iff, meetsAll_iff]
  have nd := pairs_nodup bs
  constructor
  · intro h row hrow
    obtain ⟨ps, h1, h2, rfl⟩ := rows_iff.mp hrow
    have hm := lawPg_sound (pairs_ne bs) ps h1
    obtain ⟨r, hr, hx, hn⟩ := pick_of nd hm
    have hs : isSl a (allPairs bs) r = true := isSl_iff.mpr ⟨hn, h2.mono fun p hp => (hx p).mpr hp⟩
    obtain ⟨k, hk, hks⟩ := min_below r.length r (Nat.le_refl _) hr hs
    obtain ⟨x, hx1, hx2⟩ := h k (mem_leastL.mpr hk)
    have hxr := hks x hx2
    have hxl := hr.lt x hxr
    refine ⟨x, ?_, hx1⟩
    unfold idxP
    refine List.mem_map.mpr ⟨(allPairs bs).getD x (0, 0), (hx _).mp (List.mem_map.mpr ⟨x, hxr, rfl⟩), idx_eget nd hxl⟩
  · intro h r hr
    have hr := mem_leastL.mp hr
    obtain ⟨h1, h2⟩ := isSl_iff.mp hr.ok
    obtain ⟨ps, hp, hx⟩ := lawPg_has (E := allPairs bs) (pickP (allPairs bs) r) ⟨fun p hp => by
      obtain ⟨i, hi, rfl⟩ := List.mem_map.mp hp
      exact eget_mem (hr.lot.lt i hi), h1⟩
    obtain ⟨x, hx1, hx2⟩ := h _ (rows_iff.mpr ⟨ps, hp, h2.mono fun p hp => (hx p).mpr hp, rfl⟩)
    obtain ⟨p, hpp, rfl⟩ := List.mem_map.mp hx1
    obtain ⟨i, hi, rfl⟩ := List.mem_map.mp ((hx p).mp hpp)
    rw [idx_eget nd (hr.lot.lt i hi)] at hx2
    exact ⟨i, hx2, hi⟩
theorem meet_up {n : Nat} {rows : List (List Nat)} : UpC n (meetsAll rows) := fun k l _ _ hs h => meetsAll_iff.mpr fun r hr => by
  obtain ⟨x, h1, h2⟩ := meetsAll_iff.mp h r hr
  exact ⟨x, h1, hs x h2⟩
theorem bar_eq (bs : List Board) (a : Aim) : barL bs a = leastLaw (meetLots bs a) := least_eq meet_up (min_same fun l _ => meet_same bs a l)
theorem bar_no (bs : List Board) (a : Aim) : decide (barL bs a = [[]]) = (sureL bs a).isNone := by
  have nd := pairs_nodup bs
  rw [Bool.eq_iff_iff, decide_eq_true_iff]
  constructor
  · intro h
    have z : MinL (allPairs bs).length (meets ((slL a (allPairs bs)).map maskOf)) [] := mem_leastL.mp (show [] ∈ barL bs a by rw [h]; exact List.mem_singleton.mpr rfl)
    cases e : (sureL bs a).isNone with
    | true => rfl
    | false =>
      obtain ⟨M, hM, hg⟩ := sureL_iff.mp e
      obtain ⟨r, hr, hx, hn⟩ := pick_of nd hM
      obtain ⟨k, hk, _⟩ := min_below (good := isSl a (allPairs bs)) r.length r (Nat.le_refl _) hr (isSl_iff.mpr ⟨hn, hg.mono fun p hp => (hx p).mpr hp⟩)
      obtain ⟨x, h1, _⟩ := meets_iff.mp z.ok k (mem_leastL.mpr hk)
      exact (List.not_mem_nil h1).elim
  · intro h
    have hg : meets ((slL a (allPairs bs)).map maskOf) [] = true := meets_iff.mpr fun r hr => by
      have hr := mem_leastL.mp hr
      obtain ⟨h1, h2⟩ := isSl_iff.mp hr.ok
      have z := sureL_iff.mpr ⟨pickP (allPairs bs) r, ⟨fun p hp => by
        obtain ⟨i, hi, rfl⟩ := List.mem_map.mp hp
        exact eget_mem (hr.lot.lt i hi), h1⟩, h2⟩
      rw [h] at z
      cases z
    have hmin : MinL (allPairs bs).length (meets ((slL a (allPairs bs)).map maskOf)) [] := ⟨Lot.nil, hg, fun k _ _ hs => by
      cases k with
      | nil => rfl
      | cons x k => exact (List.not_mem_nil (hs x List.mem_cons_self)).elim⟩
    have nb := leastL_nodup (allPairs bs).length (meets ((slL a (allPairs bs)).map maskOf))
    have all : ∀ l ∈ barL bs a, l = [] := fun l hl => ((mem_leastL.mp hl).min [] Lot.nil hg fun x hx => (List.not_mem_nil hx).elim).symm
    have hin : [] ∈ barL bs a := mem_leastL.mpr hmin
    cases e : barL bs a with
    | nil => rw [e] at hin; exact (List.not_mem_nil hin).elim
    | cons x xs =>
      rw [e] at all
      have nb : (barL bs a).Nodup := nb
      rw [e] at nb
      have ex := all x List.mem_cons_self
      cases xs with
      | nil => rw [ex]
      | cons y ys =>
        have ey := all y (List.mem_cons_of_mem _ List.mem_cons_self)
        rw [ex, ey] at nb
        exact absurd List.mem_cons_self (List.nodup_cons.mp nb).1
/-! ### what the walk asks -/
theorem hall_brd {bs : List Board} (h : HallP bs) : Brd bs := by
  obtain ⟨ns, h1, h2, h3⟩ := h.ns
  exact ⟨Nat.le_trans h.hi (by decide), fun b hb z hz => name_strOk ((h3 b hb).wd z hz), fun b hb => (h3 b hb).sd⟩
theorem pick_brd {bs : List Board} (B : Brd bs) {l : List Nat} (hl : Lot bs.length l) : Brd (pick bs l) := by
  have bl := B.len
  have ll := hl.len
  refine ⟨by rw [pick_len]; omega, fun b hb => ?_, fun b hb => ?_⟩ <;> obtain ⟨i, hi, rfl⟩ := List.mem_map.mp hb
  · exact B.row _ (getD_mem (hl.lt i hi))
  · exact B.sd _ (getD_mem (hl.lt i hi))
theorem later_len {bs : List Board} (h : (allPairs bs).length ≤ 6) (a : Nat) : (nb (laterOf (allPairs bs)) a).length ≤ 6 := by
  have z := (later_klen (allPairs bs).length (allPairs bs)).2 a
  rw [List.take_length] at z
  omega
theorem maths_en {bs : List Board} {a : Aim} (hP : HallP bs) (ha : AimOk bs.length 2 a) : OkEn (bs, a) := by
  have B := hall_brd hP
  have hi := hP.hi
  have p6 := pairs_len5 B hi
  have hd := ha.dep
  refine ⟨⟨by show bs.length ≤ 50; omega, B.row⟩, by show bs.length ≤ 6; omega, by show (allPairs bs).length ≤ 500; omega, fun m hm => ?_, ?_⟩
  · have hl := lot_lotOf (show m < 2 ^ bs.length from hm)
    have ll := hl.len
    refine ⟨⟨by show (lotOf m).length ≤ 6; omega, Nat.le_refl _, later_len p6⟩, fun ps hps => ⟨by show a.depth ≤ 8; omega, ⟨_, ha.ok⟩, Nat.le_trans (fullN_len2 6 _ ps hps) (by decide), fun p hp => ?_⟩⟩
    obtain ⟨_, _, h3⟩ := full_sound later_lt 6 _ (by show (lotOf m).length ≤ 6; omega) hl.asc ps hps
    have z1 := hl.lt _ ((h3 p.1).mp (mem_flatP.mpr ⟨p, hp, .inl rfl⟩))
    have z2 := hl.lt _ ((h3 p.2).mp (mem_flatP.mpr ⟨p, hp, .inr rfl⟩))
    omega
  · obtain ⟨h1, h2⟩ := lotsM_spec bs.length (isEn (laterOf (allPairs bs)) a)
    exact min_ne h1 fun l hl => (h2 l).mp hl
theorem maths_ef {bs : List Board} {a : Aim} {pr : List Nat} (hP : HallP bs) (ha : AimOk bs.length 2 a) (hl : pr.length = bs.length) (hx : ∀ x ∈ pr, x < 10) : OkEf (bs, a, pr) := by
  have B := hall_brd hP
  have hi := hP.hi
  have hd := ha.dep
  have hs : a.size ≤ 200 := Nat.le_trans ha.siz (by decide)
  have en := maths_en hP ha
  have su : OkSu (bs, a) := brd_su B (by omega) ha.ok hs
  refine ⟨by show bs.length ≤ 6; omega, fun l hl => ?_, least_law_ok sure_up (by show bs.length ≤ 10; omega), en, ⟨en, su.ai, hl, fun x h => ?_, fun l hl => ?_, ?_⟩, su, en_eq (by show bs.length ≤ 6; omega), fun d ds e => min_head e, sure_no bs a⟩
  · have hl := mem_lotsL.mp hl
    have ll := hl.len
    refine ⟨by show a.depth ≤ 8; omega, ⟨_, ha.ok⟩, by show l.length ≤ 1000; have ll : l.length ≤ bs.length := ll; omega, fun hne => ⟨⟨⟨hl.lt, hl.asc, by show l.length ≤ 1000; have ll : l.length ≤ bs.length := ll; omega⟩, hne, by show bs.length ≤ 50; omega⟩, brd_su (pick_brd B hl) ?_ ?_ ?_⟩⟩
    · show (a.within l).depth ≤ 8
      rw [within_depth]; omega
    · show (a.within l).ok (pick bs l).length
      rw [pick_len]; exact within_ok l a ha.ok
    · show (a.within l).size ≤ 200
      rw [within_size]; exact hs
  · have := hx x h
    omega
  · have z := (mem_leastL.mp hl).lot
    have ll := z.len
    exact ⟨by have ll : l.length ≤ bs.length := ll; omega, z.lt⟩
  · have z := leastL_len bs.length (isEn (laterOf (allPairs bs)) a)
    have q : 2 ^ bs.length ≤ 2 ^ 5 := Nat.pow_le_pow_right (by decide) hi
    have z : (enL bs a).length ≤ 2 ^ bs.length := z
    show (enL bs a).length ≤ 5000
    omega
theorem maths_bf {bs : List Board} {a : Aim} (hP : HallP bs) (ha : AimOk bs.length 2 a) : OkBf (bs, a) := by
  have B := hall_brd hP
  have hi := hP.hi
  have p6 := pairs_len5 B hi
  have hd := ha.dep
  have hs : a.size ≤ 200 := Nat.le_trans ha.siz (by decide)
  have su : OkSu (bs, a) := brd_su B (by omega) ha.ok hs
  have pr : OkPairs bs := ⟨by omega, B.row⟩
  have q6 : 2 ^ (allPairs bs).length ≤ 2 ^ 6 := Nat.pow_le_pow_right (by decide) p6
  refine ⟨pr, by show (allPairs bs).length ≤ 10; omega, by show a.depth ≤ 8; omega, ⟨_, ha.ok⟩, fun ps h x hx => (lawPg_sound (pairs_ne bs) ps h).mem x hx, ⟨su.ai, pr, by show (allPairs bs).length ≤ 10; omega, ⟨by show (allPairs bs).length ≤ 10; omega, fun m hm => ?_, ?_⟩, fun l hl x hx => ?_, ?_, fun m hm x hx => ?_, ?_⟩, least_law_ok meet_up (by show (allPairs bs).length ≤ 10; omega), su, bar_eq bs a, bar_no bs a⟩
  · have hl := lot_lotOf (show m < 2 ^ (allPairs bs).length from hm)
    have ll := hl.len
    refine ⟨hl.lt, by show (lotOf m).length ≤ 1000; omega, by show a.depth ≤ 8; omega, ⟨_, ha.ok⟩, ?_, fun p hp => ?_⟩
    · show (pickP (allPairs bs) (lotOf m)).length ≤ 13
      unfold pickP
      rw [List.length_map]
      omega
    · obtain ⟨i, hi2, rfl⟩ := List.mem_map.mp hp
      obtain ⟨h1, h2, _⟩ := pairs_iff.mp (eget_mem (hl.lt i hi2))
      show ((allPairs bs).getD i (0, 0)).1 ≤ 1000 ∧ ((allPairs bs).getD i (0, 0)).2 ≤ 1000
      omega
  · obtain ⟨h1, h2⟩ := lotsM_spec (allPairs bs).length (isSl a (allPairs bs))
    exact min_ne h1 fun l hl => (h2 l).mp hl
  · have z := (mem_leastL.mp hl).lot.lt x hx
    have z : x < (allPairs bs).length := z
    omega
  · have z := leastL_len (allPairs bs).length (isSl a (allPairs bs))
    have z : (slL a (allPairs bs)).length ≤ 2 ^ (allPairs bs).length := z
    show (slL a (allPairs bs)).length ≤ 5000
    omega
  · have z := (lot_lotOf (show m < 2 ^ (allPairs bs).length from hm)).lt x hx
    omega
  · obtain ⟨h1, h2⟩ := lotsM_spec (allPairs bs).length (meets ((slL a (allPairs bs)).map maskOf))
    exact min_ne h1 fun l hl => (h2 l).mp hl
end G
set_option Elab.async false
set_option linter.all false
set_option maxRecDepth 100000
set_option maxHeartbeats 1000000
set_option pp.maxSteps 400
namespace G
open PySem PySem.Spec L2 LamX NdefX
/-! ### the most points -/
theorem most_spec (l : List (List (Nat × Nat))) : match mostL l with
    | none => l = []
    | some ps => ps ∈ l ∧ ∀ q ∈ l, q.length ≤ ps.length := by
  refine rev_ind (P := fun l => match mostL l with
    | none => l = []
    | some ps => ps ∈ l ∧ ∀ q ∈ l, q.length ≤ ps.length) rfl (fun l x ih => ?_) l
  have e : mostL (l ++ [x]) = mostStep (mostL l) x := by
    unfold mostL
    rw [List.foldl_append]
    rfl
  rw [e]
  cases h : mostL l with
  | none =>
    rw [h] at ih
    have ih : l = [] := ih
    rw [ih]
    show x ∈ [] ++ [x] ∧ ∀ q ∈ [] ++ [x], q.length ≤ x.length
    refine ⟨List.mem_singleton.mpr rfl, fun q hq => ?_⟩
    rw [List.mem_singleton.mp hq]
    exact Nat.le_refl _
  | some b =>
    rw [h] at ih
    obtain ⟨i1, i2⟩ := ih
    unfold mostStep
    by_cases z : b.length < x.length
    · dsimp only
      rw [if_pos z]
      refine ⟨List.mem_append_right _ (List.mem_singleton.mpr rfl), fun q hq => ?_⟩
      rcases List.mem_append.mp hq with hq | hq
      · have := i2 q hq
        omega
      · rw [List.mem_singleton.mp hq]
        exact Nat.le_refl _
    · dsimp only
      rw [if_neg z]
      refine ⟨List.mem_append_left _ i1, fun q hq => ?_⟩
      rcases List.mem_append.mp hq with hq | hq
      · exact i2 q hq
      · rw [List.mem_singleton.mp hq]
        omega
theorem holdWs_bd (w : Nat → Bool) : ∀ ns : List Nat, Aim.holdWs w (ns.map .bd) = ns.map w
  | [] => by rw [List.map_nil, Aim.holdWs, List.map_nil]
  | n :: ns => by rw [List.map_cons, Aim.holdWs, List.map_cons, holdWs_bd w ns, Aim.holdW]
theorem least_hold (w : Nat → Bool) (k m : Nat) : (leastA k m).holdW w = decide (k ≤ ((List.range m).filter w).length) := by
  unfold leastA
  rw [Aim.holdW, holdWs_bd, List.countP_map, List.countP_eq_length_filter]
  rfl
theorem least_good {bs : List Board} {ps : List (Nat × Nat)} (h : MtOn (allPairs bs) ps) : GoodS (leastA ps.length bs.length) ps := fun w c => by
  rw [least_hold]
  refine decide_eq_true ?_
  have key := nodup_len_le (l := ps.map fun p => if w p.1 = true then p.1 else p.2) (m := (List.range bs.length).filter w) (List.pairwise_map.mpr ((flatP_nodup_of h.nd).imp_of_mem fun {p q} hp hq hne e => hne ?_)) (fun x hx => ?_)
  · refine pair_uniq h.nd hp hq (x := if w p.1 = true then p.1 else p.2) ?_ ?_
    · split
      · exact .inl rfl
      · exact .inr rfl
    · rw [e]
      split
      · exact .inl rfl
      · exact .inr rfl
  · obtain ⟨p, hp, rfl⟩ := List.mem_map.mp hx
    obtain ⟨h1, h2, _⟩ := pairs_iff.mp (h.mem p hp)
    have cp := c p hp
    split
    · rename_i z
      exact List.mem_filter.mpr ⟨List.mem_range.mpr (by omega), z⟩
    · rename_i z
      exact List.mem_filter.mpr ⟨List.mem_range.mpr h2, cp.resolve_left z⟩
  · rw [List.length_map] at key
    exact key
theorem least_bad {ps : List (Nat × Nat)} {k m : Nat} (h : ps.length < k) : ¬ GoodS (leastA k m) ps := fun g => by
  have z := g (fun n => decide (n ∈ ps.map (·.1))) fun p hp => .inl (decide_eq_true (List.mem_map.mpr ⟨p, hp, rfl⟩))
  rw [least_hold, decide_eq_true_iff] at z
  have q := nodup_len_le (l := (List.range m).filter fun n => decide (n ∈ ps.map (·.1))) (m := ps.map (·.1)) ((List.nodup_range (n := m)).filter _) fun x hx => of_decide_eq_true (List.mem_filter.mp hx).2
  rw [List.length_map] at q
  omega
theorem least_su {bs : List Board} (B : Brd bs) {k : Nat} (hk : k ≤ 25) : OkSu (bs, leastA k bs.length) := by
  have bl := B.len
  have hm : ∀ a ∈ (List.range bs.length).map Aim.bd, a.depth ≤ 1 ∧ a.ok bs.length ∧ a.size ≤ 1 := fun a ha => by
    obtain ⟨n, hn, rfl⟩ := List.mem_map.mp ha
    rw [Aim.depth, Aim.ok, Aim.size]
    exact ⟨Nat.le_refl _, List.mem_range.mp hn, Nat.le_refl _⟩
  refine brd_su B ?_ ?_ ?_
  · unfold leastA
    rw [Aim.depth]
    have := depths_le.mpr fun a ha => (hm a ha).1
    omega
  · unfold leastA
    rw [Aim.ok]
    exact ⟨hk, by rw [List.length_map, List.length_range]; omega, oks_iff.mpr fun a ha => (hm a ha).2.1⟩
  · unfold leastA
    rw [Aim.size]
    have := sizes_le fun a ha => (hm a ha).2.2
    rw [List.length_map, List.length_range] at this
    omega
theorem maths_pf {bs : List Board} (hP : HallP bs) : OkPf bs := by
  have B := hall_brd hP
  have hi := hP.hi
  have lo := hP.lo
  refine ⟨⟨lo, by omega⟩, ⟨⟨brd_gr B, by omega⟩, fun ps hps => ?_⟩, ?_⟩
  · have s := greatL_sound hps
    have z := mt_len s
    refine ⟨fun q hq => ?_, by omega⟩
    obtain ⟨h1, h2, _⟩ := pairs_iff.mp (s.mem q hq)
    omega
  · obtain ⟨R0, hR0, _⟩ := greatL_has (bs := bs) (M := []) ⟨fun p h => (List.not_mem_nil h).elim, List.nodup_nil⟩
    have sp := most_spec (greatL bs)
    cases e : mostL (greatL bs) with
    | none =>
      rw [e] at sp
      have sp : greatL bs = [] := sp
      rw [sp] at hR0
      exact (List.not_mem_nil hR0).elim
    | some ps =>
      rw [e] at sp
      obtain ⟨s1, s2⟩ := sp
      have s := greatL_sound s1
      have z := mt_len s
      refine ⟨ps, rfl, by omega, least_su B (by omega), least_su B (by omega), sureL_iff.mpr ⟨ps, s, least_good s⟩, ?_⟩
      cases q : (sureL bs (leastA (ps.length + 1) bs.length)).isNone with
      | true => rfl
      | false =>
        obtain ⟨M, hM, hg⟩ := sureL_iff.mp q
        obtain ⟨R, hR, hs⟩ := greatL_has hM
        exact absurd (hg.mono hs) (least_bad (Nat.lt_succ_of_le (s2 R hR)))
/-! ### following -/
theorem turn_pair {b : Board} (h : b.side ≤ 1) : arePair b.turn b = true := by
  unfold arePair Board.turn
  rw [if_neg]
  · dsimp only
    rw [decide_eq_true rfl]
    rfl
  · dsimp only
    intro z
    rcases z with z | z
    · exact z rfl
    · omega
theorem flatP_nd : ∀ {ps : List (Nat × Nat)}, ps.Pairwise (fun p q => p.1 ≠ q.1 ∧ p.1 ≠ q.2 ∧ p.2 ≠ q.1 ∧ p.2 ≠ q.2) → (∀ p ∈ ps, p.1 ≠ p.2) → (flatP ps).Nodup
  | [], _, _ => List.nodup_nil
  | p :: ps, h, k => by
    obtain ⟨h1, h2⟩ := List.pairwise_cons.mp h
    have ih := flatP_nd h2 fun q hq => k q (List.mem_cons_of_mem _ hq)
    rw [flatP_cons, List.nodup_cons, List.nodup_cons]
    refine ⟨fun z => ?_, fun z => ?_, ih⟩
    · rcases List.mem_cons.mp z with z | z
      · exact k p List.mem_cons_self z
      · obtain ⟨q, hq, e⟩ := mem_flatP.mp z
        exact e.elim (h1 q hq).1 (h1 q hq).2.1
    · obtain ⟨q, hq, e⟩ := mem_flatP.mp z
      exact e.elim (h1 q hq).2.2.1 (h1 q hq).2.2.2
theorem asc_pairs {ps : List (Nat × Nat)} (h : ps.Pairwise fun p q => p.1 < q.1) : ascL (ps.map fun q => [((q.1 : Nat) : Int), ((q.2 : Nat) : Int)]) = true := by
  unfold ascL
  rw [List.all_map, List.all_eq_true]
  intro p hp
  obtain ⟨i, hi⟩ := List.mem_iff_getElem?.mp hp
  obtain ⟨h1, h2⟩ := List.getElem?_zip_eq_some.mp hi
  rw [List.getElem?_drop] at h2
  rw [List.getElem?_map] at h1 h2
  obtain ⟨a, ha, e1⟩ := Option.map_eq_some_iff.mp h1
  obtain ⟨b, hb, e2⟩ := Option.map_eq_some_iff.mp h2
  obtain ⟨la, ea⟩ := List.getElem?_eq_some_iff.mp ha
  obtain ⟨lb, eb⟩ := List.getElem?_eq_some_iff.mp hb
  have q := (List.pairwise_iff_getElem.mp h) i (1 + i) la lb (by omega)
  rw [ea, eb] at q
  show HT.lexLt p.1 p.2 = true
  rw [← e1, ← e2, HT.lexLt_cons, if_neg (by omega)]
  exact decide_eq_true (by omega)
theorem face_lo {bs : List Board} {l : List Nat} {k : Nat} (h : k < l.length) : ((pick bs l).map Board.turn ++ bs).getD k board0 = (bs.getD (l.getD k 0) board0).turn := by
  rw [List.getD_eq_getElem?_getD, List.getElem?_append_left (by rw [List.length_map, pick_len]; exact h), List.getElem?_map]
  have z := pick_get (bs := bs) h
  rw [List.getD_eq_getElem?_getD] at z
  have hk : k < (pick bs l).length := by rw [pick_len]; exact h
  rw [List.getElem?_eq_getElem hk] at z ⊢
  show Board.turn (pick bs l)[k] = _
  rw [← z]
  rfl
theorem face_hi {bs : List Board} {l : List Nat} {x : Nat} : ((pick bs l).map Board.turn ++ bs).getD (l.length + x) board0 = bs.getD x board0 := by
  rw [List.getD_eq_getElem?_getD, List.getElem?_append_right (by rw [List.length_map, pick_len]; omega), List.length_map, pick_len, List.getD_eq_getElem?_getD]
  congr 2
  omega
theorem mem_mirror {l : List Nat} {p : Nat × Nat} : p ∈ mirrorP l ↔ ∃ k, k < l.length ∧ p = (k, l.length + l.getD k 0) := by
  unfold mirrorP
  rw [List.mem_map]
  exact ⟨fun ⟨k, h1, h2⟩ => ⟨k, List.mem_range.mp h1, h2.symm⟩, fun ⟨k, h1, h2⟩ => ⟨k, List.mem_range.mpr h1, h2.symm⟩⟩
theorem mirror_good {bs : List Board} {a : Aim} {l : List Nat} (hl : Lot bs.length l) : GoodS (faceA ⟨pick bs l, a.within l, bs, a⟩) (mirrorP l) := fun w c => by
  show Aim.holdW w (.node .some [(a.within l).dual, a.moved (pick bs l).length]) = true
  rw [Aim.holdW, Aim.holdWs, Aim.holdWs, Aim.holdWs, List.any_cons, List.any_cons, pick_len, moved_hold]
  have d := dual_hold (fun n => !w n) (a.within l)
  have e : (fun n => !(fun n => !w n) n) = w := by
    funext n
    exact Bool.not_not _
  rw [e] at d
  rw [d]
  cases q : (a.within l).holdW fun n => !w n with
  | false => rfl
  | true =>
    rw [within_hold] at q
    have z : (a.holdW fun n => w (n + l.length)) = true := hold_mono (fun n hn => by
      rw [Bool.and_eq_true] at hn
      have hm := of_decide_eq_true hn.1
      have hi := List.idxOf_lt_length_of_mem hm
      have hc := c _ (mem_mirror.mpr ⟨_, hi, rfl⟩)
      rw [lget_idx hm] at hc
      have h2 := hn.2
      rcases hc with hc | hc
      · have hc : w (l.idxOf n) = true := hc
        rw [hc] at h2
        cases h2
      · have hc : w (l.length + n) = true := hc
        rw [Nat.add_comm]
        exact hc) a q
    rw [z]
    rfl
theorem face_brd {bs : List Board} (B : Brd bs) (h5 : bs.length ≤ 5) {l : List Nat} (hl : Lot bs.length l) : Brd ((pick bs l).map Board.turn ++ bs) := by
  have P := pick_brd B hl
  have ll := hl.len
  refine ⟨by rw [List.length_append, List.length_map, pick_len]; omega, fun b hb => ?_, fun b hb => ?_⟩ <;> rcases List.mem_append.mp hb with hb | hb
  · obtain ⟨b0, h0, rfl⟩ := List.mem_map.mp hb
    exact P.row b0 h0
  · exact B.row b hb
  · obtain ⟨b0, h0, rfl⟩ := List.mem_map.mp hb
    show 1 - b0.side ≤ 1
    omega
  · exact B.sd b hb
theorem mirror_mt {bs : List Board} (B : Brd bs) {l : List Nat} (hl : Lot bs.length l) : MtOn (allPairs ((pick bs l).map Board.turn ++ bs)) (mirrorP l) := by
  refine ⟨fun p hp => ?_, flatP_nd ?_ fun p hp => ?_⟩
  · obtain ⟨k, hk, rfl⟩ := mem_mirror.mp hp
    have hx := hl.lt _ (lget_mem hk)
    refine pairs_iff.mpr ⟨by show k < l.length + l.getD k 0; omega, ?_, ?_⟩
    · show l.length + l.getD k 0 < _
      rw [List.length_append, List.length_map, pick_len]
      omega
    · show arePair (((pick bs l).map Board.turn ++ bs).getD k board0) (((pick bs l).map Board.turn ++ bs).getD (l.length + l.getD k 0) board0) = true
      rw [face_lo hk, face_hi]
      exact turn_pair (B.sd _ (getD_mem hx))
  · unfold mirrorP
    refine List.pairwise_map.mpr (List.pairwise_lt_range.imp_of_mem fun {i j} hi hj hij => ?_)
    have hi := List.mem_range.mp hi
    have hj := List.mem_range.mp hj
    have := lget_mono hl hij hj
    show i ≠ j ∧ i ≠ l.length + l.getD j 0 ∧ l.length + l.getD i 0 ≠ j ∧ l.length + l.getD i 0 ≠ l.length + l.getD j 0
    omega
  · obtain ⟨k, hk, rfl⟩ := mem_mirror.mp hp
    show k ≠ l.length + l.getD k 0
    omega
theorem maths_ff {bs : List Board} {a : Aim} {l : List Nat} (hP : HallP bs) (ha : AimOk bs.length 2 a) (hs : l.Sublist (List.range bs.length)) (hne : l ≠ []) : OkFf (bs, a, l) := by
  have B := hall_brd hP
  have hi := hP.hi
  have hd := ha.dep
  have hz : a.size ≤ 200 := Nat.le_trans ha.siz (by decide)
  have hl : Lot bs.length l := ⟨List.Pairwise.sublist hs List.pairwise_lt_range, fun x hx => List.mem_range.mp (hs.subset hx)⟩
  have ll := hl.len
  have FB := face_brd B hi hl
  have mt := mirror_mt B hl
  have mg := mirror_good (a := a) hl
  have wd := within_depth l a
  have dd := dual_depth (a.within l)
  have md := moved_depth (pick bs l).length a
  have fd : (faceA ⟨pick bs l, a.within l, bs, a⟩).depth ≤ 8 := by
    show Aim.depth (.node .some [(a.within l).dual, a.moved (pick bs l).length]) ≤ 8
    rw [Aim.depth, Aim.depths, Aim.depths, Aim.depths, dd, md, wd]
    omega
  have fo : (faceA ⟨pick bs l, a.within l, bs, a⟩).ok (bs.length + l.length) := by
    show Aim.ok (bs.length + l.length) (.node .some [(a.within l).dual, a.moved (pick bs l).length])
    rw [Aim.ok, Aim.oks, Aim.oks, Aim.oks, pick_len]
    exact ⟨trivial, by show 2 ≤ 24; decide, ok_mono (Nat.le_add_left _ _) _ (dual_ok _ (within_ok l a ha.ok)), moved_ok l.length a ha.ok, trivial⟩
  have wok : (a.within l).ok (pick bs l).length := by rw [pick_len]; exact within_ok l a ha.ok
  have fol : OkFol ⟨pick bs l, a.within l, bs, a⟩ := by
    refine ⟨⟨⟨wok, ?_, ?_⟩, ha.ok, ?_, hz⟩, ⟨?_, (pick_brd B hl).sd⟩, ?_, ⟨?_, ?_, ⟨_, wok⟩, ⟨_, ha.ok⟩⟩, brd_sure FB fd fo⟩
    · show (a.within l).depth ≤ 8; omega
    · show (a.within l).size ≤ 200; rw [within_size]; exact hz
    · show a.depth ≤ 8; omega
    · show (pick bs l).length ≤ 50; rw [pick_len]; omega
    · show (pick bs l).length + bs.length ≤ 24; rw [pick_len]; omega
    · show (a.within l).depth ≤ 6; omega
    · show a.depth ≤ 6; omega
  have ml : (mirrorP l).length = l.length := by
    unfold mirrorP
    rw [List.length_map, List.length_range]
  refine ⟨hne, ⟨⟨hl.lt, hl.asc, ?_⟩, hne, ?_⟩, ?_, ⟨_, ha.ok⟩, fol, ⟨fol, ⟨FB.row, ?_, fun q hq => ?_, ?_, fun q hq => ?_, mt.nd⟩, ?_, fun p hp => ?_⟩, ?_, ?_⟩
  · show l.length ≤ 1000; omega
  · show bs.length ≤ 50; omega
  · show a.depth ≤ 8; omega
  · show (mirrorP l).length ≤ 100; omega
  · obtain ⟨h1, h2, _⟩ := pairs_iff.mp (mt.mem q hq)
    exact ⟨h1, h2⟩
  · refine asc_pairs ?_
    show (mirrorP l).Pairwise _
    unfold mirrorP
    exact List.pairwise_map.mpr List.pairwise_lt_range
  · exact (pairs_iff.mp (mt.mem q hq)).2.2
  · show (mirrorP l).length ≤ 13; omega
  · obtain ⟨h1, h2, _⟩ := pairs_iff.mp (mt.mem p hp)
    have := FB.len
    omega
  · exact sureL_iff.mpr ⟨mirrorP l, mt, mg⟩
  · exact spoil_iff.mpr mg
theorem maths : Maths := ⟨fun bs h => maths_pf h, fun bs a pr h1 h2 h3 h4 => maths_ef h1 h2 h3 h4, fun bs a h1 h2 => maths_bf h1 h2, fun bs a l h1 h2 h3 h4 => maths_ff h1 h2 h3 h4⟩
end G
set_option Elab.async false
set_option linter.all false
set_option maxRecDepth 100000
set_option maxHeartbeats 0
namespace G
open PySem PySem.Spec PyProof.Rows L2 LamX NdefX
def dD (x : Str) (st : Stmt) : He.DefD := ⟨(x, none), x, x, C8.fnArgs st, C8.fnBody st, C8.fnScope st, [], []⟩
def dM (c m q : Str) (st : Stmt) : He.DefD := ⟨(c, some m), m, q, C8.fnArgs st, C8.fnBody st, C8.fnScope st, [], []⟩
def hFa0 : List He.Fa := [.free "all", .free "any", .free "bool", .free "enumerate", .free "int", .free "isinstance", .free "len", .free "list", .free "max", .free "min", .free "range", .free "sorted", .free "str", .free "sum", .free "tuple", .free "zip", .str "LETTERS" "abcdefghijklmnopqrstuvwxyz", .int "MOST_LETTERS" 20, .int "MOST_NAME" 8, .int "MOST_BEGUN" 20, .int "MOST_AIMS" 24, .int "MOST_LEAST" 25, .int "MOST_DEEP" 8, .int "MOST_PARTS" 200, .int "MOST_BOARDS_halls" 12, .int "MOST_BOARDS_pairs" 24, .int "MOST_PAIRINGS" 2000, .int "MOST_BOARDS_house" 12, .int "MOST_PAIRS" 12, .int "MOST_PRICE" 1000000]
def hFa1 : List He.Fa := [.int "MOST_POINTS" 1000000000, .glo "is_integer", .glo "is_within", .glo "is_letters", .glo "is_word", .glo "is_name", .glo "is_words", .glo "is_ascending", .glo "is_lot", .glo "mask_of", .glo "lot_of", .glo "bits_of", .glo "aims_in", .glo "parts_of", .glo "is_any_aim", .glo "is_aim", .glo "check_aim", .glo "holds", .glo "dual_of", .glo "moved_by", .glo "mover_of", .glo "is_board", .glo "turned", .glo "joined", .glo "only", .glo "is_ahead", .glo "are_pair", .glo "all_pairs", .glo "is_pairing", .glo "partners"]
def hFa2 : List He.Fa := [.glo "greatest_of", .glo "check_size", .glo "greatest", .glo "pairings", .glo "outcomes", .glo "spoiling", .glo "sure_of", .glo "sure", .glo "least_lots", .glo "later_partners", .glo "full_pairings", .glo "check_boards", .glo "enough_lots", .glo "enough", .glo "are_prices", .glo "cheapest", .glo "sure_lots", .glo "bars", .glo "facing", .glo "goal_between", .glo "check_aims", .glo "between", .glo "following", .glo "is_following", .glo "check_points", .glo "sum_of", .glo "most_points", .glo "_law_is_int", .glo "_law_same", .glo "_law_source"]
def hFa3 : List He.Fa := [.glo "_law_take", .glo "_law_is_ahead", .glo "_law_are_pair", .glo "_law_pairs", .glo "_law_pairings", .glo "_law_reaches", .glo "_law_outcomes", .glo "_law_aim", .glo "_law_boards", .glo "_law_names", .glo "_law_within", .glo "_law_lots", .glo "_law_is_sure_in", .glo "_law_least", .glo "_law_enough_fits", .glo "_law_bars_fit", .glo "_law_points_fit", .glo "_law_follows", .glo "law", .glo "Hall", .cls "Hall", .mkr "Hall", .glo "RawHall", .cls "RawHall", .mkr "RawHall", .glo "Search", .cls "Search", .mkr "Search", .noat "Hall" "boards", .noat "Hall" "names"]
def hFa4 : List He.Fa := [.meth "Hall" "keep", .noat "RawHall" "boards", .noat "RawHall" "names", .meth "RawHall" "keep", .noat "Search" "near", .noat "Search" "boards", .noat "Search" "most", .noat "Search" "found", .meth "Search" "is_stuck", .meth "Search" "go"]
def hFa : List He.Fa := hFa0 ++ (hFa1 ++ (hFa2 ++ (hFa3 ++ (hFa4))))
def hFn0 : List He.DefD := [dD "is_integer" (top 13), dD "is_within" (top 14), dD "is_letters" (top 15), dD "is_word" (top 16), dD "is_name" (top 17), dD "is_words" (top 18), dD "is_ascending" (top 19), dD "is_lot" (top 20), dD "mask_of" (top 21), dD "lot_of" (top 22), dD "bits_of" (top 23), dD "aims_in" (top 29), dD "parts_of" (top 30), dD "is_any_aim" (top 31), dD "is_aim" (top 32), dD "check_aim" (top 33), dD "holds" (top 34), dD "dual_of" (top 35), dD "moved_by" (top 36), dD "mover_of" (top 38), dD "is_board" (top 41), dD "turned" (top 44), dD "joined" (top 45), dD "only" (top 46), dD "is_ahead" (top 50), dD "are_pair" (top 51), dD "all_pairs" (top 52), dD "is_pairing" (top 53), dD "partners" (top 54), dD "greatest_of" (top 56)]
def hFn1 : List He.DefD := [dD "check_size" (top 57), dD "greatest" (top 58), dD "pairings" (top 59), dD "outcomes" (top 60), dD "spoiling" (top 62), dD "sure_of" (top 63), dD "sure" (top 64), dD "least_lots" (top 69), dD "later_partners" (top 70), dD "full_pairings" (top 71), dD "check_boards" (top 72), dD "enough_lots" (top 73), dD "enough" (top 74), dD "are_prices" (top 75), dD "cheapest" (top 76), dD "sure_lots" (top 77), dD "bars" (top 78), dD "facing" (top 80), dD "goal_between" (top 81), dD "check_aims" (top 82), dD "between" (top 83), dD "following" (top 84), dD "is_following" (top 85), dD "check_points" (top 88), dD "sum_of" (top 89), dD "most_points" (top 90), dD "_law_is_int" (top 92), dD "_law_same" (top 93), dD "_law_source" (top 94), dD "_law_take" (top 95)]
def hFn2 : List He.DefD := [dD "_law_is_ahead" (top 96), dD "_law_are_pair" (top 97), dD "_law_pairs" (top 98), dD "_law_pairings" (top 99), dD "_law_reaches" (top 100), dD "_law_outcomes" (top 101), dD "_law_aim" (top 102), dD "_law_boards" (top 103), dD "_law_names" (top 104), dD "_law_within" (top 105), dD "_law_lots" (top 106), dD "_law_is_sure_in" (top 107), dD "_law_least" (top 108), dD "_law_enough_fits" (top 109), dD "_law_bars_fit" (top 110), dD "_law_points_fit" (top 111), dD "_law_follows" (top 112), dD "law" (top 113), dM "Hall" "__init__" "Hall.__init__" (inClass (top 42) 0), dM "Hall" "keep" "Hall.keep" (inClass (top 42) 1), dM "RawHall" "__init__" "RawHall.__init__" (inClass (top 43) 0), dM "RawHall" "keep" "Hall.keep" (inClass (top 42) 1), dM "Search" "__init__" "Search.__init__" (inClass (top 55) 0), dM "Search" "is_stuck" "Search.is_stuck" (inClass (top 55) 1), dM "Search" "go" "Search.go" (inClass (top 55) 2)]
def hFn : List He.DefD := hFn0 ++ (hFn1 ++ (hFn2))
def hNames0 : List Str := ["HallError", "NoLot", "NoAim", "NoPoints", "NoPrices", "BadHall", "TooMany", "LETTERS", "MOST_LETTERS", "MOST_NAME", "MOST_BEGUN", "is_integer", "is_within", "is_letters", "is_word", "is_name", "is_words", "is_ascending", "is_lot", "mask_of", "lot_of", "bits_of", "MOST_AIMS", "MOST_LEAST", "MOST_DEEP", "MOST_PARTS", "aims_in", "parts_of", "is_any_aim", "is_aim"]
def hNames1 : List Str := ["check_aim", "holds", "dual_of", "moved_by", "mover_of", "MOST_BOARDS_halls", "is_board", "Hall", "RawHall", "turned", "joined", "only", "MOST_BOARDS_pairs", "MOST_PAIRINGS", "is_ahead", "are_pair", "all_pairs", "is_pairing", "partners", "Search", "greatest_of", "check_size", "greatest", "pairings", "outcomes", "spoiling", "sure_of", "sure", "MOST_BOARDS_house", "MOST_PAIRS"]
def hNames2 : List Str := ["MOST_PRICE", "least_lots", "later_partners", "full_pairings", "check_boards", "enough_lots", "enough", "are_prices", "cheapest", "sure_lots", "bars", "facing", "goal_between", "check_aims", "between", "following", "is_following", "MOST_POINTS", "check_points", "sum_of", "most_points", "_law_is_int", "_law_same", "_law_source", "_law_take", "_law_is_ahead", "_law_are_pair", "_law_pairs", "_law_pairings", "_law_reaches"]
def hNames3 : List Str := ["_law_outcomes", "_law_aim", "_law_boards", "_law_names", "_law_within", "_law_lots", "_law_is_sure_in", "_law_least", "_law_enough_fits", "_law_bars_fit", "_law_points_fit", "_law_follows"]
def hNames : List Str := hNames0 ++ (hNames1 ++ (hNames2 ++ (hNames3)))
def hTf : List He.Defn := [("enough_lots", none), ("sure_lots", none), ("bars", none)]
def hEx (K : PySem.W.Frag) : Bool := Nat.beq (He.cT K ("enough_lots", none)).2 461 && (Nat.beq (He.cT K ("sure_lots", none)).2 485 && Nat.beq (He.cT K ("bars", none)).2 492)
abbrev hRow : PySem.W.OpenRow := PySem.W.OpenLaw.row PySem.Challenge.rw_untoldgames_k98_whole_one_hall_through_h
/-- what is looked at: the globals, their code objects, the classes' dicts, the methods, their code objects -/
def refsS (o : Obj) : List Addr := match o.data with
  | .dict es _ => es.toList.flatMap fun e => He.refV e.val
  | .func fd => He.refV fd.code
  | .cls cd => [cd.ns]
  | _ => []
def growS (g : Addr → Option Obj) (as : List Addr) : List Addr := as.flatMap fun a => match g a with
  | some o => refsS o
  | none => []
def asS (g : Addr → Option Obj) : List Addr := mainGlobals :: (growS g [mainGlobals] ++ (growS g (growS g [mainGlobals]) ++ (growS g (growS g (growS g [mainGlobals])) ++ growS g (growS g (growS g (growS g [mainGlobals]))))))
def obsS (fa : List He.Fa) (fn : List He.DefD) (tf : List He.Defn) (ex : PySem.W.Frag → Bool) (g : Addr → Option Obj) : He.AlX := (He.obsT fa fn [] (He.frT g (asS g)), ex (He.frT g (asS g)) && He.tabsB g tf (He.frT g (asS g)))
theorem saysS_of {fa : List He.Fa} {fn : List He.DefD} {tf : List He.Defn} {ex : PySem.W.Frag → Bool} {w : World} {h : Heap} (e : obsS fa fn tf ex h.get? = He.valX fn [] w) : He.SaysX fa fn [] tf ex w h (He.frT h.get? (asS h.get?)) := by
  have e1 : He.obsT fa fn [] (He.frT h.get? (asS h.get?)) = He.valT fn [] w := congrArg (fun z : He.AlX => z.1) e
  have e2 : (ex (He.frT h.get? (asS h.get?)) && He.tabsB h.get? tf (He.frT h.get? (asS h.get?))) = true := congrArg (fun z : He.AlX => z.2) e
  generalize hK : He.frT h.get? (asS h.get?) = K at e1 e2
  obtain ⟨h1, h2⟩ := He.ba e2
  have key : ∀ p ∈ tf, PySem.W.codeHdIn K (He.cT K p).1 (He.cT K p).2 = true ∧ ∃ o, h.get? (He.cT K p).2 = some o ∧ He.emptyTab o = true := fun p hp => by
    obtain ⟨h3, h4⟩ := He.ba (List.all_eq_true.mp h2 p hp)
    refine ⟨h3, ?_⟩
    cases q : h.get? (He.cT K p).2 with
    | none => rw [q] at h4; cases h4
    | some o => rw [q] at h4; exact ⟨o, rfl, h4⟩
  refine ⟨e1, h1, fun p hp => (key p hp).1, fun p hp => ?_, fun p hp => ?_⟩
  · obtain ⟨_, o, q, z⟩ := key p hp
    rw [← hK] at q ⊢
    exact He.frT_none q z
  · obtain ⟨_, o, q, z⟩ := key p hp
    rw [q, He.emptyTab_eq z]
def hookS (fa : List He.Fa) (fn : List He.DefD) (tf : List He.Defn) (ex : PySem.W.Frag → Bool) : PySem.W.Hook where
  α := He.AlX
  obs := fun s => obsS fa fn tf ex s.heap.get?
  val := fun w => He.valX fn [] w
  says := fun w h => ∃ K : PySem.W.Frag, K.In h ∧ He.SaysX fa fn [] tf ex w h K
  of := fun _ _ e => ⟨_, He.frT_in, saysS_of e⟩
  keeps := fun _ _ _ ⟨K, hK, c⟩ k => ⟨K, PySem.W.Frag.In.keeps hK k, ⟨c.t, c.more, c.hd, c.out, fun p hp => k _ _ (c.empty p hp)⟩⟩
theorem obsS_eq {fa : List He.Fa} {fn : List He.DefD} {tf : List He.Defn} {ex : PySem.W.Frag → Bool} {g : Addr → Option Obj} {s : Shared} (h : ∀ a, g a = s.heap.get? a) : obsS fa fn tf ex g = (hookS fa fn tf ex).obs s := by
  have e : g = s.heap.get? := funext h
  rw [e] <;> rfl
abbrev hHk : PySem.W.Hook := hookS hFa hFn hTf hEx
def hOb (s : PySem.W.SharedT) : He.AlX := obsS hFa hFn hTf hEx (HandSHeadRun.getT s)
theorem hOb_eq (s : PySem.W.SharedT) : hOb s = hHk.obs s.abs := obsS_eq (HandSHeadRun.getT_eq s)
theorem hRun (w : World) : HandSHeadRun.RunEq hRow (PySem.W.view hRow.prog [113]) hHk hOb 6000 hNames w := by
  intro os
  kernel_rfl
end G
set_option Elab.async false
set_option linter.all false
set_option maxRecDepth 100000
set_option maxHeartbeats 0
namespace G
open PySem PySem.Spec PyProof.Rows L2 LamX NdefX
section
variable {K : PySem.W.Frag} {mg : Str → Option Value} {h : Heap}
theorem fun_of {x qual : Str} {st : Stmt} {f : Addr} {fd : FuncData} (F : FunD K x qual (C8.fnArgs st) (C8.fnBody st) (C8.fnScope st) [] [] f fd) : C8.Fun K x qual st f fd := by
  obtain ⟨oc, od, dV, kV, doc, pm, an, cdv, ct, osl, e, lk, hc, _, _⟩ := F.ex
  exact ⟨oc, od, dV, kV, doc, pm, an, cdv, ct, osl, e, lk, hc⟩
theorem def_of (X : K.In h) (N : h.Ns mainGlobals mg) (c : He.SaysD hFa hFn K) {x : Str} {st : Stmt} (i j : Nat) (hg : hFa[i]? = some (.glo x)) (hd : hFn[j]? = some (dD x st)) : ∃ fd, FunD K x x (C8.fnArgs st) (C8.fnBody st) (C8.fnScope st) [] [] (He.ga K x) fd ∧ C8.Def K mg x st (He.ga K x) fd := by
  obtain ⟨fd, F⟩ := c.def_ j (d := dD x st) hd
  have F : FunD K x x (C8.fnArgs st) (C8.fnBody st) (C8.fnScope st) [] [] (He.ga K x) fd := F
  exact ⟨fd, F, fun_of F, He.glo_ok X N (c.fact i (f := .glo x) hg), F.kp⟩
abbrev BindOk (x qual : Str) (st : Stmt) (ps : List Str) : Prop := ∀ (kV doc pm : Value) (an : Option Addr) (cdv ct : Value) (us : List Value), us.length = ps.length → bindArgs (PySem.W.fnOf x qual (C8.fnArgs st) (C8.fnBody st) (C8.fnScope st) .none kV doc pm an cdv ct) ⟨us, []⟩ = pure (ps.zip us)
theorem at_of (X : K.In h) (N : h.Ns mainGlobals mg) (c : He.SaysD hFa hFn K) {x : Str} {st : Stmt} {ps : List Str} (i j : Nat) (hg : hFa[i]? = some (.glo x)) (hd : hFn[j]? = some (dD x st)) (hb : BindOk x x st ps) : At K mg x ps st := by
  obtain ⟨fd, F, D⟩ := def_of X N c i j hg hd
  exact ⟨_, fd, D, F.bindsN hb⟩
theorem atC_of (X : K.In h) (N : h.Ns mainGlobals mg) (c : He.SaysD hFa hFn K) {x : Str} {st : Stmt} {ps : List Str} (i j : Nat) (hg : hFa[i]? = some (.glo x)) (hd : hFn[j]? = some (dD x st)) (hb : BindOk x x st ps) : AtC K mg x ps st (He.codeOf K (x, none)) := by
  obtain ⟨fd, F, D⟩ := def_of X N c i j hg hd
  have B := F.bindsN hb
  obtain ⟨oc, od, dV, kV, doc, pm, an, cdv, ct, osl, e, lk, hc, _, _⟩ := F.ex
  obtain ⟨cc, rfl⟩ := He.codeIn_ref hc
  have ec : He.codeOf K (x, none) = cc := He.codeOf_eq (p := (x, none)) lk (by rw [e] <;> rfl)
  rw [ec]
  subst e
  exact ⟨He.ga K x, oc, od, dV, kV, doc, pm, an, ct, osl, lk, hc, D.mgf, D.kp, B⟩
theorem met_of (c : He.SaysD hFa hFn K) {C m q : Str} {st : Stmt} {ps : List Str} (j : Nat) (hd : hFn[j]? = some (dM C m q st)) (hb : BindOk m q st ps) : ∃ fd, C8.Fun K m q st (He.ma K (He.ga K C) m) fd ∧ Binds K fd ps [] := by
  obtain ⟨fd, F⟩ := c.def_ j (d := dM C m q st) hd
  have F : FunD K m q (C8.fnArgs st) (C8.fnBody st) (C8.fnScope st) [] [] (He.ma K (He.ga K C) m) fd := F
  exact ⟨fd, fun_of F, F.bindsN hb⟩
end
theorem b_is_integer : BindOk "is_integer" "is_integer" (top 13) ["thing"] := fun _ _ _ _ _ _ us hl => match us, hl with | [_], _ => rfl
theorem b_is_within : BindOk "is_within" "is_within" (top 14) ["thing", "least", "most"] := fun _ _ _ _ _ _ us hl => match us, hl with | [_, _, _], _ => rfl
theorem b_is_letters : BindOk "is_letters" "is_letters" (top 15) ["thing", "most"] := fun _ _ _ _ _ _ us hl => match us, hl with | [_, _], _ => rfl
theorem b_is_word : BindOk "is_word" "is_word" (top 16) ["thing"] := fun _ _ _ _ _ _ us hl => match us, hl with | [_], _ => rfl
theorem b_is_name : BindOk "is_name" "is_name" (top 17) ["thing"] := fun _ _ _ _ _ _ us hl => match us, hl with | [_], _ => rfl
theorem b_is_words : BindOk "is_words" "is_words" (top 18) ["thing", "most"] := fun _ _ _ _ _ _ us hl => match us, hl with | [_, _], _ => rfl
theorem b_is_ascending : BindOk "is_ascending" "is_ascending" (top 19) ["items"] := fun _ _ _ _ _ _ us hl => match us, hl with | [_], _ => rfl
theorem b_is_lot : BindOk "is_lot" "is_lot" (top 20) ["thing", "many"] := fun _ _ _ _ _ _ us hl => match us, hl with | [_, _], _ => rfl
theorem b_mask_of : BindOk "mask_of" "mask_of" (top 21) ["lot"] := fun _ _ _ _ _ _ us hl => match us, hl with | [_], _ => rfl
theorem b_lot_of : BindOk "lot_of" "lot_of" (top 22) ["mask"] := fun _ _ _ _ _ _ us hl => match us, hl with | [_], _ => rfl
theorem b_bits_of : BindOk "bits_of" "bits_of" (top 23) ["mask"] := fun _ _ _ _ _ _ us hl => match us, hl with | [_], _ => rfl
theorem b_aims_in : BindOk "aims_in" "aims_in" (top 29) ["thing"] := fun _ _ _ _ _ _ us hl => match us, hl with | [_], _ => rfl
theorem b_parts_of : BindOk "parts_of" "parts_of" (top 30) ["thing", "most", "deep"] := fun _ _ _ _ _ _ us hl => match us, hl with | [_, _, _], _ => rfl
theorem b_is_any_aim : BindOk "is_any_aim" "is_any_aim" (top 31) ["thing", "most"] := fun _ _ _ _ _ _ us hl => match us, hl with | [_, _], _ => rfl
theorem b_is_aim : BindOk "is_aim" "is_aim" (top 32) ["hall", "thing"] := fun _ _ _ _ _ _ us hl => match us, hl with | [_, _], _ => rfl
theorem b_check_aim : BindOk "check_aim" "check_aim" (top 33) ["hall", "thing"] := fun _ _ _ _ _ _ us hl => match us, hl with | [_, _], _ => rfl
theorem b_holds : BindOk "holds" "holds" (top 34) ["aim", "mask"] := fun _ _ _ _ _ _ us hl => match us, hl with | [_, _], _ => rfl
theorem b_dual_of : BindOk "dual_of" "dual_of" (top 35) ["aim"] := fun _ _ _ _ _ _ us hl => match us, hl with | [_], _ => rfl
theorem b_moved_by : BindOk "moved_by" "moved_by" (top 36) ["aim", "by"] := fun _ _ _ _ _ _ us hl => match us, hl with | [_, _], _ => rfl
theorem b_mover_of : BindOk "mover_of" "mover_of" (top 38) ["row"] := fun _ _ _ _ _ _ us hl => match us, hl with | [_], _ => rfl
theorem b_is_board : BindOk "is_board" "is_board" (top 41) ["thing"] := fun _ _ _ _ _ _ us hl => match us, hl with | [_], _ => rfl
theorem b_turned : BindOk "turned" "turned" (top 44) ["hall"] := fun _ _ _ _ _ _ us hl => match us, hl with | [_], _ => rfl
theorem b_joined : BindOk "joined" "joined" (top 45) ["one", "other"] := fun _ _ _ _ _ _ us hl => match us, hl with | [_, _], _ => rfl
theorem b_only : BindOk "only" "only" (top 46) ["hall", "lot"] := fun _ _ _ _ _ _ us hl => match us, hl with | [_, _], _ => rfl
theorem b_is_ahead : BindOk "is_ahead" "is_ahead" (top 50) ["longer", "shorter"] := fun _ _ _ _ _ _ us hl => match us, hl with | [_, _], _ => rfl
theorem b_are_pair : BindOk "are_pair" "are_pair" (top 51) ["one", "other"] := fun _ _ _ _ _ _ us hl => match us, hl with | [_, _], _ => rfl
theorem b_all_pairs : BindOk "all_pairs" "all_pairs" (top 52) ["hall"] := fun _ _ _ _ _ _ us hl => match us, hl with | [_], _ => rfl
theorem b_is_pairing : BindOk "is_pairing" "is_pairing" (top 53) ["hall", "thing"] := fun _ _ _ _ _ _ us hl => match us, hl with | [_, _], _ => rfl
theorem b_partners : BindOk "partners" "partners" (top 54) ["pairing"] := fun _ _ _ _ _ _ us hl => match us, hl with | [_], _ => rfl
theorem b_greatest_of : BindOk "greatest_of" "greatest_of" (top 56) ["hall", "some", "most"] := fun _ _ _ _ _ _ us hl => match us, hl with | [_, _, _], _ => rfl
theorem b_check_size : BindOk "check_size" "check_size" (top 57) ["hall"] := fun _ _ _ _ _ _ us hl => match us, hl with | [_], _ => rfl
theorem b_greatest : BindOk "greatest" "greatest" (top 58) ["hall", "some"] := fun _ _ _ _ _ _ us hl => match us, hl with | [_, _], _ => rfl
theorem b_pairings : BindOk "pairings" "pairings" (top 59) ["hall"] := fun _ _ _ _ _ _ us hl => match us, hl with | [_], _ => rfl
theorem b_outcomes : BindOk "outcomes" "outcomes" (top 60) ["pairing"] := fun _ _ _ _ _ _ us hl => match us, hl with | [_], _ => rfl
theorem b_spoiling : BindOk "spoiling" "spoiling" (top 62) ["aim", "pairing"] := fun _ _ _ _ _ _ us hl => match us, hl with | [_, _], _ => rfl
theorem b_sure_of : BindOk "sure_of" "sure_of" (top 63) ["hall", "aim", "some"] := fun _ _ _ _ _ _ us hl => match us, hl with | [_, _, _], _ => rfl
theorem b_sure : BindOk "sure" "sure" (top 64) ["hall", "aim"] := fun _ _ _ _ _ _ us hl => match us, hl with | [_, _], _ => rfl
theorem b_least_lots : BindOk "least_lots" "least_lots" (top 69) ["many", "is_good"] := fun _ _ _ _ _ _ us hl => match us, hl with | [_, _], _ => rfl
theorem b_later_partners : BindOk "later_partners" "later_partners" (top 70) ["some"] := fun _ _ _ _ _ _ us hl => match us, hl with | [_], _ => rfl
theorem b_full_pairings : BindOk "full_pairings" "full_pairings" (top 71) ["later", "lot"] := fun _ _ _ _ _ _ us hl => match us, hl with | [_, _], _ => rfl
theorem b_check_boards : BindOk "check_boards" "check_boards" (top 72) ["hall", "most"] := fun _ _ _ _ _ _ us hl => match us, hl with | [_, _], _ => rfl
theorem b_enough_lots : BindOk "enough_lots" "enough_lots" (top 73) ["hall", "aim"] := fun _ _ _ _ _ _ us hl => match us, hl with | [_, _], _ => rfl
theorem b_enough : BindOk "enough" "enough" (top 74) ["hall", "aim"] := fun _ _ _ _ _ _ us hl => match us, hl with | [_, _], _ => rfl
theorem b_are_prices : BindOk "are_prices" "are_prices" (top 75) ["hall", "thing"] := fun _ _ _ _ _ _ us hl => match us, hl with | [_, _], _ => rfl
theorem b_cheapest : BindOk "cheapest" "cheapest" (top 76) ["hall", "aim", "prices"] := fun _ _ _ _ _ _ us hl => match us, hl with | [_, _, _], _ => rfl
theorem b_sure_lots : BindOk "sure_lots" "sure_lots" (top 77) ["hall", "aim", "some"] := fun _ _ _ _ _ _ us hl => match us, hl with | [_, _, _], _ => rfl
theorem b_bars : BindOk "bars" "bars" (top 78) ["hall", "aim"] := fun _ _ _ _ _ _ us hl => match us, hl with | [_, _], _ => rfl
theorem b_facing : BindOk "facing" "facing" (top 80) ["one", "other"] := fun _ _ _ _ _ _ us hl => match us, hl with | [_, _], _ => rfl
theorem b_goal_between : BindOk "goal_between" "goal_between" (top 81) ["one", "aim", "goal"] := fun _ _ _ _ _ _ us hl => match us, hl with | [_, _, _], _ => rfl
theorem b_check_aims : BindOk "check_aims" "check_aims" (top 82) ["one", "aim", "other", "goal"] := fun _ _ _ _ _ _ us hl => match us, hl with | [_, _, _, _], _ => rfl
theorem b_between : BindOk "between" "between" (top 83) ["one", "aim", "other", "goal"] := fun _ _ _ _ _ _ us hl => match us, hl with | [_, _, _, _], _ => rfl
theorem b_following : BindOk "following" "following" (top 84) ["one", "aim", "other", "goal"] := fun _ _ _ _ _ _ us hl => match us, hl with | [_, _, _, _], _ => rfl
theorem b_is_following : BindOk "is_following" "is_following" (top 85) ["one", "aim", "other", "goal", "thing"] := fun _ _ _ _ _ _ us hl => match us, hl with | [_, _, _, _, _], _ => rfl
theorem b_check_points : BindOk "check_points" "check_points" (top 88) ["hall", "points"] := fun _ _ _ _ _ _ us hl => match us, hl with | [_, _], _ => rfl
theorem b_sum_of : BindOk "sum_of" "sum_of" (top 89) ["points", "pairing"] := fun _ _ _ _ _ _ us hl => match us, hl with | [_, _], _ => rfl
theorem b_most_points : BindOk "most_points" "most_points" (top 90) ["hall", "points"] := fun _ _ _ _ _ _ us hl => match us, hl with | [_, _], _ => rfl
theorem b__law_is_int : BindOk "_law_is_int" "_law_is_int" (top 92) ["_law_thing"] := fun _ _ _ _ _ _ us hl => match us, hl with | [_], _ => rfl
theorem b__law_same : BindOk "_law_same" "_law_same" (top 93) ["_law_found", "_law_due"] := fun _ _ _ _ _ _ us hl => match us, hl with | [_, _], _ => rfl
theorem b__law_source : BindOk "_law_source" "_law_source" (top 94) ["_law_script", "_law_at"] := fun _ _ _ _ _ _ us hl => match us, hl with | [_, _], _ => rfl
theorem b__law_take : BindOk "_law_take" "_law_take" (top 95) ["_law_source_here", "_law_many"] := fun _ _ _ _ _ _ us hl => match us, hl with | [_, _], _ => rfl
theorem b__law_is_ahead : BindOk "_law_is_ahead" "_law_is_ahead" (top 96) ["_law_longer", "_law_shorter"] := fun _ _ _ _ _ _ us hl => match us, hl with | [_, _], _ => rfl
theorem b__law_are_pair : BindOk "_law_are_pair" "_law_are_pair" (top 97) ["_law_one", "_law_other"] := fun _ _ _ _ _ _ us hl => match us, hl with | [_, _], _ => rfl
theorem b__law_pairs : BindOk "_law_pairs" "_law_pairs" (top 98) ["_law_boards_here"] := fun _ _ _ _ _ _ us hl => match us, hl with | [_], _ => rfl
theorem b__law_pairings : BindOk "_law_pairings" "_law_pairings" (top 99) ["_law_pairs_here"] := fun _ _ _ _ _ _ us hl => match us, hl with | [_], _ => rfl
theorem b__law_reaches : BindOk "_law_reaches" "_law_reaches" (top 100) ["_law_aim_here", "_law_won"] := fun _ _ _ _ _ _ us hl => match us, hl with | [_, _], _ => rfl
theorem b__law_outcomes : BindOk "_law_outcomes" "_law_outcomes" (top 101) ["_law_pairing"] := fun _ _ _ _ _ _ us hl => match us, hl with | [_], _ => rfl
theorem b__law_aim : BindOk "_law_aim" "_law_aim" (top 102) ["_law_source_here", "_law_many", "_law_deep"] := fun _ _ _ _ _ _ us hl => match us, hl with | [_, _, _], _ => rfl
theorem b__law_boards : BindOk "_law_boards" "_law_boards" (top 103) ["_law_source_here", "_law_many", "_law_names_here", "_law_is_fresh"] := fun _ _ _ _ _ _ us hl => match us, hl with | [_, _, _, _], _ => rfl
theorem b__law_names : BindOk "_law_names" "_law_names" (top 104) ["_law_source_here", "_law_many"] := fun _ _ _ _ _ _ us hl => match us, hl with | [_, _], _ => rfl
theorem b__law_within : BindOk "_law_within" "_law_within" (top 105) ["_law_aim_here", "_law_lot"] := fun _ _ _ _ _ _ us hl => match us, hl with | [_, _], _ => rfl
theorem b__law_lots : BindOk "_law_lots" "_law_lots" (top 106) ["_law_many"] := fun _ _ _ _ _ _ us hl => match us, hl with | [_], _ => rfl
theorem b__law_is_sure_in : BindOk "_law_is_sure_in" "_law_is_sure_in" (top 107) ["_law_hall", "_law_aim_here", "_law_lot"] := fun _ _ _ _ _ _ us hl => match us, hl with | [_, _, _], _ => rfl
theorem b__law_least : BindOk "_law_least" "_law_least" (top 108) ["_law_lots_here"] := fun _ _ _ _ _ _ us hl => match us, hl with | [_], _ => rfl
theorem b__law_enough_fits : BindOk "_law_enough_fits" "_law_enough_fits" (top 109) ["_law_hall", "_law_aim_here", "_law_prices"] := fun _ _ _ _ _ _ us hl => match us, hl with | [_, _, _], _ => rfl
theorem b__law_bars_fit : BindOk "_law_bars_fit" "_law_bars_fit" (top 110) ["_law_hall", "_law_aim_here"] := fun _ _ _ _ _ _ us hl => match us, hl with | [_, _], _ => rfl
theorem b__law_points_fit : BindOk "_law_points_fit" "_law_points_fit" (top 111) ["_law_hall"] := fun _ _ _ _ _ _ us hl => match us, hl with | [_], _ => rfl
theorem b__law_follows : BindOk "_law_follows" "_law_follows" (top 112) ["_law_hall", "_law_aim_here", "_law_lot"] := fun _ _ _ _ _ _ us hl => match us, hl with | [_, _, _], _ => rfl
theorem b_law : BindOk "law" "law" (top 113) ["_law_script"] := fun _ _ _ _ _ _ us hl => match us, hl with | [_], _ => rfl
theorem bm_Hall___init__ : BindOk "__init__" "Hall.__init__" (inClass (top 42) 0) ["self", "boards"] := fun _ _ _ _ _ _ us hl => match us, hl with | [_, _], _ => rfl
theorem bm_Hall_keep : BindOk "keep" "Hall.keep" (inClass (top 42) 1) ["self", "boards"] := fun _ _ _ _ _ _ us hl => match us, hl with | [_, _], _ => rfl
theorem bm_RawHall___init__ : BindOk "__init__" "RawHall.__init__" (inClass (top 43) 0) ["self", "boards"] := fun _ _ _ _ _ _ us hl => match us, hl with | [_, _], _ => rfl
theorem bm_RawHall_keep : BindOk "keep" "Hall.keep" (inClass (top 42) 1) ["self", "boards"] := fun _ _ _ _ _ _ us hl => match us, hl with | [_, _], _ => rfl
theorem bm_Search___init__ : BindOk "__init__" "Search.__init__" (inClass (top 55) 0) ["self", "near", "most"] := fun _ _ _ _ _ _ us hl => match us, hl with | [_, _, _], _ => rfl
theorem bm_Search_is_stuck : BindOk "is_stuck" "Search.is_stuck" (inClass (top 55) 1) ["self", "taken", "out"] := fun _ _ _ _ _ _ us hl => match us, hl with | [_, _, _], _ => rfl
theorem bm_Search_go : BindOk "go" "Search.go" (inClass (top 55) 2) ["self", "at", "taken", "out", "chosen"] := fun _ _ _ _ _ _ us hl => match us, hl with | [_, _, _, _, _], _ => rfl
section
variable {K : PySem.W.Frag} {mg : Str → Option Value} {h : Heap}
theorem md_of (X : K.In h) (N : h.Ns mainGlobals mg) (c : He.SaysD hFa hFn K) : Md K mg where
  b_all := He.free_ok X N (c.fact 0 (f := .free "all") rfl)
  b_any := He.free_ok X N (c.fact 1 (f := .free "any") rfl)
  b_bool := He.free_ok X N (c.fact 2 (f := .free "bool") rfl)
  b_enumerate := He.free_ok X N (c.fact 3 (f := .free "enumerate") rfl)
  b_int := He.free_ok X N (c.fact 4 (f := .free "int") rfl)
  b_isinstance := He.free_ok X N (c.fact 5 (f := .free "isinstance") rfl)
  b_len := He.free_ok X N (c.fact 6 (f := .free "len") rfl)
  b_list := He.free_ok X N (c.fact 7 (f := .free "list") rfl)
  b_max := He.free_ok X N (c.fact 8 (f := .free "max") rfl)
  b_min := He.free_ok X N (c.fact 9 (f := .free "min") rfl)
  b_range := He.free_ok X N (c.fact 10 (f := .free "range") rfl)
  b_sorted := He.free_ok X N (c.fact 11 (f := .free "sorted") rfl)
  b_str := He.free_ok X N (c.fact 12 (f := .free "str") rfl)
  b_sum := He.free_ok X N (c.fact 13 (f := .free "sum") rfl)
  b_tuple := He.free_ok X N (c.fact 14 (f := .free "tuple") rfl)
  b_zip := He.free_ok X N (c.fact 15 (f := .free "zip") rfl)
  s_LETTERS := He.str_ok X N (c.fact 16 (f := .str "LETTERS" "abcdefghijklmnopqrstuvwxyz") rfl)
  i_MOST_LETTERS := He.int_ok X N (c.fact 17 (f := .int "MOST_LETTERS" 20) rfl)
  i_MOST_NAME := He.int_ok X N (c.fact 18 (f := .int "MOST_NAME" 8) rfl)
  i_MOST_BEGUN := He.int_ok X N (c.fact 19 (f := .int "MOST_BEGUN" 20) rfl)
  i_MOST_AIMS := He.int_ok X N (c.fact 20 (f := .int "MOST_AIMS" 24) rfl)
  i_MOST_LEAST := He.int_ok X N (c.fact 21 (f := .int "MOST_LEAST" 25) rfl)
  i_MOST_DEEP := He.int_ok X N (c.fact 22 (f := .int "MOST_DEEP" 8) rfl)
  i_MOST_PARTS := He.int_ok X N (c.fact 23 (f := .int "MOST_PARTS" 200) rfl)
  i_MOST_BOARDS_halls := He.int_ok X N (c.fact 24 (f := .int "MOST_BOARDS_halls" 12) rfl)
  i_MOST_BOARDS_pairs := He.int_ok X N (c.fact 25 (f := .int "MOST_BOARDS_pairs" 24) rfl)
  i_MOST_PAIRINGS := He.int_ok X N (c.fact 26 (f := .int "MOST_PAIRINGS" 2000) rfl)
  i_MOST_BOARDS_house := He.int_ok X N (c.fact 27 (f := .int "MOST_BOARDS_house" 12) rfl)
  i_MOST_PAIRS := He.int_ok X N (c.fact 28 (f := .int "MOST_PAIRS" 12) rfl)
  i_MOST_PRICE := He.int_ok X N (c.fact 29 (f := .int "MOST_PRICE" 1000000) rfl)
  i_MOST_POINTS := He.int_ok X N (c.fact 30 (f := .int "MOST_POINTS" 1000000000) rfl)
  d_is_integer := at_of X N c 31 0 rfl rfl b_is_integer
  d_is_within := at_of X N c 32 1 rfl rfl b_is_within
  d_is_letters := at_of X N c 33 2 rfl rfl b_is_letters
  d_is_word := at_of X N c 34 3 rfl rfl b_is_word
  d_is_name := at_of X N c 35 4 rfl rfl b_is_name
  d_is_words := at_of X N c 36 5 rfl rfl b_is_words
  d_is_ascending := at_of X N c 37 6 rfl rfl b_is_ascending
  d_is_lot := at_of X N c 38 7 rfl rfl b_is_lot
  d_mask_of := at_of X N c 39 8 rfl rfl b_mask_of
  d_lot_of := at_of X N c 40 9 rfl rfl b_lot_of
  d_bits_of := at_of X N c 41 10 rfl rfl b_bits_of
  d_aims_in := at_of X N c 42 11 rfl rfl b_aims_in
  d_parts_of := at_of X N c 43 12 rfl rfl b_parts_of
  d_is_any_aim := at_of X N c 44 13 rfl rfl b_is_any_aim
  d_is_aim := at_of X N c 45 14 rfl rfl b_is_aim
  d_check_aim := at_of X N c 46 15 rfl rfl b_check_aim
  d_holds := at_of X N c 47 16 rfl rfl b_holds
  d_dual_of := at_of X N c 48 17 rfl rfl b_dual_of
  d_moved_by := at_of X N c 49 18 rfl rfl b_moved_by
  d_mover_of := at_of X N c 50 19 rfl rfl b_mover_of
  d_is_board := at_of X N c 51 20 rfl rfl b_is_board
  d_turned := at_of X N c 52 21 rfl rfl b_turned
  d_joined := at_of X N c 53 22 rfl rfl b_joined
  d_only := at_of X N c 54 23 rfl rfl b_only
  d_is_ahead := at_of X N c 55 24 rfl rfl b_is_ahead
  d_are_pair := at_of X N c 56 25 rfl rfl b_are_pair
  d_all_pairs := at_of X N c 57 26 rfl rfl b_all_pairs
  d_is_pairing := at_of X N c 58 27 rfl rfl b_is_pairing
  d_partners := at_of X N c 59 28 rfl rfl b_partners
  d_greatest_of := at_of X N c 60 29 rfl rfl b_greatest_of
  d_check_size := at_of X N c 61 30 rfl rfl b_check_size
  d_greatest := at_of X N c 62 31 rfl rfl b_greatest
  d_pairings := at_of X N c 63 32 rfl rfl b_pairings
  d_outcomes := at_of X N c 64 33 rfl rfl b_outcomes
  d_spoiling := at_of X N c 65 34 rfl rfl b_spoiling
  d_sure_of := at_of X N c 66 35 rfl rfl b_sure_of
  d_sure := at_of X N c 67 36 rfl rfl b_sure
  d_least_lots := at_of X N c 68 37 rfl rfl b_least_lots
  d_later_partners := at_of X N c 69 38 rfl rfl b_later_partners
  d_full_pairings := at_of X N c 70 39 rfl rfl b_full_pairings
  d_check_boards := at_of X N c 71 40 rfl rfl b_check_boards
  d_enough_lots := at_of X N c 72 41 rfl rfl b_enough_lots
  d_enough := at_of X N c 73 42 rfl rfl b_enough
  d_are_prices := at_of X N c 74 43 rfl rfl b_are_prices
  d_cheapest := at_of X N c 75 44 rfl rfl b_cheapest
  d_sure_lots := at_of X N c 76 45 rfl rfl b_sure_lots
  d_bars := at_of X N c 77 46 rfl rfl b_bars
  d_facing := at_of X N c 78 47 rfl rfl b_facing
  d_goal_between := at_of X N c 79 48 rfl rfl b_goal_between
  d_check_aims := at_of X N c 80 49 rfl rfl b_check_aims
  d_between := at_of X N c 81 50 rfl rfl b_between
  d_following := at_of X N c 82 51 rfl rfl b_following
  d_is_following := at_of X N c 83 52 rfl rfl b_is_following
  d_check_points := at_of X N c 84 53 rfl rfl b_check_points
  d_sum_of := at_of X N c 85 54 rfl rfl b_sum_of
  d_most_points := at_of X N c 86 55 rfl rfl b_most_points
  d__law_is_int := at_of X N c 87 56 rfl rfl b__law_is_int
  d__law_same := at_of X N c 88 57 rfl rfl b__law_same
  d__law_source := at_of X N c 89 58 rfl rfl b__law_source
  d__law_take := at_of X N c 90 59 rfl rfl b__law_take
  d__law_is_ahead := at_of X N c 91 60 rfl rfl b__law_is_ahead
  d__law_are_pair := at_of X N c 92 61 rfl rfl b__law_are_pair
  d__law_pairs := at_of X N c 93 62 rfl rfl b__law_pairs
  d__law_pairings := at_of X N c 94 63 rfl rfl b__law_pairings
  d__law_reaches := at_of X N c 95 64 rfl rfl b__law_reaches
  d__law_outcomes := at_of X N c 96 65 rfl rfl b__law_outcomes
  d__law_aim := at_of X N c 97 66 rfl rfl b__law_aim
  d__law_boards := at_of X N c 98 67 rfl rfl b__law_boards
  d__law_names := at_of X N c 99 68 rfl rfl b__law_names
  d__law_within := at_of X N c 100 69 rfl rfl b__law_within
  d__law_lots := at_of X N c 101 70 rfl rfl b__law_lots
  d__law_is_sure_in := at_of X N c 102 71 rfl rfl b__law_is_sure_in
  d__law_least := at_of X N c 103 72 rfl rfl b__law_least
  d__law_enough_fits := at_of X N c 104 73 rfl rfl b__law_enough_fits
  d__law_bars_fit := at_of X N c 105 74 rfl rfl b__law_bars_fit
  d__law_points_fit := at_of X N c 106 75 rfl rfl b__law_points_fit
  d__law_follows := at_of X N c 107 76 rfl rfl b__law_follows
  d_law := at_of X N c 108 77 rfl rfl b_law
theorem mc_of (X : K.In h) (N : h.Ns mainGlobals mg) (c : He.SaysD hFa hFn K) : Mc K mg where
  hall := by
    obtain ⟨fdi, Fi, Bi⟩ := met_of c 78 rfl bm_Hall___init__
    obtain ⟨fdk, Fk, Bk⟩ := met_of c 79 rfl bm_Hall_keep
    exact ⟨He.ga K "Hall", _, fdi, _, fdk, He.glo_ok X N (c.fact 109 (f := .glo "Hall") rfl), He.mkr_ok (c.fact 111 (f := .mkr "Hall") rfl), Fi, Bi, ⟨He.cls_ok (c.fact 110 (f := .cls "Hall") rfl), He.noat_ok (c.fact 118 (f := .noat "Hall" "boards") rfl), He.noat_ok (c.fact 119 (f := .noat "Hall" "names") rfl)⟩, He.meth_ok (c.fact 120 (f := .meth "Hall" "keep") rfl), Fk, Bk⟩
  raw := by
    obtain ⟨fdi, Fi, Bi⟩ := met_of c 80 rfl bm_RawHall___init__
    obtain ⟨fdk, Fk, Bk⟩ := met_of c 81 rfl bm_RawHall_keep
    exact ⟨He.ga K "RawHall", _, fdi, _, fdk, He.glo_ok X N (c.fact 112 (f := .glo "RawHall") rfl), He.mkr_ok (c.fact 114 (f := .mkr "RawHall") rfl), Fi, Bi, ⟨He.cls_ok (c.fact 113 (f := .cls "RawHall") rfl), He.noat_ok (c.fact 121 (f := .noat "RawHall" "boards") rfl), He.noat_ok (c.fact 122 (f := .noat "RawHall" "names") rfl)⟩, He.meth_ok (c.fact 123 (f := .meth "RawHall" "keep") rfl), Fk, Bk⟩
theorem ms_of (X : K.In h) (N : h.Ns mainGlobals mg) (c : He.SaysD hFa hFn K) : AtSearch K mg where
  ex := by
    obtain ⟨fdi, Fi, Bi⟩ := met_of c 82 rfl bm_Search___init__
    obtain ⟨fds, Fs, Bs⟩ := met_of c 83 rfl bm_Search_is_stuck
    obtain ⟨fdg, Fg, Bg⟩ := met_of c 84 rfl bm_Search_go
    exact ⟨He.ga K "Search", _, fdi, _, fds, _, fdg, He.glo_ok X N (c.fact 115 (f := .glo "Search") rfl), He.mkr_ok (c.fact 117 (f := .mkr "Search") rfl), Fi, Bi, ⟨He.cls_ok (c.fact 116 (f := .cls "Search") rfl), He.noat_ok (c.fact 124 (f := .noat "Search" "near") rfl), He.noat_ok (c.fact 125 (f := .noat "Search" "boards") rfl), He.noat_ok (c.fact 126 (f := .noat "Search" "most") rfl), He.noat_ok (c.fact 127 (f := .noat "Search" "found") rfl)⟩, He.meth_ok (c.fact 128 (f := .meth "Search" "is_stuck") rfl), Fs, Bs, He.meth_ok (c.fact 129 (f := .meth "Search" "go") rfl), Fg, Bg⟩
theorem ex_of (e : hEx K = true) : He.cT K ("enough_lots", none) = (He.codeOf K ("enough_lots", none), 461) ∧ He.cT K ("sure_lots", none) = (He.codeOf K ("sure_lots", none), 485) ∧ He.cT K ("bars", none) = (He.codeOf K ("bars", none), 492) := by
  obtain ⟨e1, e2⟩ := He.ba e
  obtain ⟨e2, e3⟩ := He.ba e2
  exact ⟨Prod.ext rfl (Nat.eq_of_beq_eq_true e1), Prod.ext rfl (Nat.eq_of_beq_eq_true e2), Prod.ext rfl (Nat.eq_of_beq_eq_true e3)⟩
theorem law_at {w : World} {fa : Addr} (X : K.In h) (N : h.Ns mainGlobals mg) (s : He.SaysX hFa hFn [] hTf hEx w h K) (hl : mg ("law" : Str) = some (.ref fa)) : LamX.LawAtS PySem.Challenge.rw_untoldgames_k98_whole_one_hall_through_h w K C8.CX0 47 63 "_law_script" mg fa h := by
  have c : He.SaysD hFa hFn K := s.t.d
  obtain ⟨fd, F, D⟩ := def_of X N c 108 77 rfl rfl
  have ea : fa = He.ga K "law" := by
    have z := hl.symm.trans D.mgf
    cases z
    rfl
  subst ea
  obtain ⟨t1, t2, t3⟩ := ex_of s.more
  have tabs : ∀ P ∈ TB0, ∃ p ∈ hTf, (He.cT K p).2 = P.1 := fun P hP => by
    rcases List.mem_cons.mp hP with e | hP
    · exact ⟨_, List.mem_cons_self, by rw [t1, e]⟩
    · rcases List.mem_cons.mp hP with e | hP
      · exact ⟨_, List.mem_cons_of_mem _ List.mem_cons_self, by rw [t2, e]⟩
      · rcases List.mem_cons.mp hP with e | hP
        · exact ⟨_, List.mem_cons_of_mem _ (List.mem_cons_of_mem _ List.mem_cons_self), by rw [t3, e]⟩
        · exact (List.not_mem_nil hP).elim
  refine ⟨fd, hTf.map (He.cT K), spP TB0 (fun (i : {zs : List Int // zs.length ≤ 1000}) => [tyT (scrT K i.1)]) fun _ => dat (.bool true), fun p hp => ?_, fun p hp => ?_, fun p hp => ?_, fun st u => ?_, fun H a ns hn hbits hT hS => ?_, fun base hK hN hTB => ?_⟩
  · obtain ⟨q, hq, rfl⟩ := List.mem_map.mp hp
    exact s.empty q hq
  · obtain ⟨q, hq, rfl⟩ := List.mem_map.mp hp
    exact s.out q hq
  · obtain ⟨q, hq, rfl⟩ := List.mem_map.mp hp
    exact PySem.W.codeHd_of_K X (s.hd q hq)
  · exact F.bindsA b_law st [u] rfl
  · refine ⟨⟨ns, by omega⟩, ⟨⟨⟨a, rfl, hS⟩, fun P hP => ?_⟩, trivial⟩, fun v H' _ hv => dat_bl hv⟩
    obtain ⟨p, hp, e⟩ := tabs P hP
    have z := hT _ (List.mem_map.mpr ⟨p, hp, rfl⟩)
    rw [e] at z
    exact NdefX.TabN.nil z
  · have T1 : TabB base mg (He.codeOf K ("enough_lots", none)) 461 := by
      have z := hTB _ (List.mem_map.mpr ⟨("enough_lots", none), List.mem_cons_self, rfl⟩)
      rw [t1] at z
      exact z
    have T2 : TabB base mg (He.codeOf K ("sure_lots", none)) 485 := by
      have z := hTB _ (List.mem_map.mpr ⟨("sure_lots", none), List.mem_cons_of_mem _ List.mem_cons_self, rfl⟩)
      rw [t2] at z
      exact z
    have T3 : TabB base mg (He.codeOf K ("bars", none)) 492 := by
      have z := hTB _ (List.mem_map.mpr ⟨("bars", none), List.mem_cons_of_mem _ (List.mem_cons_of_mem _ List.mem_cons_self), rfl⟩)
      rw [t3] at z
      exact z
    exact fn_law D (md_of X N c) (mc_of X N c) (ms_of X N c) (atC_of X N c 72 41 rfl rfl b_enough_lots) T1 (atC_of X N c 76 45 rfl rfl b_sure_lots) T2 (atC_of X N c 77 46 rfl rfl b_bars) T3 maths
end
end G
set_option Elab.async false
set_option linter.all false
set_option maxRecDepth 100000
set_option maxHeartbeats 0
open PySem PySem.W PySem.Calls PyProof.Rows
theorem PySem.Challenge.cw_untoldgames_k98_whole_one_hall_through_h_holds : PySem.Challenge.rw_untoldgames_k98_whole_one_hall_through_h.Holds := by
  w_on; o_law
  refine HandSHeadRun.head_any (r := G.hRow) (q := view G.hRow.prog [113]) (H := G.hHk) (ob := G.hOb) (M := 6000) (loose := G.hNames) (d := HandSHeadRun.topDef G.hRow.prog 113) (kwd := []) G.hOb_eq
    (by kernel_rfl) (fun s => by kernel_rfl) G.hRun (by kernel_rfl) (by kernel_rfl) (by kernel_rfl) (by rfl) (by first | assumption | decide +kernel) (by decide +kernel) ⟨rfl, rfl, rfl, rfl, rfl, by decide +kernel⟩ ?hw ?hc
  case hw => w_witness2
  case hc =>
    refine LamX.walk_ofTsE (l := PySem.Challenge.rw_untoldgames_k98_whole_one_hall_through_h) (n := 63) (k := 47) (x := "_law_script") (CX := fun _ => C8.CX0) rfl (by decide) (by kernel_rfl) ⟨rfl, by decide, by decide⟩ ?F (fun _ _ _ _ _ z => z)
    intro w mg fa h Y N hmg0
    obtain ⟨K, KX, s⟩ := Y
    have hmg : mg ("law" : PySem.Str) = some (.ref fa) := by
      have e : (HandSHeadRun.topDef G.hRow.prog 113).name = ("law" : PySem.Str) := by kernel_rfl
      rw [← e]
      exact hmg0
    exact ⟨K, KX, G.law_at KX N s hmg⟩
