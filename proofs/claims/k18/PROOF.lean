import PyProof.Rows.All
import Wide.All
import OpenK.AllK
import Wide.FinOn
import HandS.ForMost
import HandS.IsInst
import HandS.Defaults
import HandS.Codes
import HandS.Wide
import HandS.Style
import HandS.Flow
import PySem.Challenge.RW_framejoins_k18_marks
set_option Elab.async false
set_option linter.all false
set_option maxRecDepth 100000
set_option maxHeartbeats 4000000
namespace FJ
open PySem PySem.Spec PyProof.Rows L2
/-! ### own layer: kinds of values, keyword calls -/
section
variable {X : Cx} {CX : CXT} {k : Nat} {f : Addr} {fd : FuncData} {ps ks : List Str} {sp : Sp} {g : List Value → List Value → List Value} {gV : List V → List V → List V} {E : XK} {x : Str} {tk : TA} {kws : List Keyword} {p pos : Pos}
/-- f(k = v, ..) -/
theorem pe_callK0 (F : FnOk X.prog X.w X.K X.mg X.base CX k f fd ps sp) (hr : Room k X.A) (hg : Gl X x) (hm : X.mg x = some (.ref f)) (hk : PySem.W.keepIn X.K (.ref f) = true) (hb : KBn X.K fd ps 0 ks g gV) (hx : Passes CX X E)
    (hkw : PK X kws tk) (hall : (backToKw pos (keywordEach kws X.env)).all (·.1.isSome) = true := by rfl) (hks : (backToKw pos (keywordEach kws X.env)).filterMap (·.1) = ks := by rfl)
    (hdb : (x == ("__debug__" : Str)) = false := by decide)
    (hpl : ((backTo pos (starEach [] X.env)).any (·.1) || (backToKw pos (keywordEach kws X.env)).any (·.1.isNone)) = false := by rfl) :
    PE X (.Call (.Name x p) [] kws pos) (tCallN 0 ks.length sp gV E tNil tk) := by
  refine ⟨fun pins s σ H Q I h => ?_⟩
  refine wpAny_Call_Name_kw (ld_glob I hg hm ?_ hdb)
  refine PySem.W.callWith_KW0 (h₀ := X.base) I.ok.mod.kin hk hall ?_ hpl
  refine thn (hkw.run pos pins s σ H _ I h) fun ws s2 ⟨zs, H2, I2, rz, l1, l2, q2⟩ => ⟨I2.kIn, ?_⟩
  rw [hks]
  exact run_fnN (us := []) (vs := []) F hr hb hx I2 .nil rz rfl l2 q2
end
theorem Fun_kbn {K : PySem.W.Frag} {x qual : Str} {st : Stmt} {f : Addr} {fd : FuncData} {ps ks : List Str} {n : Nat} {g : List Value → List Value → List Value} {gV : List V → List V → List V} (F : Fun K x qual st f fd)
    (h : ∀ (kV doc pm : Value) (an : Option Addr) (cdv ct : Value) (us ws : List Value), us.length = n → ws.length = ks.length → bindArgs (PySem.W.fnOf x qual (defArgs st) (defBody st) (defScope st) .none kV doc pm an cdv ct) ⟨us, ks.zip ws⟩ = pure (ps.zip (g us ws)))
    (hrel : ∀ {vs : List V} {us : List Value} {zs : List V} {ws : List Value}, Vals vs us → Vals zs ws → Vals (gV vs zs) (g us ws)) : KBn K fd ps n ks g gV := by
  obtain ⟨oc, od, kV, doc, pm, an, cdv, ct, osl, rfl, lk, hcd⟩ := F.ex
  exact ⟨fun s us ws _ h1 h2 => .of_eq (h kV doc pm an cdv ct us ws h1 h2), hrel⟩
/-- is a value an integer and no truth value -/
def Knd (K : PySem.W.Frag) (H : Hp) (x : V) (b : Bool) : Prop := ∃ t b1 b2, TyX K H x t ∧ PySem.W.kitOne K t (.type "int") = some b1 ∧ PySem.W.kitOne K t (.type "bool") = some b2 ∧ b = (b1 && !b2)
theorem knd_int {K : PySem.W.Frag} {H : Hp} (i : Int) : Knd K H (.int i) true := ⟨_, true, false, .base (.int i), kit_ty (by decide +kernel), kit_ty (by decide +kernel), rfl⟩
theorem knd_bl {K : PySem.W.Frag} {H : Hp} (i : Bool) : Knd K H (.bl i) false := ⟨_, true, true, .base (.bl i), kit_ty (by decide +kernel), kit_ty (by decide +kernel), rfl⟩
theorem knd_non {K : PySem.W.Frag} {H : Hp} : Knd K H .non false := ⟨_, false, false, .base .non, kit_ty (by decide +kernel), kit_ty (by decide +kernel), rfl⟩
theorem knd_str {K : PySem.W.Frag} {H : Hp} (i : Str) : Knd K H (.str i) false := ⟨_, false, false, .base (.str i), kit_ty (by decide +kernel), kit_ty (by decide +kernel), rfl⟩
theorem knd_lst {K : PySem.W.Frag} {H : Hp} {a : Addr} {xs : List V} (h : H a = some (.lst xs)) : Knd K H (.ref a) false := ⟨_, false, false, .base (.lst h), kit_ty (by decide +kernel), kit_ty (by decide +kernel), rfl⟩
theorem knd_tup {K : PySem.W.Frag} {H : Hp} {a : Addr} {xs : List V} (h : H a = some (.tup xs)) : Knd K H (.ref a) false := ⟨_, false, false, .base (.tup h), kit_ty (by decide +kernel), kit_ty (by decide +kernel), rfl⟩
theorem pe_gc {X : Cx} {x : Str} {pos : Pos} {v : V} (hg : Gl X x) (h : ∃ u, X.mg x = some u ∧ RelV v u) (hd : (x == ("__debug__" : Str)) = false := by decide) : PE X (.Name x pos) (tC v) := C8.pe_gc hg h hd

/-! ### own layer: what a block made and dropped is forgotten -/
def plainO : HO → Bool
  | .dT _ => false
  | .frz _ (.lst _) => true
  | .frz _ (.tup _) => true
  | .frz _ (.dK _) => true
  | .frz _ _ => false
  | _ => true
def hardO : HO → Bool
  | .tup _ => true
  | .frz _ _ => true
  | .tbl _ => true
  | .own _ => true
  | _ => false
class Plain (H : Hp) : Prop where
  no : ∀ a o, H a = some o → plainO o = true
theorem plain_upd {H : Hp} {p : Addr} {o : HO} (h : Plain H) (ho : plainO o = true) : Plain (upd H p o) := ⟨fun a u e => by
  by_cases z : a = p
  · subst z
    rw [upd_same] at e
    cases e
    exact ho
  · rw [upd_ne z] at e
    exact h.no a u e⟩
instance plain_lst {H : Hp} {p : Addr} {xs : List V} [h : Plain H] : Plain (upd H p (.lst xs)) := plain_upd h rfl
instance plain_tup {H : Hp} {p : Addr} {xs : List V} [h : Plain H] : Plain (upd H p (.tup xs)) := plain_upd h rfl
instance plain_dK {H : Hp} {p : Addr} {xs : List (Key × V)} [h : Plain H] : Plain (upd H p (.dK xs)) := plain_upd h rfl
theorem plain_true {H : Hp} [h : Plain H] : Plain H = True := eq_true h
/-- H'' is what is known further: of H' a part, in which the hard things of H still stand -/
structure Fgt (H H' H'' : Hp) : Prop where
  sub : ∀ b o, H'' b = some o → H' b = some o
  keep : ∀ b o, H b = some o → hardO o = true → H'' b = some o
  own : ∀ a C dx fs, H'' a = some (.ins C dx fs) → (∃ fs0, H a = some (.ins C dx fs0)) ∨ H'' dx = some (.own a)
theorem objOk_fgt {P : Program} {w : World} {H' H'' : Hp} {h : Heap} {a : Addr} {o : HO} (x : ObjOk P w H' h a o) (po : plainO o = true) (hi : ∀ C dx fs, o = .ins C dx fs → H'' dx = some (.own a)) : ObjOk P w H'' h a o := by
  cases o with
  | dT kvs => cases po
  | ins C dx fs =>
    obtain ⟨_, z⟩ := x
    exact ⟨hi C dx fs rfl, z⟩
  | frz ob u =>
    obtain ⟨z, y⟩ := x
    cases u <;> first | exact ⟨z, y⟩ | cases po
  | _ => exact x
theorem Inv_fgt {X : Cx} {pins : List (Addr × Obj)} {σ0 σ : L2.St} {H H' H'' : Hp} {s0 s : Shared} (I0 : Inv X pins σ0 H s0) (I : Inv X pins σ H' s) (f : Fgt H H' H'') (pl : Plain H'') : Inv X pins σ H'' s := by
  have nn : ∀ b, H' b = none → H'' b = none := fun b n => by
    cases e : H'' b with
    | none => rfl
    | some o =>
      have := f.sub b o e
      rw [n] at this
      cases this
  refine ⟨I.ok, I.os, I.bare, ⟨I.base.keep, I.base.slot, fun b o e n hx => nn b (I.base.free b o e n hx), I.base.there, fun b xs e => f.keep b _ (I0.base.tups b xs e) rfl, fun b o u e => f.keep b _ (I0.base.frzs b o u e) rfl, fun b ps e => ?_⟩, I.loc, I.cell, nn _ I.free, fun x c e => nn c (I.freeC x c e), fun p hp => ?_, fun a o e => ?_, I.len⟩
  · obtain ⟨more, z⟩ := I0.base.tbls b ps e
    exact ⟨more, f.keep b _ z rfl⟩
  · obtain ⟨z1, z2, z3⟩ := I.pin p hp
    exact ⟨z1, nn _ z2, z3⟩
  · refine objOk_fgt (I.hok a o (f.sub a o e)) (pl.no a o e) fun C dx fs z => ?_
    subst z
    rcases f.own a C dx fs e with ⟨fs0, y⟩ | y
    · obtain ⟨y1, _⟩ := I0.hok a _ y
      exact f.keep dx _ y1 rfl
    · exact y
/-- a block; what it made and dropped is forgotten at its end -/
def tFg (t : TS) : TS := fun D σ H => t { nx := fun σ' H' => ∃ H'', Fgt H H' H'' ∧ Plain H'' ∧ D.nx σ' H'', rt := fun v H' => ∃ H'', Fgt H H' H'' ∧ Plain H'' ∧ D.rt v H'', bk := fun σ' H' => ∃ H'', Fgt H H' H'' ∧ Plain H'' ∧ D.bk σ' H'', ct := fun σ' H' => ∃ H'', Fgt H H' H'' ∧ Plain H'' ∧ D.ct σ' H'' } σ H
theorem pss_fg {X : Cx} {sts : List Stmt} {t : TS} (h : PSs X sts t) : PSs X sts (tFg t) := by
  refine ⟨fun pins s σ H D I q => ?_⟩
  refine thn (h.run pins s σ H _ I q) fun f s1 z => ?_
  cases f with
  | next =>
    obtain ⟨σ', H', I', H'', g, pl, y⟩ := z
    exact ⟨σ', H'', Inv_fgt I I' g pl, y⟩
  | brk =>
    obtain ⟨σ', H', I', H'', g, pl, y⟩ := z
    exact ⟨σ', H'', Inv_fgt I I' g pl, y⟩
  | cont =>
    obtain ⟨σ', H', I', H'', g, pl, y⟩ := z
    exact ⟨σ', H'', Inv_fgt I I' g pl, y⟩
  | ret u =>
    obtain ⟨v, σ', H', I', r, H'', g, pl, y⟩ := z
    exact ⟨v, σ', H'', Inv_fgt I I' g pl, r, y⟩
/-! how it is shown -/
def Ex (H H' : Hp) : Prop := ∀ a o, H a = some o → H' a = some o
theorem Ex.refl {H : Hp} : Ex H H := fun _ _ h => h
theorem Ex.new {H H' : Hp} {p : Addr} {o : HO} (h : H p = none) (e : Ex H H') : Ex H (upd H' p o) := fun a u z => by
  rw [upd_ne (ne_of_none z h)]
  exact e a u z
theorem Ex.trans {H H1 H2 : Hp} (a : Ex H H1) (b : Ex H1 H2) : Ex H H2 := fun c o h => b c o (a c o h)
theorem Ex.upd {H H' : Hp} {p : Addr} {o : HO} (e : Ex H H') : Ex (upd H p o) (upd H' p o) := fun a u z => by
  by_cases y : a = p
  · subst y
    rw [upd_same] at z ⊢
    exact z
  · rw [upd_ne y] at z ⊢
    exact e a u z
theorem Ex.at {H H' : Hp} {a : Addr} {o : HO} (e : Ex H H') (h : H a = some o) : H' a = some o := e a o h
theorem fgt_ex {H H' : Hp} (e : Ex H H') : Fgt H H' H := ⟨e, fun _ _ h _ => h, fun _ _ _ fs h => .inl ⟨fs, h⟩⟩
/-- what of H stands in H'' -/
structure Kp (H H'' : Hp) : Prop where
  keep : ∀ b o, H b = some o → hardO o = true → H'' b = some o
  own : ∀ a C dx fs, H'' a = some (.ins C dx fs) → (∃ fs0, H a = some (.ins C dx fs0)) ∨ H'' dx = some (.own a)
theorem Kp.refl {H : Hp} : Kp H H := ⟨fun _ _ h _ => h, fun _ _ _ fs h => .inl ⟨fs, h⟩⟩
def Soft (H : Hp) (p : Addr) : Prop := ∀ u, H p = some u → hardO u = false
theorem Kp.upd {H H1 : Hp} {p : Addr} {o : HO} (f : Kp H H1) (hp : Soft H p) (hq : Soft H1 p) (hi : ∀ C dx fs, o ≠ .ins C dx fs) : Kp H (L2.upd H1 p o) where
  keep := fun b u z hu => by
    by_cases y : b = p
    · subst y
      rw [hp u z] at hu
      cases hu
    · rw [upd_ne y]
      exact f.keep b u z hu
  own := fun a C dx fs z => by
    by_cases y : a = p
    · subst y
      rw [upd_same] at z
      cases z
      exact absurd rfl (hi C dx fs)
    · rw [upd_ne y] at z
      rcases f.own a C dx fs z with q | q
      · exact .inl q
      · by_cases y2 : dx = p
        · subst y2
          have := hq _ q
          cases this
        · exact .inr (by rw [upd_ne y2]; exact q)
theorem Kp.lst {H H1 : Hp} {p : Addr} {xs : List V} (hp : Soft H p) (hq : Soft H1 p) (f : Kp H H1) : Kp H (L2.upd H1 p (.lst xs)) := f.upd hp hq fun _ _ _ z => nomatch z
theorem Kp.tup {H H1 : Hp} {p : Addr} {xs : List V} (hp : Soft H p) (hq : Soft H1 p) (f : Kp H H1) : Kp H (L2.upd H1 p (.tup xs)) := f.upd hp hq fun _ _ _ z => nomatch z
theorem Kp.left {H H1 : Hp} {p : Addr} {xs : List V} (hp : H p = none ∨ ∃ ys, H p = some (.lst ys)) (k : Kp H H1) : Kp (L2.upd H p (.lst xs)) H1 where
  keep := fun b o z ho => by
    by_cases y : b = p
    · subst y
      rw [upd_same] at z
      cases z
      cases ho
    · rw [upd_ne y] at z
      exact k.keep b o z ho
  own := fun a C dx fs z => by
    rcases k.own a C dx fs z with ⟨fs0, q⟩ | q
    · refine .inl ⟨fs0, ?_⟩
      by_cases y : a = p
      · subst y
        rcases hp with hp | ⟨ys, hp⟩
        · rw [hp] at q; cases q
        · rw [hp] at q; cases q
      · rw [upd_ne y]
        exact q
    · exact .inr q
theorem fgt_of {H H' H'' : Hp} (e : Ex H'' H') (k : Kp H H'') : Fgt H H' H'' := ⟨e, k.keep, k.own⟩
theorem soft_new {H : Hp} {p : Addr} (h : H p = none) : Soft H p := fun u e => by
  rw [h] at e
  cases e
theorem soft_lst {H : Hp} {p : Addr} {xs : List V} (h : H p = some (.lst xs)) : Soft H p := fun u e => by
  rw [h] at e
  cases e
  rfl
/-! loops -/
def forB (J : It) (g : TG) (tb : TS) (D : Ends) (σ : L2.St) (H : Hp) : Prop := ∃ W : Nat → Nat → L2.St → Hp → Prop, (∃ m, W 0 m σ H) ∧ ∀ i m σ H, W i m σ H →
  (J.stop i H ∧ D.nx σ H) ∨ (J.go i H ∧ ∃ N : L2.St → Hp → Prop, (∀ σ' H', N σ' H' → ∃ m', m' < m ∧ W (i + 1) m' σ' H') ∧ ∀ x H', J.yld i H x H' → g x σ H' fun σ2 H2 => tb { D with nx := N, ct := N, bk := D.nx } σ2 H2)
theorem tFor_eq {wi : TI} {g : TG} {tb : TS} {D : Ends} {σ : L2.St} {H : Hp} : tFor wi g tb D σ H = wi σ H (fun J H1 => forB J g tb D σ H1) := rfl
theorem forB_range {lo : Int} {n : Nat} {g : TG} {tb : TS} {D : Ends} {σ : L2.St} {H : Hp} (Pv : Nat → L2.St → Hp → Prop) (h0 : Pv 0 σ H)
    (hs : ∀ i σ H, i < n → Pv i σ H → g (.int (lo + i)) σ H fun σ2 H2 => tb { D with nx := Pv (i + 1), ct := Pv (i + 1), bk := D.nx } σ2 H2) (hd : ∀ σ H, Pv n σ H → D.nx σ H) : forB (Itr lo n) g tb D σ H := for_range Pv h0 hs hd
theorem forB_list {K : PySem.W.Frag} {a : Addr} {xs : List V} {g : TG} {tb : TS} {D : Ends} {σ : L2.St} {H : Hp} (Pv : Nat → L2.St → Hp → Prop) (h0 : Pv 0 σ H) (hl : ∀ i σ H, i ≤ xs.length → Pv i σ H → SqL K H a xs)
    (hs : ∀ i x σ H, xs[i]? = some x → Pv i σ H → g x σ H fun σ2 H2 => tb { D with nx := Pv (i + 1), ct := Pv (i + 1), bk := D.nx } σ2 H2) (hd : ∀ σ H, Pv xs.length σ H → D.nx σ H) : forB (Itl K a) g tb D σ H := for_list Pv h0 hl hs hd
theorem forB_tup {K : PySem.W.Frag} {a : Addr} {xs : List V} {g : TG} {tb : TS} {D : Ends} {σ : L2.St} {H : Hp} (Pv : Nat → L2.St → Hp → Prop) (h0 : Pv 0 σ H) (hl : ∀ i σ H, i ≤ xs.length → Pv i σ H → SqT K H a xs)
    (hs : ∀ i x σ H, xs[i]? = some x → Pv i σ H → g x σ H fun σ2 H2 => tb { D with nx := Pv (i + 1), ct := Pv (i + 1), bk := D.nx } σ2 H2) (hd : ∀ σ H, Pv xs.length σ H → D.nx σ H) : forB (Itt K a) g tb D σ H := for_tup Pv h0 hl hs hd
theorem cxOf_K {CX : CXT} {P : Program} {w : World} {K : PySem.W.Frag} {mg : Str → Option Value} {base : Heap} {N : List Str} {qual : Str} {scope : Scope} {f : Addr} {cd : Value} {A : Around} {outer : List Env} {s : Shared} {H : Hp} {E : XK} : (cxOf CX P w K mg base N qual scope f cd A outer s H E).K = K := rfl
theorem upd_none {H : Hp} {p q : Addr} {o : HO} : (upd H p o q = none) = (q ≠ p ∧ H q = none) := by
  refine propext ⟨fun h => ?_, fun h => by rw [upd_ne h.1]; exact h.2⟩
  by_cases z : q = p
  · subst z
    rw [upd_same] at h
    cases h
  · rw [upd_ne z] at h
    exact ⟨z, h⟩
theorem plain_only {H : Hp} (h : Only H) : Plain H := ⟨fun a o e => by
  rcases h a with z | ⟨ob, xs, z⟩
  · rw [z] at e
    cases e
  · rw [z] at e
    cases e
    rfl⟩
/-! rules by cases -/
def rInt1 : List V → Hp → VK → Prop := fun xs H Q => match xs with
  | [.int i] => Q (.int i) H
  | [.bl k] => Q (.int (if k = true then 1 else 0)) H
  | _ => False
theorem call_intM {X : Cx} : CallR X (.type "int") rInt1 := fun pins s σ H xs us Q I r h => call_int1 pins s σ H xs us Q I r (by
  match xs, h with
  | [.int i], h => exact .inl ⟨i, rfl, h⟩
  | [.bl k], h => exact .inr ⟨k, rfl, h⟩)
/-- an item of a tracked list -/
def rIxLT : R2 := fun x y H Q => ∃ p xs i v, x = .ref p ∧ y = .int i ∧ H p = some (.lst xs) ∧ atI xs i = some v ∧ Q v H
theorem rIxLT_to {K : PySem.W.Frag} {x y : V} {H : Hp} {Q : VK} (h : rIxLT x y H Q) : rIxL K x y H Q := by
  obtain ⟨p, xs, i, z, e1, e2, e3, e4, q⟩ := h
  exact ⟨p, xs, i, z, e1, e2, SqL.of e3, e4, q⟩
theorem ix_listT {X : Cx} : IxR X rIxLT := by
  intro e1 e2 pins s σ H x y u v Q I rx ry h
  exact ix_list e1 e2 pins s σ H x y u v Q I rx ry (rIxLT_to h)
theorem sizeLine_lit {n : Nat} (h : n ≤ 100000 := by decide) : (n ≤ sizeLine) = True := eq_true (Nat.le_trans h (by decide))
theorem upd_comm {H : Hp} {p q : Addr} {o u : HO} (h : p ≠ q) : upd (upd H p o) q u = upd (upd H q u) p o := by
  funext b
  unfold upd
  by_cases z : b = q
  · subst z
    rw [if_pos rfl, if_neg (Ne.symm h), if_pos rfl]
  · rw [if_neg z, if_neg z]
theorem upd_swap1 {H : Hp} {a p : Addr} {x y z : HO} (h : ¬ p = a) : upd (upd (upd H a x) p y) a z = upd (upd H a z) p y := by
  rw [upd_comm h, upd_upd]
theorem upd_swap2 {H : Hp} {a p q : Addr} {x y z u : HO} (h : ¬ p = a) (h2 : ¬ q = a) : upd (upd (upd (upd H a x) p y) q u) a z = upd (upd (upd H a z) p y) q u := by
  rw [upd_comm h2, upd_swap1 h]
theorem upd_swap3 {H : Hp} {a p q r : Addr} {x y z u v : HO} (h : ¬ p = a) (h2 : ¬ q = a) (h3 : ¬ r = a) : upd (upd (upd (upd (upd H a x) p y) q u) r v) a z = upd (upd (upd (upd H a z) p y) q u) r v := by
  rw [upd_comm h3, upd_swap2 h h2]
theorem upd_ne2 {H : Hp} {a b : Addr} {o : HO} (h : ¬ a = b) : upd H a o b = H b := upd_ne (Ne.symm h)
def updI (H : Hp) (a : Addr) (o : HO) : Hp := upd H a o
theorem updI_eq {H : Hp} {a : Addr} {o : HO} : updI H a o = upd H a o := rfl
theorem upd_in {H : Hp} {a p : Addr} {y z : HO} (h : ¬ p = a) (_ : (H a).isSome = true) : upd (upd H p y) a z = upd (updI H a z) p y := upd_comm h
theorem soft_self {H : Hp} {p : Addr} {xs : List V} : Soft (upd H p (.lst xs)) p := soft_lst upd_same
theorem soft_up {H : Hp} {p q : Addr} {o : HO} (h : ¬ q = p) (k : Soft H q) : Soft (upd H p o) q := fun u e => k u (by rw [upd_ne h] at e; exact e)
local macro_rules | `(tactic| walk_at "ne") => `(tactic| first | assumption | (apply Ne.symm; assumption) | (simp only [ne_eq, not_false_eq_true, *]; done))
local macro_rules | `(tactic| walk_at "hp") => `(tactic| first | assumption | exact upd_same | (simp only [upd_none, upd_same, upd_ne, upd_ne2, ne_eq, not_false_eq_true, and_self, eq_self, true_and, and_true, *]; done) | (simp [upd_none, upd_same, upd_ne, upd_ne2, *]; done))
local macro_rules | `(tactic| walk_at "get") => `(tactic| first | exact upd_same | assumption | (refine (upd_ne (by walk_at "ne")).trans ?_; walk_at "get"))
local macro_rules | `(tactic| walk_at "soft") => `(tactic| first | exact soft_self | exact soft_new (by assumption) | exact soft_lst (by assumption) | (refine soft_up (by walk_at "ne") ?_; walk_at "soft"))
local macro_rules | `(tactic| walk_at "ex") => `(tactic| first | exact Ex.refl | assumption | (refine Ex.new (by walk_at "hp") ?_; walk_at "ex") | (refine Ex.upd ?_; walk_at "ex"))
local macro_rules | `(tactic| walk_at "kp") => `(tactic| first | exact Kp.refl | assumption | (refine Kp.lst (by walk_at "soft") (by walk_at "soft") ?_; walk_at "kp") | (refine Kp.tup (by walk_at "soft") (by walk_at "soft") ?_; walk_at "kp") | (refine Kp.left (.inl (by walk_at "hp")) ?_; walk_at "kp") | (refine Kp.left (.inr ⟨_, by walk_at "get"⟩) ?_; walk_at "kp"))
theorem vals_reverse : ∀ {vs : List V} {us : List Value}, Vals vs us → Vals vs.reverse us.reverse
  | _, _, .nil => .nil
  | _, _, .cons r t => by
    rw [List.reverse_cons, List.reverse_cons]
    exact (vals_reverse t).append (.cons r .nil)
theorem seq_gen {t1 t2 : TS} {D : Ends} {σ : L2.St} {H : Hp} (h : ∀ k : TS, k = t2 → t1 { D with nx := k D } σ H) : tSeq t1 t2 D σ H := h t2 rfl
theorem fg_gen {t : TS} {D : Ends} {σ : L2.St} {H : Hp} (h : ∀ D' : Ends, (∀ σ' H' H'', Fgt H H' H'' → Plain H'' → D.nx σ' H'' → D'.nx σ' H') → (∀ v H' H'', Fgt H H' H'' → Plain H'' → D.rt v H'' → D'.rt v H') →
    (∀ σ' H' H'', Fgt H H' H'' → Plain H'' → D.bk σ' H'' → D'.bk σ' H') → (∀ σ' H' H'', Fgt H H' H'' → Plain H'' → D.ct σ' H'' → D'.ct σ' H') → t D' σ H) : tFg t D σ H :=
  h _ (fun _ _ H2 a b c => ⟨H2, a, b, c⟩) (fun _ _ H2 a b c => ⟨H2, a, b, c⟩) (fun _ _ H2 a b c => ⟨H2, a, b, c⟩) (fun _ _ H2 a b c => ⟨H2, a, b, c⟩)

/-! isinstance, by cases -/
def subTy (t n : String) : Bool := t == n || (t == "bool" && n == "int")
def okT (t : String) : Bool := t == "int" || t == "bool" || t == "str" || t == "NoneType" || t == "list" || t == "tuple"
def okC (n : String) : Bool := n == "int" || n == "bool" || n == "str" || n == "list" || n == "tuple" || n == "dict"
theorem sub_int_int : subTy "int" "int" = true := by decide
theorem sub_int_bool : subTy "int" "bool" = false := by decide
theorem sub_int_str : subTy "int" "str" = false := by decide
theorem sub_int_list : subTy "int" "list" = false := by decide
theorem sub_int_tuple : subTy "int" "tuple" = false := by decide
theorem sub_int_dict : subTy "int" "dict" = false := by decide
theorem sub_bool_int : subTy "bool" "int" = true := by decide
theorem sub_bool_bool : subTy "bool" "bool" = true := by decide
theorem sub_bool_str : subTy "bool" "str" = false := by decide
theorem sub_bool_list : subTy "bool" "list" = false := by decide
theorem sub_bool_tuple : subTy "bool" "tuple" = false := by decide
theorem sub_bool_dict : subTy "bool" "dict" = false := by decide
theorem sub_str_int : subTy "str" "int" = false := by decide
theorem sub_str_bool : subTy "str" "bool" = false := by decide
theorem sub_str_str : subTy "str" "str" = true := by decide
theorem sub_str_list : subTy "str" "list" = false := by decide
theorem sub_str_tuple : subTy "str" "tuple" = false := by decide
theorem sub_str_dict : subTy "str" "dict" = false := by decide
theorem sub_NoneType_int : subTy "NoneType" "int" = false := by decide
theorem sub_NoneType_bool : subTy "NoneType" "bool" = false := by decide
theorem sub_NoneType_str : subTy "NoneType" "str" = false := by decide
theorem sub_NoneType_list : subTy "NoneType" "list" = false := by decide
theorem sub_NoneType_tuple : subTy "NoneType" "tuple" = false := by decide
theorem sub_NoneType_dict : subTy "NoneType" "dict" = false := by decide
theorem sub_list_int : subTy "list" "int" = false := by decide
theorem sub_list_bool : subTy "list" "bool" = false := by decide
theorem sub_list_str : subTy "list" "str" = false := by decide
theorem sub_list_list : subTy "list" "list" = true := by decide
theorem sub_list_tuple : subTy "list" "tuple" = false := by decide
theorem sub_list_dict : subTy "list" "dict" = false := by decide
theorem sub_tuple_int : subTy "tuple" "int" = false := by decide
theorem sub_tuple_bool : subTy "tuple" "bool" = false := by decide
theorem sub_tuple_str : subTy "tuple" "str" = false := by decide
theorem sub_tuple_list : subTy "tuple" "list" = false := by decide
theorem sub_tuple_tuple : subTy "tuple" "tuple" = true := by decide
theorem sub_tuple_dict : subTy "tuple" "dict" = false := by decide
theorem okC_int : okC "int" = true := by decide
theorem okC_bool : okC "bool" = true := by decide
theorem okC_str : okC "str" = true := by decide
theorem okC_list : okC "list" = true := by decide
theorem okC_tuple : okC "tuple" = true := by decide
theorem okC_dict : okC "dict" = true := by decide
theorem kit_sub {t n : String} (h1 : okT t = true) (h2 : okC n = true) : kitB t n = some (subTy t n) := by
  unfold okT at h1
  unfold okC at h2
  simp only [Bool.or_eq_true, beq_iff_eq] at h1 h2
  rcases h1 with ((((h1 | h1) | h1) | h1) | h1) | h1 <;> rcases h2 with ((((h2 | h2) | h2) | h2) | h2) | h2 <;> (subst h1; subst h2; decide +kernel)
def tyR (H : Hp) (x : V) (R : String → Prop) : Prop := match x with
  | .int _ => R "int"
  | .bl _ => R "bool"
  | .str _ => R "str"
  | .non => R "NoneType"
  | .ref a => ((∃ xs, H a = some (.lst xs)) ∧ R "list") ∨ ((∃ xs, H a = some (.tup xs)) ∧ R "tuple")
  | _ => False
theorem tyR_ty {K : PySem.W.Frag} {H : Hp} {x : V} {R : String → Prop} (h : tyR H x R) : ∃ t, okT t = true ∧ TyX K H x (.type t) ∧ R t := by
  cases x with
  | int i => exact ⟨_, by decide, .base (.int i), h⟩
  | bl i => exact ⟨_, by decide, .base (.bl i), h⟩
  | str i => exact ⟨_, by decide, .base (.str i), h⟩
  | non => exact ⟨_, by decide, .base .non, h⟩
  | ref a =>
    rcases h with ⟨⟨xs, e⟩, r⟩ | ⟨⟨xs, e⟩, r⟩
    · exact ⟨_, by decide, .base (.lst e), r⟩
    · exact ⟨_, by decide, .base (.tup e), r⟩
  | _ => exact h.elim
def rIsM : List V → Hp → VK → Prop := fun xs H Q => match xs with
  | [x, .ty n] => okC n = true ∧ tyR H x fun t => Q (.bl (subTy t n)) H
  | _ => False
theorem call_isM {X : Cx} : CallR X (.builtin "isinstance") rIsM := fun pins s σ H xs us Q I r h => call_isi pins s σ H xs us Q I r (by
  match xs, h with
  | [x, .ty n], h =>
    obtain ⟨h1, h2⟩ := h
    obtain ⟨t, h3, h4, h5⟩ := tyR_ty (K := X.K) h2
    exact ⟨x, _, _, _, _, rfl, .ty n, h4, kit_ty (kit_sub h3 h1), h5⟩)
/-- isinstance(x, (c1, c2)), two classes -/
def rIsM2 : List V → Hp → VK → Prop := fun xs H Q => ∃ x tp n m, xs = [x, .ref tp] ∧ H tp = some (.tup [.ty n, .ty m]) ∧ okC n = true ∧ okC m = true ∧ tyR H x fun t => Q (.bl (subTy t n || subTy t m)) H
theorem call_isM2 {X : Cx} : CallR X (.builtin "isinstance") rIsM2 := fun pins s σ H xs us Q I r h => call_isiT pins s σ H xs us Q I r (by
  obtain ⟨x, tp, n, m, rfl, ht, h1, h2, h3⟩ := h
  obtain ⟨t, h4, h5, h6⟩ := tyR_ty (K := X.K) h3
  refine ⟨x, tp, _, _, _, _, rfl, ht, .cons (.ty n) (.cons (.ty m) .nil), h5, ?_, h6⟩
  refine kitAny_cons (kit_ty (kit_sub h4 h1)) (fun e => ?_) (fun e => by rw [e]; rfl)
  rw [e, Bool.false_or]
  exact kitAny_cons (kit_ty (kit_sub h4 h2)) (fun e2 => by rw [e2]; exact kitAny_nil) (fun e2 => e2))

/-! ### data of any depth; tuples of the module -/
def allO {α : Type} (f : V → Option α) : List V → Option (List α)
  | [] => some []
  | x :: r => match f x, allO f r with
    | some d, some ds => some (d :: ds)
    | _, _ => none
def datF (H : Hp) : Nat → V → Option PyData
  | _, .non => some .none
  | _, .bl b => some (.bool b)
  | _, .int i => some (.int i)
  | _, .str x => some (.str x)
  | n + 1, .ref a => match H a with
    | some (.lst xs) => (allO (datF H n) xs).map .list
    | some (.tup xs) => (allO (datF H n) xs).map .tuple
    | _ => none
  | _, _ => none
theorem datF_dp {K : PySem.W.Frag} {H : Hp} : ∀ (n : Nat) (v : V) (d : PyData), datF H n v = some d → Dp K H v d := by
  intro n
  induction n with
  | zero =>
    intro v d h
    cases v <;> first | (cases h; constructor; done) | (simp [datF] at h; done)
  | succ n ih =>
    have all : ∀ (xs : List V) (ds : List PyData), allO (datF H n) xs = some ds → DpAll K H xs ds := by
      intro xs
      induction xs with
      | nil =>
        intro ds h
        cases h
        exact .nil
      | cons x r ihr =>
        intro ds h
        unfold allO at h
        cases e1 : datF H n x with
        | none => rw [e1] at h; cases h
        | some d =>
          cases e2 : allO (datF H n) r with
          | none => rw [e1, e2] at h; cases h
          | some es =>
            rw [e1, e2] at h
            cases h
            exact .cons (ih x d e1) (ihr es e2)
    intro v d h
    cases v with
    | ref a =>
      unfold datF at h
      cases e : H a with
      | none => rw [e] at h; cases h
      | some o =>
        rw [e] at h
        cases o with
        | lst xs =>
          cases e2 : allO (datF H n) xs with
          | none => simp only [e2] at h; cases h
          | some ds =>
            simp only [e2] at h
            cases h
            exact .lst (SqL.of e) (all xs ds e2)
        | tup xs =>
          cases e2 : allO (datF H n) xs with
          | none => simp only [e2] at h; cases h
          | some ds =>
            simp only [e2] at h
            cases h
            exact .tup (SqT.of e) (all xs ds e2)
        | _ => cases h
    | _ => first | (cases h; constructor; done) | (simp [datF] at h; done)
def rEqM : R2 := fun x y H Q => ∃ d e, datF H 6 x = some d ∧ datF H 6 y = some e ∧ SeqAt.shaped d = true ∧ SeqAt.shaped e = true ∧ Q (.bl (PyData.eqv d e)) H
def rNeM : R2 := fun x y H Q => ∃ d e, datF H 6 x = some d ∧ datF H 6 y = some e ∧ SeqAt.shaped d = true ∧ SeqAt.shaped e = true ∧ Q (.bl (!PyData.eqv d e)) H
theorem op_eqM {X : Cx} (hu : X.A.units + 64 < cLine) : OpR X (compareOp .Eq) rEqM := fun pins s σ H x y u v Q I rx ry h => op_eqD hu pins s σ H x y u v Q I rx ry (by
  obtain ⟨d, e, h1, h2, h3, h4, q⟩ := h
  exact ⟨d, e, datF_dp 6 x d h1, datF_dp 6 y e h2, h3, h4, q⟩)
theorem op_neM {X : Cx} (hu : X.A.units + 64 < cLine) : OpR X (compareOp .NotEq) rNeM := fun pins s σ H x y u v Q I rx ry h => op_neD hu pins s σ H x y u v Q I rx ry (by
  obtain ⟨d, e, h1, h2, h3, h4, q⟩ := h
  exact ⟨d, e, datF_dp 6 x d h1, datF_dp 6 y e h2, h3, h4, q⟩)
/-- a tuple of the module's own top -/
def kT (K : PySem.W.Frag) (a : Addr) : Option (List V) := match K.lookup a with
  | some o => (match o.cls, o.data with
    | .type "tuple", .seq its _ => if its.size ≤ 1000 then its.toList.mapM absV else none
    | _, _ => none)
  | none => none
theorem absV_rel {u : Value} {x : V} (h : absV u = some x) : L2.RelV x u := by
  cases u <;> first | (cases h; rfl; done) | (cases h; exact ⟨_, rfl⟩) | (simp [absV] at h; done)
theorem mapM_vals : ∀ {us : List Value} {xs : List V}, us.mapM absV = some xs → Vals xs us
  | [], xs, h => by
    rw [List.mapM_nil] at h
    cases h
    exact .nil
  | u :: us, xs, h => by
    rw [List.mapM_cons] at h
    cases e1 : absV u with
    | none => rw [e1] at h; cases h
    | some x =>
      rw [e1] at h
      cases e2 : us.mapM absV with
      | none => rw [e2] at h; cases h
      | some ys =>
        rw [e2] at h
        cases h
        exact .cons (absV_rel e1) (mapM_vals e2)
theorem kT_sq {K : PySem.W.Frag} {H : Hp} {a : Addr} {xs : List V} (h : kT K a = some xs) : SqT K H a xs := by
  unfold kT at h
  split at h
  · rename_i o ho
    split at h
    · rename_i its n hc hd
      split at h
      · rename_i hz
        exact .inr ⟨o, its, _, ho, hc, hd, Nat.le_trans hz (by decide), mapM_vals h⟩
      · cases h
    · cases h
  · cases h
/-- items and parts of tracked tuples, and of the module's -/
def rIxTT : R2 := fun x y H Q => ∃ p xs i v, x = .ref p ∧ y = .int i ∧ H p = some (.tup xs) ∧ atI xs i = some v ∧ Q v H
def rIxTK (K : PySem.W.Frag) : R2 := fun x y H Q => ∃ p xs i v, x = .ref p ∧ y = .int i ∧ kT K p = some xs ∧ atI xs i = some v ∧ Q v H
theorem rIxTT_to {K : PySem.W.Frag} {x y : V} {H : Hp} {Q : VK} (h : rIxTT x y H Q) : rIxT K x y H Q := by
  obtain ⟨p, xs, i, z, e1, e2, e3, e4, q⟩ := h
  exact ⟨p, xs, i, z, e1, e2, SqT.of e3, e4, q⟩
theorem rIxTK_to {K : PySem.W.Frag} {x y : V} {H : Hp} {Q : VK} (h : rIxTK K x y H Q) : rIxT K x y H Q := by
  obtain ⟨p, xs, i, z, e1, e2, e3, e4, q⟩ := h
  exact ⟨p, xs, i, z, e1, e2, kT_sq e3, e4, q⟩
theorem ix_tupT {X : Cx} : IxR X rIxTT := by
  intro e1 e2 pins s σ H x y u v Q I rx ry h
  exact ix_tup e1 e2 pins s σ H x y u v Q I rx ry (rIxTT_to h)
theorem ix_tupK {X : Cx} : IxR X (rIxTK X.K) := by
  intro e1 e2 pins s σ H x y u v Q I rx ry h
  exact ix_tup e1 e2 pins s σ H x y u v Q I rx ry (rIxTK_to h)
theorem PG_imp {X : Cx} {tg : Expr} {t u : TG} (h : PG X tg t) (f : ∀ v σ H Q, u v σ H Q → t v σ H Q) : PG X tg u := ⟨fun pins s σ H v w Q I r q => h.run pins s σ H v w Q I r (f v σ H Q q)⟩
def gTupT (n : Nat) (t : TGs) : TG := fun v σ H Q => ∃ a xs, v = .ref a ∧ H a = some (.tup xs) ∧ xs.length = n ∧ t xs σ H Q
def gTupK (K : PySem.W.Frag) (n : Nat) (t : TGs) : TG := fun v σ H Q => ∃ a xs, v = .ref a ∧ kT K a = some xs ∧ xs.length = n ∧ t xs σ H Q
/-- len of a tracked list or tuple, of a text, of a tuple of the module -/
def rLenT : List V → Hp → VK → Prop := fun vs H Q => match vs with
  | [.ref p] => (∃ xs, H p = some (.lst xs) ∧ Q (.int xs.length) H) ∨ (∃ xs, H p = some (.tup xs) ∧ Q (.int xs.length) H)
  | _ => False
theorem call_lenT {X : Cx} : CallR X (.builtin "len") rLenT := fun pins s σ H xs us Q I r h => call_len_seq pins s σ H xs us Q I r (by
  match xs, h with
  | [.ref p], h =>
    rcases h with ⟨ys, e, q⟩ | ⟨ys, e, q⟩
    · exact ⟨p, ys, rfl, .inl (SqL.of e), q⟩
    · exact ⟨p, ys, rfl, .inr (SqT.of e), q⟩)
def rLenK (K : PySem.W.Frag) : List V → Hp → VK → Prop := fun vs H Q => ∃ p xs, vs = [.ref p] ∧ kT K p = some xs ∧ Q (.int xs.length) H
theorem call_lenK {X : Cx} : CallR X (.builtin "len") (rLenK X.K) := fun pins s σ H xs us Q I r h => call_len_seq pins s σ H xs us Q I r (by
  obtain ⟨p, ys, rfl, e, q⟩ := h
  exact ⟨p, ys, rfl, .inr (kT_sq e), q⟩)
theorem pg_tupT {X : Cx} {es : List Expr} {k n : Nat} {t : TGs} {pos : Pos} (hc : X.calm = true) (h : PGs X es t) (hn : (assignEach es X.env).length = n := by rfl) (hst : (assignEach es X.env).findIdx? (·.1) = none := by rfl) :
    PG X (.Tuple es k pos) (gTupT n t) := PG_imp (pg_tup hc h hn hst) fun _ _ _ _ ⟨a, xs, e1, e2, e3, q⟩ => ⟨a, xs, e1, SqT.of e2, e3, q⟩
theorem pg_tupK {X : Cx} {es : List Expr} {k n : Nat} {t : TGs} {pos : Pos} (hc : X.calm = true) (h : PGs X es t) (hn : (assignEach es X.env).length = n := by rfl) (hst : (assignEach es X.env).findIdx? (·.1) = none := by rfl) :
    PG X (.Tuple es k pos) (gTupK X.K n t) := PG_imp (pg_tup hc h hn hst) fun _ _ _ _ ⟨a, xs, e1, e2, e3, q⟩ => ⟨a, xs, e1, kT_sq e2, e3, q⟩
/-! loops over a written tuple or list, turn by turn -/
theorem PS_imp {X : Cx} {st : Stmt} {t u : TS} (h : PS X st t) (f : ∀ D σ H, u D σ H → t D σ H) : PS X st u := ⟨fun pins s σ H D I q => h.run pins s σ H D I (f D σ H q)⟩
def unrF (o : HO) (a : Addr) (g : TG) (tb : TS) (D : Ends) : List V → L2.St → Hp → Prop
  | [], σ, H => D.nx σ H
  | x :: r, σ, H => g x σ H fun σ2 H2 => tb { nx := fun σ' H' => H' a = some o ∧ unrF o a g tb D r σ' H', rt := D.rt, bk := D.nx, ct := fun σ' H' => H' a = some o ∧ unrF o a g tb D r σ' H' } σ2 H2
theorem drop_cons {α : Type} {xs : List α} {i : Nat} {x : α} (h : xs[i]? = some x) : xs.drop i = x :: xs.drop (i + 1) := by
  obtain ⟨h1, h2⟩ := List.getElem?_eq_some_iff.mp h
  rw [List.drop_eq_getElem_cons h1, h2]
theorem forB_unrT {K : PySem.W.Frag} {a : Addr} {xs : List V} {g : TG} {tb : TS} {D : Ends} {σ : L2.St} {H : Hp} (e : H a = some (.tup xs)) (h : unrF (.tup xs) a g tb D xs σ H) : forB (Itt K a) g tb D σ H := by
  refine ⟨fun i m σ H => m = xs.length - i ∧ i ≤ xs.length ∧ H a = some (.tup xs) ∧ unrF (.tup xs) a g tb D (xs.drop i) σ H, ⟨_, rfl, Nat.zero_le _, e, h⟩, ?_⟩
  rintro i m σ H ⟨rfl, hi, e, q⟩
  by_cases hlt : i < xs.length
  · have hx : xs[i]? = some xs[i] := List.getElem?_eq_getElem hlt
    rw [drop_cons hx] at q
    refine .inr ⟨⟨xs, xs[i], SqT.of e, hx⟩, fun σ' H' => H' a = some (.tup xs) ∧ unrF (.tup xs) a g tb D (xs.drop (i + 1)) σ' H', fun σ' H' p => ⟨_, by omega, rfl, hlt, p.1, p.2⟩, fun x H' y => ?_⟩
    obtain ⟨e1, y⟩ := y
    subst e1
    have := y xs (SqT.of e)
    rw [hx] at this
    cases this
    exact q
  · have e2 : i = xs.length := by omega
    subst e2
    rw [List.drop_length] at q
    exact .inl ⟨⟨xs, SqT.of e, Nat.le_refl _⟩, q⟩
theorem forB_unrL {K : PySem.W.Frag} {a : Addr} {xs : List V} {g : TG} {tb : TS} {D : Ends} {σ : L2.St} {H : Hp} (e : H a = some (.lst xs)) (h : unrF (.lst xs) a g tb D xs σ H) : forB (Itl K a) g tb D σ H := by
  refine ⟨fun i m σ H => m = xs.length - i ∧ i ≤ xs.length ∧ H a = some (.lst xs) ∧ unrF (.lst xs) a g tb D (xs.drop i) σ H, ⟨_, rfl, Nat.zero_le _, e, h⟩, ?_⟩
  rintro i m σ H ⟨rfl, hi, e, q⟩
  by_cases hlt : i < xs.length
  · have hx : xs[i]? = some xs[i] := List.getElem?_eq_getElem hlt
    rw [drop_cons hx] at q
    refine .inr ⟨⟨xs, xs[i], SqL.of e, hx⟩, fun σ' H' => H' a = some (.lst xs) ∧ unrF (.lst xs) a g tb D (xs.drop (i + 1)) σ' H', fun σ' H' p => ⟨_, by omega, rfl, hlt, p.1, p.2⟩, fun x H' y => ?_⟩
    obtain ⟨e1, y⟩ := y
    subst e1
    have := y xs (SqL.of e)
    rw [hx] at this
    cases this
    exact q
  · have e2 : i = xs.length := by omega
    subst e2
    rw [List.drop_length] at q
    exact .inl ⟨⟨xs, SqL.of e, Nat.le_refl _⟩, q⟩
theorem ex_sqT1 {K : PySem.W.Frag} {H : Hp} {p : Addr} {xs : List V} : (∃ ys, SqT K (upd H p (.tup xs)) p ys) = True := eq_true ⟨xs, SqT.of upd_same⟩
theorem ex_sqL1 {K : PySem.W.Frag} {H : Hp} {p : Addr} {xs : List V} : (∃ ys, SqL K (upd H p (.lst xs)) p ys) = True := eq_true ⟨xs, SqL.of upd_same⟩
theorem ps_fg {X : Cx} {st : Stmt} {t : TS} (h : PS X st t) : PS X st (tFg t) := by
  refine ⟨fun pins s σ H D I q => ?_⟩
  refine thn (h.run pins s σ H _ I q) fun f s1 z => ?_
  cases f with
  | next =>
    obtain ⟨σ', H', I', H'', g, pl, y⟩ := z
    exact ⟨σ', H'', Inv_fgt I I' g pl, y⟩
  | brk =>
    obtain ⟨σ', H', I', H'', g, pl, y⟩ := z
    exact ⟨σ', H'', Inv_fgt I I' g pl, y⟩
  | cont =>
    obtain ⟨σ', H', I', H'', g, pl, y⟩ := z
    exact ⟨σ', H'', Inv_fgt I I' g pl, y⟩
  | ret u =>
    obtain ⟨v, σ', H', I', r, H'', g, pl, y⟩ := z
    exact ⟨v, σ', H'', Inv_fgt I I' g pl, r, y⟩
theorem fgt_id {H : Hp} : Fgt H H H := fgt_ex Ex.refl
/-! == of data, case by case -/
theorem eqv_none_none  : PyData.eqv PyData.none PyData.none = true := by unfold PyData.eqv; rfl
theorem eqv_none_bool {b2 : Bool} : PyData.eqv PyData.none (PyData.bool b2) = false := by unfold PyData.eqv; rfl
theorem eqv_none_int {i2 : Int} : PyData.eqv PyData.none (PyData.int i2) = false := by unfold PyData.eqv; rfl
theorem eqv_none_str {s2 : Str} : PyData.eqv PyData.none (PyData.str s2) = false := by unfold PyData.eqv; rfl
theorem eqv_none_list {l2 : List PyData} : PyData.eqv PyData.none (PyData.list l2) = false := by unfold PyData.eqv; rfl
theorem eqv_none_tuple {t2 : List PyData} : PyData.eqv PyData.none (PyData.tuple t2) = false := by unfold PyData.eqv; rfl
theorem eqv_bool_none {b1 : Bool} : PyData.eqv (PyData.bool b1) PyData.none = false := by unfold PyData.eqv; rfl
theorem eqv_bool_bool {b1 : Bool} {b2 : Bool} : PyData.eqv (PyData.bool b1) (PyData.bool b2) = (b1 == b2) := by unfold PyData.eqv; rfl
theorem eqv_bool_int {b1 : Bool} {i2 : Int} : PyData.eqv (PyData.bool b1) (PyData.int i2) = ((if b1 = true then 1 else 0) == i2) := by unfold PyData.eqv; rfl
theorem eqv_bool_str {b1 : Bool} {s2 : Str} : PyData.eqv (PyData.bool b1) (PyData.str s2) = false := by unfold PyData.eqv; rfl
theorem eqv_bool_list {b1 : Bool} {l2 : List PyData} : PyData.eqv (PyData.bool b1) (PyData.list l2) = false := by unfold PyData.eqv; rfl
theorem eqv_bool_tuple {b1 : Bool} {t2 : List PyData} : PyData.eqv (PyData.bool b1) (PyData.tuple t2) = false := by unfold PyData.eqv; rfl
theorem eqv_int_none {i1 : Int} : PyData.eqv (PyData.int i1) PyData.none = false := by unfold PyData.eqv; rfl
theorem eqv_int_bool {i1 : Int} {b2 : Bool} : PyData.eqv (PyData.int i1) (PyData.bool b2) = (i1 == (if b2 = true then 1 else 0)) := by unfold PyData.eqv; rfl
theorem eqv_int_int {i1 : Int} {i2 : Int} : PyData.eqv (PyData.int i1) (PyData.int i2) = (i1 == i2) := by unfold PyData.eqv; rfl
theorem eqv_int_str {i1 : Int} {s2 : Str} : PyData.eqv (PyData.int i1) (PyData.str s2) = false := by unfold PyData.eqv; rfl
theorem eqv_int_list {i1 : Int} {l2 : List PyData} : PyData.eqv (PyData.int i1) (PyData.list l2) = false := by unfold PyData.eqv; rfl
theorem eqv_int_tuple {i1 : Int} {t2 : List PyData} : PyData.eqv (PyData.int i1) (PyData.tuple t2) = false := by unfold PyData.eqv; rfl
theorem eqv_str_none {s1 : Str} : PyData.eqv (PyData.str s1) PyData.none = false := by unfold PyData.eqv; rfl
theorem eqv_str_bool {s1 : Str} {b2 : Bool} : PyData.eqv (PyData.str s1) (PyData.bool b2) = false := by unfold PyData.eqv; rfl
theorem eqv_str_int {s1 : Str} {i2 : Int} : PyData.eqv (PyData.str s1) (PyData.int i2) = false := by unfold PyData.eqv; rfl
theorem eqv_str_str {s1 : Str} {s2 : Str} : PyData.eqv (PyData.str s1) (PyData.str s2) = (s1 == s2) := by unfold PyData.eqv; rfl
theorem eqv_str_list {s1 : Str} {l2 : List PyData} : PyData.eqv (PyData.str s1) (PyData.list l2) = false := by unfold PyData.eqv; rfl
theorem eqv_str_tuple {s1 : Str} {t2 : List PyData} : PyData.eqv (PyData.str s1) (PyData.tuple t2) = false := by unfold PyData.eqv; rfl
theorem eqv_list_none {l1 : List PyData} : PyData.eqv (PyData.list l1) PyData.none = false := by unfold PyData.eqv; rfl
theorem eqv_list_bool {l1 : List PyData} {b2 : Bool} : PyData.eqv (PyData.list l1) (PyData.bool b2) = false := by unfold PyData.eqv; rfl
theorem eqv_list_int {l1 : List PyData} {i2 : Int} : PyData.eqv (PyData.list l1) (PyData.int i2) = false := by unfold PyData.eqv; rfl
theorem eqv_list_str {l1 : List PyData} {s2 : Str} : PyData.eqv (PyData.list l1) (PyData.str s2) = false := by unfold PyData.eqv; rfl
theorem eqv_list_list {l1 : List PyData} {l2 : List PyData} : PyData.eqv (PyData.list l1) (PyData.list l2) = PyData.eqvAll l1 l2 := by unfold PyData.eqv; rfl
theorem eqv_list_tuple {l1 : List PyData} {t2 : List PyData} : PyData.eqv (PyData.list l1) (PyData.tuple t2) = false := by unfold PyData.eqv; rfl
theorem eqv_tuple_none {t1 : List PyData} : PyData.eqv (PyData.tuple t1) PyData.none = false := by unfold PyData.eqv; rfl
theorem eqv_tuple_bool {t1 : List PyData} {b2 : Bool} : PyData.eqv (PyData.tuple t1) (PyData.bool b2) = false := by unfold PyData.eqv; rfl
theorem eqv_tuple_int {t1 : List PyData} {i2 : Int} : PyData.eqv (PyData.tuple t1) (PyData.int i2) = false := by unfold PyData.eqv; rfl
theorem eqv_tuple_str {t1 : List PyData} {s2 : Str} : PyData.eqv (PyData.tuple t1) (PyData.str s2) = false := by unfold PyData.eqv; rfl
theorem eqv_tuple_list {t1 : List PyData} {l2 : List PyData} : PyData.eqv (PyData.tuple t1) (PyData.list l2) = false := by unfold PyData.eqv; rfl
theorem eqv_tuple_tuple {t1 : List PyData} {t2 : List PyData} : PyData.eqv (PyData.tuple t1) (PyData.tuple t2) = PyData.eqvAll t1 t2 := by unfold PyData.eqv; rfl
theorem eqa_nil : PyData.eqvAll [] [] = true := by unfold PyData.eqvAll; rfl
theorem eqa_cons {x y : PyData} {xs ys : List PyData} : PyData.eqvAll (x :: xs) (y :: ys) = (PyData.eqv x y && PyData.eqvAll xs ys) := by conv => lhs; unfold PyData.eqvAll
theorem eqa_nc {y : PyData} {ys : List PyData} : PyData.eqvAll [] (y :: ys) = false := by unfold PyData.eqvAll; rfl
theorem eqa_cn {y : PyData} {ys : List PyData} : PyData.eqvAll (y :: ys) [] = false := by unfold PyData.eqvAll; rfl
theorem lay_none : PyData.canLay0 (PyData.none) = true := by unfold PyData.canLay0; rfl
theorem dep_none : PyData.depth (PyData.none) = 0 := by unfold PyData.depth; rfl
theorem lay_bool {b : Bool} : PyData.canLay0 (PyData.bool b) = true := by unfold PyData.canLay0; rfl
theorem dep_bool {b : Bool} : PyData.depth (PyData.bool b) = 0 := by unfold PyData.depth; rfl
theorem lay_int {i : Int} : PyData.canLay0 (PyData.int i) = true := by unfold PyData.canLay0; rfl
theorem dep_int {i : Int} : PyData.depth (PyData.int i) = 0 := by unfold PyData.depth; rfl
theorem lay_str {x : Str} : PyData.canLay0 (PyData.str x) = PyData.strOk x := by unfold PyData.canLay0; rfl
theorem dep_str {x : Str} : PyData.depth (PyData.str x) = 0 := by unfold PyData.depth; rfl
theorem lay_list {xs : List PyData} : PyData.canLay0 (PyData.list xs) = PyData.canLayAll0 xs := by conv => lhs; unfold PyData.canLay0
theorem dep_list {xs : List PyData} : PyData.depth (PyData.list xs) = PyData.depthAll xs + 1 := by conv => lhs; unfold PyData.depth
theorem lay_tuple {xs : List PyData} : PyData.canLay0 (PyData.tuple xs) = PyData.canLayAll0 xs := by conv => lhs; unfold PyData.canLay0
theorem dep_tuple {xs : List PyData} : PyData.depth (PyData.tuple xs) = PyData.depthAll xs + 1 := by conv => lhs; unfold PyData.depth
theorem laa_nil : PyData.canLayAll0 [] = true := by unfold PyData.canLayAll0; rfl
theorem laa_cons {x : PyData} {xs : List PyData} : PyData.canLayAll0 (x :: xs) = (PyData.canLay0 x && PyData.canLayAll0 xs) := by conv => lhs; unfold PyData.canLayAll0
theorem dea_nil : PyData.depthAll [] = 0 := by unfold PyData.depthAll; rfl
theorem dea_cons {x : PyData} {xs : List PyData} : PyData.depthAll (x :: xs) = max (PyData.depth x) (PyData.depthAll xs) := by conv => lhs; unfold PyData.depthAll

/-! ### own layer: loops over enumerate and zip, comprehensions, lists of ints -/
theorem Inv_drop {X : Cx} {pins : List (Addr × Obj)} {σ : L2.St} {H H0 : Hp} {s : Shared} (I : Inv X pins σ H s) (e : Ex H0 H) (k : ∀ b o, X.H_0 b = some o → hardO o = true → H0 b = some o) (ow : ∀ b x, H b = some (.own x) → H0 b = some (.own x)) (pl : Plain H0) : Inv X pins σ H0 s := by
  have nn : ∀ b, H b = none → H0 b = none := fun b n => by
    cases z : H0 b with
    | none => rfl
    | some o =>
      have := e b o z
      rw [n] at this
      cases this
  refine ⟨I.ok, I.os, I.bare, ⟨I.base.keep, I.base.slot, fun b o z n hx => nn b (I.base.free b o z n hx), I.base.there, fun b xs z => k b _ z rfl, fun b o u z => k b _ z rfl, fun b ps z => ⟨#[], ?_⟩⟩, I.loc, I.cell, nn _ I.free, fun x c z => nn c (I.freeC x c z), fun p hp => ?_, fun a o z => ?_, I.len⟩
  · rw [k b _ z rfl, Array.append_empty]
  · obtain ⟨z1, z2, z3⟩ := I.pin p hp
    exact ⟨z1, nn _ z2, z3⟩
  · have hz := I.hok a o (e a o z)
    refine objOk_fgt hz (pl.no a o z) fun C dx fs y => ?_
    subst y
    obtain ⟨y1, _⟩ := hz
    exact ow dx a y1
/-- a block whose first step forgets (He: what stood at the def's entry) -/
def tDr (He : Hp) (t : TS) : TS := fun D σ H => ∃ H0, Ex H0 H ∧ (∀ b o, He b = some o → hardO o = true → H0 b = some o) ∧ (∀ b x, H b = some (.own x) → H0 b = some (.own x)) ∧ Plain H0 ∧ t D σ H0
theorem pss_dr {X : Cx} {sts : List Stmt} {t : TS} (h : PSs X sts t) : PSs X sts (tDr X.H_0 t) := ⟨fun pins s σ H D I ⟨H0, e, k, ow, pl, q⟩ => h.run pins s σ H0 D (Inv_drop I e k ow pl) q⟩
theorem dr_tup {He H : Hp} {T : Addr} {xs : List V} {t : TS} {D : Ends} {σ : L2.St} (hT : H T = none) (k : Kp He H) (pl : Plain H) (q : t D σ H) : tDr He t D σ (upd H T (.tup xs)) := by
  refine ⟨H, Ex.new hT Ex.refl, k.keep, fun b x z => ?_, pl, q⟩
  by_cases y : b = T
  · subst y
    rw [upd_same] at z
    cases z
  · rw [upd_ne y] at z
    exact z
theorem cxOf_H0 {CX : CXT} {P : Program} {w : World} {K : PySem.W.Frag} {mg : Str → Option Value} {base : Heap} {N : List Str} {qual : Str} {scope : Scope} {f : Addr} {cd : Value} {A : Around} {outer : List Env} {s : Shared} {H : Hp} {E : XK} : (cxOf CX P w K mg base N qual scope f cd A outer s H E).H_0 = H := rfl
theorem forB_enum {K : PySem.W.Frag} {a : Addr} {xs : List V} {g : TG} {tb : TS} {D : Ends} {σ : L2.St} {H : Hp} (Pv : Nat → L2.St → Hp → Prop) (h0 : Pv 0 σ H) (hl : ∀ i σ H, i ≤ xs.length → Pv i σ H → SqL K H a xs)
    (hs : ∀ i x σ H, xs[i]? = some x → Pv i σ H → ∀ T, H T = none → g (.ref T) σ (upd H T (.tup [.int (i : Nat), x])) fun σ2 H2 => tb { D with nx := Pv (i + 1), ct := Pv (i + 1), bk := D.nx } σ2 H2) (hd : ∀ σ H, Pv xs.length σ H → D.nx σ H) : forB (Ite K a) g tb D σ H := by
  refine ⟨fun i m σ H => m = xs.length - i ∧ i ≤ xs.length ∧ Pv i σ H, ⟨_, rfl, Nat.zero_le _, h0⟩, ?_⟩
  rintro i m σ H ⟨rfl, hi, p⟩
  have q := hl i σ H hi p
  by_cases hlt : i < xs.length
  · refine .inr ⟨⟨xs, xs[i], q, List.getElem?_eq_getElem hlt⟩, Pv (i + 1), fun σ' H' p' => ⟨_, by omega, rfl, hlt, p'⟩, fun x H' y => ?_⟩
    obtain ⟨T, z, rfl, hT, rfl, f⟩ := y
    exact hs i z σ H (f xs q) p T hT
  · have e : i = xs.length := by omega
    subst e
    exact .inl ⟨⟨xs, q, Nat.le_refl _⟩, hd σ H p⟩
theorem forB_zip {K : PySem.W.Frag} {a b : Addr} {xs ys : List V} {g : TG} {tb : TS} {D : Ends} {σ : L2.St} {H : Hp} (hlen : xs.length = ys.length) (Pv : Nat → L2.St → Hp → Prop) (h0 : Pv 0 σ H) (hl : ∀ i σ H, i ≤ xs.length → Pv i σ H → SqL K H a xs ∧ SqL K H b ys)
    (hs : ∀ i x y σ H, xs[i]? = some x → ys[i]? = some y → Pv i σ H → ∀ T, H T = none → g (.ref T) σ (upd H T (.tup [x, y])) fun σ2 H2 => tb { D with nx := Pv (i + 1), ct := Pv (i + 1), bk := D.nx } σ2 H2) (hd : ∀ σ H, Pv xs.length σ H → D.nx σ H) : forB (Itz K a b) g tb D σ H := by
  refine ⟨fun i m σ H => m = xs.length - i ∧ i ≤ xs.length ∧ Pv i σ H, ⟨_, rfl, Nat.zero_le _, h0⟩, ?_⟩
  rintro i m σ H ⟨rfl, hi, p⟩
  obtain ⟨q1, q2⟩ := hl i σ H hi p
  by_cases hlt : i < xs.length
  · refine .inr ⟨⟨xs, ys, xs[i], ys[i], q1, q2, List.getElem?_eq_getElem hlt, List.getElem?_eq_getElem (by omega)⟩, Pv (i + 1), fun σ' H' p' => ⟨_, by omega, rfl, hlt, p'⟩, fun x H' y => ?_⟩
    obtain ⟨T, z1, z2, rfl, hT, rfl, f1, f2⟩ := y
    exact hs i z1 z2 σ H (f1 xs q1) (f2 ys q2) p T hT
  · have e : i = xs.length := by omega
    subst e
    exact .inl ⟨⟨xs, ys, q1, q2, .inl (Nat.le_refl _)⟩, hd σ H p⟩
/-! comprehensions -/
def lcB (J : It) (g : TG) (tt : TT) (te : TE) (vs : List Nat) (σ : L2.St) (Dl : Addr) (Qd : Hp → Prop) (H : Hp) : Prop := ∃ W : Nat → Nat → Hp → Prop, (∃ m, W 0 m H) ∧ ∀ i m H, W i m H →
  (J.stop i H ∧ Qd H) ∨ (J.go i H ∧ ∃ Nx : Hp → Prop, (∀ H', Nx H' → ∃ m', m' < m ∧ W (i + 1) m' H') ∧ ∀ x H', J.yld i H x H' → g x (wipe σ vs) H' fun σ2 H2 => wipe σ2 vs = wipe σ vs ∧ tt σ2 H2 fun b H3 =>
    if b = true then te σ2 H3 fun y H4 => ∃ acc, H4 Dl = some (.lst acc) ∧ acc.length < sizeLine ∧ Nx (upd H4 Dl (.lst (acc ++ [y]))) else Nx H3)
theorem tLc_eq {wi : TI} {g : TG} {tt : TT} {te : TE} {vs : List Nat} {σ : L2.St} {H : Hp} {Q : VK} : tLc wi g tt te vs σ H Q = wi σ H (fun J H1 => ∀ Dl, H1 Dl = none → lcB J g tt te vs σ Dl (fun H2 => Q (.ref Dl) H2) (upd H1 Dl (.lst []))) := rfl
theorem lcB_range {lo : Int} {n : Nat} {g : TG} {tt : TT} {te : TE} {vs : List Nat} {σ : L2.St} {H1 : Hp} {Dl : Addr} {Qd : Hp → Prop} (Pv : Nat → Hp → Prop) (h0 : Pv 0 (upd H1 Dl (.lst [])))
    (hs : ∀ i H, i < n → Pv i H → g (.int (lo + i)) (wipe σ vs) H fun σ2 H2 => wipe σ2 vs = wipe σ vs ∧ tt σ2 H2 fun b H3 =>
      if b = true then te σ2 H3 fun y H4 => ∃ acc, H4 Dl = some (.lst acc) ∧ acc.length < sizeLine ∧ Pv (i + 1) (upd H4 Dl (.lst (acc ++ [y]))) else Pv (i + 1) H3) (hd : ∀ H, Pv n H → Qd H) : lcB (Itr lo n) g tt te vs σ Dl Qd (upd H1 Dl (.lst [])) := lc_range Pv h0 hs hd
theorem lcB_list {K : PySem.W.Frag} {a : Addr} {xs : List V} {g : TG} {tt : TT} {te : TE} {vs : List Nat} {σ : L2.St} {H1 : Hp} {Dl : Addr} {Qd : Hp → Prop} (Pv : Nat → Hp → Prop) (h0 : Pv 0 (upd H1 Dl (.lst []))) (hl : ∀ i H, i ≤ xs.length → Pv i H → SqL K H a xs)
    (hs : ∀ i x H, xs[i]? = some x → Pv i H → g x (wipe σ vs) H fun σ2 H2 => wipe σ2 vs = wipe σ vs ∧ tt σ2 H2 fun b H3 =>
      if b = true then te σ2 H3 fun y H4 => ∃ acc, H4 Dl = some (.lst acc) ∧ acc.length < sizeLine ∧ Pv (i + 1) (upd H4 Dl (.lst (acc ++ [y]))) else Pv (i + 1) H3) (hd : ∀ H, Pv xs.length H → Qd H) : lcB (Itl K a) g tt te vs σ Dl Qd (upd H1 Dl (.lst [])) := lc_list Pv h0 hl hs hd
/-! lists of ints -/
theorem datF_int {H : Hp} {n : Nat} {i : Int} : datF H n (.int i) = some (.int i) := by cases n <;> rfl
theorem datF_str {H : Hp} {n : Nat} {i : Str} : datF H n (.str i) = some (.str i) := by cases n <;> rfl
theorem datF_bl {H : Hp} {n : Nat} {i : Bool} : datF H n (.bl i) = some (.bool i) := by cases n <;> rfl
theorem datF_non {H : Hp} {n : Nat} : datF H n .non = some .none := by cases n <;> rfl
theorem datF_ref {H : Hp} {n : Nat} {a : Addr} : datF H (n + 1) (.ref a) = (match H a with
    | some (.lst xs) => (allO (datF H n) xs).map .list
    | some (.tup xs) => (allO (datF H n) xs).map .tuple
    | _ => none) := rfl
theorem allO_ints {H : Hp} {n : Nat} : ∀ ns : List Int, allO (datF H n) (ns.map V.int) = some (ns.map PyData.int)
  | [] => rfl
  | i :: r => by
    rw [List.map_cons, List.map_cons]
    unfold allO
    rw [datF_int, allO_ints r]
theorem laa_ints : ∀ ns : List Int, PyData.canLayAll0 (ns.map PyData.int) = true
  | [] => laa_nil
  | i :: r => by rw [List.map_cons, laa_cons, lay_int, laa_ints r]; rfl
theorem dea_ints : ∀ ns : List Int, PyData.depthAll (ns.map PyData.int) = 0
  | [] => dea_nil
  | i :: r => by rw [List.map_cons, dea_cons, dep_int, dea_ints r]; rfl
theorem eqa_ints (ns ms : List Int) : PyData.eqvAll (ns.map PyData.int) (ms.map PyData.int) = decide (ns = ms) := PySem.W.ked_eqvAll ns ms
theorem eqa_ints_nil (ns : List Int) : PyData.eqvAll (ns.map PyData.int) [] = decide (ns = []) := eqa_ints ns []
theorem wipe_nil {σ : L2.St} : wipe σ [] = σ := rfl
theorem wipe_cons {σ : L2.St} {v : Nat} {vs : List Nat} : wipe σ (v :: vs) = (wipe σ vs).set v none := rfl
/-- list(x), tuple(x) of tracked ones -/
def rListT : List V → Hp → VK → Prop := fun vs H Q => match vs with
  | [.ref p] => (∃ xs, H p = some (.lst xs) ∧ ∀ l, H l = none → Q (.ref l) (upd H l (.lst xs))) ∨ (∃ xs, H p = some (.tup xs) ∧ ∀ l, H l = none → Q (.ref l) (upd H l (.lst xs)))
  | _ => False
theorem call_listT {X : Cx} : CallR X (.type "list") rListT := fun pins s σ H xs us Q I r h => call_list_of pins s σ H xs us Q I r (by
  match xs, h with
  | [.ref p], h =>
    rcases h with ⟨ys, e, q⟩ | ⟨ys, e, q⟩
    · exact ⟨p, ys, rfl, .inl (SqL.of e), q⟩
    · exact ⟨p, ys, rfl, .inr (SqT.of e), q⟩)
def rTupT : List V → Hp → VK → Prop := fun vs H Q => match vs with
  | [.ref p] => (∃ xs, H p = some (.lst xs) ∧ ∀ l, H l = none → Q (.ref l) (upd H l (.tup xs))) ∨ (∃ xs, H p = some (.tup xs) ∧ Q (.ref p) H)
  | _ => False
theorem call_tupT {X : Cx} : CallR X (.type "tuple") rTupT := fun pins s σ H xs us Q I r h => call_tuple_of pins s σ H xs us Q I r (by
  match xs, h with
  | [.ref p], h =>
    rcases h with ⟨ys, e, q⟩ | ⟨ys, e, q⟩
    · exact ⟨p, ys, rfl, .inl ⟨SqL.of e, q⟩⟩
    · exact ⟨p, ys, rfl, .inr ⟨SqT.of e, q⟩⟩)
theorem Ex.set {H H' : Hp} {p : Addr} {o u : HO} (e : Ex (L2.upd H p o) H') : Ex (L2.upd H p u) (L2.upd H' p u) := fun a v z => by
  by_cases y : a = p
  · subst y
    rw [upd_same] at z ⊢
    exact z
  · rw [upd_ne y] at z ⊢
    exact e a v (by rw [upd_ne y]; exact z)
theorem get_ints {ns : List Int} {i : Nat} {x : V} (h : (ns.map V.int)[i]? = some x) : ∃ z, ns[i]? = some z ∧ x = .int z := by
  rw [List.getElem?_map] at h
  cases e : ns[i]? with
  | none => rw [e] at h; cases h
  | some z =>
    rw [e] at h
    cases h
    exact ⟨z, rfl, rfl⟩
theorem tYes_eq {σ : L2.St} {H : Hp} {Q : Bool → Hp → Prop} : tYes σ H Q = Q true H := rfl
theorem ints_snoc (ms : List Int) (v : Int) : ms.map V.int ++ [V.int v] = (ms ++ [v]).map V.int := by rw [List.map_append]; rfl
theorem six_of {x : Int} (h0 : 0 ≤ x) (h : x < 6) : x = 0 ∨ x = 1 ∨ x = 2 ∨ x = 3 ∨ x = 4 ∨ x = 5 := by omega
theorem ints_inj {ns ms : List Int} : (ns.map V.int = ms.map V.int) = (ns = ms) := propext ⟨fun h => by
  induction ns generalizing ms with
  | nil =>
    cases ms with
    | nil => rfl
    | cons b t => cases h
  | cons a r ih =>
    cases ms with
    | nil => cases h
    | cons b t =>
      rw [List.map_cons, List.map_cons] at h
      injection h with h1 h2
      injection h1 with h1
      rw [h1, ih h2], fun h => by rw [h]⟩
theorem ints_set {ms : List Int} {n : Nat} {w : Int} : (ms.map V.int).set n (.int w) = (ms.set n w).map V.int := by rw [List.map_set]

def topS (i : Nat) : Stmt := PySem.Challenge.pw_framejoins_k18_marks.main.body.getD i (.Pass ⟨0, 0, 0, 0⟩)
abbrev s_is_integer : Stmt := topS 4
abbrev N_is_integer : List Str := ["value"]
theorem sc_is_integer : FnScope N_is_integer ["value"] (defScope s_is_integer) := ⟨rfl, rfl, rfl, by decide +kernel, rfl, by decide +kernel, by decide +kernel⟩
abbrev s_code_number : Stmt := topS 9
abbrev N_code_number : List Str := ["number"]
theorem sc_code_number : FnScope N_code_number ["number"] (defScope s_code_number) := ⟨rfl, rfl, rfl, by decide +kernel, rfl, by decide +kernel, by decide +kernel⟩
abbrev s_require_numbers : Stmt := topS 10
abbrev N_require_numbers : List Str := ["numbers", "index", "number"]
theorem sc_require_numbers : FnScope N_require_numbers ["numbers"] (defScope s_require_numbers) := ⟨rfl, rfl, rfl, by decide +kernel, rfl, by decide +kernel, by decide +kernel⟩
abbrev s_mark_of : Stmt := topS 11
abbrev N_mark_of : List Str := ["numbers", "mark", "number"]
theorem sc_mark_of : FnScope N_mark_of ["numbers"] (defScope s_mark_of) := ⟨rfl, rfl, rfl, by decide +kernel, rfl, by decide +kernel, by decide +kernel⟩
abbrev s_L_pool : Stmt := topS 13
abbrev N_L_pool : List Str := ["_law_script", "_law_k", "_law_cell", "_law_great", "_law_seed"]
theorem sc_L_pool : FnScope N_L_pool ["_law_script", "_law_k"] (defScope s_L_pool) := ⟨rfl, rfl, rfl, by decide +kernel, rfl, by decide +kernel, by decide +kernel⟩
abbrev s_L_take : Stmt := topS 14
abbrev N_L_take : List Str := ["_law_pool_here", "_law_many", "_law_found"]
theorem sc_L_take : FnScope N_L_take ["_law_pool_here", "_law_many"] (defScope s_L_take) := ⟨rfl, rfl, rfl, by decide +kernel, rfl, by decide +kernel, by decide +kernel⟩
abbrev s_L_same : Stmt := topS 15
abbrev N_L_same : List Str := ["_law_actual", "_law_due", "_law_one", "_law_other"]
theorem sc_L_same : FnScope N_L_same ["_law_actual", "_law_due"] (defScope s_L_same) := ⟨rfl, rfl, rfl, by decide +kernel, rfl, by decide +kernel, by decide +kernel⟩
abbrev s_L_number : Stmt := topS 16
abbrev N_L_number : List Str := ["_law_pool_here", "_law_found", "_law_turn"]
theorem sc_L_number : FnScope N_L_number ["_law_pool_here"] (defScope s_L_number) := ⟨rfl, rfl, rfl, by decide +kernel, rfl, by decide +kernel, by decide +kernel⟩
abbrev s_L_u : Stmt := topS 17
abbrev N_L_u : List Str := ["_law_number_here"]
theorem sc_L_u : FnScope N_L_u ["_law_number_here"] (defScope s_L_u) := ⟨rfl, rfl, rfl, by decide +kernel, rfl, by decide +kernel, by decide +kernel⟩
abbrev s_L_mark : Stmt := topS 18
abbrev N_L_mark : List Str := ["_law_some", "_law_found", "_law_number_here"]
theorem sc_L_mark : FnScope N_L_mark ["_law_some"] (defScope s_L_mark) := ⟨rfl, rfl, rfl, by decide +kernel, rfl, by decide +kernel, by decide +kernel⟩
abbrev s_law : Stmt := topS 19
abbrev N_law : List Str := ["_law_script", "_law_k", "_law_pool_here", "_law_some", "_law_given", "_law_at", "_law_same_here"]
theorem sc_law : FnScope N_law ["_law_script"] (defScope s_law) := ⟨rfl, rfl, rfl, by decide +kernel, rfl, by decide +kernel, by decide +kernel⟩
structure Ad where
  f_is_integer : Addr
  d_is_integer : FuncData
  f_code_number : Addr
  d_code_number : FuncData
  f_require_numbers : Addr
  d_require_numbers : FuncData
  f_mark_of : Addr
  d_mark_of : FuncData
  f_L_pool : Addr
  d_L_pool : FuncData
  f_L_take : Addr
  d_L_take : FuncData
  f_L_same : Addr
  d_L_same : FuncData
  f_L_number : Addr
  d_L_number : FuncData
  f_L_u : Addr
  d_L_u : FuncData
  f_L_mark : Addr
  d_L_mark : FuncData
  f_law : Addr
  d_law : FuncData
structure Tx (K : PySem.W.Frag) (mg : Str → Option Value) (A : Ad) : Prop where
  F_is_integer : Fun K "is_integer" "is_integer" s_is_integer A.f_is_integer A.d_is_integer
  b_is_integer : Binds K A.d_is_integer ["value"] []
  g_is_integer : mg "is_integer" = some (.ref A.f_is_integer)
  F_code_number : Fun K "code_number" "code_number" s_code_number A.f_code_number A.d_code_number
  b_code_number : Binds K A.d_code_number ["number"] []
  g_code_number : mg "code_number" = some (.ref A.f_code_number)
  F_require_numbers : Fun K "require_numbers" "require_numbers" s_require_numbers A.f_require_numbers A.d_require_numbers
  b_require_numbers : Binds K A.d_require_numbers ["numbers"] []
  g_require_numbers : mg "require_numbers" = some (.ref A.f_require_numbers)
  F_mark_of : Fun K "mark_of" "mark_of" s_mark_of A.f_mark_of A.d_mark_of
  b_mark_of : Binds K A.d_mark_of ["numbers"] []
  g_mark_of : mg "mark_of" = some (.ref A.f_mark_of)
  F_L_pool : Fun K "_law_pool" "_law_pool" s_L_pool A.f_L_pool A.d_L_pool
  b_L_pool : Binds K A.d_L_pool ["_law_script", "_law_k"] []
  g_L_pool : mg "_law_pool" = some (.ref A.f_L_pool)
  F_L_take : Fun K "_law_take" "_law_take" s_L_take A.f_L_take A.d_L_take
  b_L_take : Binds K A.d_L_take ["_law_pool_here", "_law_many"] []
  g_L_take : mg "_law_take" = some (.ref A.f_L_take)
  F_L_same : Fun K "_law_same" "_law_same" s_L_same A.f_L_same A.d_L_same
  b_L_same : Binds K A.d_L_same ["_law_actual", "_law_due"] []
  g_L_same : mg "_law_same" = some (.ref A.f_L_same)
  F_L_number : Fun K "_law_number" "_law_number" s_L_number A.f_L_number A.d_L_number
  b_L_number : Binds K A.d_L_number ["_law_pool_here"] []
  g_L_number : mg "_law_number" = some (.ref A.f_L_number)
  F_L_u : Fun K "_law_u" "_law_u" s_L_u A.f_L_u A.d_L_u
  b_L_u : Binds K A.d_L_u ["_law_number_here"] []
  g_L_u : mg "_law_u" = some (.ref A.f_L_u)
  F_L_mark : Fun K "_law_mark" "_law_mark" s_L_mark A.f_L_mark A.d_L_mark
  b_L_mark : Binds K A.d_L_mark ["_law_some"] []
  g_L_mark : mg "_law_mark" = some (.ref A.f_L_mark)
  F_law : Fun K "law" "law" s_law A.f_law A.d_law
  b_law : Binds K A.d_law ["_law_script"] []
  g_law : mg "law" = some (.ref A.f_law)
  g_MOST_NUMBERS : ∃ u, mg "MOST_NUMBERS" = some u ∧ L2.RelV (.int 64) u
  g_MARK_FACTOR : ∃ u, mg "MARK_FACTOR" = some u ∧ L2.RelV (.int 31) u
  g_MARK_PRIME : ∃ u, mg "MARK_PRIME" = some u ∧ L2.RelV (.int 9973) u
  m_abs : mg "abs" = none
  m_bool : mg "bool" = none
  m_enumerate : mg "enumerate" = none
  m_int : mg "int" = none
  m_isinstance : mg "isinstance" = none
  m_len : mg "len" = none
  m_list : mg "list" = none
  m_max : mg "max" = none
  m_min : mg "min" = none
  m_range : mg "range" = none
  m_str : mg "str" = none
  m_tuple : mg "tuple" = none
  m_zip : mg "zip" = none
def seqO : HO → Bool
  | .lst _ => true
  | .tup _ => true
  | .frz _ (.lst _) => true
  | .frz _ (.tup _) => true
  | _ => false
/-- whether a value is an integer -/
def isI (H : Hp) (x : V) (R : Bool → Prop) : Prop := match x with
  | .int _ => R true
  | .bl _ => R false
  | .non => R false
  | .str _ => R false
  | .ref a => (∃ o, H a = some o ∧ seqO o = true) ∧ R false
  | _ => False
theorem isI_knd {K : PySem.W.Frag} {H : Hp} {x : V} {R : Bool → Prop} (h : isI H x R) : ∃ b, Knd K H x b ∧ R b := by
  cases x with
  | int i => exact ⟨_, knd_int i, h⟩
  | bl i => exact ⟨_, knd_bl i, h⟩
  | non => exact ⟨_, knd_non, h⟩
  | str i => exact ⟨_, knd_str i, h⟩
  | ref a =>
    obtain ⟨⟨o, e, so⟩, r⟩ := h
    cases o with
    | lst xs => exact ⟨_, knd_lst e, r⟩
    | tup xs => exact ⟨_, knd_tup e, r⟩
    | frz ob u =>
      cases u with
      | lst xs => exact ⟨_, ⟨_, false, false, .base (.frz e), kit_ty (by decide +kernel), kit_ty (by decide +kernel), rfl⟩, r⟩
      | tup xs => exact ⟨_, ⟨_, false, false, .fTuple e, kit_ty (by decide +kernel), kit_ty (by decide +kernel), rfl⟩, r⟩
      | _ => cases so
    | _ => cases so
  | _ => exact h.elim
def IntL (K : PySem.W.Frag) (H : Hp) (a : Addr) : Prop := ∃ ns : List Int, SqL K H a (ns.map V.int)
theorem ex_sqL {K : PySem.W.Frag} {H H' : Hp} {a : Addr} {xs : List V} (e : Ex H H') (h : SqL K H a xs) : SqL K H' a xs := by
  rcases h with (h | ⟨o, h⟩) | h
  · exact .inl (.inl (e _ _ h))
  · exact .inl (.inr ⟨o, e _ _ h⟩)
  · exact .inr h
theorem IntL_true {K : PySem.W.Frag} {H : Hp} {a p : Addr} {o : HO} (h : IntL K H a) (hp : H p = none) : IntL K (upd H p o) a = True := eq_true (h.imp fun _ z => ex_sqL (Ex.new hp Ex.refl) z)
def sp_is_integer (_ : PySem.W.Frag) : Sp := fun vs H Q _ => Plain H ∧ match vs with
  | [x] => isI H x fun b => Q (.bl b) H
  | _ => False
/-! -/
theorem ok_is_integer {P : Program} {w : World} {K : PySem.W.Frag} {mg : Str → Option Value} {base : Heap} {A : Ad} (T : Tx K mg A) : FnOk P w K mg base CX0 1 A.f_is_integer A.d_is_integer ["value"] (sp_is_integer K) := by
  refine T.F_is_integer.ok sc_is_integer (fun vs H Q E h => ?_) (fun cdv A0 outer s H vs Q E hr h => ?_)
  · obtain ⟨pl, h⟩ := h
    match vs, h with
    | [x], _ => rfl
  · obtain ⟨pl, h⟩ := h
    match vs, h with
    | [x], h =>
      obtain ⟨b, ⟨t, b1, b2, h0, h1, h2, rfl⟩, q⟩ := isI_knd (K := K) h
      refine ⟨_, (pss_fg (pss_one (ps_ret (pe_and (pe_callB call_isi (by rfl) T.m_isinstance (by decide +kernel) (pa_cons (pv 0) (pa_cons (pe_bltn (v := .ty "int") (by rfl) T.m_int (by decide +kernel) rfl) pa_nil))) (pe_one (pe_not (pe_callB call_isi (by rfl) T.m_isinstance (by decide +kernel) (pa_cons (pv 0) (pa_cons (pe_bltn (v := .ty "bool") (by rfl) T.m_bool (by decide +kernel) rfl) pa_nil))))))))), ?_⟩
      refine ⟨_, rfl, x, _, t, _, b1, rfl, .ty _, h0, h1, b1, rfl, ?_⟩
      cases b1
      · exact iteF ⟨H, fgt_ex Ex.refl, pl, q⟩
      · exact iteT ⟨_, rfl, x, _, t, _, b2, rfl, .ty _, h0, h2, b2, rfl, H, fgt_ex Ex.refl, pl, q⟩

/-! ### _law_same, of ints and of lists of ints -/
def sp_L_same0 (_ : PySem.W.Frag) : Sp := fun vs H Q _ => Plain H ∧ match vs with
  | [.int a, .int b] => Q (.bl (decide (a = b))) H
  | _ => False
/-! -/
theorem ok_L_same0 {P : Program} {w : World} {K : PySem.W.Frag} {mg : Str → Option Value} {base : Heap} {A : Ad} (T : Tx K mg A) : FnOk P w K mg base CX0 1 A.f_L_same A.d_L_same ["_law_actual", "_law_due"] (sp_L_same0 K) := by
  refine T.F_L_same.ok sc_L_same (fun vs H Q E h => ?_) (fun cdv A0 outer s H vs Q E hr h => ?_)
  · obtain ⟨pl, h⟩ := h
    match vs, h with
    | [.int a, .int b], _ => rfl
  · obtain ⟨pl, h⟩ := h
    match vs, h with
    | [.int a, .int b], h =>
      refine ⟨_, (pss_fg (pss_cons (ps_if (pt_cmpR op_isN (pv 1) pe_non (nomark _)) (pss_one (ps_ret (pe_cmpR op_isN (pv 0) pe_non (nomark _)))) pss_nil)
      (pss_cons (ps_if (pt_val (pe_callB call_isM (by rfl) T.m_isinstance (by decide +kernel) (pa_cons (pv 1) (pa_cons (pe_bltn (v := .ty "bool") (by rfl) T.m_bool (by decide +kernel) rfl) pa_nil)))) (pss_one (ps_ret (pe_and (pe_callB call_isM (by rfl) T.m_isinstance (by decide +kernel) (pa_cons (pv 0) (pa_cons (pe_bltn (v := .ty "bool") (by rfl) T.m_bool (by decide +kernel) rfl) pa_nil))) (pe_one (pe_cmpR op_eq (pv 0) (pv 1) (nomark _)))))) pss_nil)
      (pss_cons (ps_if (pt_val (pe_callB call_isM (by rfl) T.m_isinstance (by decide +kernel) (pa_cons (pv 1) (pa_cons (pe_bltn (v := .ty "int") (by rfl) T.m_int (by decide +kernel) rfl) pa_nil)))) (pss_one (ps_ret (pe_and (pe_callB call_isM (by rfl) T.m_isinstance (by decide +kernel) (pa_cons (pv 0) (pa_cons (pe_bltn (v := .ty "int") (by rfl) T.m_int (by decide +kernel) rfl) pa_nil))) (pe_and (pe_not (pe_callB call_isM (by rfl) T.m_isinstance (by decide +kernel) (pa_cons (pv 0) (pa_cons (pe_bltn (v := .ty "bool") (by rfl) T.m_bool (by decide +kernel) rfl) pa_nil)))) (pe_one (pe_cmpR op_eq (pv 0) (pv 1) (nomark _))))))) pss_nil)
      (pss_cons (ps_if (pt_val (pe_callB call_isM (by rfl) T.m_isinstance (by decide +kernel) (pa_cons (pv 1) (pa_cons (pe_bltn (v := .ty "str") (by rfl) T.m_str (by decide +kernel) rfl) pa_nil)))) (pss_one (ps_ret (pe_and (pe_callB call_isM (by rfl) T.m_isinstance (by decide +kernel) (pa_cons (pv 0) (pa_cons (pe_bltn (v := .ty "str") (by rfl) T.m_str (by decide +kernel) rfl) pa_nil))) (pe_one (pe_cmpR op_eq (pv 0) (pv 1) (nomark _)))))) pss_nil)
      (pss_cons (ps_if (PW.pt (pw_and (pt_val (pe_callB call_isM (by rfl) T.m_isinstance (by decide +kernel) (pa_cons (pv 1) (pa_cons (pe_bltn (v := .ty "list") (by rfl) T.m_list (by decide +kernel) rfl) pa_nil)))) (pw_and1 (pt_not (pt_val (pe_callB call_isM (by rfl) T.m_isinstance (by decide +kernel) (pa_cons (pv 0) (pa_cons (pe_bltn (v := .ty "list") (by rfl) T.m_list (by decide +kernel) rfl) pa_nil)))))))) (pss_one (ps_ret pe_bl)) pss_nil)
      (pss_cons (ps_if (PW.pt (pw_and (pt_val (pe_callB call_isM (by rfl) T.m_isinstance (by decide +kernel) (pa_cons (pv 1) (pa_cons (pe_bltn (v := .ty "tuple") (by rfl) T.m_tuple (by decide +kernel) rfl) pa_nil)))) (pw_and1 (pt_not (pt_val (pe_callB call_isM (by rfl) T.m_isinstance (by decide +kernel) (pa_cons (pv 0) (pa_cons (pe_bltn (v := .ty "tuple") (by rfl) T.m_tuple (by decide +kernel) rfl) pa_nil)))))))) (pss_one (ps_ret pe_bl)) pss_nil)
      (pss_cons (ps_if (pt_cmpR op_ne (pe_callB call_lenT (by rfl) T.m_len PySem.boot_len (pa_cons (pv 0) pa_nil)) (pe_callB call_lenT (by rfl) T.m_len PySem.boot_len (pa_cons (pv 1) pa_nil)) (nomark _)) (pss_one (ps_ret pe_bl)) pss_nil)
      (pss_cons ps_never
      (pss_one (ps_ret pe_bl))))))))))), ?_⟩
      rw [show start N_L_same [.int a, .int b] = [some (.int a), some (.int b), none, none] from rfl]
      refine fg_gen fun D hnx hrt hbk hct => ?_
      simp only [tAsg, gName, tVar, tC, tOp, tUn, tCB, tCons, tNil, tCall, tIfS, tTest, tB, tNot, tAnd, tOr, tAndV, tOrV, tNotV, tIf, tChain, tRet, tRetN, tDrop, tNext, tNever, tBreak, tCont, tAug, ipI, tPar, rI, rI0, rU, rEq, rNe, scal, tFor_eq, iRng1, iRng2, iList, iTup, tCallN, tLst, tTup, rIxL, rIxT, rIxLT, gSub, rSetL, CMul, CDiv, CPow, rInt1, atI, ixN, isI, List.getElem?_cons_zero, List.getElem?_cons_succ, List.set_cons_zero, List.set_cons_succ, Option.some.injEq, HO.lst.injEq, HO.tup.injEq, V.int.injEq, V.bl.injEq, V.ref.injEq, V.str.injEq, exists_eq_left', exists_eq_left, exists_eq_right, exists_eq_right', List.cons.injEq, and_true, true_and, List.append_nil, List.cons_append, List.nil_append, exists_and_left, exists_and_right, and_self, decide_eq_true_eq, Bool.not_eq_true', decide_eq_false_iff_not, if_true, if_false, Bool.false_eq_true, if_false_left, if_true_left, reduceCtorEq, exists_const, exists_eq', cxOf_K, upd_same, upd_upd, upd_none, upd_ne, upd_in, updI_eq, Option.isSome_some, plain_true, List.length_cons, List.length_nil, Nat.reduceAdd, Nat.reduceMul, Nat.reduceLeDiff, Nat.reduceLT, Int.reduceNeg, ne_eq, and_imp, Bool.not_true, Bool.not_false, not_false_eq_true, not_true_eq_false, Int.reducePow, Int.reduceToNat, Int.reduceLT, Int.reduceLE, Int.reduceMul, Int.reduceAdd, Nat.reducePow, Nat.zero_le, implies_true, true_implies, false_implies, or_true, true_or, or_false, false_or, or_self, false_and, and_false, exists_false, Int.reduceAbs, Option.bind_some, Int.cast_ofNat_Int, Int.ofNat_eq_coe, Int.toNat_zero, Int.toNat_one, Int.reduceSub, Int.reduceEq, Nat.reduceEqDiff, sizeLine_lit, Int.zero_add, Classical.not_not, and_assoc, upd_ne2, eq_self, forall_const, IntL_true, decide_true, decide_false, decide_not, Bool.true_and, Bool.and_true, Bool.false_and, Bool.and_false, Bool.or_true, Bool.true_or, Bool.or_false, Bool.false_or, ite_self, rIsM, rIsM2, tyR, sub_int_int, sub_int_bool, sub_int_str, sub_int_list, sub_int_tuple, sub_int_dict, sub_bool_int, sub_bool_bool, sub_bool_str, sub_bool_list, sub_bool_tuple, sub_bool_dict, sub_str_int, sub_str_bool, sub_str_str, sub_str_list, sub_str_tuple, sub_str_dict, sub_NoneType_int, sub_NoneType_bool, sub_NoneType_str, sub_NoneType_list, sub_NoneType_tuple, sub_NoneType_dict, sub_list_int, sub_list_bool, sub_list_str, sub_list_list, sub_list_tuple, sub_list_dict, sub_tuple_int, sub_tuple_bool, sub_tuple_str, sub_tuple_list, sub_tuple_tuple, sub_tuple_dict, okC_int, okC_bool, okC_str, okC_list, okC_tuple, okC_dict, rEqM, rNeM, datF_int, datF_str, datF_bl, datF_non, datF_ref, allO, rIxTT, rIxTK, gTupT, gTupK, gCons, gNil, rLenT, rLenK, SeqAt.shaped, eqv_none_none, eqv_none_bool, eqv_none_int, eqv_none_str, eqv_none_list, eqv_none_tuple, eqv_bool_none, eqv_bool_bool, eqv_bool_int, eqv_bool_str, eqv_bool_list, eqv_bool_tuple, eqv_int_none, eqv_int_bool, eqv_int_int, eqv_int_str, eqv_int_list, eqv_int_tuple, eqv_str_none, eqv_str_bool, eqv_str_int, eqv_str_str, eqv_str_list, eqv_str_tuple, eqv_list_none, eqv_list_bool, eqv_list_int, eqv_list_str, eqv_list_list, eqv_list_tuple, eqv_tuple_none, eqv_tuple_bool, eqv_tuple_int, eqv_tuple_str, eqv_tuple_list, eqv_tuple_tuple, eqa_nil, eqa_cons, eqa_nc, eqa_cn, lay_none, dep_none, lay_bool, dep_bool, lay_int, dep_int, lay_list, dep_list, lay_tuple, dep_tuple, lay_str, dep_str, laa_nil, laa_cons, dea_nil, dea_cons, Option.map_some, Nat.max_self, Nat.max_zero, Nat.zero_max, Bool.and_self, decide_eq_decide, HO.tup.injEq, beq_iff_eq, Bool.and_eq_true, beq_self_eq_true, Nat.zero_add, Int.reduceBEq, tPar3, ex_sqT1, ex_sqL1, unrF, ite_not, cxOf_H0, tLc_eq, iEnum, iZip, allO_ints, laa_ints, dea_ints, eqa_ints, eqa_ints_nil, wipe_nil, wipe_cons, rListT, rTupT, tYes_eq, tBM, tBM0, rAppend, rExtend, rPop, Nat.reduceSub, List.length_map, List.map_cons, List.map_nil, ints_inj, decide_eq_true_iff, ints_set, List.length_set, tSeq, tFg]
      exact hrt _ _ _ fgt_id pl h
def sp_L_same1 (_ : PySem.W.Frag) : Sp := fun vs H Q _ => Plain H ∧ match vs with
  | [.ref p, .ref q] => ∃ ns ms : List Int, H p = some (.lst (ns.map V.int)) ∧ H q = some (.lst (ms.map V.int)) ∧ Q (.bl (decide (ns = ms))) H
  | _ => False
/-! -/
theorem ok_L_same1 {P : Program} {w : World} {K : PySem.W.Frag} {mg : Str → Option Value} {base : Heap} {A : Ad} (T : Tx K mg A) : FnOk P w K mg base CX0 2 A.f_L_same A.d_L_same ["_law_actual", "_law_due"] (sp_L_same1 K) := by
  refine T.F_L_same.ok sc_L_same (fun vs H Q E h => ?_) (fun cdv A0 outer s H vs Q E hr h => ?_)
  · obtain ⟨pl, h⟩ := h
    match vs, h with
    | [.ref p, .ref q], _ => rfl
  · obtain ⟨pl, h⟩ := h
    match vs, h with
    | [.ref p, .ref q], h =>
      obtain ⟨ns, ms, hp, hq, qq⟩ := h
      refine ⟨_, (pss_fg (pss_cons (ps_if (pt_cmpR op_isN (pv 1) pe_non (nomark _)) (pss_one (ps_ret (pe_cmpR op_isN (pv 0) pe_non (nomark _)))) pss_nil)
      (pss_cons (ps_if (pt_val (pe_callB call_isM (by rfl) T.m_isinstance (by decide +kernel) (pa_cons (pv 1) (pa_cons (pe_bltn (v := .ty "bool") (by rfl) T.m_bool (by decide +kernel) rfl) pa_nil)))) (pss_one (ps_ret (pe_and (pe_callB call_isM (by rfl) T.m_isinstance (by decide +kernel) (pa_cons (pv 0) (pa_cons (pe_bltn (v := .ty "bool") (by rfl) T.m_bool (by decide +kernel) rfl) pa_nil))) (pe_one (pe_cmpR (op_eqM hr.units) (pv 0) (pv 1) (nomark _)))))) pss_nil)
      (pss_cons (ps_if (pt_val (pe_callB call_isM (by rfl) T.m_isinstance (by decide +kernel) (pa_cons (pv 1) (pa_cons (pe_bltn (v := .ty "int") (by rfl) T.m_int (by decide +kernel) rfl) pa_nil)))) (pss_one (ps_ret (pe_and (pe_callB call_isM (by rfl) T.m_isinstance (by decide +kernel) (pa_cons (pv 0) (pa_cons (pe_bltn (v := .ty "int") (by rfl) T.m_int (by decide +kernel) rfl) pa_nil))) (pe_and (pe_not (pe_callB call_isM (by rfl) T.m_isinstance (by decide +kernel) (pa_cons (pv 0) (pa_cons (pe_bltn (v := .ty "bool") (by rfl) T.m_bool (by decide +kernel) rfl) pa_nil)))) (pe_one (pe_cmpR (op_eqM hr.units) (pv 0) (pv 1) (nomark _))))))) pss_nil)
      (pss_cons (ps_if (pt_val (pe_callB call_isM (by rfl) T.m_isinstance (by decide +kernel) (pa_cons (pv 1) (pa_cons (pe_bltn (v := .ty "str") (by rfl) T.m_str (by decide +kernel) rfl) pa_nil)))) (pss_one (ps_ret (pe_and (pe_callB call_isM (by rfl) T.m_isinstance (by decide +kernel) (pa_cons (pv 0) (pa_cons (pe_bltn (v := .ty "str") (by rfl) T.m_str (by decide +kernel) rfl) pa_nil))) (pe_one (pe_cmpR (op_eqM hr.units) (pv 0) (pv 1) (nomark _)))))) pss_nil)
      (pss_cons (ps_if (PW.pt (pw_and (pt_val (pe_callB call_isM (by rfl) T.m_isinstance (by decide +kernel) (pa_cons (pv 1) (pa_cons (pe_bltn (v := .ty "list") (by rfl) T.m_list (by decide +kernel) rfl) pa_nil)))) (pw_and1 (pt_not (pt_val (pe_callB call_isM (by rfl) T.m_isinstance (by decide +kernel) (pa_cons (pv 0) (pa_cons (pe_bltn (v := .ty "list") (by rfl) T.m_list (by decide +kernel) rfl) pa_nil)))))))) (pss_one (ps_ret pe_bl)) pss_nil)
      (pss_cons (ps_if (PW.pt (pw_and (pt_val (pe_callB call_isM (by rfl) T.m_isinstance (by decide +kernel) (pa_cons (pv 1) (pa_cons (pe_bltn (v := .ty "tuple") (by rfl) T.m_tuple (by decide +kernel) rfl) pa_nil)))) (pw_and1 (pt_not (pt_val (pe_callB call_isM (by rfl) T.m_isinstance (by decide +kernel) (pa_cons (pv 0) (pa_cons (pe_bltn (v := .ty "tuple") (by rfl) T.m_tuple (by decide +kernel) rfl) pa_nil)))))))) (pss_one (ps_ret pe_bl)) pss_nil)
      (pss_cons (ps_if (pt_cmpR op_ne (pe_callB call_lenT (by rfl) T.m_len PySem.boot_len (pa_cons (pv 0) pa_nil)) (pe_callB call_lenT (by rfl) T.m_len PySem.boot_len (pa_cons (pv 1) pa_nil)) (nomark _)) (pss_one (ps_ret pe_bl)) pss_nil)
      (pss_cons (ps_for PassesOwn.never rfl (pi_zip (by rfl) T.m_zip (pa_cons (pv 0) (pa_cons (pv 1) pa_nil))) (pg_tupT (n := 2) rfl (pgs_cons (pg_name (i := 2) sc_L_same.nd rfl (.inl rfl)) (pgs_cons (pg_name (i := 3) sc_L_same.nd rfl (.inl rfl)) pgs_nil)))
      (pss_dr (pss_fg (pss_one (ps_if (pt_not (pt_val (pe_call (ok_L_same0 T) (hr.mono (by decide)) (by rfl) T.g_L_same T.F_L_same.kp T.b_L_same .nil pass0 (pa_cons (pv 2) (pa_cons (pv 3) pa_nil))))) (pss_one (ps_ret pe_bl)) pss_nil)))))
      (pss_one (ps_ret pe_bl))))))))))), ?_⟩
      rw [show start N_L_same [.ref p, .ref q] = [some (.ref p), some (.ref q), none, none] from rfl]
      refine fg_gen fun D hnx hrt hbk hct => ?_
      repeat (refine seq_gen fun k hk => ?_; simp only [tAsg, gName, tVar, tC, tOp, tUn, tCB, tCons, tNil, tCall, tIfS, tTest, tB, tNot, tAnd, tOr, tAndV, tOrV, tNotV, tIf, tChain, tRet, tRetN, tDrop, tNext, tNever, tBreak, tCont, tAug, ipI, tPar, rI, rI0, rU, rEq, rNe, scal, tFor_eq, iRng1, iRng2, iList, iTup, tCallN, tLst, tTup, rIxL, rIxT, rIxLT, gSub, rSetL, CMul, CDiv, CPow, rInt1, atI, ixN, isI, List.getElem?_cons_zero, List.getElem?_cons_succ, List.set_cons_zero, List.set_cons_succ, Option.some.injEq, HO.lst.injEq, HO.tup.injEq, V.int.injEq, V.bl.injEq, V.ref.injEq, V.str.injEq, exists_eq_left', exists_eq_left, exists_eq_right, exists_eq_right', List.cons.injEq, and_true, true_and, List.append_nil, List.cons_append, List.nil_append, exists_and_left, exists_and_right, and_self, decide_eq_true_eq, Bool.not_eq_true', decide_eq_false_iff_not, if_true, if_false, Bool.false_eq_true, if_false_left, if_true_left, reduceCtorEq, exists_const, exists_eq', cxOf_K, upd_same, upd_upd, upd_none, upd_ne, upd_in, updI_eq, Option.isSome_some, plain_true, List.length_cons, List.length_nil, Nat.reduceAdd, Nat.reduceMul, Nat.reduceLeDiff, Nat.reduceLT, Int.reduceNeg, ne_eq, and_imp, Bool.not_true, Bool.not_false, not_false_eq_true, not_true_eq_false, Int.reducePow, Int.reduceToNat, Int.reduceLT, Int.reduceLE, Int.reduceMul, Int.reduceAdd, Nat.reducePow, Nat.zero_le, implies_true, true_implies, false_implies, or_true, true_or, or_false, false_or, or_self, false_and, and_false, exists_false, Int.reduceAbs, Option.bind_some, Int.cast_ofNat_Int, Int.ofNat_eq_coe, Int.toNat_zero, Int.toNat_one, Int.reduceSub, Int.reduceEq, Nat.reduceEqDiff, sizeLine_lit, Int.zero_add, Classical.not_not, and_assoc, upd_ne2, eq_self, forall_const, IntL_true, decide_true, decide_false, decide_not, Bool.true_and, Bool.and_true, Bool.false_and, Bool.and_false, Bool.or_true, Bool.true_or, Bool.or_false, Bool.false_or, ite_self, rIsM, rIsM2, tyR, sub_int_int, sub_int_bool, sub_int_str, sub_int_list, sub_int_tuple, sub_int_dict, sub_bool_int, sub_bool_bool, sub_bool_str, sub_bool_list, sub_bool_tuple, sub_bool_dict, sub_str_int, sub_str_bool, sub_str_str, sub_str_list, sub_str_tuple, sub_str_dict, sub_NoneType_int, sub_NoneType_bool, sub_NoneType_str, sub_NoneType_list, sub_NoneType_tuple, sub_NoneType_dict, sub_list_int, sub_list_bool, sub_list_str, sub_list_list, sub_list_tuple, sub_list_dict, sub_tuple_int, sub_tuple_bool, sub_tuple_str, sub_tuple_list, sub_tuple_tuple, sub_tuple_dict, okC_int, okC_bool, okC_str, okC_list, okC_tuple, okC_dict, rEqM, rNeM, datF_int, datF_str, datF_bl, datF_non, datF_ref, allO, rIxTT, rIxTK, gTupT, gTupK, gCons, gNil, rLenT, rLenK, SeqAt.shaped, eqv_none_none, eqv_none_bool, eqv_none_int, eqv_none_str, eqv_none_list, eqv_none_tuple, eqv_bool_none, eqv_bool_bool, eqv_bool_int, eqv_bool_str, eqv_bool_list, eqv_bool_tuple, eqv_int_none, eqv_int_bool, eqv_int_int, eqv_int_str, eqv_int_list, eqv_int_tuple, eqv_str_none, eqv_str_bool, eqv_str_int, eqv_str_str, eqv_str_list, eqv_str_tuple, eqv_list_none, eqv_list_bool, eqv_list_int, eqv_list_str, eqv_list_list, eqv_list_tuple, eqv_tuple_none, eqv_tuple_bool, eqv_tuple_int, eqv_tuple_str, eqv_tuple_list, eqv_tuple_tuple, eqa_nil, eqa_cons, eqa_nc, eqa_cn, lay_none, dep_none, lay_bool, dep_bool, lay_int, dep_int, lay_list, dep_list, lay_tuple, dep_tuple, lay_str, dep_str, laa_nil, laa_cons, dea_nil, dea_cons, Option.map_some, Nat.max_self, Nat.max_zero, Nat.zero_max, Bool.and_self, decide_eq_decide, HO.tup.injEq, beq_iff_eq, Bool.and_eq_true, beq_self_eq_true, Nat.zero_add, Int.reduceBEq, tPar3, ex_sqT1, ex_sqL1, unrF, ite_not, cxOf_H0, tLc_eq, iEnum, iZip, allO_ints, laa_ints, dea_ints, eqa_ints, eqa_ints_nil, wipe_nil, wipe_cons, rListT, rTupT, tYes_eq, tBM, tBM0, rAppend, rExtend, rPop, Nat.reduceSub, List.length_map, List.map_cons, List.map_nil, ints_inj, decide_eq_true_iff, ints_set, List.length_set, sp_L_same0, *])
      split
      · rename_i hl
        have hl : ns.length = ms.length := by omega
        refine seq_gen fun k hk => ?_
        simp only [tAsg, gName, tVar, tC, tOp, tUn, tCB, tCons, tNil, tCall, tIfS, tTest, tB, tNot, tAnd, tOr, tAndV, tOrV, tNotV, tIf, tChain, tRet, tRetN, tDrop, tNext, tNever, tBreak, tCont, tAug, ipI, tPar, rI, rI0, rU, rEq, rNe, scal, tFor_eq, iRng1, iRng2, iList, iTup, tCallN, tLst, tTup, rIxL, rIxT, rIxLT, gSub, rSetL, CMul, CDiv, CPow, rInt1, atI, ixN, isI, List.getElem?_cons_zero, List.getElem?_cons_succ, List.set_cons_zero, List.set_cons_succ, Option.some.injEq, HO.lst.injEq, HO.tup.injEq, V.int.injEq, V.bl.injEq, V.ref.injEq, V.str.injEq, exists_eq_left', exists_eq_left, exists_eq_right, exists_eq_right', List.cons.injEq, and_true, true_and, List.append_nil, List.cons_append, List.nil_append, exists_and_left, exists_and_right, and_self, decide_eq_true_eq, Bool.not_eq_true', decide_eq_false_iff_not, if_true, if_false, Bool.false_eq_true, if_false_left, if_true_left, reduceCtorEq, exists_const, exists_eq', cxOf_K, upd_same, upd_upd, upd_none, upd_ne, upd_in, updI_eq, Option.isSome_some, plain_true, List.length_cons, List.length_nil, Nat.reduceAdd, Nat.reduceMul, Nat.reduceLeDiff, Nat.reduceLT, Int.reduceNeg, ne_eq, and_imp, Bool.not_true, Bool.not_false, not_false_eq_true, not_true_eq_false, Int.reducePow, Int.reduceToNat, Int.reduceLT, Int.reduceLE, Int.reduceMul, Int.reduceAdd, Nat.reducePow, Nat.zero_le, implies_true, true_implies, false_implies, or_true, true_or, or_false, false_or, or_self, false_and, and_false, exists_false, Int.reduceAbs, Option.bind_some, Int.cast_ofNat_Int, Int.ofNat_eq_coe, Int.toNat_zero, Int.toNat_one, Int.reduceSub, Int.reduceEq, Nat.reduceEqDiff, sizeLine_lit, Int.zero_add, Classical.not_not, and_assoc, upd_ne2, eq_self, forall_const, IntL_true, decide_true, decide_false, decide_not, Bool.true_and, Bool.and_true, Bool.false_and, Bool.and_false, Bool.or_true, Bool.true_or, Bool.or_false, Bool.false_or, ite_self, rIsM, rIsM2, tyR, sub_int_int, sub_int_bool, sub_int_str, sub_int_list, sub_int_tuple, sub_int_dict, sub_bool_int, sub_bool_bool, sub_bool_str, sub_bool_list, sub_bool_tuple, sub_bool_dict, sub_str_int, sub_str_bool, sub_str_str, sub_str_list, sub_str_tuple, sub_str_dict, sub_NoneType_int, sub_NoneType_bool, sub_NoneType_str, sub_NoneType_list, sub_NoneType_tuple, sub_NoneType_dict, sub_list_int, sub_list_bool, sub_list_str, sub_list_list, sub_list_tuple, sub_list_dict, sub_tuple_int, sub_tuple_bool, sub_tuple_str, sub_tuple_list, sub_tuple_tuple, sub_tuple_dict, okC_int, okC_bool, okC_str, okC_list, okC_tuple, okC_dict, rEqM, rNeM, datF_int, datF_str, datF_bl, datF_non, datF_ref, allO, rIxTT, rIxTK, gTupT, gTupK, gCons, gNil, rLenT, rLenK, SeqAt.shaped, eqv_none_none, eqv_none_bool, eqv_none_int, eqv_none_str, eqv_none_list, eqv_none_tuple, eqv_bool_none, eqv_bool_bool, eqv_bool_int, eqv_bool_str, eqv_bool_list, eqv_bool_tuple, eqv_int_none, eqv_int_bool, eqv_int_int, eqv_int_str, eqv_int_list, eqv_int_tuple, eqv_str_none, eqv_str_bool, eqv_str_int, eqv_str_str, eqv_str_list, eqv_str_tuple, eqv_list_none, eqv_list_bool, eqv_list_int, eqv_list_str, eqv_list_list, eqv_list_tuple, eqv_tuple_none, eqv_tuple_bool, eqv_tuple_int, eqv_tuple_str, eqv_tuple_list, eqv_tuple_tuple, eqa_nil, eqa_cons, eqa_nc, eqa_cn, lay_none, dep_none, lay_bool, dep_bool, lay_int, dep_int, lay_list, dep_list, lay_tuple, dep_tuple, lay_str, dep_str, laa_nil, laa_cons, dea_nil, dea_cons, Option.map_some, Nat.max_self, Nat.max_zero, Nat.zero_max, Bool.and_self, decide_eq_decide, HO.tup.injEq, beq_iff_eq, Bool.and_eq_true, beq_self_eq_true, Nat.zero_add, Int.reduceBEq, tPar3, ex_sqT1, ex_sqL1, unrF, ite_not, cxOf_H0, tLc_eq, iEnum, iZip, allO_ints, laa_ints, dea_ints, eqa_ints, eqa_ints_nil, wipe_nil, wipe_cons, rListT, rTupT, tYes_eq, tBM, tBM0, rAppend, rExtend, rPop, Nat.reduceSub, List.length_map, List.map_cons, List.map_nil, ints_inj, decide_eq_true_iff, ints_set, List.length_set, sp_L_same0]
        subst hk
        refine ⟨⟨_, SqL.of hp⟩, ⟨_, SqL.of hq⟩, forB_zip (xs := ns.map V.int) (ys := ms.map V.int) (by rw [List.length_map, List.length_map]; exact hl) (fun i σ H' => H' = H ∧ (∃ y2 y3, σ = [some (V.ref p), some (V.ref q), y2, y3]) ∧ ns.take i = ms.take i) ⟨rfl, ⟨_, _, rfl⟩, rfl⟩ ?_ ?_ ?_⟩
        · rintro i σ H' _ ⟨rfl, _⟩
          exact ⟨SqL.of hp, SqL.of hq⟩
        · rintro i x y σ H' hx hy ⟨rfl, ⟨y2, y3, rfl⟩, ht⟩ t nt
          obtain ⟨a, ha, rfl⟩ := get_ints hx
          obtain ⟨b, hb, rfl⟩ := get_ints hy
          simp only [tAsg, gName, tVar, tC, tOp, tUn, tCB, tCons, tNil, tCall, tIfS, tTest, tB, tNot, tAnd, tOr, tAndV, tOrV, tNotV, tIf, tChain, tRet, tRetN, tDrop, tNext, tNever, tBreak, tCont, tAug, ipI, tPar, rI, rI0, rU, rEq, rNe, scal, tFor_eq, iRng1, iRng2, iList, iTup, tCallN, tLst, tTup, rIxL, rIxT, rIxLT, gSub, rSetL, CMul, CDiv, CPow, rInt1, atI, ixN, isI, List.getElem?_cons_zero, List.getElem?_cons_succ, List.set_cons_zero, List.set_cons_succ, Option.some.injEq, HO.lst.injEq, HO.tup.injEq, V.int.injEq, V.bl.injEq, V.ref.injEq, V.str.injEq, exists_eq_left', exists_eq_left, exists_eq_right, exists_eq_right', List.cons.injEq, and_true, true_and, List.append_nil, List.cons_append, List.nil_append, exists_and_left, exists_and_right, and_self, decide_eq_true_eq, Bool.not_eq_true', decide_eq_false_iff_not, if_true, if_false, Bool.false_eq_true, if_false_left, if_true_left, reduceCtorEq, exists_const, exists_eq', cxOf_K, upd_same, upd_upd, upd_none, upd_ne, upd_in, updI_eq, Option.isSome_some, plain_true, List.length_cons, List.length_nil, Nat.reduceAdd, Nat.reduceMul, Nat.reduceLeDiff, Nat.reduceLT, Int.reduceNeg, ne_eq, and_imp, Bool.not_true, Bool.not_false, not_false_eq_true, not_true_eq_false, Int.reducePow, Int.reduceToNat, Int.reduceLT, Int.reduceLE, Int.reduceMul, Int.reduceAdd, Nat.reducePow, Nat.zero_le, implies_true, true_implies, false_implies, or_true, true_or, or_false, false_or, or_self, false_and, and_false, exists_false, Int.reduceAbs, Option.bind_some, Int.cast_ofNat_Int, Int.ofNat_eq_coe, Int.toNat_zero, Int.toNat_one, Int.reduceSub, Int.reduceEq, Nat.reduceEqDiff, sizeLine_lit, Int.zero_add, Classical.not_not, and_assoc, upd_ne2, eq_self, forall_const, IntL_true, decide_true, decide_false, decide_not, Bool.true_and, Bool.and_true, Bool.false_and, Bool.and_false, Bool.or_true, Bool.true_or, Bool.or_false, Bool.false_or, ite_self, rIsM, rIsM2, tyR, sub_int_int, sub_int_bool, sub_int_str, sub_int_list, sub_int_tuple, sub_int_dict, sub_bool_int, sub_bool_bool, sub_bool_str, sub_bool_list, sub_bool_tuple, sub_bool_dict, sub_str_int, sub_str_bool, sub_str_str, sub_str_list, sub_str_tuple, sub_str_dict, sub_NoneType_int, sub_NoneType_bool, sub_NoneType_str, sub_NoneType_list, sub_NoneType_tuple, sub_NoneType_dict, sub_list_int, sub_list_bool, sub_list_str, sub_list_list, sub_list_tuple, sub_list_dict, sub_tuple_int, sub_tuple_bool, sub_tuple_str, sub_tuple_list, sub_tuple_tuple, sub_tuple_dict, okC_int, okC_bool, okC_str, okC_list, okC_tuple, okC_dict, rEqM, rNeM, datF_int, datF_str, datF_bl, datF_non, datF_ref, allO, rIxTT, rIxTK, gTupT, gTupK, gCons, gNil, rLenT, rLenK, SeqAt.shaped, eqv_none_none, eqv_none_bool, eqv_none_int, eqv_none_str, eqv_none_list, eqv_none_tuple, eqv_bool_none, eqv_bool_bool, eqv_bool_int, eqv_bool_str, eqv_bool_list, eqv_bool_tuple, eqv_int_none, eqv_int_bool, eqv_int_int, eqv_int_str, eqv_int_list, eqv_int_tuple, eqv_str_none, eqv_str_bool, eqv_str_int, eqv_str_str, eqv_str_list, eqv_str_tuple, eqv_list_none, eqv_list_bool, eqv_list_int, eqv_list_str, eqv_list_list, eqv_list_tuple, eqv_tuple_none, eqv_tuple_bool, eqv_tuple_int, eqv_tuple_str, eqv_tuple_list, eqv_tuple_tuple, eqa_nil, eqa_cons, eqa_nc, eqa_cn, lay_none, dep_none, lay_bool, dep_bool, lay_int, dep_int, lay_list, dep_list, lay_tuple, dep_tuple, lay_str, dep_str, laa_nil, laa_cons, dea_nil, dea_cons, Option.map_some, Nat.max_self, Nat.max_zero, Nat.zero_max, Bool.and_self, decide_eq_decide, HO.tup.injEq, beq_iff_eq, Bool.and_eq_true, beq_self_eq_true, Nat.zero_add, Int.reduceBEq, tPar3, ex_sqT1, ex_sqL1, unrF, ite_not, cxOf_H0, tLc_eq, iEnum, iZip, allO_ints, laa_ints, dea_ints, eqa_ints, eqa_ints_nil, wipe_nil, wipe_cons, rListT, rTupT, tYes_eq, tBM, tBM0, rAppend, rExtend, rPop, Nat.reduceSub, List.length_map, List.map_cons, List.map_nil, ints_inj, decide_eq_true_iff, ints_set, List.length_set, sp_L_same0]
          refine dr_tup nt .refl pl ?_
          refine fg_gen fun D2 hnx2 hrt2 hbk2 hct2 => ?_
          simp only [tAsg, gName, tVar, tC, tOp, tUn, tCB, tCons, tNil, tCall, tIfS, tTest, tB, tNot, tAnd, tOr, tAndV, tOrV, tNotV, tIf, tChain, tRet, tRetN, tDrop, tNext, tNever, tBreak, tCont, tAug, ipI, tPar, rI, rI0, rU, rEq, rNe, scal, tFor_eq, iRng1, iRng2, iList, iTup, tCallN, tLst, tTup, rIxL, rIxT, rIxLT, gSub, rSetL, CMul, CDiv, CPow, rInt1, atI, ixN, isI, List.getElem?_cons_zero, List.getElem?_cons_succ, List.set_cons_zero, List.set_cons_succ, Option.some.injEq, HO.lst.injEq, HO.tup.injEq, V.int.injEq, V.bl.injEq, V.ref.injEq, V.str.injEq, exists_eq_left', exists_eq_left, exists_eq_right, exists_eq_right', List.cons.injEq, and_true, true_and, List.append_nil, List.cons_append, List.nil_append, exists_and_left, exists_and_right, and_self, decide_eq_true_eq, Bool.not_eq_true', decide_eq_false_iff_not, if_true, if_false, Bool.false_eq_true, if_false_left, if_true_left, reduceCtorEq, exists_const, exists_eq', cxOf_K, upd_same, upd_upd, upd_none, upd_ne, upd_in, updI_eq, Option.isSome_some, plain_true, List.length_cons, List.length_nil, Nat.reduceAdd, Nat.reduceMul, Nat.reduceLeDiff, Nat.reduceLT, Int.reduceNeg, ne_eq, and_imp, Bool.not_true, Bool.not_false, not_false_eq_true, not_true_eq_false, Int.reducePow, Int.reduceToNat, Int.reduceLT, Int.reduceLE, Int.reduceMul, Int.reduceAdd, Nat.reducePow, Nat.zero_le, implies_true, true_implies, false_implies, or_true, true_or, or_false, false_or, or_self, false_and, and_false, exists_false, Int.reduceAbs, Option.bind_some, Int.cast_ofNat_Int, Int.ofNat_eq_coe, Int.toNat_zero, Int.toNat_one, Int.reduceSub, Int.reduceEq, Nat.reduceEqDiff, sizeLine_lit, Int.zero_add, Classical.not_not, and_assoc, upd_ne2, eq_self, forall_const, IntL_true, decide_true, decide_false, decide_not, Bool.true_and, Bool.and_true, Bool.false_and, Bool.and_false, Bool.or_true, Bool.true_or, Bool.or_false, Bool.false_or, ite_self, rIsM, rIsM2, tyR, sub_int_int, sub_int_bool, sub_int_str, sub_int_list, sub_int_tuple, sub_int_dict, sub_bool_int, sub_bool_bool, sub_bool_str, sub_bool_list, sub_bool_tuple, sub_bool_dict, sub_str_int, sub_str_bool, sub_str_str, sub_str_list, sub_str_tuple, sub_str_dict, sub_NoneType_int, sub_NoneType_bool, sub_NoneType_str, sub_NoneType_list, sub_NoneType_tuple, sub_NoneType_dict, sub_list_int, sub_list_bool, sub_list_str, sub_list_list, sub_list_tuple, sub_list_dict, sub_tuple_int, sub_tuple_bool, sub_tuple_str, sub_tuple_list, sub_tuple_tuple, sub_tuple_dict, okC_int, okC_bool, okC_str, okC_list, okC_tuple, okC_dict, rEqM, rNeM, datF_int, datF_str, datF_bl, datF_non, datF_ref, allO, rIxTT, rIxTK, gTupT, gTupK, gCons, gNil, rLenT, rLenK, SeqAt.shaped, eqv_none_none, eqv_none_bool, eqv_none_int, eqv_none_str, eqv_none_list, eqv_none_tuple, eqv_bool_none, eqv_bool_bool, eqv_bool_int, eqv_bool_str, eqv_bool_list, eqv_bool_tuple, eqv_int_none, eqv_int_bool, eqv_int_int, eqv_int_str, eqv_int_list, eqv_int_tuple, eqv_str_none, eqv_str_bool, eqv_str_int, eqv_str_str, eqv_str_list, eqv_str_tuple, eqv_list_none, eqv_list_bool, eqv_list_int, eqv_list_str, eqv_list_list, eqv_list_tuple, eqv_tuple_none, eqv_tuple_bool, eqv_tuple_int, eqv_tuple_str, eqv_tuple_list, eqv_tuple_tuple, eqa_nil, eqa_cons, eqa_nc, eqa_cn, lay_none, dep_none, lay_bool, dep_bool, lay_int, dep_int, lay_list, dep_list, lay_tuple, dep_tuple, lay_str, dep_str, laa_nil, laa_cons, dea_nil, dea_cons, Option.map_some, Nat.max_self, Nat.max_zero, Nat.zero_max, Bool.and_self, decide_eq_decide, HO.tup.injEq, beq_iff_eq, Bool.and_eq_true, beq_self_eq_true, Nat.zero_add, Int.reduceBEq, tPar3, ex_sqT1, ex_sqL1, unrF, ite_not, cxOf_H0, tLc_eq, iEnum, iZip, allO_ints, laa_ints, dea_ints, eqa_ints, eqa_ints_nil, wipe_nil, wipe_cons, rListT, rTupT, tYes_eq, tBM, tBM0, rAppend, rExtend, rPop, Nat.reduceSub, List.length_map, List.map_cons, List.map_nil, ints_inj, decide_eq_true_iff, ints_set, List.length_set, sp_L_same0]
          split
          · rename_i e
            refine hnx2 _ _ _ fgt_id pl ⟨rfl, ⟨_, _, rfl⟩, ?_⟩
            rw [List.take_add_one, List.take_add_one, ht, ha, hb, e]
          · rename_i e
            refine hrt2 _ _ _ fgt_id pl (hrt _ _ _ fgt_id pl ?_)
            rw [decide_eq_false fun z => e (by rw [z, hb] at ha; exact (Option.some.inj ha).symm)] at qq
            exact qq
        · rintro σ H' ⟨rfl, ⟨y2, y3, rfl⟩, ht⟩
          rw [List.length_map, List.take_length, hl, List.take_length] at ht
          refine hrt _ _ _ fgt_id pl ?_
          rw [decide_eq_true ht] at qq
          exact qq
      · rename_i hl
        refine hrt _ _ _ fgt_id pl ?_
        rw [decide_eq_false fun z => hl (by rw [z])] at qq
        exact qq

/-! ### marks -/
def codeU (n : Int) : Int := if 0 ≤ n then 2 * n else -2 * n - 1
def markF (m : Int) (ns : List Int) : Int := ns.foldl (fun m n => (m * 31 + codeU n) % 9973) m
theorem codeU_nonneg (n : Int) : 0 ≤ codeU n := by
  unfold codeU
  split <;> omega
def sp_code_number (_ : PySem.W.Frag) : Sp := fun vs H Q _ => Plain H ∧ match vs with
  | [.int n] => Q (.int (codeU n)) H
  | _ => False
/-! -/
theorem ok_code_number {P : Program} {w : World} {K : PySem.W.Frag} {mg : Str → Option Value} {base : Heap} {A : Ad} (T : Tx K mg A) : FnOk P w K mg base CX0 1 A.f_code_number A.d_code_number ["number"] (sp_code_number K) := by
  refine T.F_code_number.ok sc_code_number (fun vs H Q E h => ?_) (fun cdv A0 outer s H vs Q E hr h => ?_)
  · obtain ⟨pl, h⟩ := h
    match vs, h with
    | [.int a], _ => rfl
  · obtain ⟨pl, h⟩ := h
    match vs, h with
    | [.int a], h =>
      refine ⟨_, (pss_fg (pss_one (ps_ret (pe_ifExp (pt_cmpR op_ge (pv 0) pe_int (nomark _)) (pe_op op_mul pe_int (pv 0)) (pe_op op_sub (pe_op op_mul (pe_un un_neg pe_int) (pv 0)) pe_int))))), ?_⟩
      rw [show start N_code_number [.int a] = [some (.int a)] from rfl]
      refine fg_gen fun D hnx hrt hbk hct => ?_
      simp only [tAsg, gName, tVar, tC, tOp, tUn, tCB, tCons, tNil, tCall, tIfS, tTest, tB, tNot, tAnd, tOr, tAndV, tOrV, tNotV, tIf, tChain, tRet, tRetN, tDrop, tNext, tNever, tBreak, tCont, tAug, ipI, tPar, rI, rI0, rU, rEq, rNe, scal, tFor_eq, iRng1, iRng2, iList, iTup, tCallN, tLst, tTup, rIxL, rIxT, rIxLT, gSub, rSetL, CMul, CDiv, CPow, rInt1, atI, ixN, isI, List.getElem?_cons_zero, List.getElem?_cons_succ, List.set_cons_zero, List.set_cons_succ, Option.some.injEq, HO.lst.injEq, HO.tup.injEq, V.int.injEq, V.bl.injEq, V.ref.injEq, V.str.injEq, exists_eq_left', exists_eq_left, exists_eq_right, exists_eq_right', List.cons.injEq, and_true, true_and, List.append_nil, List.cons_append, List.nil_append, exists_and_left, exists_and_right, and_self, decide_eq_true_eq, Bool.not_eq_true', decide_eq_false_iff_not, if_true, if_false, Bool.false_eq_true, if_false_left, if_true_left, reduceCtorEq, exists_const, exists_eq', cxOf_K, upd_same, upd_upd, upd_none, upd_ne, upd_in, updI_eq, Option.isSome_some, plain_true, List.length_cons, List.length_nil, Nat.reduceAdd, Nat.reduceMul, Nat.reduceLeDiff, Nat.reduceLT, Int.reduceNeg, ne_eq, and_imp, Bool.not_true, Bool.not_false, not_false_eq_true, not_true_eq_false, Int.reducePow, Int.reduceToNat, Int.reduceLT, Int.reduceLE, Int.reduceMul, Int.reduceAdd, Nat.reducePow, Nat.zero_le, implies_true, true_implies, false_implies, or_true, true_or, or_false, false_or, or_self, false_and, and_false, exists_false, Int.reduceAbs, Option.bind_some, Int.cast_ofNat_Int, Int.ofNat_eq_coe, Int.toNat_zero, Int.toNat_one, Int.reduceSub, Int.reduceEq, Nat.reduceEqDiff, sizeLine_lit, Int.zero_add, Classical.not_not, and_assoc, upd_ne2, eq_self, forall_const, IntL_true, decide_true, decide_false, decide_not, Bool.true_and, Bool.and_true, Bool.false_and, Bool.and_false, Bool.or_true, Bool.true_or, Bool.or_false, Bool.false_or, ite_self, rIsM, rIsM2, tyR, sub_int_int, sub_int_bool, sub_int_str, sub_int_list, sub_int_tuple, sub_int_dict, sub_bool_int, sub_bool_bool, sub_bool_str, sub_bool_list, sub_bool_tuple, sub_bool_dict, sub_str_int, sub_str_bool, sub_str_str, sub_str_list, sub_str_tuple, sub_str_dict, sub_NoneType_int, sub_NoneType_bool, sub_NoneType_str, sub_NoneType_list, sub_NoneType_tuple, sub_NoneType_dict, sub_list_int, sub_list_bool, sub_list_str, sub_list_list, sub_list_tuple, sub_list_dict, sub_tuple_int, sub_tuple_bool, sub_tuple_str, sub_tuple_list, sub_tuple_tuple, sub_tuple_dict, okC_int, okC_bool, okC_str, okC_list, okC_tuple, okC_dict, rEqM, rNeM, datF_int, datF_str, datF_bl, datF_non, datF_ref, allO, rIxTT, rIxTK, gTupT, gTupK, gCons, gNil, rLenT, rLenK, SeqAt.shaped, eqv_none_none, eqv_none_bool, eqv_none_int, eqv_none_str, eqv_none_list, eqv_none_tuple, eqv_bool_none, eqv_bool_bool, eqv_bool_int, eqv_bool_str, eqv_bool_list, eqv_bool_tuple, eqv_int_none, eqv_int_bool, eqv_int_int, eqv_int_str, eqv_int_list, eqv_int_tuple, eqv_str_none, eqv_str_bool, eqv_str_int, eqv_str_str, eqv_str_list, eqv_str_tuple, eqv_list_none, eqv_list_bool, eqv_list_int, eqv_list_str, eqv_list_list, eqv_list_tuple, eqv_tuple_none, eqv_tuple_bool, eqv_tuple_int, eqv_tuple_str, eqv_tuple_list, eqv_tuple_tuple, eqa_nil, eqa_cons, eqa_nc, eqa_cn, lay_none, dep_none, lay_bool, dep_bool, lay_int, dep_int, lay_list, dep_list, lay_tuple, dep_tuple, lay_str, dep_str, laa_nil, laa_cons, dea_nil, dea_cons, Option.map_some, Nat.max_self, Nat.max_zero, Nat.zero_max, Bool.and_self, decide_eq_decide, HO.tup.injEq, beq_iff_eq, Bool.and_eq_true, beq_self_eq_true, Nat.zero_add, Int.reduceBEq, tPar3, ex_sqT1, ex_sqL1, unrF, ite_not, cxOf_H0, tLc_eq, iEnum, iZip, allO_ints, laa_ints, dea_ints, eqa_ints, eqa_ints_nil, wipe_nil, wipe_cons, rListT, rTupT, tYes_eq, tBM, tBM0, rAppend, rExtend, rPop, Nat.reduceSub, List.length_map, List.map_cons, List.map_nil, ints_inj, decide_eq_true_iff, ints_set, List.length_set, tSeq, tFg]
      have h : Q (.int (codeU a)) H := h
      unfold codeU at h
      split
      · rename_i c
        rw [if_pos c] at h
        exact hrt _ _ _ fgt_id pl h
      · rename_i c
        rw [if_neg c] at h
        exact hrt _ _ _ fgt_id pl h
def sp_require_numbers (_ : PySem.W.Frag) : Sp := fun vs H Q _ => Plain H ∧ match vs with
  | [.ref p] => ∃ ns : List Int, H p = some (.lst (ns.map V.int)) ∧ ns.length ≤ 64 ∧ Q .non H
  | _ => False
/-! -/
theorem ok_require_numbers {P : Program} {w : World} {K : PySem.W.Frag} {mg : Str → Option Value} {base : Heap} {A : Ad} (T : Tx K mg A) : FnOk P w K mg base CX0 5 A.f_require_numbers A.d_require_numbers ["numbers"] (sp_require_numbers K) := by
  refine T.F_require_numbers.ok sc_require_numbers (fun vs H Q E h => ?_) (fun cdv A0 outer s H vs Q E hr h => ?_)
  · obtain ⟨pl, h⟩ := h
    match vs, h with
    | [.ref p], _ => rfl
  · obtain ⟨pl, h⟩ := h
    match vs, h with
    | [.ref p], h =>
      obtain ⟨ns, hp, hl, q⟩ := h
      have hl2 : ¬ (64 : Int) < (ns.length : Int) := by omega
      refine ⟨_, (pss_fg (pss_cons (ps_if (PW.pt (pw_or (pt_not (pt_val (pe_callB call_isM (by rfl) T.m_isinstance (by decide +kernel) (pa_cons (pv 0) (pa_cons (pe_bltn (v := .ty "list") (by rfl) T.m_list (by decide +kernel) rfl) pa_nil))))) (pw_or1 (pt_cmpR op_gt (pe_callB call_lenT (by rfl) T.m_len PySem.boot_len (pa_cons (pv 0) pa_nil)) (pe_gc (by rfl) T.g_MOST_NUMBERS) (nomark _))))) (pss_one ps_never) pss_nil)
      (pss_one (ps_for PassesOwn.never rfl (pi_enum (by rfl) T.m_enumerate (pa_cons (pv 0) pa_nil)) (pg_tupT (n := 2) rfl (pgs_cons (pg_name (i := 1) sc_require_numbers.nd rfl (.inl rfl)) (pgs_cons (pg_name (i := 2) sc_require_numbers.nd rfl (.inl rfl)) pgs_nil)))
      (pss_dr (pss_fg (pss_one (ps_if (pt_not (pt_val (pe_call (ok_is_integer T) (hr.mono (by decide)) (by rfl) T.g_is_integer T.F_is_integer.kp T.b_is_integer .nil pass0 (pa_cons (pv 2) pa_nil)))) (pss_one ps_never) pss_nil)))))))), ?_⟩
      rw [show start N_require_numbers [.ref p] = [some (.ref p), none, none] from rfl]
      refine fg_gen fun D hnx hrt hbk hct => ?_
      refine seq_gen fun k hk => ?_
      simp only [tAsg, gName, tVar, tC, tOp, tUn, tCB, tCons, tNil, tCall, tIfS, tTest, tB, tNot, tAnd, tOr, tAndV, tOrV, tNotV, tIf, tChain, tRet, tRetN, tDrop, tNext, tNever, tBreak, tCont, tAug, ipI, tPar, rI, rI0, rU, rEq, rNe, scal, tFor_eq, iRng1, iRng2, iList, iTup, tCallN, tLst, tTup, rIxL, rIxT, rIxLT, gSub, rSetL, CMul, CDiv, CPow, rInt1, atI, ixN, isI, List.getElem?_cons_zero, List.getElem?_cons_succ, List.set_cons_zero, List.set_cons_succ, Option.some.injEq, HO.lst.injEq, HO.tup.injEq, V.int.injEq, V.bl.injEq, V.ref.injEq, V.str.injEq, exists_eq_left', exists_eq_left, exists_eq_right, exists_eq_right', List.cons.injEq, and_true, true_and, List.append_nil, List.cons_append, List.nil_append, exists_and_left, exists_and_right, and_self, decide_eq_true_eq, Bool.not_eq_true', decide_eq_false_iff_not, if_true, if_false, Bool.false_eq_true, if_false_left, if_true_left, reduceCtorEq, exists_const, exists_eq', cxOf_K, upd_same, upd_upd, upd_none, upd_ne, upd_in, updI_eq, Option.isSome_some, plain_true, List.length_cons, List.length_nil, Nat.reduceAdd, Nat.reduceMul, Nat.reduceLeDiff, Nat.reduceLT, Int.reduceNeg, ne_eq, and_imp, Bool.not_true, Bool.not_false, not_false_eq_true, not_true_eq_false, Int.reducePow, Int.reduceToNat, Int.reduceLT, Int.reduceLE, Int.reduceMul, Int.reduceAdd, Nat.reducePow, Nat.zero_le, implies_true, true_implies, false_implies, or_true, true_or, or_false, false_or, or_self, false_and, and_false, exists_false, Int.reduceAbs, Option.bind_some, Int.cast_ofNat_Int, Int.ofNat_eq_coe, Int.toNat_zero, Int.toNat_one, Int.reduceSub, Int.reduceEq, Nat.reduceEqDiff, sizeLine_lit, Int.zero_add, Classical.not_not, and_assoc, upd_ne2, eq_self, forall_const, IntL_true, decide_true, decide_false, decide_not, Bool.true_and, Bool.and_true, Bool.false_and, Bool.and_false, Bool.or_true, Bool.true_or, Bool.or_false, Bool.false_or, ite_self, rIsM, rIsM2, tyR, sub_int_int, sub_int_bool, sub_int_str, sub_int_list, sub_int_tuple, sub_int_dict, sub_bool_int, sub_bool_bool, sub_bool_str, sub_bool_list, sub_bool_tuple, sub_bool_dict, sub_str_int, sub_str_bool, sub_str_str, sub_str_list, sub_str_tuple, sub_str_dict, sub_NoneType_int, sub_NoneType_bool, sub_NoneType_str, sub_NoneType_list, sub_NoneType_tuple, sub_NoneType_dict, sub_list_int, sub_list_bool, sub_list_str, sub_list_list, sub_list_tuple, sub_list_dict, sub_tuple_int, sub_tuple_bool, sub_tuple_str, sub_tuple_list, sub_tuple_tuple, sub_tuple_dict, okC_int, okC_bool, okC_str, okC_list, okC_tuple, okC_dict, rEqM, rNeM, datF_int, datF_str, datF_bl, datF_non, datF_ref, allO, rIxTT, rIxTK, gTupT, gTupK, gCons, gNil, rLenT, rLenK, SeqAt.shaped, eqv_none_none, eqv_none_bool, eqv_none_int, eqv_none_str, eqv_none_list, eqv_none_tuple, eqv_bool_none, eqv_bool_bool, eqv_bool_int, eqv_bool_str, eqv_bool_list, eqv_bool_tuple, eqv_int_none, eqv_int_bool, eqv_int_int, eqv_int_str, eqv_int_list, eqv_int_tuple, eqv_str_none, eqv_str_bool, eqv_str_int, eqv_str_str, eqv_str_list, eqv_str_tuple, eqv_list_none, eqv_list_bool, eqv_list_int, eqv_list_str, eqv_list_list, eqv_list_tuple, eqv_tuple_none, eqv_tuple_bool, eqv_tuple_int, eqv_tuple_str, eqv_tuple_list, eqv_tuple_tuple, eqa_nil, eqa_cons, eqa_nc, eqa_cn, lay_none, dep_none, lay_bool, dep_bool, lay_int, dep_int, lay_list, dep_list, lay_tuple, dep_tuple, lay_str, dep_str, laa_nil, laa_cons, dea_nil, dea_cons, Option.map_some, Nat.max_self, Nat.max_zero, Nat.zero_max, Bool.and_self, decide_eq_decide, HO.tup.injEq, beq_iff_eq, Bool.and_eq_true, beq_self_eq_true, Nat.zero_add, Int.reduceBEq, tPar3, ex_sqT1, ex_sqL1, unrF, ite_not, cxOf_H0, tLc_eq, iEnum, iZip, allO_ints, laa_ints, dea_ints, eqa_ints, eqa_ints_nil, wipe_nil, wipe_cons, rListT, rTupT, tYes_eq, tBM, tBM0, rAppend, rExtend, rPop, Nat.reduceSub, List.length_map, List.map_cons, List.map_nil, ints_inj, decide_eq_true_iff, ints_set, List.length_set, sp_is_integer, hp, hl2]
      subst hk
      simp only [tAsg, gName, tVar, tC, tOp, tUn, tCB, tCons, tNil, tCall, tIfS, tTest, tB, tNot, tAnd, tOr, tAndV, tOrV, tNotV, tIf, tChain, tRet, tRetN, tDrop, tNext, tNever, tBreak, tCont, tAug, ipI, tPar, rI, rI0, rU, rEq, rNe, scal, tFor_eq, iRng1, iRng2, iList, iTup, tCallN, tLst, tTup, rIxL, rIxT, rIxLT, gSub, rSetL, CMul, CDiv, CPow, rInt1, atI, ixN, isI, List.getElem?_cons_zero, List.getElem?_cons_succ, List.set_cons_zero, List.set_cons_succ, Option.some.injEq, HO.lst.injEq, HO.tup.injEq, V.int.injEq, V.bl.injEq, V.ref.injEq, V.str.injEq, exists_eq_left', exists_eq_left, exists_eq_right, exists_eq_right', List.cons.injEq, and_true, true_and, List.append_nil, List.cons_append, List.nil_append, exists_and_left, exists_and_right, and_self, decide_eq_true_eq, Bool.not_eq_true', decide_eq_false_iff_not, if_true, if_false, Bool.false_eq_true, if_false_left, if_true_left, reduceCtorEq, exists_const, exists_eq', cxOf_K, upd_same, upd_upd, upd_none, upd_ne, upd_in, updI_eq, Option.isSome_some, plain_true, List.length_cons, List.length_nil, Nat.reduceAdd, Nat.reduceMul, Nat.reduceLeDiff, Nat.reduceLT, Int.reduceNeg, ne_eq, and_imp, Bool.not_true, Bool.not_false, not_false_eq_true, not_true_eq_false, Int.reducePow, Int.reduceToNat, Int.reduceLT, Int.reduceLE, Int.reduceMul, Int.reduceAdd, Nat.reducePow, Nat.zero_le, implies_true, true_implies, false_implies, or_true, true_or, or_false, false_or, or_self, false_and, and_false, exists_false, Int.reduceAbs, Option.bind_some, Int.cast_ofNat_Int, Int.ofNat_eq_coe, Int.toNat_zero, Int.toNat_one, Int.reduceSub, Int.reduceEq, Nat.reduceEqDiff, sizeLine_lit, Int.zero_add, Classical.not_not, and_assoc, upd_ne2, eq_self, forall_const, IntL_true, decide_true, decide_false, decide_not, Bool.true_and, Bool.and_true, Bool.false_and, Bool.and_false, Bool.or_true, Bool.true_or, Bool.or_false, Bool.false_or, ite_self, rIsM, rIsM2, tyR, sub_int_int, sub_int_bool, sub_int_str, sub_int_list, sub_int_tuple, sub_int_dict, sub_bool_int, sub_bool_bool, sub_bool_str, sub_bool_list, sub_bool_tuple, sub_bool_dict, sub_str_int, sub_str_bool, sub_str_str, sub_str_list, sub_str_tuple, sub_str_dict, sub_NoneType_int, sub_NoneType_bool, sub_NoneType_str, sub_NoneType_list, sub_NoneType_tuple, sub_NoneType_dict, sub_list_int, sub_list_bool, sub_list_str, sub_list_list, sub_list_tuple, sub_list_dict, sub_tuple_int, sub_tuple_bool, sub_tuple_str, sub_tuple_list, sub_tuple_tuple, sub_tuple_dict, okC_int, okC_bool, okC_str, okC_list, okC_tuple, okC_dict, rEqM, rNeM, datF_int, datF_str, datF_bl, datF_non, datF_ref, allO, rIxTT, rIxTK, gTupT, gTupK, gCons, gNil, rLenT, rLenK, SeqAt.shaped, eqv_none_none, eqv_none_bool, eqv_none_int, eqv_none_str, eqv_none_list, eqv_none_tuple, eqv_bool_none, eqv_bool_bool, eqv_bool_int, eqv_bool_str, eqv_bool_list, eqv_bool_tuple, eqv_int_none, eqv_int_bool, eqv_int_int, eqv_int_str, eqv_int_list, eqv_int_tuple, eqv_str_none, eqv_str_bool, eqv_str_int, eqv_str_str, eqv_str_list, eqv_str_tuple, eqv_list_none, eqv_list_bool, eqv_list_int, eqv_list_str, eqv_list_list, eqv_list_tuple, eqv_tuple_none, eqv_tuple_bool, eqv_tuple_int, eqv_tuple_str, eqv_tuple_list, eqv_tuple_tuple, eqa_nil, eqa_cons, eqa_nc, eqa_cn, lay_none, dep_none, lay_bool, dep_bool, lay_int, dep_int, lay_list, dep_list, lay_tuple, dep_tuple, lay_str, dep_str, laa_nil, laa_cons, dea_nil, dea_cons, Option.map_some, Nat.max_self, Nat.max_zero, Nat.zero_max, Bool.and_self, decide_eq_decide, HO.tup.injEq, beq_iff_eq, Bool.and_eq_true, beq_self_eq_true, Nat.zero_add, Int.reduceBEq, tPar3, ex_sqT1, ex_sqL1, unrF, ite_not, cxOf_H0, tLc_eq, iEnum, iZip, allO_ints, laa_ints, dea_ints, eqa_ints, eqa_ints_nil, wipe_nil, wipe_cons, rListT, rTupT, tYes_eq, tBM, tBM0, rAppend, rExtend, rPop, Nat.reduceSub, List.length_map, List.map_cons, List.map_nil, ints_inj, decide_eq_true_iff, ints_set, List.length_set, sp_is_integer]
      refine ⟨⟨_, SqL.of hp⟩, forB_enum (xs := ns.map V.int) (fun i σ H' => H' = H ∧ ∃ y1 y2, σ = [some (V.ref p), y1, y2]) ⟨rfl, _, _, rfl⟩ ?_ ?_ ?_⟩
      · rintro i σ H' _ ⟨rfl, _⟩
        exact SqL.of hp
      · rintro i x σ H' hx ⟨rfl, y1, y2, rfl⟩ t nt
        obtain ⟨z, hz, rfl⟩ := get_ints hx
        simp only [tAsg, gName, tVar, tC, tOp, tUn, tCB, tCons, tNil, tCall, tIfS, tTest, tB, tNot, tAnd, tOr, tAndV, tOrV, tNotV, tIf, tChain, tRet, tRetN, tDrop, tNext, tNever, tBreak, tCont, tAug, ipI, tPar, rI, rI0, rU, rEq, rNe, scal, tFor_eq, iRng1, iRng2, iList, iTup, tCallN, tLst, tTup, rIxL, rIxT, rIxLT, gSub, rSetL, CMul, CDiv, CPow, rInt1, atI, ixN, isI, List.getElem?_cons_zero, List.getElem?_cons_succ, List.set_cons_zero, List.set_cons_succ, Option.some.injEq, HO.lst.injEq, HO.tup.injEq, V.int.injEq, V.bl.injEq, V.ref.injEq, V.str.injEq, exists_eq_left', exists_eq_left, exists_eq_right, exists_eq_right', List.cons.injEq, and_true, true_and, List.append_nil, List.cons_append, List.nil_append, exists_and_left, exists_and_right, and_self, decide_eq_true_eq, Bool.not_eq_true', decide_eq_false_iff_not, if_true, if_false, Bool.false_eq_true, if_false_left, if_true_left, reduceCtorEq, exists_const, exists_eq', cxOf_K, upd_same, upd_upd, upd_none, upd_ne, upd_in, updI_eq, Option.isSome_some, plain_true, List.length_cons, List.length_nil, Nat.reduceAdd, Nat.reduceMul, Nat.reduceLeDiff, Nat.reduceLT, Int.reduceNeg, ne_eq, and_imp, Bool.not_true, Bool.not_false, not_false_eq_true, not_true_eq_false, Int.reducePow, Int.reduceToNat, Int.reduceLT, Int.reduceLE, Int.reduceMul, Int.reduceAdd, Nat.reducePow, Nat.zero_le, implies_true, true_implies, false_implies, or_true, true_or, or_false, false_or, or_self, false_and, and_false, exists_false, Int.reduceAbs, Option.bind_some, Int.cast_ofNat_Int, Int.ofNat_eq_coe, Int.toNat_zero, Int.toNat_one, Int.reduceSub, Int.reduceEq, Nat.reduceEqDiff, sizeLine_lit, Int.zero_add, Classical.not_not, and_assoc, upd_ne2, eq_self, forall_const, IntL_true, decide_true, decide_false, decide_not, Bool.true_and, Bool.and_true, Bool.false_and, Bool.and_false, Bool.or_true, Bool.true_or, Bool.or_false, Bool.false_or, ite_self, rIsM, rIsM2, tyR, sub_int_int, sub_int_bool, sub_int_str, sub_int_list, sub_int_tuple, sub_int_dict, sub_bool_int, sub_bool_bool, sub_bool_str, sub_bool_list, sub_bool_tuple, sub_bool_dict, sub_str_int, sub_str_bool, sub_str_str, sub_str_list, sub_str_tuple, sub_str_dict, sub_NoneType_int, sub_NoneType_bool, sub_NoneType_str, sub_NoneType_list, sub_NoneType_tuple, sub_NoneType_dict, sub_list_int, sub_list_bool, sub_list_str, sub_list_list, sub_list_tuple, sub_list_dict, sub_tuple_int, sub_tuple_bool, sub_tuple_str, sub_tuple_list, sub_tuple_tuple, sub_tuple_dict, okC_int, okC_bool, okC_str, okC_list, okC_tuple, okC_dict, rEqM, rNeM, datF_int, datF_str, datF_bl, datF_non, datF_ref, allO, rIxTT, rIxTK, gTupT, gTupK, gCons, gNil, rLenT, rLenK, SeqAt.shaped, eqv_none_none, eqv_none_bool, eqv_none_int, eqv_none_str, eqv_none_list, eqv_none_tuple, eqv_bool_none, eqv_bool_bool, eqv_bool_int, eqv_bool_str, eqv_bool_list, eqv_bool_tuple, eqv_int_none, eqv_int_bool, eqv_int_int, eqv_int_str, eqv_int_list, eqv_int_tuple, eqv_str_none, eqv_str_bool, eqv_str_int, eqv_str_str, eqv_str_list, eqv_str_tuple, eqv_list_none, eqv_list_bool, eqv_list_int, eqv_list_str, eqv_list_list, eqv_list_tuple, eqv_tuple_none, eqv_tuple_bool, eqv_tuple_int, eqv_tuple_str, eqv_tuple_list, eqv_tuple_tuple, eqa_nil, eqa_cons, eqa_nc, eqa_cn, lay_none, dep_none, lay_bool, dep_bool, lay_int, dep_int, lay_list, dep_list, lay_tuple, dep_tuple, lay_str, dep_str, laa_nil, laa_cons, dea_nil, dea_cons, Option.map_some, Nat.max_self, Nat.max_zero, Nat.zero_max, Bool.and_self, decide_eq_decide, HO.tup.injEq, beq_iff_eq, Bool.and_eq_true, beq_self_eq_true, Nat.zero_add, Int.reduceBEq, tPar3, ex_sqT1, ex_sqL1, unrF, ite_not, cxOf_H0, tLc_eq, iEnum, iZip, allO_ints, laa_ints, dea_ints, eqa_ints, eqa_ints_nil, wipe_nil, wipe_cons, rListT, rTupT, tYes_eq, tBM, tBM0, rAppend, rExtend, rPop, Nat.reduceSub, List.length_map, List.map_cons, List.map_nil, ints_inj, decide_eq_true_iff, ints_set, List.length_set, sp_is_integer]
        refine dr_tup nt .refl pl ?_
        refine fg_gen fun D2 hnx2 hrt2 hbk2 hct2 => ?_
        simp only [tAsg, gName, tVar, tC, tOp, tUn, tCB, tCons, tNil, tCall, tIfS, tTest, tB, tNot, tAnd, tOr, tAndV, tOrV, tNotV, tIf, tChain, tRet, tRetN, tDrop, tNext, tNever, tBreak, tCont, tAug, ipI, tPar, rI, rI0, rU, rEq, rNe, scal, tFor_eq, iRng1, iRng2, iList, iTup, tCallN, tLst, tTup, rIxL, rIxT, rIxLT, gSub, rSetL, CMul, CDiv, CPow, rInt1, atI, ixN, isI, List.getElem?_cons_zero, List.getElem?_cons_succ, List.set_cons_zero, List.set_cons_succ, Option.some.injEq, HO.lst.injEq, HO.tup.injEq, V.int.injEq, V.bl.injEq, V.ref.injEq, V.str.injEq, exists_eq_left', exists_eq_left, exists_eq_right, exists_eq_right', List.cons.injEq, and_true, true_and, List.append_nil, List.cons_append, List.nil_append, exists_and_left, exists_and_right, and_self, decide_eq_true_eq, Bool.not_eq_true', decide_eq_false_iff_not, if_true, if_false, Bool.false_eq_true, if_false_left, if_true_left, reduceCtorEq, exists_const, exists_eq', cxOf_K, upd_same, upd_upd, upd_none, upd_ne, upd_in, updI_eq, Option.isSome_some, plain_true, List.length_cons, List.length_nil, Nat.reduceAdd, Nat.reduceMul, Nat.reduceLeDiff, Nat.reduceLT, Int.reduceNeg, ne_eq, and_imp, Bool.not_true, Bool.not_false, not_false_eq_true, not_true_eq_false, Int.reducePow, Int.reduceToNat, Int.reduceLT, Int.reduceLE, Int.reduceMul, Int.reduceAdd, Nat.reducePow, Nat.zero_le, implies_true, true_implies, false_implies, or_true, true_or, or_false, false_or, or_self, false_and, and_false, exists_false, Int.reduceAbs, Option.bind_some, Int.cast_ofNat_Int, Int.ofNat_eq_coe, Int.toNat_zero, Int.toNat_one, Int.reduceSub, Int.reduceEq, Nat.reduceEqDiff, sizeLine_lit, Int.zero_add, Classical.not_not, and_assoc, upd_ne2, eq_self, forall_const, IntL_true, decide_true, decide_false, decide_not, Bool.true_and, Bool.and_true, Bool.false_and, Bool.and_false, Bool.or_true, Bool.true_or, Bool.or_false, Bool.false_or, ite_self, rIsM, rIsM2, tyR, sub_int_int, sub_int_bool, sub_int_str, sub_int_list, sub_int_tuple, sub_int_dict, sub_bool_int, sub_bool_bool, sub_bool_str, sub_bool_list, sub_bool_tuple, sub_bool_dict, sub_str_int, sub_str_bool, sub_str_str, sub_str_list, sub_str_tuple, sub_str_dict, sub_NoneType_int, sub_NoneType_bool, sub_NoneType_str, sub_NoneType_list, sub_NoneType_tuple, sub_NoneType_dict, sub_list_int, sub_list_bool, sub_list_str, sub_list_list, sub_list_tuple, sub_list_dict, sub_tuple_int, sub_tuple_bool, sub_tuple_str, sub_tuple_list, sub_tuple_tuple, sub_tuple_dict, okC_int, okC_bool, okC_str, okC_list, okC_tuple, okC_dict, rEqM, rNeM, datF_int, datF_str, datF_bl, datF_non, datF_ref, allO, rIxTT, rIxTK, gTupT, gTupK, gCons, gNil, rLenT, rLenK, SeqAt.shaped, eqv_none_none, eqv_none_bool, eqv_none_int, eqv_none_str, eqv_none_list, eqv_none_tuple, eqv_bool_none, eqv_bool_bool, eqv_bool_int, eqv_bool_str, eqv_bool_list, eqv_bool_tuple, eqv_int_none, eqv_int_bool, eqv_int_int, eqv_int_str, eqv_int_list, eqv_int_tuple, eqv_str_none, eqv_str_bool, eqv_str_int, eqv_str_str, eqv_str_list, eqv_str_tuple, eqv_list_none, eqv_list_bool, eqv_list_int, eqv_list_str, eqv_list_list, eqv_list_tuple, eqv_tuple_none, eqv_tuple_bool, eqv_tuple_int, eqv_tuple_str, eqv_tuple_list, eqv_tuple_tuple, eqa_nil, eqa_cons, eqa_nc, eqa_cn, lay_none, dep_none, lay_bool, dep_bool, lay_int, dep_int, lay_list, dep_list, lay_tuple, dep_tuple, lay_str, dep_str, laa_nil, laa_cons, dea_nil, dea_cons, Option.map_some, Nat.max_self, Nat.max_zero, Nat.zero_max, Bool.and_self, decide_eq_decide, HO.tup.injEq, beq_iff_eq, Bool.and_eq_true, beq_self_eq_true, Nat.zero_add, Int.reduceBEq, tPar3, ex_sqT1, ex_sqL1, unrF, ite_not, cxOf_H0, tLc_eq, iEnum, iZip, allO_ints, laa_ints, dea_ints, eqa_ints, eqa_ints_nil, wipe_nil, wipe_cons, rListT, rTupT, tYes_eq, tBM, tBM0, rAppend, rExtend, rPop, Nat.reduceSub, List.length_map, List.map_cons, List.map_nil, ints_inj, decide_eq_true_iff, ints_set, List.length_set, sp_is_integer]
        exact hnx2 _ _ _ fgt_id pl ⟨rfl, _, _, rfl⟩
      · rintro σ H' ⟨rfl, y1, y2, rfl⟩
        exact hnx _ _ _ fgt_id pl q
def sp_mark_of (_ : PySem.W.Frag) : Sp := fun vs H Q _ => Plain H ∧ match vs with
  | [.ref p] => ∃ ns : List Int, H p = some (.lst (ns.map V.int)) ∧ ns.length ≤ 64 ∧ Q (.int (markF 1 ns)) H
  | _ => False
theorem markF_bd (ns : List Int) : ∀ m, 0 ≤ m → m < 9973 → 0 ≤ markF m ns ∧ markF m ns < 9973 := by
  induction ns with
  | nil => exact fun m h1 h2 => ⟨h1, h2⟩
  | cons n r ih => exact fun m h1 h2 => ih _ (Int.emod_nonneg _ (by decide)) (Int.emod_lt_of_pos _ (by decide))
theorem markF_snoc {ns : List Int} {i : Nat} {z : Int} (h : ns[i]? = some z) : markF 1 (ns.take (i + 1)) = (markF 1 (ns.take i) * 31 + codeU z) % 9973 := by
  rw [List.take_add_one, h]
  unfold markF
  rw [List.foldl_append]
  rfl
/-! -/
theorem ok_mark_of {P : Program} {w : World} {K : PySem.W.Frag} {mg : Str → Option Value} {base : Heap} {A : Ad} (T : Tx K mg A) : FnOk P w K mg base CX0 6 A.f_mark_of A.d_mark_of ["numbers"] (sp_mark_of K) := by
  refine T.F_mark_of.ok sc_mark_of (fun vs H Q E h => ?_) (fun cdv A0 outer s H vs Q E hr h => ?_)
  · obtain ⟨pl, h⟩ := h
    match vs, h with
    | [.ref p], _ => rfl
  · obtain ⟨pl, h⟩ := h
    match vs, h with
    | [.ref p], h =>
      obtain ⟨ns, hp, hl, q⟩ := h
      refine ⟨_, (pss_fg (pss_cons (ps_expr (pe_call (ok_require_numbers T) (hr.mono (by decide)) (by rfl) T.g_require_numbers T.F_require_numbers.kp T.b_require_numbers .nil pass0 (pa_cons (pv 0) pa_nil)))
      (pss_cons (ps_set (i := 1) sc_mark_of.nd rfl (.inl rfl) pe_int)
      (pss_cons (ps_for PassesOwn.never rfl (pi_list (pv 0)) (pg_name (i := 2) sc_mark_of.nd rfl (.inl rfl))
      (pss_fg (pss_one (ps_set (i := 1) sc_mark_of.nd rfl (.inl rfl) (pe_op op_mod (pe_op op_add (pe_op op_mul (pv 1) (pe_gc (by rfl) T.g_MARK_FACTOR)) (pe_call (ok_code_number T) (hr.mono (by decide)) (by rfl) T.g_code_number T.F_code_number.kp T.b_code_number .nil pass0 (pa_cons (pv 2) pa_nil))) (pe_gc (by rfl) T.g_MARK_PRIME))))))
      (pss_one (ps_ret (pv 1))))))), ?_⟩
      rw [show start N_mark_of [.ref p] = [some (.ref p), none, none] from rfl]
      refine fg_gen fun D hnx hrt hbk hct => ?_
      refine seq_gen fun k hk => ?_
      simp only [tAsg, gName, tVar, tC, tOp, tUn, tCB, tCons, tNil, tCall, tIfS, tTest, tB, tNot, tAnd, tOr, tAndV, tOrV, tNotV, tIf, tChain, tRet, tRetN, tDrop, tNext, tNever, tBreak, tCont, tAug, ipI, tPar, rI, rI0, rU, rEq, rNe, scal, tFor_eq, iRng1, iRng2, iList, iTup, tCallN, tLst, tTup, rIxL, rIxT, rIxLT, gSub, rSetL, CMul, CDiv, CPow, rInt1, atI, ixN, isI, List.getElem?_cons_zero, List.getElem?_cons_succ, List.set_cons_zero, List.set_cons_succ, Option.some.injEq, HO.lst.injEq, HO.tup.injEq, V.int.injEq, V.bl.injEq, V.ref.injEq, V.str.injEq, exists_eq_left', exists_eq_left, exists_eq_right, exists_eq_right', List.cons.injEq, and_true, true_and, List.append_nil, List.cons_append, List.nil_append, exists_and_left, exists_and_right, and_self, decide_eq_true_eq, Bool.not_eq_true', decide_eq_false_iff_not, if_true, if_false, Bool.false_eq_true, if_false_left, if_true_left, reduceCtorEq, exists_const, exists_eq', cxOf_K, upd_same, upd_upd, upd_none, upd_ne, upd_in, updI_eq, Option.isSome_some, plain_true, List.length_cons, List.length_nil, Nat.reduceAdd, Nat.reduceMul, Nat.reduceLeDiff, Nat.reduceLT, Int.reduceNeg, ne_eq, and_imp, Bool.not_true, Bool.not_false, not_false_eq_true, not_true_eq_false, Int.reducePow, Int.reduceToNat, Int.reduceLT, Int.reduceLE, Int.reduceMul, Int.reduceAdd, Nat.reducePow, Nat.zero_le, implies_true, true_implies, false_implies, or_true, true_or, or_false, false_or, or_self, false_and, and_false, exists_false, Int.reduceAbs, Option.bind_some, Int.cast_ofNat_Int, Int.ofNat_eq_coe, Int.toNat_zero, Int.toNat_one, Int.reduceSub, Int.reduceEq, Nat.reduceEqDiff, sizeLine_lit, Int.zero_add, Classical.not_not, and_assoc, upd_ne2, eq_self, forall_const, IntL_true, decide_true, decide_false, decide_not, Bool.true_and, Bool.and_true, Bool.false_and, Bool.and_false, Bool.or_true, Bool.true_or, Bool.or_false, Bool.false_or, ite_self, rIsM, rIsM2, tyR, sub_int_int, sub_int_bool, sub_int_str, sub_int_list, sub_int_tuple, sub_int_dict, sub_bool_int, sub_bool_bool, sub_bool_str, sub_bool_list, sub_bool_tuple, sub_bool_dict, sub_str_int, sub_str_bool, sub_str_str, sub_str_list, sub_str_tuple, sub_str_dict, sub_NoneType_int, sub_NoneType_bool, sub_NoneType_str, sub_NoneType_list, sub_NoneType_tuple, sub_NoneType_dict, sub_list_int, sub_list_bool, sub_list_str, sub_list_list, sub_list_tuple, sub_list_dict, sub_tuple_int, sub_tuple_bool, sub_tuple_str, sub_tuple_list, sub_tuple_tuple, sub_tuple_dict, okC_int, okC_bool, okC_str, okC_list, okC_tuple, okC_dict, rEqM, rNeM, datF_int, datF_str, datF_bl, datF_non, datF_ref, allO, rIxTT, rIxTK, gTupT, gTupK, gCons, gNil, rLenT, rLenK, SeqAt.shaped, eqv_none_none, eqv_none_bool, eqv_none_int, eqv_none_str, eqv_none_list, eqv_none_tuple, eqv_bool_none, eqv_bool_bool, eqv_bool_int, eqv_bool_str, eqv_bool_list, eqv_bool_tuple, eqv_int_none, eqv_int_bool, eqv_int_int, eqv_int_str, eqv_int_list, eqv_int_tuple, eqv_str_none, eqv_str_bool, eqv_str_int, eqv_str_str, eqv_str_list, eqv_str_tuple, eqv_list_none, eqv_list_bool, eqv_list_int, eqv_list_str, eqv_list_list, eqv_list_tuple, eqv_tuple_none, eqv_tuple_bool, eqv_tuple_int, eqv_tuple_str, eqv_tuple_list, eqv_tuple_tuple, eqa_nil, eqa_cons, eqa_nc, eqa_cn, lay_none, dep_none, lay_bool, dep_bool, lay_int, dep_int, lay_list, dep_list, lay_tuple, dep_tuple, lay_str, dep_str, laa_nil, laa_cons, dea_nil, dea_cons, Option.map_some, Nat.max_self, Nat.max_zero, Nat.zero_max, Bool.and_self, decide_eq_decide, HO.tup.injEq, beq_iff_eq, Bool.and_eq_true, beq_self_eq_true, Nat.zero_add, Int.reduceBEq, tPar3, ex_sqT1, ex_sqL1, unrF, ite_not, cxOf_H0, tLc_eq, iEnum, iZip, allO_ints, laa_ints, dea_ints, eqa_ints, eqa_ints_nil, wipe_nil, wipe_cons, rListT, rTupT, tYes_eq, tBM, tBM0, rAppend, rExtend, rPop, Nat.reduceSub, List.length_map, List.map_cons, List.map_nil, ints_inj, decide_eq_true_iff, ints_set, List.length_set, sp_require_numbers, sp_code_number, hp, hl]
      subst hk
      refine seq_gen fun k hk => ?_
      simp only [tAsg, gName, tVar, tC, tOp, tUn, tCB, tCons, tNil, tCall, tIfS, tTest, tB, tNot, tAnd, tOr, tAndV, tOrV, tNotV, tIf, tChain, tRet, tRetN, tDrop, tNext, tNever, tBreak, tCont, tAug, ipI, tPar, rI, rI0, rU, rEq, rNe, scal, tFor_eq, iRng1, iRng2, iList, iTup, tCallN, tLst, tTup, rIxL, rIxT, rIxLT, gSub, rSetL, CMul, CDiv, CPow, rInt1, atI, ixN, isI, List.getElem?_cons_zero, List.getElem?_cons_succ, List.set_cons_zero, List.set_cons_succ, Option.some.injEq, HO.lst.injEq, HO.tup.injEq, V.int.injEq, V.bl.injEq, V.ref.injEq, V.str.injEq, exists_eq_left', exists_eq_left, exists_eq_right, exists_eq_right', List.cons.injEq, and_true, true_and, List.append_nil, List.cons_append, List.nil_append, exists_and_left, exists_and_right, and_self, decide_eq_true_eq, Bool.not_eq_true', decide_eq_false_iff_not, if_true, if_false, Bool.false_eq_true, if_false_left, if_true_left, reduceCtorEq, exists_const, exists_eq', cxOf_K, upd_same, upd_upd, upd_none, upd_ne, upd_in, updI_eq, Option.isSome_some, plain_true, List.length_cons, List.length_nil, Nat.reduceAdd, Nat.reduceMul, Nat.reduceLeDiff, Nat.reduceLT, Int.reduceNeg, ne_eq, and_imp, Bool.not_true, Bool.not_false, not_false_eq_true, not_true_eq_false, Int.reducePow, Int.reduceToNat, Int.reduceLT, Int.reduceLE, Int.reduceMul, Int.reduceAdd, Nat.reducePow, Nat.zero_le, implies_true, true_implies, false_implies, or_true, true_or, or_false, false_or, or_self, false_and, and_false, exists_false, Int.reduceAbs, Option.bind_some, Int.cast_ofNat_Int, Int.ofNat_eq_coe, Int.toNat_zero, Int.toNat_one, Int.reduceSub, Int.reduceEq, Nat.reduceEqDiff, sizeLine_lit, Int.zero_add, Classical.not_not, and_assoc, upd_ne2, eq_self, forall_const, IntL_true, decide_true, decide_false, decide_not, Bool.true_and, Bool.and_true, Bool.false_and, Bool.and_false, Bool.or_true, Bool.true_or, Bool.or_false, Bool.false_or, ite_self, rIsM, rIsM2, tyR, sub_int_int, sub_int_bool, sub_int_str, sub_int_list, sub_int_tuple, sub_int_dict, sub_bool_int, sub_bool_bool, sub_bool_str, sub_bool_list, sub_bool_tuple, sub_bool_dict, sub_str_int, sub_str_bool, sub_str_str, sub_str_list, sub_str_tuple, sub_str_dict, sub_NoneType_int, sub_NoneType_bool, sub_NoneType_str, sub_NoneType_list, sub_NoneType_tuple, sub_NoneType_dict, sub_list_int, sub_list_bool, sub_list_str, sub_list_list, sub_list_tuple, sub_list_dict, sub_tuple_int, sub_tuple_bool, sub_tuple_str, sub_tuple_list, sub_tuple_tuple, sub_tuple_dict, okC_int, okC_bool, okC_str, okC_list, okC_tuple, okC_dict, rEqM, rNeM, datF_int, datF_str, datF_bl, datF_non, datF_ref, allO, rIxTT, rIxTK, gTupT, gTupK, gCons, gNil, rLenT, rLenK, SeqAt.shaped, eqv_none_none, eqv_none_bool, eqv_none_int, eqv_none_str, eqv_none_list, eqv_none_tuple, eqv_bool_none, eqv_bool_bool, eqv_bool_int, eqv_bool_str, eqv_bool_list, eqv_bool_tuple, eqv_int_none, eqv_int_bool, eqv_int_int, eqv_int_str, eqv_int_list, eqv_int_tuple, eqv_str_none, eqv_str_bool, eqv_str_int, eqv_str_str, eqv_str_list, eqv_str_tuple, eqv_list_none, eqv_list_bool, eqv_list_int, eqv_list_str, eqv_list_list, eqv_list_tuple, eqv_tuple_none, eqv_tuple_bool, eqv_tuple_int, eqv_tuple_str, eqv_tuple_list, eqv_tuple_tuple, eqa_nil, eqa_cons, eqa_nc, eqa_cn, lay_none, dep_none, lay_bool, dep_bool, lay_int, dep_int, lay_list, dep_list, lay_tuple, dep_tuple, lay_str, dep_str, laa_nil, laa_cons, dea_nil, dea_cons, Option.map_some, Nat.max_self, Nat.max_zero, Nat.zero_max, Bool.and_self, decide_eq_decide, HO.tup.injEq, beq_iff_eq, Bool.and_eq_true, beq_self_eq_true, Nat.zero_add, Int.reduceBEq, tPar3, ex_sqT1, ex_sqL1, unrF, ite_not, cxOf_H0, tLc_eq, iEnum, iZip, allO_ints, laa_ints, dea_ints, eqa_ints, eqa_ints_nil, wipe_nil, wipe_cons, rListT, rTupT, tYes_eq, tBM, tBM0, rAppend, rExtend, rPop, Nat.reduceSub, List.length_map, List.map_cons, List.map_nil, ints_inj, decide_eq_true_iff, ints_set, List.length_set, sp_require_numbers, sp_code_number]
      subst hk
      refine seq_gen fun k hk => ?_
      simp only [tAsg, gName, tVar, tC, tOp, tUn, tCB, tCons, tNil, tCall, tIfS, tTest, tB, tNot, tAnd, tOr, tAndV, tOrV, tNotV, tIf, tChain, tRet, tRetN, tDrop, tNext, tNever, tBreak, tCont, tAug, ipI, tPar, rI, rI0, rU, rEq, rNe, scal, tFor_eq, iRng1, iRng2, iList, iTup, tCallN, tLst, tTup, rIxL, rIxT, rIxLT, gSub, rSetL, CMul, CDiv, CPow, rInt1, atI, ixN, isI, List.getElem?_cons_zero, List.getElem?_cons_succ, List.set_cons_zero, List.set_cons_succ, Option.some.injEq, HO.lst.injEq, HO.tup.injEq, V.int.injEq, V.bl.injEq, V.ref.injEq, V.str.injEq, exists_eq_left', exists_eq_left, exists_eq_right, exists_eq_right', List.cons.injEq, and_true, true_and, List.append_nil, List.cons_append, List.nil_append, exists_and_left, exists_and_right, and_self, decide_eq_true_eq, Bool.not_eq_true', decide_eq_false_iff_not, if_true, if_false, Bool.false_eq_true, if_false_left, if_true_left, reduceCtorEq, exists_const, exists_eq', cxOf_K, upd_same, upd_upd, upd_none, upd_ne, upd_in, updI_eq, Option.isSome_some, plain_true, List.length_cons, List.length_nil, Nat.reduceAdd, Nat.reduceMul, Nat.reduceLeDiff, Nat.reduceLT, Int.reduceNeg, ne_eq, and_imp, Bool.not_true, Bool.not_false, not_false_eq_true, not_true_eq_false, Int.reducePow, Int.reduceToNat, Int.reduceLT, Int.reduceLE, Int.reduceMul, Int.reduceAdd, Nat.reducePow, Nat.zero_le, implies_true, true_implies, false_implies, or_true, true_or, or_false, false_or, or_self, false_and, and_false, exists_false, Int.reduceAbs, Option.bind_some, Int.cast_ofNat_Int, Int.ofNat_eq_coe, Int.toNat_zero, Int.toNat_one, Int.reduceSub, Int.reduceEq, Nat.reduceEqDiff, sizeLine_lit, Int.zero_add, Classical.not_not, and_assoc, upd_ne2, eq_self, forall_const, IntL_true, decide_true, decide_false, decide_not, Bool.true_and, Bool.and_true, Bool.false_and, Bool.and_false, Bool.or_true, Bool.true_or, Bool.or_false, Bool.false_or, ite_self, rIsM, rIsM2, tyR, sub_int_int, sub_int_bool, sub_int_str, sub_int_list, sub_int_tuple, sub_int_dict, sub_bool_int, sub_bool_bool, sub_bool_str, sub_bool_list, sub_bool_tuple, sub_bool_dict, sub_str_int, sub_str_bool, sub_str_str, sub_str_list, sub_str_tuple, sub_str_dict, sub_NoneType_int, sub_NoneType_bool, sub_NoneType_str, sub_NoneType_list, sub_NoneType_tuple, sub_NoneType_dict, sub_list_int, sub_list_bool, sub_list_str, sub_list_list, sub_list_tuple, sub_list_dict, sub_tuple_int, sub_tuple_bool, sub_tuple_str, sub_tuple_list, sub_tuple_tuple, sub_tuple_dict, okC_int, okC_bool, okC_str, okC_list, okC_tuple, okC_dict, rEqM, rNeM, datF_int, datF_str, datF_bl, datF_non, datF_ref, allO, rIxTT, rIxTK, gTupT, gTupK, gCons, gNil, rLenT, rLenK, SeqAt.shaped, eqv_none_none, eqv_none_bool, eqv_none_int, eqv_none_str, eqv_none_list, eqv_none_tuple, eqv_bool_none, eqv_bool_bool, eqv_bool_int, eqv_bool_str, eqv_bool_list, eqv_bool_tuple, eqv_int_none, eqv_int_bool, eqv_int_int, eqv_int_str, eqv_int_list, eqv_int_tuple, eqv_str_none, eqv_str_bool, eqv_str_int, eqv_str_str, eqv_str_list, eqv_str_tuple, eqv_list_none, eqv_list_bool, eqv_list_int, eqv_list_str, eqv_list_list, eqv_list_tuple, eqv_tuple_none, eqv_tuple_bool, eqv_tuple_int, eqv_tuple_str, eqv_tuple_list, eqv_tuple_tuple, eqa_nil, eqa_cons, eqa_nc, eqa_cn, lay_none, dep_none, lay_bool, dep_bool, lay_int, dep_int, lay_list, dep_list, lay_tuple, dep_tuple, lay_str, dep_str, laa_nil, laa_cons, dea_nil, dea_cons, Option.map_some, Nat.max_self, Nat.max_zero, Nat.zero_max, Bool.and_self, decide_eq_decide, HO.tup.injEq, beq_iff_eq, Bool.and_eq_true, beq_self_eq_true, Nat.zero_add, Int.reduceBEq, tPar3, ex_sqT1, ex_sqL1, unrF, ite_not, cxOf_H0, tLc_eq, iEnum, iZip, allO_ints, laa_ints, dea_ints, eqa_ints, eqa_ints_nil, wipe_nil, wipe_cons, rListT, rTupT, tYes_eq, tBM, tBM0, rAppend, rExtend, rPop, Nat.reduceSub, List.length_map, List.map_cons, List.map_nil, ints_inj, decide_eq_true_iff, ints_set, List.length_set, sp_require_numbers, sp_code_number]
      refine ⟨⟨_, SqL.of hp⟩, forB_list (xs := ns.map V.int) (fun i σ H' => H' = H ∧ ∃ y2, σ = [some (V.ref p), some (.int (markF 1 (ns.take i))), y2]) ⟨rfl, _, rfl⟩ ?_ ?_ ?_⟩
      · rintro i σ H' _ ⟨rfl, _⟩
        exact SqL.of hp
      · rintro i x σ H' hx ⟨rfl, y2, rfl⟩
        obtain ⟨z, hz, rfl⟩ := get_ints hx
        refine fg_gen fun D2 hnx2 hrt2 hbk2 hct2 => ?_
        simp only [tAsg, gName, tVar, tC, tOp, tUn, tCB, tCons, tNil, tCall, tIfS, tTest, tB, tNot, tAnd, tOr, tAndV, tOrV, tNotV, tIf, tChain, tRet, tRetN, tDrop, tNext, tNever, tBreak, tCont, tAug, ipI, tPar, rI, rI0, rU, rEq, rNe, scal, tFor_eq, iRng1, iRng2, iList, iTup, tCallN, tLst, tTup, rIxL, rIxT, rIxLT, gSub, rSetL, CMul, CDiv, CPow, rInt1, atI, ixN, isI, List.getElem?_cons_zero, List.getElem?_cons_succ, List.set_cons_zero, List.set_cons_succ, Option.some.injEq, HO.lst.injEq, HO.tup.injEq, V.int.injEq, V.bl.injEq, V.ref.injEq, V.str.injEq, exists_eq_left', exists_eq_left, exists_eq_right, exists_eq_right', List.cons.injEq, and_true, true_and, List.append_nil, List.cons_append, List.nil_append, exists_and_left, exists_and_right, and_self, decide_eq_true_eq, Bool.not_eq_true', decide_eq_false_iff_not, if_true, if_false, Bool.false_eq_true, if_false_left, if_true_left, reduceCtorEq, exists_const, exists_eq', cxOf_K, upd_same, upd_upd, upd_none, upd_ne, upd_in, updI_eq, Option.isSome_some, plain_true, List.length_cons, List.length_nil, Nat.reduceAdd, Nat.reduceMul, Nat.reduceLeDiff, Nat.reduceLT, Int.reduceNeg, ne_eq, and_imp, Bool.not_true, Bool.not_false, not_false_eq_true, not_true_eq_false, Int.reducePow, Int.reduceToNat, Int.reduceLT, Int.reduceLE, Int.reduceMul, Int.reduceAdd, Nat.reducePow, Nat.zero_le, implies_true, true_implies, false_implies, or_true, true_or, or_false, false_or, or_self, false_and, and_false, exists_false, Int.reduceAbs, Option.bind_some, Int.cast_ofNat_Int, Int.ofNat_eq_coe, Int.toNat_zero, Int.toNat_one, Int.reduceSub, Int.reduceEq, Nat.reduceEqDiff, sizeLine_lit, Int.zero_add, Classical.not_not, and_assoc, upd_ne2, eq_self, forall_const, IntL_true, decide_true, decide_false, decide_not, Bool.true_and, Bool.and_true, Bool.false_and, Bool.and_false, Bool.or_true, Bool.true_or, Bool.or_false, Bool.false_or, ite_self, rIsM, rIsM2, tyR, sub_int_int, sub_int_bool, sub_int_str, sub_int_list, sub_int_tuple, sub_int_dict, sub_bool_int, sub_bool_bool, sub_bool_str, sub_bool_list, sub_bool_tuple, sub_bool_dict, sub_str_int, sub_str_bool, sub_str_str, sub_str_list, sub_str_tuple, sub_str_dict, sub_NoneType_int, sub_NoneType_bool, sub_NoneType_str, sub_NoneType_list, sub_NoneType_tuple, sub_NoneType_dict, sub_list_int, sub_list_bool, sub_list_str, sub_list_list, sub_list_tuple, sub_list_dict, sub_tuple_int, sub_tuple_bool, sub_tuple_str, sub_tuple_list, sub_tuple_tuple, sub_tuple_dict, okC_int, okC_bool, okC_str, okC_list, okC_tuple, okC_dict, rEqM, rNeM, datF_int, datF_str, datF_bl, datF_non, datF_ref, allO, rIxTT, rIxTK, gTupT, gTupK, gCons, gNil, rLenT, rLenK, SeqAt.shaped, eqv_none_none, eqv_none_bool, eqv_none_int, eqv_none_str, eqv_none_list, eqv_none_tuple, eqv_bool_none, eqv_bool_bool, eqv_bool_int, eqv_bool_str, eqv_bool_list, eqv_bool_tuple, eqv_int_none, eqv_int_bool, eqv_int_int, eqv_int_str, eqv_int_list, eqv_int_tuple, eqv_str_none, eqv_str_bool, eqv_str_int, eqv_str_str, eqv_str_list, eqv_str_tuple, eqv_list_none, eqv_list_bool, eqv_list_int, eqv_list_str, eqv_list_list, eqv_list_tuple, eqv_tuple_none, eqv_tuple_bool, eqv_tuple_int, eqv_tuple_str, eqv_tuple_list, eqv_tuple_tuple, eqa_nil, eqa_cons, eqa_nc, eqa_cn, lay_none, dep_none, lay_bool, dep_bool, lay_int, dep_int, lay_list, dep_list, lay_tuple, dep_tuple, lay_str, dep_str, laa_nil, laa_cons, dea_nil, dea_cons, Option.map_some, Nat.max_self, Nat.max_zero, Nat.zero_max, Bool.and_self, decide_eq_decide, HO.tup.injEq, beq_iff_eq, Bool.and_eq_true, beq_self_eq_true, Nat.zero_add, Int.reduceBEq, tPar3, ex_sqT1, ex_sqL1, unrF, ite_not, cxOf_H0, tLc_eq, iEnum, iZip, allO_ints, laa_ints, dea_ints, eqa_ints, eqa_ints_nil, wipe_nil, wipe_cons, rListT, rTupT, tYes_eq, tBM, tBM0, rAppend, rExtend, rPop, Nat.reduceSub, List.length_map, List.map_cons, List.map_nil, ints_inj, decide_eq_true_iff, ints_set, List.length_set, sp_require_numbers, sp_code_number]
        exact hnx2 _ _ _ fgt_id pl ⟨rfl, _, by rw [markF_snoc hz]⟩
      · rintro σ H' ⟨rfl, y2, rfl⟩
        show k D _ _
        subst hk
        rw [List.length_map, List.take_length]
        exact ⟨_, rfl, hrt _ _ _ fgt_id pl q⟩

def sp_L_pool (K : PySem.W.Frag) : Sp := fun vs H Q _ => Plain H ∧ match vs with
  | [.ref a, .int k] => IntL K H a ∧ 0 ≤ k ∧ k ≤ 63 ∧ ∀ p g r, H p = none → 0 ≤ g → 0 ≤ r → r < 2147483647 → Q (.ref p) (upd H p (.lst [.int g, .int r]))
  | _ => False
theorem ok_L_pool {P : Program} {w : World} {K : PySem.W.Frag} {mg : Str → Option Value} {base : Heap} {A : Ad} (T : Tx K mg A) : FnOk P w K mg base CX0 1 A.f_L_pool A.d_L_pool ["_law_script", "_law_k"] (sp_L_pool K) := by
  refine T.F_L_pool.ok sc_L_pool (fun vs H Q E h => ?_) (fun cdv A0 outer s H vs Q E hr h => ?_)
  · obtain ⟨pl, h⟩ := h
    match vs, h with
    | [.ref a, .int k], _ => rfl
  · obtain ⟨pl, h⟩ := h
    match vs, h with
    | [.ref a, .int k], h =>
      obtain ⟨⟨ns, hS⟩, h1, h2, q⟩ := h
      refine ⟨_, (pss_fg (pss_cons (ps_set (i := 2) sc_L_pool.nd rfl (.inl rfl) pe_int)
      (pss_cons (ps_if (pt_cmpR op_lt (pv 1) (pe_callB call_len_seq (by rfl) T.m_len PySem.boot_len (pa_cons (pv 0) pa_nil)) (nomark _)) (pss_one (ps_set (i := 2) sc_L_pool.nd rfl (.inl rfl) (pe_callTy call_intM (by rfl) T.m_int (by decide +kernel) (pa_cons (pe_ix ix_list (pv 0) (pv 1) (fun _ _ => rfl)) pa_nil)))) pss_nil)
      (pss_cons (ps_set (i := 3) sc_L_pool.nd rfl (.inl rfl) (pe_callB call_abs (by rfl) T.m_abs (by decide +kernel) (pa_cons (pv 2) pa_nil)))
      (pss_cons (ps_set (i := 4) sc_L_pool.nd rfl (.inl rfl) (pe_op op_add (pe_op op_add (pe_op op_mod (pe_callTy call_intM (by rfl) T.m_int (by decide +kernel) (pa_cons (pv 2) pa_nil)) pe_int) (pe_op op_mul pe_int (pv 1))) pe_int))
      (pss_one (ps_ret (pe_lst (pa_cons (pe_op op_mul (pv 3) (pe_callTy call_intM (by rfl) T.m_int (by decide +kernel) (pa_cons (pe_cmpR op_ge (pv 3) (pe_op op_pow pe_int pe_int) (nomark _)) pa_nil))) (pa_cons (pe_op op_mod (pe_callTy call_intM (by rfl) T.m_int (by decide +kernel) (pa_cons (pe_op op_add (pe_op op_mul (pe_op op_mul (pv 4) (pv 4)) (pv 4)) (pe_op op_mul pe_int (pv 1))) pa_nil)) pe_int) pa_nil)))))))))), ?_⟩
      rw [show start N_L_pool [.ref a, .int k] = [some (.ref a), some (.int k), none, none, none] from rfl]
      simp only [tAsg, gName, tVar, tC, tOp, tUn, tCB, tCons, tNil, tCall, tIfS, tTest, tB, tNot, tAnd, tOr, tAndV, tOrV, tNotV, tIf, tChain, tRet, tRetN, tDrop, tNext, tNever, tBreak, tCont, tAug, ipI, tPar, rI, rI0, rU, rEq, rNe, scal, tFor_eq, iRng1, iRng2, iList, iTup, tCallN, tLst, tTup, rIxL, rIxT, rIxLT, gSub, rSetL, CMul, CDiv, CPow, rInt1, atI, ixN, isI, List.getElem?_cons_zero, List.getElem?_cons_succ, List.set_cons_zero, List.set_cons_succ, Option.some.injEq, HO.lst.injEq, HO.tup.injEq, V.int.injEq, V.bl.injEq, V.ref.injEq, V.str.injEq, exists_eq_left', exists_eq_left, exists_eq_right, exists_eq_right', List.cons.injEq, and_true, true_and, List.append_nil, List.cons_append, List.nil_append, exists_and_left, exists_and_right, and_self, decide_eq_true_eq, Bool.not_eq_true', decide_eq_false_iff_not, if_true, if_false, Bool.false_eq_true, if_false_left, if_true_left, reduceCtorEq, exists_const, exists_eq', cxOf_K, upd_same, upd_upd, upd_none, upd_ne, upd_in, updI_eq, Option.isSome_some, plain_true, List.length_cons, List.length_nil, Nat.reduceAdd, Nat.reduceMul, Nat.reduceLeDiff, Nat.reduceLT, Int.reduceNeg, ne_eq, and_imp, Bool.not_true, Bool.not_false, not_false_eq_true, not_true_eq_false, Int.reducePow, Int.reduceToNat, Int.reduceLT, Int.reduceLE, Int.reduceMul, Int.reduceAdd, Nat.reducePow, Nat.zero_le, implies_true, true_implies, false_implies, or_true, true_or, or_false, false_or, or_self, false_and, and_false, exists_false, Int.reduceAbs, Option.bind_some, Int.cast_ofNat_Int, Int.ofNat_eq_coe, Int.toNat_zero, Int.toNat_one, Int.reduceSub, Int.reduceEq, Nat.reduceEqDiff, sizeLine_lit, Int.zero_add, Classical.not_not, and_assoc, upd_ne2, eq_self, forall_const, IntL_true, decide_true, decide_false, decide_not, Bool.true_and, Bool.and_true, Bool.false_and, Bool.and_false, Bool.or_true, Bool.true_or, Bool.or_false, Bool.false_or, ite_self, rIsM, rIsM2, tyR, sub_int_int, sub_int_bool, sub_int_str, sub_int_list, sub_int_tuple, sub_int_dict, sub_bool_int, sub_bool_bool, sub_bool_str, sub_bool_list, sub_bool_tuple, sub_bool_dict, sub_str_int, sub_str_bool, sub_str_str, sub_str_list, sub_str_tuple, sub_str_dict, sub_NoneType_int, sub_NoneType_bool, sub_NoneType_str, sub_NoneType_list, sub_NoneType_tuple, sub_NoneType_dict, sub_list_int, sub_list_bool, sub_list_str, sub_list_list, sub_list_tuple, sub_list_dict, sub_tuple_int, sub_tuple_bool, sub_tuple_str, sub_tuple_list, sub_tuple_tuple, sub_tuple_dict, okC_int, okC_bool, okC_str, okC_list, okC_tuple, okC_dict, rEqM, rNeM, datF_int, datF_str, datF_bl, datF_non, datF_ref, allO, rIxTT, rIxTK, gTupT, gTupK, gCons, gNil, rLenT, rLenK, SeqAt.shaped, eqv_none_none, eqv_none_bool, eqv_none_int, eqv_none_str, eqv_none_list, eqv_none_tuple, eqv_bool_none, eqv_bool_bool, eqv_bool_int, eqv_bool_str, eqv_bool_list, eqv_bool_tuple, eqv_int_none, eqv_int_bool, eqv_int_int, eqv_int_str, eqv_int_list, eqv_int_tuple, eqv_str_none, eqv_str_bool, eqv_str_int, eqv_str_str, eqv_str_list, eqv_str_tuple, eqv_list_none, eqv_list_bool, eqv_list_int, eqv_list_str, eqv_list_list, eqv_list_tuple, eqv_tuple_none, eqv_tuple_bool, eqv_tuple_int, eqv_tuple_str, eqv_tuple_list, eqv_tuple_tuple, eqa_nil, eqa_cons, eqa_nc, eqa_cn, lay_none, dep_none, lay_bool, dep_bool, lay_int, dep_int, lay_list, dep_list, lay_tuple, dep_tuple, lay_str, dep_str, laa_nil, laa_cons, dea_nil, dea_cons, Option.map_some, Nat.max_self, Nat.max_zero, Nat.zero_max, Bool.and_self, decide_eq_decide, HO.tup.injEq, beq_iff_eq, Bool.and_eq_true, beq_self_eq_true, Nat.zero_add, Int.reduceBEq, tPar3, ex_sqT1, ex_sqL1, unrF, ite_not, cxOf_H0, tLc_eq, iEnum, iZip, allO_ints, laa_ints, dea_ints, eqa_ints, eqa_ints_nil, wipe_nil, wipe_cons, rListT, rTupT, tYes_eq, tBM, tBM0, rAppend, rExtend, rPop, Nat.reduceSub, List.length_map, List.map_cons, List.map_nil, ints_inj, decide_eq_true_iff, ints_set, List.length_set, sp_require_numbers, sp_code_number, tSeq, tFg]
      refine ⟨_, .inl hS, ?_⟩
      have fin : ∀ (p : Addr) (g r : Int), H p = none → 0 ≤ g → 0 ≤ r → r < 2147483647 → ∃ H'', Fgt H (upd H p (.lst [.int g, .int r])) H'' ∧ Plain H'' ∧ Q (.ref p) H'' :=
        fun p g r hp a1 a2 a3 => ⟨_, fgt_of Ex.refl (Kp.lst (soft_new hp) (soft_new hp) .refl), inferInstance, q p g r hp a1 a2 a3⟩
      have sml : ∀ i : Int, -18446744073709551616 < i % 2147483629 + 48271 * k + 11 ∧ i % 2147483629 + 48271 * k + 11 < 18446744073709551616 := fun i => by omega
      split
      · rename_i hk
        rw [List.length_map] at hk
        refine ⟨_, hS, .int (ns.getD k.toNat 0), ?_, ?_⟩
        · rw [List.length_map, if_pos hk, Option.bind_some, List.getElem?_map, List.getD_eq_getElem?_getD]
          rw [List.getElem?_eq_getElem (show k.toNat < ns.length by omega)]
          rfl
        · generalize ns.getD k.toNat 0 = i
          refine ⟨.inr ⟨?_, ?_⟩, (sml i).1, (sml i).2, .inr (sml i), fun p hp => fin p _ _ hp ?_ (Int.emod_nonneg _ (by decide)) (Int.emod_lt_of_pos _ (by decide))⟩
          · split <;> split <;> decide
          · split <;> split <;> decide
          · split <;> split <;> omega
      · exact ⟨(sml 0).1, (sml 0).2, .inr (sml 0), fun p hp => fin p _ _ hp (Int.le_refl 0) (Int.emod_nonneg _ (by decide)) (Int.emod_lt_of_pos _ (by decide))⟩

def sp_L_take (_ : PySem.W.Frag) : Sp := fun vs H Q _ => Plain H ∧ match vs with
  | [.ref a, .int m] => ∃ g r, H a = some (.lst [.int g, .int r]) ∧ 0 ≤ g ∧ 0 ≤ r ∧ r < 2147483647 ∧ 0 < m ∧ m < 1073741824 ∧
      ∀ x g' r', 0 ≤ x → x < m → 0 ≤ g' → 0 ≤ r' → r' < 2147483647 → Q (.int x) (upd H a (.lst [.int g', .int r']))
  | _ => False
theorem ok_L_take {P : Program} {w : World} {K : PySem.W.Frag} {mg : Str → Option Value} {base : Heap} {A : Ad} (T : Tx K mg A) : FnOk P w K mg base CX0 1 A.f_L_take A.d_L_take ["_law_pool_here", "_law_many"] (sp_L_take K) := by
  refine T.F_L_take.ok sc_L_take (fun vs H Q E h => ?_) (fun cdv A0 outer s H vs Q E hr h => ?_)
  · obtain ⟨pl, h⟩ := h
    match vs, h with
    | [.ref a, .int k], _ => rfl
  · obtain ⟨pl, h⟩ := h
    match vs, h with
    | [.ref a, .int m], h =>
      obtain ⟨g, r, ha, h1, h2, h3, h4, h5, q⟩ := h
      refine ⟨_, (pss_fg (pss_cons (ps_if (pt_cmpR op_gt (pe_ix ix_listT (pv 0) pe_int (fun _ _ => rfl)) pe_int (nomark _)) (pss_cons (ps_set (i := 2) sc_L_take.nd rfl (.inl rfl) (pe_op op_mod (pe_callTy call_intM (by rfl) T.m_int (by decide +kernel) (pa_cons (pe_ix ix_listT (pv 0) pe_int (fun _ _ => rfl)) pa_nil)) (pv 1)))
      (pss_cons (ps_asg (pe_op op_fdiv (pe_callTy call_intM (by rfl) T.m_int (by decide +kernel) (pa_cons (pe_ix ix_listT (pv 0) pe_int (fun _ _ => rfl)) pa_nil)) (pv 1)) (pg_sub (pv 0) pe_int set_list))
      (pss_one (ps_ret (pv 2))))) pss_nil)
      (pss_cons (ps_asg (pe_op op_mod (pe_callTy call_intM (by rfl) T.m_int (by decide +kernel) (pa_cons (pe_op op_add (pe_op op_mul (pe_ix ix_listT (pv 0) pe_int (fun _ _ => rfl)) pe_int) pe_int) pa_nil)) pe_int) (pg_sub (pv 0) pe_int set_list))
      (pss_one (ps_ret (pe_op op_mod (pe_op op_fdiv (pe_op op_mod (pe_callTy call_intM (by rfl) T.m_int (by decide +kernel) (pa_cons (pe_op op_mul (pe_ix ix_listT (pv 0) pe_int (fun _ _ => rfl)) (pe_ix ix_listT (pv 0) pe_int (fun _ _ => rfl))) pa_nil)) pe_int) pe_int) (pv 1))))))), ?_⟩
      rw [show start N_L_take [.ref a, .int m] = [some (.ref a), some (.int m), none] from rfl]
      simp only [tAsg, gName, tVar, tC, tOp, tUn, tCB, tCons, tNil, tCall, tIfS, tTest, tB, tNot, tAnd, tOr, tAndV, tOrV, tNotV, tIf, tChain, tRet, tRetN, tDrop, tNext, tNever, tBreak, tCont, tAug, ipI, tPar, rI, rI0, rU, rEq, rNe, scal, tFor_eq, iRng1, iRng2, iList, iTup, tCallN, tLst, tTup, rIxL, rIxT, rIxLT, gSub, rSetL, CMul, CDiv, CPow, rInt1, atI, ixN, isI, List.getElem?_cons_zero, List.getElem?_cons_succ, List.set_cons_zero, List.set_cons_succ, Option.some.injEq, HO.lst.injEq, HO.tup.injEq, V.int.injEq, V.bl.injEq, V.ref.injEq, V.str.injEq, exists_eq_left', exists_eq_left, exists_eq_right, exists_eq_right', List.cons.injEq, and_true, true_and, List.append_nil, List.cons_append, List.nil_append, exists_and_left, exists_and_right, and_self, decide_eq_true_eq, Bool.not_eq_true', decide_eq_false_iff_not, if_true, if_false, Bool.false_eq_true, if_false_left, if_true_left, reduceCtorEq, exists_const, exists_eq', cxOf_K, upd_same, upd_upd, upd_none, upd_ne, upd_in, updI_eq, Option.isSome_some, plain_true, List.length_cons, List.length_nil, Nat.reduceAdd, Nat.reduceMul, Nat.reduceLeDiff, Nat.reduceLT, Int.reduceNeg, ne_eq, and_imp, Bool.not_true, Bool.not_false, not_false_eq_true, not_true_eq_false, Int.reducePow, Int.reduceToNat, Int.reduceLT, Int.reduceLE, Int.reduceMul, Int.reduceAdd, Nat.reducePow, Nat.zero_le, implies_true, true_implies, false_implies, or_true, true_or, or_false, false_or, or_self, false_and, and_false, exists_false, Int.reduceAbs, Option.bind_some, Int.cast_ofNat_Int, Int.ofNat_eq_coe, Int.toNat_zero, Int.toNat_one, Int.reduceSub, Int.reduceEq, Nat.reduceEqDiff, sizeLine_lit, Int.zero_add, Classical.not_not, and_assoc, upd_ne2, eq_self, forall_const, IntL_true, decide_true, decide_false, decide_not, Bool.true_and, Bool.and_true, Bool.false_and, Bool.and_false, Bool.or_true, Bool.true_or, Bool.or_false, Bool.false_or, ite_self, rIsM, rIsM2, tyR, sub_int_int, sub_int_bool, sub_int_str, sub_int_list, sub_int_tuple, sub_int_dict, sub_bool_int, sub_bool_bool, sub_bool_str, sub_bool_list, sub_bool_tuple, sub_bool_dict, sub_str_int, sub_str_bool, sub_str_str, sub_str_list, sub_str_tuple, sub_str_dict, sub_NoneType_int, sub_NoneType_bool, sub_NoneType_str, sub_NoneType_list, sub_NoneType_tuple, sub_NoneType_dict, sub_list_int, sub_list_bool, sub_list_str, sub_list_list, sub_list_tuple, sub_list_dict, sub_tuple_int, sub_tuple_bool, sub_tuple_str, sub_tuple_list, sub_tuple_tuple, sub_tuple_dict, okC_int, okC_bool, okC_str, okC_list, okC_tuple, okC_dict, rEqM, rNeM, datF_int, datF_str, datF_bl, datF_non, datF_ref, allO, rIxTT, rIxTK, gTupT, gTupK, gCons, gNil, rLenT, rLenK, SeqAt.shaped, eqv_none_none, eqv_none_bool, eqv_none_int, eqv_none_str, eqv_none_list, eqv_none_tuple, eqv_bool_none, eqv_bool_bool, eqv_bool_int, eqv_bool_str, eqv_bool_list, eqv_bool_tuple, eqv_int_none, eqv_int_bool, eqv_int_int, eqv_int_str, eqv_int_list, eqv_int_tuple, eqv_str_none, eqv_str_bool, eqv_str_int, eqv_str_str, eqv_str_list, eqv_str_tuple, eqv_list_none, eqv_list_bool, eqv_list_int, eqv_list_str, eqv_list_list, eqv_list_tuple, eqv_tuple_none, eqv_tuple_bool, eqv_tuple_int, eqv_tuple_str, eqv_tuple_list, eqv_tuple_tuple, eqa_nil, eqa_cons, eqa_nc, eqa_cn, lay_none, dep_none, lay_bool, dep_bool, lay_int, dep_int, lay_list, dep_list, lay_tuple, dep_tuple, lay_str, dep_str, laa_nil, laa_cons, dea_nil, dea_cons, Option.map_some, Nat.max_self, Nat.max_zero, Nat.zero_max, Bool.and_self, decide_eq_decide, HO.tup.injEq, beq_iff_eq, Bool.and_eq_true, beq_self_eq_true, Nat.zero_add, Int.reduceBEq, tPar3, ex_sqT1, ex_sqL1, unrF, ite_not, cxOf_H0, tLc_eq, iEnum, iZip, allO_ints, laa_ints, dea_ints, eqa_ints, eqa_ints_nil, wipe_nil, wipe_cons, rListT, rTupT, tYes_eq, tBM, tBM0, rAppend, rExtend, rPop, Nat.reduceSub, List.length_map, List.map_cons, List.map_nil, ints_inj, decide_eq_true_iff, ints_set, List.length_set, sp_require_numbers, sp_code_number, tSeq, tFg, *]
      split
      · rename_i hg
        exact ⟨_, fgt_of Ex.refl (Kp.lst (soft_lst ha) (soft_lst ha) .refl), inferInstance, q _ _ _ (Int.emod_nonneg _ (by omega)) (Int.emod_lt_of_pos _ h4) (Int.ediv_nonneg h1 (by omega)) h2 h3⟩
      · refine ⟨by omega, by omega, _, fgt_of Ex.refl (Kp.lst (soft_lst ha) (soft_lst ha) .refl), inferInstance, q _ _ _ (Int.emod_nonneg _ (by omega)) (Int.emod_lt_of_pos _ h4) h1 (Int.emod_nonneg _ (by decide)) (Int.emod_lt_of_pos _ (by decide))⟩

def sp_L_number (_ : PySem.W.Frag) : Sp := fun vs H Q _ => Plain H ∧ match vs with
  | [.ref a] => ∃ g r, H a = some (.lst [.int g, .int r]) ∧ 0 ≤ g ∧ 0 ≤ r ∧ r < 2147483647 ∧
      ∀ x g' r', -(10 ^ 55) < x → x < 10 ^ 55 → 0 ≤ g' → 0 ≤ r' → r' < 2147483647 → Q (.int x) (upd H a (.lst [.int g', .int r']))
  | _ => False
/-! -/
theorem ok_L_number {P : Program} {w : World} {K : PySem.W.Frag} {mg : Str → Option Value} {base : Heap} {A : Ad} (T : Tx K mg A) : FnOk P w K mg base CX0 2 A.f_L_number A.d_L_number ["_law_pool_here"] (sp_L_number K) := by
  refine T.F_L_number.ok sc_L_number (fun vs H Q E h => ?_) (fun cdv A0 outer s H vs Q E hr h => ?_)
  · obtain ⟨pl, h⟩ := h
    match vs, h with
    | [.ref a], _ => rfl
  · obtain ⟨pl, h⟩ := h
    match vs, h with
    | [.ref a], h =>
      obtain ⟨g, r, ha, h1, h2, h3, q⟩ := h
      refine ⟨_, (pss_fg (pss_cons (ps_set (i := 1) sc_L_number.nd rfl (.inl rfl) (pe_call (ok_L_take T) (hr.mono (by decide)) (by rfl) T.g_L_take T.F_L_take.kp T.b_L_take .nil pass0 (pa_cons (pv 0) (pa_cons pe_int pa_nil))))
      (pss_cons (ps_for PassesOwn.never rfl (pi_range1 rfl T.m_range (pa_cons (pe_ix ix_listT (pe_lst (pa_cons pe_int (pa_cons pe_int (pa_cons pe_int (pa_cons pe_int (pa_cons pe_int (pa_cons pe_int (pa_cons pe_int pa_nil)))))))) (pe_call (ok_L_take T) (hr.mono (by decide)) (by rfl) T.g_L_take T.F_L_take.kp T.b_L_take .nil pass0 (pa_cons (pv 0) (pa_cons pe_int pa_nil))) (fun _ _ => rfl)) pa_nil)) (pg_name (i := 2) sc_L_number.nd rfl (.inl rfl))
      (pss_fg (pss_one (ps_set (i := 1) sc_L_number.nd rfl (.inl rfl) (pe_op op_add (pe_op op_mul (pv 1) (pe_op op_pow pe_int pe_int)) (pe_call (ok_L_take T) (hr.mono (by decide)) (by rfl) T.g_L_take T.F_L_take.kp T.b_L_take .nil pass0 (pa_cons (pv 0) (pa_cons (pe_op op_pow pe_int pe_int) pa_nil))))))))
      (pss_one (ps_ret (pe_op op_mul (pv 1) (pe_ix ix_listT (pe_lst (pa_cons pe_int (pa_cons (pe_un un_neg pe_int) pa_nil))) (pe_call (ok_L_take T) (hr.mono (by decide)) (by rfl) T.g_L_take T.F_L_take.kp T.b_L_take .nil pass0 (pa_cons (pv 0) (pa_cons pe_int pa_nil))) (fun _ _ => rfl)))))))), ?_⟩
      rw [show start N_L_number [.ref a] = [some (.ref a), none, none] from rfl]
      refine fg_gen fun D hnx hrt hbk hct => ?_
      refine seq_gen fun k hk => ?_
      simp (config := { contextual := true, maxSteps := 2000000, maxDischargeDepth := 12 }) only [tAsg, gName, tVar, tC, tOp, tUn, tCB, tCons, tNil, tCall, tIfS, tTest, tB, tNot, tAnd, tOr, tAndV, tOrV, tNotV, tIf, tChain, tRet, tRetN, tDrop, tNext, tNever, tBreak, tCont, tAug, ipI, tPar, rI, rI0, rU, rEq, rNe, scal, tFor_eq, iRng1, iRng2, iList, iTup, tCallN, tLst, tTup, rIxL, rIxT, rIxLT, gSub, rSetL, CMul, CDiv, CPow, rInt1, atI, ixN, isI, List.getElem?_cons_zero, List.getElem?_cons_succ, List.set_cons_zero, List.set_cons_succ, Option.some.injEq, HO.lst.injEq, HO.tup.injEq, V.int.injEq, V.bl.injEq, V.ref.injEq, V.str.injEq, exists_eq_left', exists_eq_left, exists_eq_right, exists_eq_right', List.cons.injEq, and_true, true_and, List.append_nil, List.cons_append, List.nil_append, exists_and_left, exists_and_right, and_self, decide_eq_true_eq, Bool.not_eq_true', decide_eq_false_iff_not, if_true, if_false, Bool.false_eq_true, if_false_left, if_true_left, reduceCtorEq, exists_const, exists_eq', cxOf_K, upd_same, upd_upd, upd_none, upd_ne, upd_in, updI_eq, Option.isSome_some, plain_true, List.length_cons, List.length_nil, Nat.reduceAdd, Nat.reduceMul, Nat.reduceLeDiff, Nat.reduceLT, Int.reduceNeg, ne_eq, and_imp, Bool.not_true, Bool.not_false, not_false_eq_true, not_true_eq_false, Int.reducePow, Int.reduceToNat, Int.reduceLT, Int.reduceLE, Int.reduceMul, Int.reduceAdd, Nat.reducePow, Nat.zero_le, implies_true, true_implies, false_implies, or_true, true_or, or_false, false_or, or_self, false_and, and_false, exists_false, Int.reduceAbs, Option.bind_some, Int.cast_ofNat_Int, Int.ofNat_eq_coe, Int.toNat_zero, Int.toNat_one, Int.reduceSub, Int.reduceEq, Nat.reduceEqDiff, sizeLine_lit, Int.zero_add, Classical.not_not, and_assoc, upd_ne2, eq_self, forall_const, IntL_true, decide_true, decide_false, decide_not, Bool.true_and, Bool.and_true, Bool.false_and, Bool.and_false, Bool.or_true, Bool.true_or, Bool.or_false, Bool.false_or, ite_self, rIsM, rIsM2, tyR, sub_int_int, sub_int_bool, sub_int_str, sub_int_list, sub_int_tuple, sub_int_dict, sub_bool_int, sub_bool_bool, sub_bool_str, sub_bool_list, sub_bool_tuple, sub_bool_dict, sub_str_int, sub_str_bool, sub_str_str, sub_str_list, sub_str_tuple, sub_str_dict, sub_NoneType_int, sub_NoneType_bool, sub_NoneType_str, sub_NoneType_list, sub_NoneType_tuple, sub_NoneType_dict, sub_list_int, sub_list_bool, sub_list_str, sub_list_list, sub_list_tuple, sub_list_dict, sub_tuple_int, sub_tuple_bool, sub_tuple_str, sub_tuple_list, sub_tuple_tuple, sub_tuple_dict, okC_int, okC_bool, okC_str, okC_list, okC_tuple, okC_dict, rEqM, rNeM, datF_int, datF_str, datF_bl, datF_non, datF_ref, allO, rIxTT, rIxTK, gTupT, gTupK, gCons, gNil, rLenT, rLenK, SeqAt.shaped, eqv_none_none, eqv_none_bool, eqv_none_int, eqv_none_str, eqv_none_list, eqv_none_tuple, eqv_bool_none, eqv_bool_bool, eqv_bool_int, eqv_bool_str, eqv_bool_list, eqv_bool_tuple, eqv_int_none, eqv_int_bool, eqv_int_int, eqv_int_str, eqv_int_list, eqv_int_tuple, eqv_str_none, eqv_str_bool, eqv_str_int, eqv_str_str, eqv_str_list, eqv_str_tuple, eqv_list_none, eqv_list_bool, eqv_list_int, eqv_list_str, eqv_list_list, eqv_list_tuple, eqv_tuple_none, eqv_tuple_bool, eqv_tuple_int, eqv_tuple_str, eqv_tuple_list, eqv_tuple_tuple, eqa_nil, eqa_cons, eqa_nc, eqa_cn, lay_none, dep_none, lay_bool, dep_bool, lay_int, dep_int, lay_list, dep_list, lay_tuple, dep_tuple, lay_str, dep_str, laa_nil, laa_cons, dea_nil, dea_cons, Option.map_some, Nat.max_self, Nat.max_zero, Nat.zero_max, Bool.and_self, decide_eq_decide, HO.tup.injEq, beq_iff_eq, Bool.and_eq_true, beq_self_eq_true, Nat.zero_add, Int.reduceBEq, tPar3, ex_sqT1, ex_sqL1, unrF, ite_not, cxOf_H0, tLc_eq, iEnum, iZip, allO_ints, laa_ints, dea_ints, eqa_ints, eqa_ints_nil, wipe_nil, wipe_cons, rListT, rTupT, tYes_eq, tBM, tBM0, rAppend, rExtend, rPop, Nat.reduceSub, List.length_map, List.map_cons, List.map_nil, ints_inj, decide_eq_true_iff, ints_set, List.length_set, sp_L_take, ha, h1, h2, h3]
      intro x g1 r1 b1 b2 b3 b4 b5
      subst hk
      refine seq_gen fun k hk => ?_
      simp (config := { contextual := true, maxSteps := 2000000, maxDischargeDepth := 12 }) only [tAsg, gName, tVar, tC, tOp, tUn, tCB, tCons, tNil, tCall, tIfS, tTest, tB, tNot, tAnd, tOr, tAndV, tOrV, tNotV, tIf, tChain, tRet, tRetN, tDrop, tNext, tNever, tBreak, tCont, tAug, ipI, tPar, rI, rI0, rU, rEq, rNe, scal, tFor_eq, iRng1, iRng2, iList, iTup, tCallN, tLst, tTup, rIxL, rIxT, rIxLT, gSub, rSetL, CMul, CDiv, CPow, rInt1, atI, ixN, isI, List.getElem?_cons_zero, List.getElem?_cons_succ, List.set_cons_zero, List.set_cons_succ, Option.some.injEq, HO.lst.injEq, HO.tup.injEq, V.int.injEq, V.bl.injEq, V.ref.injEq, V.str.injEq, exists_eq_left', exists_eq_left, exists_eq_right, exists_eq_right', List.cons.injEq, and_true, true_and, List.append_nil, List.cons_append, List.nil_append, exists_and_left, exists_and_right, and_self, decide_eq_true_eq, Bool.not_eq_true', decide_eq_false_iff_not, if_true, if_false, Bool.false_eq_true, if_false_left, if_true_left, reduceCtorEq, exists_const, exists_eq', cxOf_K, upd_same, upd_upd, upd_none, upd_ne, upd_in, updI_eq, Option.isSome_some, plain_true, List.length_cons, List.length_nil, Nat.reduceAdd, Nat.reduceMul, Nat.reduceLeDiff, Nat.reduceLT, Int.reduceNeg, ne_eq, and_imp, Bool.not_true, Bool.not_false, not_false_eq_true, not_true_eq_false, Int.reducePow, Int.reduceToNat, Int.reduceLT, Int.reduceLE, Int.reduceMul, Int.reduceAdd, Nat.reducePow, Nat.zero_le, implies_true, true_implies, false_implies, or_true, true_or, or_false, false_or, or_self, false_and, and_false, exists_false, Int.reduceAbs, Option.bind_some, Int.cast_ofNat_Int, Int.ofNat_eq_coe, Int.toNat_zero, Int.toNat_one, Int.reduceSub, Int.reduceEq, Nat.reduceEqDiff, sizeLine_lit, Int.zero_add, Classical.not_not, and_assoc, upd_ne2, eq_self, forall_const, IntL_true, decide_true, decide_false, decide_not, Bool.true_and, Bool.and_true, Bool.false_and, Bool.and_false, Bool.or_true, Bool.true_or, Bool.or_false, Bool.false_or, ite_self, rIsM, rIsM2, tyR, sub_int_int, sub_int_bool, sub_int_str, sub_int_list, sub_int_tuple, sub_int_dict, sub_bool_int, sub_bool_bool, sub_bool_str, sub_bool_list, sub_bool_tuple, sub_bool_dict, sub_str_int, sub_str_bool, sub_str_str, sub_str_list, sub_str_tuple, sub_str_dict, sub_NoneType_int, sub_NoneType_bool, sub_NoneType_str, sub_NoneType_list, sub_NoneType_tuple, sub_NoneType_dict, sub_list_int, sub_list_bool, sub_list_str, sub_list_list, sub_list_tuple, sub_list_dict, sub_tuple_int, sub_tuple_bool, sub_tuple_str, sub_tuple_list, sub_tuple_tuple, sub_tuple_dict, okC_int, okC_bool, okC_str, okC_list, okC_tuple, okC_dict, rEqM, rNeM, datF_int, datF_str, datF_bl, datF_non, datF_ref, allO, rIxTT, rIxTK, gTupT, gTupK, gCons, gNil, rLenT, rLenK, SeqAt.shaped, eqv_none_none, eqv_none_bool, eqv_none_int, eqv_none_str, eqv_none_list, eqv_none_tuple, eqv_bool_none, eqv_bool_bool, eqv_bool_int, eqv_bool_str, eqv_bool_list, eqv_bool_tuple, eqv_int_none, eqv_int_bool, eqv_int_int, eqv_int_str, eqv_int_list, eqv_int_tuple, eqv_str_none, eqv_str_bool, eqv_str_int, eqv_str_str, eqv_str_list, eqv_str_tuple, eqv_list_none, eqv_list_bool, eqv_list_int, eqv_list_str, eqv_list_list, eqv_list_tuple, eqv_tuple_none, eqv_tuple_bool, eqv_tuple_int, eqv_tuple_str, eqv_tuple_list, eqv_tuple_tuple, eqa_nil, eqa_cons, eqa_nc, eqa_cn, lay_none, dep_none, lay_bool, dep_bool, lay_int, dep_int, lay_list, dep_list, lay_tuple, dep_tuple, lay_str, dep_str, laa_nil, laa_cons, dea_nil, dea_cons, Option.map_some, Nat.max_self, Nat.max_zero, Nat.zero_max, Bool.and_self, decide_eq_decide, HO.tup.injEq, beq_iff_eq, Bool.and_eq_true, beq_self_eq_true, Nat.zero_add, Int.reduceBEq, tPar3, ex_sqT1, ex_sqL1, unrF, ite_not, cxOf_H0, tLc_eq, iEnum, iZip, allO_ints, laa_ints, dea_ints, eqa_ints, eqa_ints_nil, wipe_nil, wipe_cons, rListT, rTupT, tYes_eq, tBM, tBM0, rAppend, rExtend, rPop, Nat.reduceSub, List.length_map, List.map_cons, List.map_nil, ints_inj, decide_eq_true_iff, ints_set, List.length_set, sp_L_take, b3, b4, b5]
      intro p pa hp x1 g2 r2 c1 c2 c3 c4 c5
      subst hk
      obtain ⟨j, ej, j0, j9⟩ : ∃ j : Int, [V.int 0, V.int 0, V.int 1, V.int 1, V.int 1, V.int 2, V.int 9][x1.toNat]? = some (.int j) ∧ 0 ≤ j ∧ j ≤ 9 := by
        obtain ⟨n, rfl⟩ : ∃ n : Nat, x1 = (n : Int) := ⟨x1.toNat, by omega⟩
        rw [Int.toNat_natCast]
        match n, c2 with
        | 0, _ => exact ⟨_, rfl, by decide, by decide⟩
        | 1, _ => exact ⟨_, rfl, by decide, by decide⟩
        | 2, _ => exact ⟨_, rfl, by decide, by decide⟩
        | 3, _ => exact ⟨_, rfl, by decide, by decide⟩
        | 4, _ => exact ⟨_, rfl, by decide, by decide⟩
        | 5, _ => exact ⟨_, rfl, by decide, by decide⟩
        | 6, _ => exact ⟨_, rfl, by decide, by decide⟩
        | n + 7, c2 => omega
      refine ⟨_, ej, j, rfl, by omega, by omega, forB_range (fun i σ H' => ∃ f g r y, σ = [some (.ref a), some (.int f), y] ∧ H' = upd (upd H a (.lst [.int g, .int r])) p (.lst [V.int 0, V.int 0, V.int 1, V.int 1, V.int 1, V.int 2, V.int 9]) ∧ 0 ≤ f ∧ f < 10 * 10 ^ (6 * i) ∧ 0 ≤ g ∧ 0 ≤ r ∧ r < 2147483647) ⟨x, g2, r2, _, rfl, rfl, b1, by omega, c3, c4, c5⟩ ?_ ?_⟩
      · rintro i σ H' hi ⟨f, g, r, y, rfl, rfl, f1, f2, f3, f4, f5⟩
        refine fg_gen fun D2 hnx2 hrt2 hbk2 hct2 => ?_
        simp (config := { contextual := true, maxSteps := 2000000, maxDischargeDepth := 12 }) only [tAsg, gName, tVar, tC, tOp, tUn, tCB, tCons, tNil, tCall, tIfS, tTest, tB, tNot, tAnd, tOr, tAndV, tOrV, tNotV, tIf, tChain, tRet, tRetN, tDrop, tNext, tNever, tBreak, tCont, tAug, ipI, tPar, rI, rI0, rU, rEq, rNe, scal, tFor_eq, iRng1, iRng2, iList, iTup, tCallN, tLst, tTup, rIxL, rIxT, rIxLT, gSub, rSetL, CMul, CDiv, CPow, rInt1, atI, ixN, isI, List.getElem?_cons_zero, List.getElem?_cons_succ, List.set_cons_zero, List.set_cons_succ, Option.some.injEq, HO.lst.injEq, HO.tup.injEq, V.int.injEq, V.bl.injEq, V.ref.injEq, V.str.injEq, exists_eq_left', exists_eq_left, exists_eq_right, exists_eq_right', List.cons.injEq, and_true, true_and, List.append_nil, List.cons_append, List.nil_append, exists_and_left, exists_and_right, and_self, decide_eq_true_eq, Bool.not_eq_true', decide_eq_false_iff_not, if_true, if_false, Bool.false_eq_true, if_false_left, if_true_left, reduceCtorEq, exists_const, exists_eq', cxOf_K, upd_same, upd_upd, upd_none, upd_ne, upd_in, updI_eq, Option.isSome_some, plain_true, List.length_cons, List.length_nil, Nat.reduceAdd, Nat.reduceMul, Nat.reduceLeDiff, Nat.reduceLT, Int.reduceNeg, ne_eq, and_imp, Bool.not_true, Bool.not_false, not_false_eq_true, not_true_eq_false, Int.reducePow, Int.reduceToNat, Int.reduceLT, Int.reduceLE, Int.reduceMul, Int.reduceAdd, Nat.reducePow, Nat.zero_le, implies_true, true_implies, false_implies, or_true, true_or, or_false, false_or, or_self, false_and, and_false, exists_false, Int.reduceAbs, Option.bind_some, Int.cast_ofNat_Int, Int.ofNat_eq_coe, Int.toNat_zero, Int.toNat_one, Int.reduceSub, Int.reduceEq, Nat.reduceEqDiff, sizeLine_lit, Int.zero_add, Classical.not_not, and_assoc, upd_ne2, eq_self, forall_const, IntL_true, decide_true, decide_false, decide_not, Bool.true_and, Bool.and_true, Bool.false_and, Bool.and_false, Bool.or_true, Bool.true_or, Bool.or_false, Bool.false_or, ite_self, rIsM, rIsM2, tyR, sub_int_int, sub_int_bool, sub_int_str, sub_int_list, sub_int_tuple, sub_int_dict, sub_bool_int, sub_bool_bool, sub_bool_str, sub_bool_list, sub_bool_tuple, sub_bool_dict, sub_str_int, sub_str_bool, sub_str_str, sub_str_list, sub_str_tuple, sub_str_dict, sub_NoneType_int, sub_NoneType_bool, sub_NoneType_str, sub_NoneType_list, sub_NoneType_tuple, sub_NoneType_dict, sub_list_int, sub_list_bool, sub_list_str, sub_list_list, sub_list_tuple, sub_list_dict, sub_tuple_int, sub_tuple_bool, sub_tuple_str, sub_tuple_list, sub_tuple_tuple, sub_tuple_dict, okC_int, okC_bool, okC_str, okC_list, okC_tuple, okC_dict, rEqM, rNeM, datF_int, datF_str, datF_bl, datF_non, datF_ref, allO, rIxTT, rIxTK, gTupT, gTupK, gCons, gNil, rLenT, rLenK, SeqAt.shaped, eqv_none_none, eqv_none_bool, eqv_none_int, eqv_none_str, eqv_none_list, eqv_none_tuple, eqv_bool_none, eqv_bool_bool, eqv_bool_int, eqv_bool_str, eqv_bool_list, eqv_bool_tuple, eqv_int_none, eqv_int_bool, eqv_int_int, eqv_int_str, eqv_int_list, eqv_int_tuple, eqv_str_none, eqv_str_bool, eqv_str_int, eqv_str_str, eqv_str_list, eqv_str_tuple, eqv_list_none, eqv_list_bool, eqv_list_int, eqv_list_str, eqv_list_list, eqv_list_tuple, eqv_tuple_none, eqv_tuple_bool, eqv_tuple_int, eqv_tuple_str, eqv_tuple_list, eqv_tuple_tuple, eqa_nil, eqa_cons, eqa_nc, eqa_cn, lay_none, dep_none, lay_bool, dep_bool, lay_int, dep_int, lay_list, dep_list, lay_tuple, dep_tuple, lay_str, dep_str, laa_nil, laa_cons, dea_nil, dea_cons, Option.map_some, Nat.max_self, Nat.max_zero, Nat.zero_max, Bool.and_self, decide_eq_decide, HO.tup.injEq, beq_iff_eq, Bool.and_eq_true, beq_self_eq_true, Nat.zero_add, Int.reduceBEq, tPar3, ex_sqT1, ex_sqL1, unrF, ite_not, cxOf_H0, tLc_eq, iEnum, iZip, allO_ints, laa_ints, dea_ints, eqa_ints, eqa_ints_nil, wipe_nil, wipe_cons, rListT, rTupT, tYes_eq, tBM, tBM0, rAppend, rExtend, rPop, Nat.reduceSub, List.length_map, List.map_cons, List.map_nil, ints_inj, decide_eq_true_iff, ints_set, List.length_set, sp_L_take, pa, f3, f4, f5]
        intro z g' r' z1 z2 z3 z4 z5
        refine hnx2 _ _ _ (fgt_of Ex.refl ?_) inferInstance ⟨_, g', r', _, rfl, rfl, by omega, ?_, z3, z4, z5⟩
        · rw [← upd_swap1 (x := .lst [.int g, .int r]) (z := .lst [.int g', .int r']) pa]
          walk_at "kp"
        · have e : (10 : Int) ^ (6 * (i + 1)) = 10 ^ (6 * i) * 1000000 := by rw [Nat.mul_add, Int.pow_add]; rfl
          rw [e]
          generalize (10 : Int) ^ (6 * i) = w at f2
          omega
      · rintro σ H' ⟨f, g, r, y, rfl, rfl, f1, f2, f3, f4, f5⟩
        simp (config := { contextual := true, maxSteps := 2000000, maxDischargeDepth := 12 }) only [tAsg, gName, tVar, tC, tOp, tUn, tCB, tCons, tNil, tCall, tIfS, tTest, tB, tNot, tAnd, tOr, tAndV, tOrV, tNotV, tIf, tChain, tRet, tRetN, tDrop, tNext, tNever, tBreak, tCont, tAug, ipI, tPar, rI, rI0, rU, rEq, rNe, scal, tFor_eq, iRng1, iRng2, iList, iTup, tCallN, tLst, tTup, rIxL, rIxT, rIxLT, gSub, rSetL, CMul, CDiv, CPow, rInt1, atI, ixN, isI, List.getElem?_cons_zero, List.getElem?_cons_succ, List.set_cons_zero, List.set_cons_succ, Option.some.injEq, HO.lst.injEq, HO.tup.injEq, V.int.injEq, V.bl.injEq, V.ref.injEq, V.str.injEq, exists_eq_left', exists_eq_left, exists_eq_right, exists_eq_right', List.cons.injEq, and_true, true_and, List.append_nil, List.cons_append, List.nil_append, exists_and_left, exists_and_right, and_self, decide_eq_true_eq, Bool.not_eq_true', decide_eq_false_iff_not, if_true, if_false, Bool.false_eq_true, if_false_left, if_true_left, reduceCtorEq, exists_const, exists_eq', cxOf_K, upd_same, upd_upd, upd_none, upd_ne, upd_in, updI_eq, Option.isSome_some, plain_true, List.length_cons, List.length_nil, Nat.reduceAdd, Nat.reduceMul, Nat.reduceLeDiff, Nat.reduceLT, Int.reduceNeg, ne_eq, and_imp, Bool.not_true, Bool.not_false, not_false_eq_true, not_true_eq_false, Int.reducePow, Int.reduceToNat, Int.reduceLT, Int.reduceLE, Int.reduceMul, Int.reduceAdd, Nat.reducePow, Nat.zero_le, implies_true, true_implies, false_implies, or_true, true_or, or_false, false_or, or_self, false_and, and_false, exists_false, Int.reduceAbs, Option.bind_some, Int.cast_ofNat_Int, Int.ofNat_eq_coe, Int.toNat_zero, Int.toNat_one, Int.reduceSub, Int.reduceEq, Nat.reduceEqDiff, sizeLine_lit, Int.zero_add, Classical.not_not, and_assoc, upd_ne2, eq_self, forall_const, IntL_true, decide_true, decide_false, decide_not, Bool.true_and, Bool.and_true, Bool.false_and, Bool.and_false, Bool.or_true, Bool.true_or, Bool.or_false, Bool.false_or, ite_self, rIsM, rIsM2, tyR, sub_int_int, sub_int_bool, sub_int_str, sub_int_list, sub_int_tuple, sub_int_dict, sub_bool_int, sub_bool_bool, sub_bool_str, sub_bool_list, sub_bool_tuple, sub_bool_dict, sub_str_int, sub_str_bool, sub_str_str, sub_str_list, sub_str_tuple, sub_str_dict, sub_NoneType_int, sub_NoneType_bool, sub_NoneType_str, sub_NoneType_list, sub_NoneType_tuple, sub_NoneType_dict, sub_list_int, sub_list_bool, sub_list_str, sub_list_list, sub_list_tuple, sub_list_dict, sub_tuple_int, sub_tuple_bool, sub_tuple_str, sub_tuple_list, sub_tuple_tuple, sub_tuple_dict, okC_int, okC_bool, okC_str, okC_list, okC_tuple, okC_dict, rEqM, rNeM, datF_int, datF_str, datF_bl, datF_non, datF_ref, allO, rIxTT, rIxTK, gTupT, gTupK, gCons, gNil, rLenT, rLenK, SeqAt.shaped, eqv_none_none, eqv_none_bool, eqv_none_int, eqv_none_str, eqv_none_list, eqv_none_tuple, eqv_bool_none, eqv_bool_bool, eqv_bool_int, eqv_bool_str, eqv_bool_list, eqv_bool_tuple, eqv_int_none, eqv_int_bool, eqv_int_int, eqv_int_str, eqv_int_list, eqv_int_tuple, eqv_str_none, eqv_str_bool, eqv_str_int, eqv_str_str, eqv_str_list, eqv_str_tuple, eqv_list_none, eqv_list_bool, eqv_list_int, eqv_list_str, eqv_list_list, eqv_list_tuple, eqv_tuple_none, eqv_tuple_bool, eqv_tuple_int, eqv_tuple_str, eqv_tuple_list, eqv_tuple_tuple, eqa_nil, eqa_cons, eqa_nc, eqa_cn, lay_none, dep_none, lay_bool, dep_bool, lay_int, dep_int, lay_list, dep_list, lay_tuple, dep_tuple, lay_str, dep_str, laa_nil, laa_cons, dea_nil, dea_cons, Option.map_some, Nat.max_self, Nat.max_zero, Nat.zero_max, Bool.and_self, decide_eq_decide, HO.tup.injEq, beq_iff_eq, Bool.and_eq_true, beq_self_eq_true, Nat.zero_add, Int.reduceBEq, tPar3, ex_sqT1, ex_sqL1, unrF, ite_not, cxOf_H0, tLc_eq, iEnum, iZip, allO_ints, laa_ints, dea_ints, eqa_ints, eqa_ints_nil, wipe_nil, wipe_cons, rListT, rTupT, tYes_eq, tBM, tBM0, rAppend, rExtend, rPop, Nat.reduceSub, List.length_map, List.map_cons, List.map_nil, ints_inj, decide_eq_true_iff, ints_set, List.length_set, sp_L_take, pa, f3, f4, f5, tSeq, tFg]
        intro p1 n1 n2 n3 z g' r' z1 z2 z3 z4 z5
        have bd : f < 10 ^ 55 := by
          obtain ⟨n, rfl⟩ : ∃ n : Nat, j = (n : Int) := ⟨j.toNat, by omega⟩
          rw [Int.toNat_natCast] at f2
          have : (10 : Int) ^ (6 * n) ≤ 10 ^ 54 := by
            have := Nat.pow_le_pow_right (n := 10) (by decide) (show 6 * n ≤ 54 by omega)
            exact_mod_cast this
          omega
        have fin : ∀ v : Int, -(10 ^ 55) < v → v < 10 ^ 55 → D.rt (.int v) (upd (upd (upd H a (HO.lst [V.int g', V.int r'])) p (HO.lst [V.int 0, V.int 0, V.int 1, V.int 1, V.int 1, V.int 2, V.int 9])) p1 (HO.lst [V.int 1, V.int (-1)])) := fun v v1 v2 =>
          hrt _ _ (upd H a (HO.lst [V.int g', V.int r'])) (fgt_of (by walk_at "ex") (Kp.lst (soft_lst ha) (soft_lst ha) .refl)) inferInstance (q v g' r' v1 v2 z3 z4 z5)
        obtain rfl | rfl : z = 0 ∨ z = 1 := by omega
        · exact ⟨_, rfl, 1, rfl, .inr ⟨by decide, by decide⟩, fin _ (by omega) (by omega)⟩
        · exact ⟨_, rfl, -1, rfl, .inr ⟨by decide, by decide⟩, fin _ (by omega) (by omega)⟩

def sp_L_u (_ : PySem.W.Frag) : Sp := fun vs H Q _ => Plain H ∧ match vs with
  | [.int n] => Q (.int (codeU n)) H
  | _ => False
/-! -/
theorem ok_L_u {P : Program} {w : World} {K : PySem.W.Frag} {mg : Str → Option Value} {base : Heap} {A : Ad} (T : Tx K mg A) : FnOk P w K mg base CX0 1 A.f_L_u A.d_L_u ["_law_number_here"] (sp_L_u K) := by
  refine T.F_L_u.ok sc_L_u (fun vs H Q E h => ?_) (fun cdv A0 outer s H vs Q E hr h => ?_)
  · obtain ⟨pl, h⟩ := h
    match vs, h with
    | [.int a], _ => rfl
  · obtain ⟨pl, h⟩ := h
    match vs, h with
    | [.int a], h =>
      refine ⟨_, (pss_fg (pss_one (ps_ret (pe_ifExp (pt_cmpR op_ge (pv 0) pe_int (nomark _)) (pe_op op_mul pe_int (pv 0)) (pe_op op_sub (pe_op op_mul (pe_un un_neg pe_int) (pv 0)) pe_int))))), ?_⟩
      rw [show start N_L_u [.int a] = [some (.int a)] from rfl]
      refine fg_gen fun D hnx hrt hbk hct => ?_
      simp only [tAsg, gName, tVar, tC, tOp, tUn, tCB, tCons, tNil, tCall, tIfS, tTest, tB, tNot, tAnd, tOr, tAndV, tOrV, tNotV, tIf, tChain, tRet, tRetN, tDrop, tNext, tNever, tBreak, tCont, tAug, ipI, tPar, rI, rI0, rU, rEq, rNe, scal, tFor_eq, iRng1, iRng2, iList, iTup, tCallN, tLst, tTup, rIxL, rIxT, rIxLT, gSub, rSetL, CMul, CDiv, CPow, rInt1, atI, ixN, isI, List.getElem?_cons_zero, List.getElem?_cons_succ, List.set_cons_zero, List.set_cons_succ, Option.some.injEq, HO.lst.injEq, HO.tup.injEq, V.int.injEq, V.bl.injEq, V.ref.injEq, V.str.injEq, exists_eq_left', exists_eq_left, exists_eq_right, exists_eq_right', List.cons.injEq, and_true, true_and, List.append_nil, List.cons_append, List.nil_append, exists_and_left, exists_and_right, and_self, decide_eq_true_eq, Bool.not_eq_true', decide_eq_false_iff_not, if_true, if_false, Bool.false_eq_true, if_false_left, if_true_left, reduceCtorEq, exists_const, exists_eq', cxOf_K, upd_same, upd_upd, upd_none, upd_ne, upd_in, updI_eq, Option.isSome_some, plain_true, List.length_cons, List.length_nil, Nat.reduceAdd, Nat.reduceMul, Nat.reduceLeDiff, Nat.reduceLT, Int.reduceNeg, ne_eq, and_imp, Bool.not_true, Bool.not_false, not_false_eq_true, not_true_eq_false, Int.reducePow, Int.reduceToNat, Int.reduceLT, Int.reduceLE, Int.reduceMul, Int.reduceAdd, Nat.reducePow, Nat.zero_le, implies_true, true_implies, false_implies, or_true, true_or, or_false, false_or, or_self, false_and, and_false, exists_false, Int.reduceAbs, Option.bind_some, Int.cast_ofNat_Int, Int.ofNat_eq_coe, Int.toNat_zero, Int.toNat_one, Int.reduceSub, Int.reduceEq, Nat.reduceEqDiff, sizeLine_lit, Int.zero_add, Classical.not_not, and_assoc, upd_ne2, eq_self, forall_const, IntL_true, decide_true, decide_false, decide_not, Bool.true_and, Bool.and_true, Bool.false_and, Bool.and_false, Bool.or_true, Bool.true_or, Bool.or_false, Bool.false_or, ite_self, rIsM, rIsM2, tyR, sub_int_int, sub_int_bool, sub_int_str, sub_int_list, sub_int_tuple, sub_int_dict, sub_bool_int, sub_bool_bool, sub_bool_str, sub_bool_list, sub_bool_tuple, sub_bool_dict, sub_str_int, sub_str_bool, sub_str_str, sub_str_list, sub_str_tuple, sub_str_dict, sub_NoneType_int, sub_NoneType_bool, sub_NoneType_str, sub_NoneType_list, sub_NoneType_tuple, sub_NoneType_dict, sub_list_int, sub_list_bool, sub_list_str, sub_list_list, sub_list_tuple, sub_list_dict, sub_tuple_int, sub_tuple_bool, sub_tuple_str, sub_tuple_list, sub_tuple_tuple, sub_tuple_dict, okC_int, okC_bool, okC_str, okC_list, okC_tuple, okC_dict, rEqM, rNeM, datF_int, datF_str, datF_bl, datF_non, datF_ref, allO, rIxTT, rIxTK, gTupT, gTupK, gCons, gNil, rLenT, rLenK, SeqAt.shaped, eqv_none_none, eqv_none_bool, eqv_none_int, eqv_none_str, eqv_none_list, eqv_none_tuple, eqv_bool_none, eqv_bool_bool, eqv_bool_int, eqv_bool_str, eqv_bool_list, eqv_bool_tuple, eqv_int_none, eqv_int_bool, eqv_int_int, eqv_int_str, eqv_int_list, eqv_int_tuple, eqv_str_none, eqv_str_bool, eqv_str_int, eqv_str_str, eqv_str_list, eqv_str_tuple, eqv_list_none, eqv_list_bool, eqv_list_int, eqv_list_str, eqv_list_list, eqv_list_tuple, eqv_tuple_none, eqv_tuple_bool, eqv_tuple_int, eqv_tuple_str, eqv_tuple_list, eqv_tuple_tuple, eqa_nil, eqa_cons, eqa_nc, eqa_cn, lay_none, dep_none, lay_bool, dep_bool, lay_int, dep_int, lay_list, dep_list, lay_tuple, dep_tuple, lay_str, dep_str, laa_nil, laa_cons, dea_nil, dea_cons, Option.map_some, Nat.max_self, Nat.max_zero, Nat.zero_max, Bool.and_self, decide_eq_decide, HO.tup.injEq, beq_iff_eq, Bool.and_eq_true, beq_self_eq_true, Nat.zero_add, Int.reduceBEq, tPar3, ex_sqT1, ex_sqL1, unrF, ite_not, cxOf_H0, tLc_eq, iEnum, iZip, allO_ints, laa_ints, dea_ints, eqa_ints, eqa_ints_nil, wipe_nil, wipe_cons, rListT, rTupT, tYes_eq, tBM, tBM0, rAppend, rExtend, rPop, Nat.reduceSub, List.length_map, List.map_cons, List.map_nil, ints_inj, decide_eq_true_iff, ints_set, List.length_set, tSeq, tFg]
      have h : Q (.int (codeU a)) H := h
      unfold codeU at h
      split
      · rename_i c
        rw [if_pos c] at h
        exact hrt _ _ _ fgt_id pl h
      · rename_i c
        rw [if_neg c] at h
        exact hrt _ _ _ fgt_id pl h
def sp_L_mark (_ : PySem.W.Frag) : Sp := fun vs H Q _ => Plain H ∧ match vs with
  | [.ref p] => ∃ ns : List Int, H p = some (.lst (ns.map V.int)) ∧ Q (.int (markF 1 ns)) H
  | _ => False
/-! -/
theorem ok_L_mark {P : Program} {w : World} {K : PySem.W.Frag} {mg : Str → Option Value} {base : Heap} {A : Ad} (T : Tx K mg A) : FnOk P w K mg base CX0 2 A.f_L_mark A.d_L_mark ["_law_some"] (sp_L_mark K) := by
  refine T.F_L_mark.ok sc_L_mark (fun vs H Q E h => ?_) (fun cdv A0 outer s H vs Q E hr h => ?_)
  · obtain ⟨pl, h⟩ := h
    match vs, h with
    | [.ref p], _ => rfl
  · obtain ⟨pl, h⟩ := h
    match vs, h with
    | [.ref p], h =>
      obtain ⟨ns, hp, q⟩ := h
      refine ⟨_, (pss_fg (pss_cons (ps_set (i := 1) sc_L_mark.nd rfl (.inl rfl) pe_int)
      (pss_cons (ps_for PassesOwn.never rfl (pi_list (pv 0)) (pg_name (i := 2) sc_L_mark.nd rfl (.inl rfl))
      (pss_fg (pss_one (ps_set (i := 1) sc_L_mark.nd rfl (.inl rfl) (pe_op op_mod (pe_callTy call_intM (by rfl) T.m_int (by decide +kernel) (pa_cons (pe_op op_add (pe_op op_mul (pv 1) pe_int) (pe_call (ok_L_u T) (hr.mono (by decide)) (by rfl) T.g_L_u T.F_L_u.kp T.b_L_u .nil pass0 (pa_cons (pv 2) pa_nil))) pa_nil)) pe_int)))))
      (pss_one (ps_ret (pv 1)))))), ?_⟩
      rw [show start N_L_mark [.ref p] = [some (.ref p), none, none] from rfl]
      refine fg_gen fun D hnx hrt hbk hct => ?_
      refine seq_gen fun k hk => ?_
      simp only [tAsg, gName, tVar, tC, tOp, tUn, tCB, tCons, tNil, tCall, tIfS, tTest, tB, tNot, tAnd, tOr, tAndV, tOrV, tNotV, tIf, tChain, tRet, tRetN, tDrop, tNext, tNever, tBreak, tCont, tAug, ipI, tPar, rI, rI0, rU, rEq, rNe, scal, tFor_eq, iRng1, iRng2, iList, iTup, tCallN, tLst, tTup, rIxL, rIxT, rIxLT, gSub, rSetL, CMul, CDiv, CPow, rInt1, atI, ixN, isI, List.getElem?_cons_zero, List.getElem?_cons_succ, List.set_cons_zero, List.set_cons_succ, Option.some.injEq, HO.lst.injEq, HO.tup.injEq, V.int.injEq, V.bl.injEq, V.ref.injEq, V.str.injEq, exists_eq_left', exists_eq_left, exists_eq_right, exists_eq_right', List.cons.injEq, and_true, true_and, List.append_nil, List.cons_append, List.nil_append, exists_and_left, exists_and_right, and_self, decide_eq_true_eq, Bool.not_eq_true', decide_eq_false_iff_not, if_true, if_false, Bool.false_eq_true, if_false_left, if_true_left, reduceCtorEq, exists_const, exists_eq', cxOf_K, upd_same, upd_upd, upd_none, upd_ne, upd_in, updI_eq, Option.isSome_some, plain_true, List.length_cons, List.length_nil, Nat.reduceAdd, Nat.reduceMul, Nat.reduceLeDiff, Nat.reduceLT, Int.reduceNeg, ne_eq, and_imp, Bool.not_true, Bool.not_false, not_false_eq_true, not_true_eq_false, Int.reducePow, Int.reduceToNat, Int.reduceLT, Int.reduceLE, Int.reduceMul, Int.reduceAdd, Nat.reducePow, Nat.zero_le, implies_true, true_implies, false_implies, or_true, true_or, or_false, false_or, or_self, false_and, and_false, exists_false, Int.reduceAbs, Option.bind_some, Int.cast_ofNat_Int, Int.ofNat_eq_coe, Int.toNat_zero, Int.toNat_one, Int.reduceSub, Int.reduceEq, Nat.reduceEqDiff, sizeLine_lit, Int.zero_add, Classical.not_not, and_assoc, upd_ne2, eq_self, forall_const, IntL_true, decide_true, decide_false, decide_not, Bool.true_and, Bool.and_true, Bool.false_and, Bool.and_false, Bool.or_true, Bool.true_or, Bool.or_false, Bool.false_or, ite_self, rIsM, rIsM2, tyR, sub_int_int, sub_int_bool, sub_int_str, sub_int_list, sub_int_tuple, sub_int_dict, sub_bool_int, sub_bool_bool, sub_bool_str, sub_bool_list, sub_bool_tuple, sub_bool_dict, sub_str_int, sub_str_bool, sub_str_str, sub_str_list, sub_str_tuple, sub_str_dict, sub_NoneType_int, sub_NoneType_bool, sub_NoneType_str, sub_NoneType_list, sub_NoneType_tuple, sub_NoneType_dict, sub_list_int, sub_list_bool, sub_list_str, sub_list_list, sub_list_tuple, sub_list_dict, sub_tuple_int, sub_tuple_bool, sub_tuple_str, sub_tuple_list, sub_tuple_tuple, sub_tuple_dict, okC_int, okC_bool, okC_str, okC_list, okC_tuple, okC_dict, rEqM, rNeM, datF_int, datF_str, datF_bl, datF_non, datF_ref, allO, rIxTT, rIxTK, gTupT, gTupK, gCons, gNil, rLenT, rLenK, SeqAt.shaped, eqv_none_none, eqv_none_bool, eqv_none_int, eqv_none_str, eqv_none_list, eqv_none_tuple, eqv_bool_none, eqv_bool_bool, eqv_bool_int, eqv_bool_str, eqv_bool_list, eqv_bool_tuple, eqv_int_none, eqv_int_bool, eqv_int_int, eqv_int_str, eqv_int_list, eqv_int_tuple, eqv_str_none, eqv_str_bool, eqv_str_int, eqv_str_str, eqv_str_list, eqv_str_tuple, eqv_list_none, eqv_list_bool, eqv_list_int, eqv_list_str, eqv_list_list, eqv_list_tuple, eqv_tuple_none, eqv_tuple_bool, eqv_tuple_int, eqv_tuple_str, eqv_tuple_list, eqv_tuple_tuple, eqa_nil, eqa_cons, eqa_nc, eqa_cn, lay_none, dep_none, lay_bool, dep_bool, lay_int, dep_int, lay_list, dep_list, lay_tuple, dep_tuple, lay_str, dep_str, laa_nil, laa_cons, dea_nil, dea_cons, Option.map_some, Nat.max_self, Nat.max_zero, Nat.zero_max, Bool.and_self, decide_eq_decide, HO.tup.injEq, beq_iff_eq, Bool.and_eq_true, beq_self_eq_true, Nat.zero_add, Int.reduceBEq, tPar3, ex_sqT1, ex_sqL1, unrF, ite_not, cxOf_H0, tLc_eq, iEnum, iZip, allO_ints, laa_ints, dea_ints, eqa_ints, eqa_ints_nil, wipe_nil, wipe_cons, rListT, rTupT, tYes_eq, tBM, tBM0, rAppend, rExtend, rPop, Nat.reduceSub, List.length_map, List.map_cons, List.map_nil, ints_inj, decide_eq_true_iff, ints_set, List.length_set, sp_L_u]
      subst hk
      refine seq_gen fun k hk => ?_
      simp only [tAsg, gName, tVar, tC, tOp, tUn, tCB, tCons, tNil, tCall, tIfS, tTest, tB, tNot, tAnd, tOr, tAndV, tOrV, tNotV, tIf, tChain, tRet, tRetN, tDrop, tNext, tNever, tBreak, tCont, tAug, ipI, tPar, rI, rI0, rU, rEq, rNe, scal, tFor_eq, iRng1, iRng2, iList, iTup, tCallN, tLst, tTup, rIxL, rIxT, rIxLT, gSub, rSetL, CMul, CDiv, CPow, rInt1, atI, ixN, isI, List.getElem?_cons_zero, List.getElem?_cons_succ, List.set_cons_zero, List.set_cons_succ, Option.some.injEq, HO.lst.injEq, HO.tup.injEq, V.int.injEq, V.bl.injEq, V.ref.injEq, V.str.injEq, exists_eq_left', exists_eq_left, exists_eq_right, exists_eq_right', List.cons.injEq, and_true, true_and, List.append_nil, List.cons_append, List.nil_append, exists_and_left, exists_and_right, and_self, decide_eq_true_eq, Bool.not_eq_true', decide_eq_false_iff_not, if_true, if_false, Bool.false_eq_true, if_false_left, if_true_left, reduceCtorEq, exists_const, exists_eq', cxOf_K, upd_same, upd_upd, upd_none, upd_ne, upd_in, updI_eq, Option.isSome_some, plain_true, List.length_cons, List.length_nil, Nat.reduceAdd, Nat.reduceMul, Nat.reduceLeDiff, Nat.reduceLT, Int.reduceNeg, ne_eq, and_imp, Bool.not_true, Bool.not_false, not_false_eq_true, not_true_eq_false, Int.reducePow, Int.reduceToNat, Int.reduceLT, Int.reduceLE, Int.reduceMul, Int.reduceAdd, Nat.reducePow, Nat.zero_le, implies_true, true_implies, false_implies, or_true, true_or, or_false, false_or, or_self, false_and, and_false, exists_false, Int.reduceAbs, Option.bind_some, Int.cast_ofNat_Int, Int.ofNat_eq_coe, Int.toNat_zero, Int.toNat_one, Int.reduceSub, Int.reduceEq, Nat.reduceEqDiff, sizeLine_lit, Int.zero_add, Classical.not_not, and_assoc, upd_ne2, eq_self, forall_const, IntL_true, decide_true, decide_false, decide_not, Bool.true_and, Bool.and_true, Bool.false_and, Bool.and_false, Bool.or_true, Bool.true_or, Bool.or_false, Bool.false_or, ite_self, rIsM, rIsM2, tyR, sub_int_int, sub_int_bool, sub_int_str, sub_int_list, sub_int_tuple, sub_int_dict, sub_bool_int, sub_bool_bool, sub_bool_str, sub_bool_list, sub_bool_tuple, sub_bool_dict, sub_str_int, sub_str_bool, sub_str_str, sub_str_list, sub_str_tuple, sub_str_dict, sub_NoneType_int, sub_NoneType_bool, sub_NoneType_str, sub_NoneType_list, sub_NoneType_tuple, sub_NoneType_dict, sub_list_int, sub_list_bool, sub_list_str, sub_list_list, sub_list_tuple, sub_list_dict, sub_tuple_int, sub_tuple_bool, sub_tuple_str, sub_tuple_list, sub_tuple_tuple, sub_tuple_dict, okC_int, okC_bool, okC_str, okC_list, okC_tuple, okC_dict, rEqM, rNeM, datF_int, datF_str, datF_bl, datF_non, datF_ref, allO, rIxTT, rIxTK, gTupT, gTupK, gCons, gNil, rLenT, rLenK, SeqAt.shaped, eqv_none_none, eqv_none_bool, eqv_none_int, eqv_none_str, eqv_none_list, eqv_none_tuple, eqv_bool_none, eqv_bool_bool, eqv_bool_int, eqv_bool_str, eqv_bool_list, eqv_bool_tuple, eqv_int_none, eqv_int_bool, eqv_int_int, eqv_int_str, eqv_int_list, eqv_int_tuple, eqv_str_none, eqv_str_bool, eqv_str_int, eqv_str_str, eqv_str_list, eqv_str_tuple, eqv_list_none, eqv_list_bool, eqv_list_int, eqv_list_str, eqv_list_list, eqv_list_tuple, eqv_tuple_none, eqv_tuple_bool, eqv_tuple_int, eqv_tuple_str, eqv_tuple_list, eqv_tuple_tuple, eqa_nil, eqa_cons, eqa_nc, eqa_cn, lay_none, dep_none, lay_bool, dep_bool, lay_int, dep_int, lay_list, dep_list, lay_tuple, dep_tuple, lay_str, dep_str, laa_nil, laa_cons, dea_nil, dea_cons, Option.map_some, Nat.max_self, Nat.max_zero, Nat.zero_max, Bool.and_self, decide_eq_decide, HO.tup.injEq, beq_iff_eq, Bool.and_eq_true, beq_self_eq_true, Nat.zero_add, Int.reduceBEq, tPar3, ex_sqT1, ex_sqL1, unrF, ite_not, cxOf_H0, tLc_eq, iEnum, iZip, allO_ints, laa_ints, dea_ints, eqa_ints, eqa_ints_nil, wipe_nil, wipe_cons, rListT, rTupT, tYes_eq, tBM, tBM0, rAppend, rExtend, rPop, Nat.reduceSub, List.length_map, List.map_cons, List.map_nil, ints_inj, decide_eq_true_iff, ints_set, List.length_set, sp_L_u]
      refine ⟨⟨_, SqL.of hp⟩, forB_list (xs := ns.map V.int) (fun i σ H' => H' = H ∧ ∃ y2, σ = [some (V.ref p), some (.int (markF 1 (ns.take i))), y2]) ⟨rfl, _, rfl⟩ ?_ ?_ ?_⟩
      · rintro i σ H' _ ⟨rfl, _⟩
        exact SqL.of hp
      · rintro i x σ H' hx ⟨rfl, y2, rfl⟩
        obtain ⟨z, hz, rfl⟩ := get_ints hx
        refine fg_gen fun D2 hnx2 hrt2 hbk2 hct2 => ?_
        simp only [tAsg, gName, tVar, tC, tOp, tUn, tCB, tCons, tNil, tCall, tIfS, tTest, tB, tNot, tAnd, tOr, tAndV, tOrV, tNotV, tIf, tChain, tRet, tRetN, tDrop, tNext, tNever, tBreak, tCont, tAug, ipI, tPar, rI, rI0, rU, rEq, rNe, scal, tFor_eq, iRng1, iRng2, iList, iTup, tCallN, tLst, tTup, rIxL, rIxT, rIxLT, gSub, rSetL, CMul, CDiv, CPow, rInt1, atI, ixN, isI, List.getElem?_cons_zero, List.getElem?_cons_succ, List.set_cons_zero, List.set_cons_succ, Option.some.injEq, HO.lst.injEq, HO.tup.injEq, V.int.injEq, V.bl.injEq, V.ref.injEq, V.str.injEq, exists_eq_left', exists_eq_left, exists_eq_right, exists_eq_right', List.cons.injEq, and_true, true_and, List.append_nil, List.cons_append, List.nil_append, exists_and_left, exists_and_right, and_self, decide_eq_true_eq, Bool.not_eq_true', decide_eq_false_iff_not, if_true, if_false, Bool.false_eq_true, if_false_left, if_true_left, reduceCtorEq, exists_const, exists_eq', cxOf_K, upd_same, upd_upd, upd_none, upd_ne, upd_in, updI_eq, Option.isSome_some, plain_true, List.length_cons, List.length_nil, Nat.reduceAdd, Nat.reduceMul, Nat.reduceLeDiff, Nat.reduceLT, Int.reduceNeg, ne_eq, and_imp, Bool.not_true, Bool.not_false, not_false_eq_true, not_true_eq_false, Int.reducePow, Int.reduceToNat, Int.reduceLT, Int.reduceLE, Int.reduceMul, Int.reduceAdd, Nat.reducePow, Nat.zero_le, implies_true, true_implies, false_implies, or_true, true_or, or_false, false_or, or_self, false_and, and_false, exists_false, Int.reduceAbs, Option.bind_some, Int.cast_ofNat_Int, Int.ofNat_eq_coe, Int.toNat_zero, Int.toNat_one, Int.reduceSub, Int.reduceEq, Nat.reduceEqDiff, sizeLine_lit, Int.zero_add, Classical.not_not, and_assoc, upd_ne2, eq_self, forall_const, IntL_true, decide_true, decide_false, decide_not, Bool.true_and, Bool.and_true, Bool.false_and, Bool.and_false, Bool.or_true, Bool.true_or, Bool.or_false, Bool.false_or, ite_self, rIsM, rIsM2, tyR, sub_int_int, sub_int_bool, sub_int_str, sub_int_list, sub_int_tuple, sub_int_dict, sub_bool_int, sub_bool_bool, sub_bool_str, sub_bool_list, sub_bool_tuple, sub_bool_dict, sub_str_int, sub_str_bool, sub_str_str, sub_str_list, sub_str_tuple, sub_str_dict, sub_NoneType_int, sub_NoneType_bool, sub_NoneType_str, sub_NoneType_list, sub_NoneType_tuple, sub_NoneType_dict, sub_list_int, sub_list_bool, sub_list_str, sub_list_list, sub_list_tuple, sub_list_dict, sub_tuple_int, sub_tuple_bool, sub_tuple_str, sub_tuple_list, sub_tuple_tuple, sub_tuple_dict, okC_int, okC_bool, okC_str, okC_list, okC_tuple, okC_dict, rEqM, rNeM, datF_int, datF_str, datF_bl, datF_non, datF_ref, allO, rIxTT, rIxTK, gTupT, gTupK, gCons, gNil, rLenT, rLenK, SeqAt.shaped, eqv_none_none, eqv_none_bool, eqv_none_int, eqv_none_str, eqv_none_list, eqv_none_tuple, eqv_bool_none, eqv_bool_bool, eqv_bool_int, eqv_bool_str, eqv_bool_list, eqv_bool_tuple, eqv_int_none, eqv_int_bool, eqv_int_int, eqv_int_str, eqv_int_list, eqv_int_tuple, eqv_str_none, eqv_str_bool, eqv_str_int, eqv_str_str, eqv_str_list, eqv_str_tuple, eqv_list_none, eqv_list_bool, eqv_list_int, eqv_list_str, eqv_list_list, eqv_list_tuple, eqv_tuple_none, eqv_tuple_bool, eqv_tuple_int, eqv_tuple_str, eqv_tuple_list, eqv_tuple_tuple, eqa_nil, eqa_cons, eqa_nc, eqa_cn, lay_none, dep_none, lay_bool, dep_bool, lay_int, dep_int, lay_list, dep_list, lay_tuple, dep_tuple, lay_str, dep_str, laa_nil, laa_cons, dea_nil, dea_cons, Option.map_some, Nat.max_self, Nat.max_zero, Nat.zero_max, Bool.and_self, decide_eq_decide, HO.tup.injEq, beq_iff_eq, Bool.and_eq_true, beq_self_eq_true, Nat.zero_add, Int.reduceBEq, tPar3, ex_sqT1, ex_sqL1, unrF, ite_not, cxOf_H0, tLc_eq, iEnum, iZip, allO_ints, laa_ints, dea_ints, eqa_ints, eqa_ints_nil, wipe_nil, wipe_cons, rListT, rTupT, tYes_eq, tBM, tBM0, rAppend, rExtend, rPop, Nat.reduceSub, List.length_map, List.map_cons, List.map_nil, ints_inj, decide_eq_true_iff, ints_set, List.length_set, sp_L_u]
        exact hnx2 _ _ _ fgt_id pl ⟨rfl, _, by rw [markF_snoc hz]⟩
      · rintro σ H' ⟨rfl, y2, rfl⟩
        show k D _ _
        subst hk
        rw [List.length_map, List.take_length]
        exact ⟨_, rfl, hrt _ _ _ fgt_id pl q⟩
/-! #### what a changed number does to the mark -/
theorem markF_mod (ns : List Int) : ∀ m : Int, markF (m % 9973) ns = markF m ns % 9973 ∨ ns = [] := by
  intro m
  cases ns with
  | nil => exact .inr rfl
  | cons n r =>
    refine .inl ?_
    show markF ((m % 9973 * 31 + codeU n) % 9973) r = markF ((m * 31 + codeU n) % 9973) r % 9973
    have e : (m % 9973 * 31 + codeU n) % 9973 = (m * 31 + codeU n) % 9973 := by omega
    rw [e]
    have b := markF_bd r ((m * 31 + codeU n) % 9973) (Int.emod_nonneg _ (by decide)) (Int.emod_lt_of_pos _ (by decide))
    rw [Int.emod_eq_of_lt b.1 b.2]
theorem markF_inj (ns : List Int) : ∀ m m' : Int, 0 ≤ m → m < 9973 → 0 ≤ m' → m' < 9973 → (markF m ns = markF m' ns ↔ m = m') := by
  induction ns with
  | nil => exact fun m m' _ _ _ _ => Iff.rfl
  | cons n r ih =>
    intro m m' h1 h2 h3 h4
    show markF ((m * 31 + codeU n) % 9973) r = markF ((m' * 31 + codeU n) % 9973) r ↔ m = m'
    rw [ih _ _ (Int.emod_nonneg _ (by decide)) (Int.emod_lt_of_pos _ (by decide)) (Int.emod_nonneg _ (by decide)) (Int.emod_lt_of_pos _ (by decide))]
    constructor
    · intro h
      generalize codeU n = c at h
      omega
    · intro h
      rw [h]
theorem markF_set {ns : List Int} {j : Nat} {z w : Int} (h : ns[j]? = some z) : (markF 1 (ns.set j w) = markF 1 ns) ↔ (codeU w - codeU z) % 9973 = 0 := by
  obtain ⟨hj, e⟩ := List.getElem?_eq_some_iff.mp h
  have e1 : ns.set j w = ns.take j ++ w :: ns.drop (j + 1) := by rw [List.set_eq_take_append_cons_drop, if_pos hj]
  have e2 : ns = ns.take j ++ z :: ns.drop (j + 1) := by
    have : ns.set j z = ns.take j ++ z :: ns.drop (j + 1) := by rw [List.set_eq_take_append_cons_drop, if_pos hj]
    rw [← this]
    apply List.ext_getElem?
    intro i
    rw [List.getElem?_set]
    split
    · rename_i c
      subst c
      first | exact h | rw [if_pos hj, h]
    · rfl
  have f : ∀ v, markF 1 (ns.take j ++ v :: ns.drop (j + 1)) = markF ((markF 1 (ns.take j) * 31 + codeU v) % 9973) (ns.drop (j + 1)) := fun v => by
    unfold markF
    rw [List.foldl_append]
    rfl
  have g : markF 1 ns = markF ((markF 1 (ns.take j) * 31 + codeU z) % 9973) (ns.drop (j + 1)) := by
    conv => lhs; rw [e2]
    exact f z
  rw [e1, f, g, markF_inj _ _ _ (Int.emod_nonneg _ (by decide)) (Int.emod_lt_of_pos _ (by decide)) (Int.emod_nonneg _ (by decide)) (Int.emod_lt_of_pos _ (by decide))]
  generalize codeU w = a
  generalize codeU z = b
  omega
def sp_law (K : PySem.W.Frag) : Sp := fun vs H Q _ => Plain H ∧ match vs with
  | [.ref a] => IntL K H a ∧ ∀ H', Q (.bl true) H'
  | _ => False
theorem mark_ex : markF 1 [3, -1] = 1148 := by decide
/-! -/
theorem ok_law {P : Program} {w : World} {K : PySem.W.Frag} {mg : Str → Option Value} {base : Heap} {A : Ad} (T : Tx K mg A) : FnOk P w K mg base CX0 7 A.f_law A.d_law ["_law_script"] (sp_law K) := by
  refine T.F_law.ok sc_law (fun vs H Q E h => ?_) (fun cdv A0 outer s H vs Q E hr h => ?_)
  · obtain ⟨pl, h⟩ := h
    match vs, h with
    | [.ref a], _ => rfl
  · obtain ⟨pl, h⟩ := h
    match vs, h with
    | [.ref a], h =>
      obtain ⟨hS, q⟩ := h
      refine ⟨_, (pss_fg (pss_cons (ps_fg (ps_if (pt_cmpR op_ne (pe_call (ok_mark_of T) (hr.mono (by decide)) (by rfl) T.g_mark_of T.F_mark_of.kp T.b_mark_of .nil pass0 (pa_cons (pe_lst (pa_cons pe_int (pa_cons (pe_un un_neg pe_int) pa_nil))) pa_nil)) pe_int (nomark _)) (pss_one (ps_ret pe_bl)) pss_nil))
      (pss_cons (ps_for PassesOwn.never rfl (pi_range1 rfl T.m_range (pa_cons (pe_callB (call_max2 rfl) (by rfl) T.m_max (by decide +kernel) (pa_cons pe_int (pa_cons (pe_callB (call_min2 rfl) (by rfl) T.m_min (by decide +kernel) (pa_cons (pe_callB call_len_seq (by rfl) T.m_len PySem.boot_len (pa_cons (pv 0) pa_nil)) (pa_cons pe_int pa_nil))) pa_nil))) pa_nil)) (pg_name (i := 1) sc_law.nd rfl (.inl rfl))
      (pss_fg (pss_cons (ps_set (i := 2) sc_law.nd rfl (.inr rfl) (pe_call (ok_L_pool T) (hr.mono (by decide)) (by rfl) T.g_L_pool T.F_L_pool.kp T.b_L_pool .nil pass0 (pa_cons (pv 0) (pa_cons (pv 1) pa_nil))))
      (pss_cons (ps_setLc (i := 3) (own := [("_law_at", 5)]) rfl sc_law.nd rfl rfl (sw_true rfl rfl rfl (by decide +kernel)) (pi_range1 rfl T.m_range (pa_cons (pe_ix ix_listT (pe_lst (pa_cons pe_int (pa_cons pe_int (pa_cons pe_int (pa_cons pe_int (pa_cons (pe_call (ok_L_take T) (hr.mono (by decide)) (by rfl) T.g_L_take T.F_L_take.kp T.b_L_take .nil pass0 (pa_cons (pv 2) (pa_cons pe_int pa_nil))) (pa_cons pe_int pa_nil))))))) (pe_call (ok_L_take T) (hr.mono (by decide)) (by rfl) T.g_L_take T.F_L_take.kp T.b_L_take .nil pass0 (pa_cons (pv 2) (pa_cons pe_int pa_nil))) (fun _ _ => rfl)) pa_nil)) (blkOk_by (own := [("_law_at", 5)]) (N := N_law) (sc := defScope s_law) (by decide +kernel)) (fun _ _ _ _ _ => (pg_name (i := 5) sc_law.nd rfl (.inl rfl))) (fun _ _ _ _ _ => pts_nil) (fun _ _ _ _ _ => (pe_call (ok_L_number T) (hr.mono (by decide)) (by rfl) T.g_L_number T.F_L_number.kp T.b_L_number .nil pass0 (pa_cons (pv 2) pa_nil))))
      (pss_cons (ps_set (i := 4) sc_law.nd rfl (.inl rfl) (pe_callTy call_listT (by rfl) T.m_list (by decide +kernel) (pa_cons (pv 3) pa_nil)))
      (pss_cons (ps_fg (ps_if (PW.pt (pw_or (pt_not (pt_val (pe_call (ok_L_same0 T) (hr.mono (by decide)) (by rfl) T.g_L_same T.F_L_same.kp T.b_L_same .nil pass0 (pa_cons (pe_call (ok_mark_of T) (hr.mono (by decide)) (by rfl) T.g_mark_of T.F_mark_of.kp T.b_mark_of .nil pass0 (pa_cons (pv 4) pa_nil)) (pa_cons (pe_call (ok_L_mark T) (hr.mono (by decide)) (by rfl) T.g_L_mark T.F_L_mark.kp T.b_L_mark .nil pass0 (pa_cons (pv 3) pa_nil)) pa_nil))))) (pw_or1 (pt_cmpR (op_neM hr.units) (pv 4) (pv 3) (nomark _))))) (pss_one (ps_ret pe_bl)) pss_nil))
      (pss_one (ps_fg (ps_if (pt_cmpR (op_neM hr.units) (pv 3) (pe_lst pa_nil) (nomark _)) (pss_cons (ps_set (i := 5) sc_law.nd rfl (.inl rfl) (pe_call (ok_L_take T) (hr.mono (by decide)) (by rfl) T.g_L_take T.F_L_take.kp T.b_L_take .nil pass0 (pa_cons (pv 2) (pa_cons (pe_callB call_lenT (by rfl) T.m_len PySem.boot_len (pa_cons (pv 3) pa_nil)) pa_nil))))
      (pss_cons (ps_asg (pe_ix ix_listT (pe_lst (pa_cons (pe_op op_add (pe_op op_add (pe_ix ix_listT (pv 3) (pv 5) (fun _ _ => rfl)) pe_int) (pe_call (ok_L_take T) (hr.mono (by decide)) (by rfl) T.g_L_take T.F_L_take.kp T.b_L_take .nil pass0 (pa_cons (pv 2) (pa_cons pe_int pa_nil)))) (pa_cons (pe_un un_neg (pe_ix ix_listT (pv 3) (pv 5) (fun _ _ => rfl))) (pa_cons (pe_call (ok_L_number T) (hr.mono (by decide)) (by rfl) T.g_L_number T.F_L_number.kp T.b_L_number .nil pass0 (pa_cons (pv 2) pa_nil)) pa_nil)))) (pe_call (ok_L_take T) (hr.mono (by decide)) (by rfl) T.g_L_take T.F_L_take.kp T.b_L_take .nil pass0 (pa_cons (pv 2) (pa_cons pe_int pa_nil))) (fun _ _ => rfl)) (pg_sub (pv 4) (pv 5) set_list))
      (pss_cons (ps_set (i := 6) sc_law.nd rfl (.inl rfl) (pe_cmpR op_eq (pe_op op_mod (pe_callTy call_intM (by rfl) T.m_int (by decide +kernel) (pa_cons (pe_op op_sub (pe_call (ok_L_u T) (hr.mono (by decide)) (by rfl) T.g_L_u T.F_L_u.kp T.b_L_u .nil pass0 (pa_cons (pe_ix ix_listT (pv 4) (pv 5) (fun _ _ => rfl)) pa_nil)) (pe_call (ok_L_u T) (hr.mono (by decide)) (by rfl) T.g_L_u T.F_L_u.kp T.b_L_u .nil pass0 (pa_cons (pe_ix ix_listT (pv 3) (pv 5) (fun _ _ => rfl)) pa_nil))) pa_nil)) pe_int) pe_int (nomark _)))
      (pss_one (ps_fg (ps_if (pt_cmpR op_ne (pe_cmpR op_eq (pe_call (ok_mark_of T) (hr.mono (by decide)) (by rfl) T.g_mark_of T.F_mark_of.kp T.b_mark_of .nil pass0 (pa_cons (pv 4) pa_nil)) (pe_call (ok_mark_of T) (hr.mono (by decide)) (by rfl) T.g_mark_of T.F_mark_of.kp T.b_mark_of .nil pass0 (pa_cons (pv 3) pa_nil)) (nomark _)) (pv 6) (nomark _)) (pss_one (ps_ret pe_bl)) pss_nil)))))) pss_nil)))))))))
      (pss_one (ps_ret pe_bl))))), ?_⟩
      rw [show start N_law [.ref a] = [some (.ref a), none, none, none, none, none, none] from rfl]
      refine fg_gen fun D hnx hrt hbk hct => ?_
      refine seq_gen fun k hk => ?_
      refine fg_gen fun D2 hnx2 hrt2 hbk2 hct2 => ?_
      simp only [tAsg, gName, tVar, tC, tOp, tUn, tCB, tCons, tNil, tCall, tIfS, tTest, tB, tNot, tAnd, tOr, tAndV, tOrV, tNotV, tIf, tChain, tRet, tRetN, tDrop, tNext, tNever, tBreak, tCont, tAug, ipI, tPar, rI, rI0, rU, rEq, rNe, scal, tFor_eq, iRng1, iRng2, iList, iTup, tCallN, tLst, tTup, rIxL, rIxT, rIxLT, gSub, rSetL, CMul, CDiv, CPow, rInt1, atI, ixN, isI, List.getElem?_cons_zero, List.getElem?_cons_succ, List.set_cons_zero, List.set_cons_succ, Option.some.injEq, HO.lst.injEq, HO.tup.injEq, V.int.injEq, V.bl.injEq, V.ref.injEq, V.str.injEq, exists_eq_left', exists_eq_left, exists_eq_right, exists_eq_right', List.cons.injEq, and_true, true_and, List.append_nil, List.cons_append, List.nil_append, exists_and_left, exists_and_right, and_self, decide_eq_true_eq, Bool.not_eq_true', decide_eq_false_iff_not, if_true, if_false, Bool.false_eq_true, if_false_left, if_true_left, reduceCtorEq, exists_const, exists_eq', cxOf_K, upd_same, upd_upd, upd_none, upd_ne, upd_in, updI_eq, Option.isSome_some, plain_true, List.length_cons, List.length_nil, Nat.reduceAdd, Nat.reduceMul, Nat.reduceLeDiff, Nat.reduceLT, Int.reduceNeg, ne_eq, and_imp, Bool.not_true, Bool.not_false, not_false_eq_true, not_true_eq_false, Int.reducePow, Int.reduceToNat, Int.reduceLT, Int.reduceLE, Int.reduceMul, Int.reduceAdd, Nat.reducePow, Nat.zero_le, implies_true, true_implies, false_implies, or_true, true_or, or_false, false_or, or_self, false_and, and_false, exists_false, Int.reduceAbs, Option.bind_some, Int.cast_ofNat_Int, Int.ofNat_eq_coe, Int.toNat_zero, Int.toNat_one, Int.reduceSub, Int.reduceEq, Nat.reduceEqDiff, sizeLine_lit, Int.zero_add, Classical.not_not, and_assoc, upd_ne2, eq_self, forall_const, IntL_true, decide_true, decide_false, decide_not, Bool.true_and, Bool.and_true, Bool.false_and, Bool.and_false, Bool.or_true, Bool.true_or, Bool.or_false, Bool.false_or, ite_self, rIsM, rIsM2, tyR, sub_int_int, sub_int_bool, sub_int_str, sub_int_list, sub_int_tuple, sub_int_dict, sub_bool_int, sub_bool_bool, sub_bool_str, sub_bool_list, sub_bool_tuple, sub_bool_dict, sub_str_int, sub_str_bool, sub_str_str, sub_str_list, sub_str_tuple, sub_str_dict, sub_NoneType_int, sub_NoneType_bool, sub_NoneType_str, sub_NoneType_list, sub_NoneType_tuple, sub_NoneType_dict, sub_list_int, sub_list_bool, sub_list_str, sub_list_list, sub_list_tuple, sub_list_dict, sub_tuple_int, sub_tuple_bool, sub_tuple_str, sub_tuple_list, sub_tuple_tuple, sub_tuple_dict, okC_int, okC_bool, okC_str, okC_list, okC_tuple, okC_dict, rEqM, rNeM, datF_int, datF_str, datF_bl, datF_non, datF_ref, allO, rIxTT, rIxTK, gTupT, gTupK, gCons, gNil, rLenT, rLenK, SeqAt.shaped, eqv_none_none, eqv_none_bool, eqv_none_int, eqv_none_str, eqv_none_list, eqv_none_tuple, eqv_bool_none, eqv_bool_bool, eqv_bool_int, eqv_bool_str, eqv_bool_list, eqv_bool_tuple, eqv_int_none, eqv_int_bool, eqv_int_int, eqv_int_str, eqv_int_list, eqv_int_tuple, eqv_str_none, eqv_str_bool, eqv_str_int, eqv_str_str, eqv_str_list, eqv_str_tuple, eqv_list_none, eqv_list_bool, eqv_list_int, eqv_list_str, eqv_list_list, eqv_list_tuple, eqv_tuple_none, eqv_tuple_bool, eqv_tuple_int, eqv_tuple_str, eqv_tuple_list, eqv_tuple_tuple, eqa_nil, eqa_cons, eqa_nc, eqa_cn, lay_none, dep_none, lay_bool, dep_bool, lay_int, dep_int, lay_list, dep_list, lay_tuple, dep_tuple, lay_str, dep_str, laa_nil, laa_cons, dea_nil, dea_cons, Option.map_some, Nat.max_self, Nat.max_zero, Nat.zero_max, Bool.and_self, decide_eq_decide, HO.tup.injEq, beq_iff_eq, Bool.and_eq_true, beq_self_eq_true, Nat.zero_add, Int.reduceBEq, tPar3, ex_sqT1, ex_sqL1, unrF, ite_not, cxOf_H0, tLc_eq, iEnum, iZip, allO_ints, laa_ints, dea_ints, eqa_ints, eqa_ints_nil, wipe_nil, wipe_cons, rListT, rTupT, tYes_eq, tBM, tBM0, rAppend, rExtend, rPop, Nat.reduceSub, List.length_map, List.map_cons, List.map_nil, ints_inj, decide_eq_true_iff, ints_set, List.length_set, sp_L_take, sp_L_pool, sp_L_number, sp_L_same0, sp_L_mark, sp_L_u, sp_mark_of]
      intro p hp
      refine ⟨[3, -1], rfl, by decide, ?_⟩
      rw [mark_ex]
      simp only [tAsg, gName, tVar, tC, tOp, tUn, tCB, tCons, tNil, tCall, tIfS, tTest, tB, tNot, tAnd, tOr, tAndV, tOrV, tNotV, tIf, tChain, tRet, tRetN, tDrop, tNext, tNever, tBreak, tCont, tAug, ipI, tPar, rI, rI0, rU, rEq, rNe, scal, tFor_eq, iRng1, iRng2, iList, iTup, tCallN, tLst, tTup, rIxL, rIxT, rIxLT, gSub, rSetL, CMul, CDiv, CPow, rInt1, atI, ixN, isI, List.getElem?_cons_zero, List.getElem?_cons_succ, List.set_cons_zero, List.set_cons_succ, Option.some.injEq, HO.lst.injEq, HO.tup.injEq, V.int.injEq, V.bl.injEq, V.ref.injEq, V.str.injEq, exists_eq_left', exists_eq_left, exists_eq_right, exists_eq_right', List.cons.injEq, and_true, true_and, List.append_nil, List.cons_append, List.nil_append, exists_and_left, exists_and_right, and_self, decide_eq_true_eq, Bool.not_eq_true', decide_eq_false_iff_not, if_true, if_false, Bool.false_eq_true, if_false_left, if_true_left, reduceCtorEq, exists_const, exists_eq', cxOf_K, upd_same, upd_upd, upd_none, upd_ne, upd_in, updI_eq, Option.isSome_some, plain_true, List.length_cons, List.length_nil, Nat.reduceAdd, Nat.reduceMul, Nat.reduceLeDiff, Nat.reduceLT, Int.reduceNeg, ne_eq, and_imp, Bool.not_true, Bool.not_false, not_false_eq_true, not_true_eq_false, Int.reducePow, Int.reduceToNat, Int.reduceLT, Int.reduceLE, Int.reduceMul, Int.reduceAdd, Nat.reducePow, Nat.zero_le, implies_true, true_implies, false_implies, or_true, true_or, or_false, false_or, or_self, false_and, and_false, exists_false, Int.reduceAbs, Option.bind_some, Int.cast_ofNat_Int, Int.ofNat_eq_coe, Int.toNat_zero, Int.toNat_one, Int.reduceSub, Int.reduceEq, Nat.reduceEqDiff, sizeLine_lit, Int.zero_add, Classical.not_not, and_assoc, upd_ne2, eq_self, forall_const, IntL_true, decide_true, decide_false, decide_not, Bool.true_and, Bool.and_true, Bool.false_and, Bool.and_false, Bool.or_true, Bool.true_or, Bool.or_false, Bool.false_or, ite_self, rIsM, rIsM2, tyR, sub_int_int, sub_int_bool, sub_int_str, sub_int_list, sub_int_tuple, sub_int_dict, sub_bool_int, sub_bool_bool, sub_bool_str, sub_bool_list, sub_bool_tuple, sub_bool_dict, sub_str_int, sub_str_bool, sub_str_str, sub_str_list, sub_str_tuple, sub_str_dict, sub_NoneType_int, sub_NoneType_bool, sub_NoneType_str, sub_NoneType_list, sub_NoneType_tuple, sub_NoneType_dict, sub_list_int, sub_list_bool, sub_list_str, sub_list_list, sub_list_tuple, sub_list_dict, sub_tuple_int, sub_tuple_bool, sub_tuple_str, sub_tuple_list, sub_tuple_tuple, sub_tuple_dict, okC_int, okC_bool, okC_str, okC_list, okC_tuple, okC_dict, rEqM, rNeM, datF_int, datF_str, datF_bl, datF_non, datF_ref, allO, rIxTT, rIxTK, gTupT, gTupK, gCons, gNil, rLenT, rLenK, SeqAt.shaped, eqv_none_none, eqv_none_bool, eqv_none_int, eqv_none_str, eqv_none_list, eqv_none_tuple, eqv_bool_none, eqv_bool_bool, eqv_bool_int, eqv_bool_str, eqv_bool_list, eqv_bool_tuple, eqv_int_none, eqv_int_bool, eqv_int_int, eqv_int_str, eqv_int_list, eqv_int_tuple, eqv_str_none, eqv_str_bool, eqv_str_int, eqv_str_str, eqv_str_list, eqv_str_tuple, eqv_list_none, eqv_list_bool, eqv_list_int, eqv_list_str, eqv_list_list, eqv_list_tuple, eqv_tuple_none, eqv_tuple_bool, eqv_tuple_int, eqv_tuple_str, eqv_tuple_list, eqv_tuple_tuple, eqa_nil, eqa_cons, eqa_nc, eqa_cn, lay_none, dep_none, lay_bool, dep_bool, lay_int, dep_int, lay_list, dep_list, lay_tuple, dep_tuple, lay_str, dep_str, laa_nil, laa_cons, dea_nil, dea_cons, Option.map_some, Nat.max_self, Nat.max_zero, Nat.zero_max, Bool.and_self, decide_eq_decide, HO.tup.injEq, beq_iff_eq, Bool.and_eq_true, beq_self_eq_true, Nat.zero_add, Int.reduceBEq, tPar3, ex_sqT1, ex_sqL1, unrF, ite_not, cxOf_H0, tLc_eq, iEnum, iZip, allO_ints, laa_ints, dea_ints, eqa_ints, eqa_ints_nil, wipe_nil, wipe_cons, rListT, rTupT, tYes_eq, tBM, tBM0, rAppend, rExtend, rPop, Nat.reduceSub, List.length_map, List.map_cons, List.map_nil, ints_inj, decide_eq_true_iff, ints_set, List.length_set, sp_L_take, sp_L_pool, sp_L_number, sp_L_same0, sp_L_mark, sp_L_u, sp_mark_of]
      refine hnx2 _ _ _ (fgt_ex (Ex.new hp Ex.refl)) pl ?_
      show k D _ _
      subst hk
      clear hnx2 hrt2 hbk2 hct2 hp p
      refine seq_gen fun k hk => ?_
      simp only [tAsg, gName, tVar, tC, tOp, tUn, tCB, tCons, tNil, tCall, tIfS, tTest, tB, tNot, tAnd, tOr, tAndV, tOrV, tNotV, tIf, tChain, tRet, tRetN, tDrop, tNext, tNever, tBreak, tCont, tAug, ipI, tPar, rI, rI0, rU, rEq, rNe, scal, tFor_eq, iRng1, iRng2, iList, iTup, tCallN, tLst, tTup, rIxL, rIxT, rIxLT, gSub, rSetL, CMul, CDiv, CPow, rInt1, atI, ixN, isI, List.getElem?_cons_zero, List.getElem?_cons_succ, List.set_cons_zero, List.set_cons_succ, Option.some.injEq, HO.lst.injEq, HO.tup.injEq, V.int.injEq, V.bl.injEq, V.ref.injEq, V.str.injEq, exists_eq_left', exists_eq_left, exists_eq_right, exists_eq_right', List.cons.injEq, and_true, true_and, List.append_nil, List.cons_append, List.nil_append, exists_and_left, exists_and_right, and_self, decide_eq_true_eq, Bool.not_eq_true', decide_eq_false_iff_not, if_true, if_false, Bool.false_eq_true, if_false_left, if_true_left, reduceCtorEq, exists_const, exists_eq', cxOf_K, upd_same, upd_upd, upd_none, upd_ne, upd_in, updI_eq, Option.isSome_some, plain_true, List.length_cons, List.length_nil, Nat.reduceAdd, Nat.reduceMul, Nat.reduceLeDiff, Nat.reduceLT, Int.reduceNeg, ne_eq, and_imp, Bool.not_true, Bool.not_false, not_false_eq_true, not_true_eq_false, Int.reducePow, Int.reduceToNat, Int.reduceLT, Int.reduceLE, Int.reduceMul, Int.reduceAdd, Nat.reducePow, Nat.zero_le, implies_true, true_implies, false_implies, or_true, true_or, or_false, false_or, or_self, false_and, and_false, exists_false, Int.reduceAbs, Option.bind_some, Int.cast_ofNat_Int, Int.ofNat_eq_coe, Int.toNat_zero, Int.toNat_one, Int.reduceSub, Int.reduceEq, Nat.reduceEqDiff, sizeLine_lit, Int.zero_add, Classical.not_not, and_assoc, upd_ne2, eq_self, forall_const, IntL_true, decide_true, decide_false, decide_not, Bool.true_and, Bool.and_true, Bool.false_and, Bool.and_false, Bool.or_true, Bool.true_or, Bool.or_false, Bool.false_or, ite_self, rIsM, rIsM2, tyR, sub_int_int, sub_int_bool, sub_int_str, sub_int_list, sub_int_tuple, sub_int_dict, sub_bool_int, sub_bool_bool, sub_bool_str, sub_bool_list, sub_bool_tuple, sub_bool_dict, sub_str_int, sub_str_bool, sub_str_str, sub_str_list, sub_str_tuple, sub_str_dict, sub_NoneType_int, sub_NoneType_bool, sub_NoneType_str, sub_NoneType_list, sub_NoneType_tuple, sub_NoneType_dict, sub_list_int, sub_list_bool, sub_list_str, sub_list_list, sub_list_tuple, sub_list_dict, sub_tuple_int, sub_tuple_bool, sub_tuple_str, sub_tuple_list, sub_tuple_tuple, sub_tuple_dict, okC_int, okC_bool, okC_str, okC_list, okC_tuple, okC_dict, rEqM, rNeM, datF_int, datF_str, datF_bl, datF_non, datF_ref, allO, rIxTT, rIxTK, gTupT, gTupK, gCons, gNil, rLenT, rLenK, SeqAt.shaped, eqv_none_none, eqv_none_bool, eqv_none_int, eqv_none_str, eqv_none_list, eqv_none_tuple, eqv_bool_none, eqv_bool_bool, eqv_bool_int, eqv_bool_str, eqv_bool_list, eqv_bool_tuple, eqv_int_none, eqv_int_bool, eqv_int_int, eqv_int_str, eqv_int_list, eqv_int_tuple, eqv_str_none, eqv_str_bool, eqv_str_int, eqv_str_str, eqv_str_list, eqv_str_tuple, eqv_list_none, eqv_list_bool, eqv_list_int, eqv_list_str, eqv_list_list, eqv_list_tuple, eqv_tuple_none, eqv_tuple_bool, eqv_tuple_int, eqv_tuple_str, eqv_tuple_list, eqv_tuple_tuple, eqa_nil, eqa_cons, eqa_nc, eqa_cn, lay_none, dep_none, lay_bool, dep_bool, lay_int, dep_int, lay_list, dep_list, lay_tuple, dep_tuple, lay_str, dep_str, laa_nil, laa_cons, dea_nil, dea_cons, Option.map_some, Nat.max_self, Nat.max_zero, Nat.zero_max, Bool.and_self, decide_eq_decide, HO.tup.injEq, beq_iff_eq, Bool.and_eq_true, beq_self_eq_true, Nat.zero_add, Int.reduceBEq, tPar3, ex_sqT1, ex_sqL1, unrF, ite_not, cxOf_H0, tLc_eq, iEnum, iZip, allO_ints, laa_ints, dea_ints, eqa_ints, eqa_ints_nil, wipe_nil, wipe_cons, rListT, rTupT, tYes_eq, tBM, tBM0, rAppend, rExtend, rPop, Nat.reduceSub, List.length_map, List.map_cons, List.map_nil, ints_inj, decide_eq_true_iff, ints_set, List.length_set, sp_L_take, sp_L_pool, sp_L_number, sp_L_same0, sp_L_mark, sp_L_u, sp_mark_of]
      obtain ⟨ns, hN⟩ := id hS
      refine ⟨_, .inl hN, ?_, ?_, ?_⟩
      · split <;> split <;> omega
      · split <;> split <;> omega
      have hb : (if (if 24 < ((ns.map V.int).length : Int) then 24 else ((ns.map V.int).length : Int)) > 1 then if 24 < ((ns.map V.int).length : Int) then 24 else ((ns.map V.int).length : Int) else 1 : Int).toNat ≤ 63 := by split <;> split <;> omega
      generalize (if (if 24 < ((ns.map V.int).length : Int) then 24 else ((ns.map V.int).length : Int)) > 1 then if 24 < ((ns.map V.int).length : Int) then 24 else ((ns.map V.int).length : Int) else 1 : Int).toNat = n at hb
      subst hk
      refine forB_range (fun i σ H' => ∃ y1 y2 y3 y4 y5 y6, σ = [some (.ref a), y1, y2, y3, y4, y5, y6] ∧ H' = H) ⟨_, _, _, _, _, _, rfl, rfl⟩ ?_ ?_
      · rintro i σ H' hi ⟨y1, y2, y3, y4, y5, y6, rfl, rfl⟩
        have k1 : (0 : Int) ≤ (i : Int) := by omega
        have k2 : (i : Int) ≤ 63 := by omega
        clear hrt hnx hbk hct
        simp only [tAsg, gName, tVar, tC, tOp, tUn, tCB, tCons, tNil, tCall, tIfS, tTest, tB, tNot, tAnd, tOr, tAndV, tOrV, tNotV, tIf, tChain, tRet, tRetN, tDrop, tNext, tNever, tBreak, tCont, tAug, ipI, tPar, rI, rI0, rU, rEq, rNe, scal, tFor_eq, iRng1, iRng2, iList, iTup, tCallN, tLst, tTup, rIxL, rIxT, rIxLT, gSub, rSetL, CMul, CDiv, CPow, rInt1, atI, ixN, isI, List.getElem?_cons_zero, List.getElem?_cons_succ, List.set_cons_zero, List.set_cons_succ, Option.some.injEq, HO.lst.injEq, HO.tup.injEq, V.int.injEq, V.bl.injEq, V.ref.injEq, V.str.injEq, exists_eq_left', exists_eq_left, exists_eq_right, exists_eq_right', List.cons.injEq, and_true, true_and, List.append_nil, List.cons_append, List.nil_append, exists_and_left, exists_and_right, and_self, decide_eq_true_eq, Bool.not_eq_true', decide_eq_false_iff_not, if_true, if_false, Bool.false_eq_true, if_false_left, if_true_left, reduceCtorEq, exists_const, exists_eq', cxOf_K, upd_same, upd_upd, upd_none, upd_ne, upd_in, updI_eq, Option.isSome_some, plain_true, List.length_cons, List.length_nil, Nat.reduceAdd, Nat.reduceMul, Nat.reduceLeDiff, Nat.reduceLT, Int.reduceNeg, ne_eq, and_imp, Bool.not_true, Bool.not_false, not_false_eq_true, not_true_eq_false, Int.reducePow, Int.reduceToNat, Int.reduceLT, Int.reduceLE, Int.reduceMul, Int.reduceAdd, Nat.reducePow, Nat.zero_le, implies_true, true_implies, false_implies, or_true, true_or, or_false, false_or, or_self, false_and, and_false, exists_false, Int.reduceAbs, Option.bind_some, Int.cast_ofNat_Int, Int.ofNat_eq_coe, Int.toNat_zero, Int.toNat_one, Int.reduceSub, Int.reduceEq, Nat.reduceEqDiff, sizeLine_lit, Int.zero_add, Classical.not_not, and_assoc, upd_ne2, eq_self, forall_const, IntL_true, decide_true, decide_false, decide_not, Bool.true_and, Bool.and_true, Bool.false_and, Bool.and_false, Bool.or_true, Bool.true_or, Bool.or_false, Bool.false_or, ite_self, rIsM, rIsM2, tyR, sub_int_int, sub_int_bool, sub_int_str, sub_int_list, sub_int_tuple, sub_int_dict, sub_bool_int, sub_bool_bool, sub_bool_str, sub_bool_list, sub_bool_tuple, sub_bool_dict, sub_str_int, sub_str_bool, sub_str_str, sub_str_list, sub_str_tuple, sub_str_dict, sub_NoneType_int, sub_NoneType_bool, sub_NoneType_str, sub_NoneType_list, sub_NoneType_tuple, sub_NoneType_dict, sub_list_int, sub_list_bool, sub_list_str, sub_list_list, sub_list_tuple, sub_list_dict, sub_tuple_int, sub_tuple_bool, sub_tuple_str, sub_tuple_list, sub_tuple_tuple, sub_tuple_dict, okC_int, okC_bool, okC_str, okC_list, okC_tuple, okC_dict, rEqM, rNeM, datF_int, datF_str, datF_bl, datF_non, datF_ref, allO, rIxTT, rIxTK, gTupT, gTupK, gCons, gNil, rLenT, rLenK, SeqAt.shaped, eqv_none_none, eqv_none_bool, eqv_none_int, eqv_none_str, eqv_none_list, eqv_none_tuple, eqv_bool_none, eqv_bool_bool, eqv_bool_int, eqv_bool_str, eqv_bool_list, eqv_bool_tuple, eqv_int_none, eqv_int_bool, eqv_int_int, eqv_int_str, eqv_int_list, eqv_int_tuple, eqv_str_none, eqv_str_bool, eqv_str_int, eqv_str_str, eqv_str_list, eqv_str_tuple, eqv_list_none, eqv_list_bool, eqv_list_int, eqv_list_str, eqv_list_list, eqv_list_tuple, eqv_tuple_none, eqv_tuple_bool, eqv_tuple_int, eqv_tuple_str, eqv_tuple_list, eqv_tuple_tuple, eqa_nil, eqa_cons, eqa_nc, eqa_cn, lay_none, dep_none, lay_bool, dep_bool, lay_int, dep_int, lay_list, dep_list, lay_tuple, dep_tuple, lay_str, dep_str, laa_nil, laa_cons, dea_nil, dea_cons, Option.map_some, Nat.max_self, Nat.max_zero, Nat.zero_max, Bool.and_self, decide_eq_decide, HO.tup.injEq, beq_iff_eq, Bool.and_eq_true, beq_self_eq_true, Nat.zero_add, Int.reduceBEq, tPar3, ex_sqT1, ex_sqL1, unrF, ite_not, cxOf_H0, tLc_eq, iEnum, iZip, allO_ints, laa_ints, dea_ints, eqa_ints, eqa_ints_nil, wipe_nil, wipe_cons, rListT, rTupT, tYes_eq, tBM, tBM0, rAppend, rExtend, rPop, Nat.reduceSub, List.length_map, List.map_cons, List.map_nil, ints_inj, decide_eq_true_iff, ints_set, List.length_set, sp_L_take, sp_L_pool, sp_L_number, sp_L_same0, sp_L_mark, sp_L_u, sp_mark_of]
        refine fg_gen fun D hnx hrt hbk hct => ?_
        refine seq_gen fun k hk => ?_
        simp (config := { contextual := true, maxSteps := 2000000, maxDischargeDepth := 12 }) only [tAsg, gName, tVar, tC, tOp, tUn, tCB, tCons, tNil, tCall, tIfS, tTest, tB, tNot, tAnd, tOr, tAndV, tOrV, tNotV, tIf, tChain, tRet, tRetN, tDrop, tNext, tNever, tBreak, tCont, tAug, ipI, tPar, rI, rI0, rU, rEq, rNe, scal, tFor_eq, iRng1, iRng2, iList, iTup, tCallN, tLst, tTup, rIxL, rIxT, rIxLT, gSub, rSetL, CMul, CDiv, CPow, rInt1, atI, ixN, isI, List.getElem?_cons_zero, List.getElem?_cons_succ, List.set_cons_zero, List.set_cons_succ, Option.some.injEq, HO.lst.injEq, HO.tup.injEq, V.int.injEq, V.bl.injEq, V.ref.injEq, V.str.injEq, exists_eq_left', exists_eq_left, exists_eq_right, exists_eq_right', List.cons.injEq, and_true, true_and, List.append_nil, List.cons_append, List.nil_append, exists_and_left, exists_and_right, and_self, decide_eq_true_eq, Bool.not_eq_true', decide_eq_false_iff_not, if_true, if_false, Bool.false_eq_true, if_false_left, if_true_left, reduceCtorEq, exists_const, exists_eq', cxOf_K, upd_same, upd_upd, upd_none, upd_ne, upd_in, updI_eq, Option.isSome_some, plain_true, List.length_cons, List.length_nil, Nat.reduceAdd, Nat.reduceMul, Nat.reduceLeDiff, Nat.reduceLT, Int.reduceNeg, ne_eq, and_imp, Bool.not_true, Bool.not_false, not_false_eq_true, not_true_eq_false, Int.reducePow, Int.reduceToNat, Int.reduceLT, Int.reduceLE, Int.reduceMul, Int.reduceAdd, Nat.reducePow, Nat.zero_le, implies_true, true_implies, false_implies, or_true, true_or, or_false, false_or, or_self, false_and, and_false, exists_false, Int.reduceAbs, Option.bind_some, Int.cast_ofNat_Int, Int.ofNat_eq_coe, Int.toNat_zero, Int.toNat_one, Int.reduceSub, Int.reduceEq, Nat.reduceEqDiff, sizeLine_lit, Int.zero_add, Classical.not_not, and_assoc, upd_ne2, eq_self, forall_const, IntL_true, decide_true, decide_false, decide_not, Bool.true_and, Bool.and_true, Bool.false_and, Bool.and_false, Bool.or_true, Bool.true_or, Bool.or_false, Bool.false_or, ite_self, rIsM, rIsM2, tyR, sub_int_int, sub_int_bool, sub_int_str, sub_int_list, sub_int_tuple, sub_int_dict, sub_bool_int, sub_bool_bool, sub_bool_str, sub_bool_list, sub_bool_tuple, sub_bool_dict, sub_str_int, sub_str_bool, sub_str_str, sub_str_list, sub_str_tuple, sub_str_dict, sub_NoneType_int, sub_NoneType_bool, sub_NoneType_str, sub_NoneType_list, sub_NoneType_tuple, sub_NoneType_dict, sub_list_int, sub_list_bool, sub_list_str, sub_list_list, sub_list_tuple, sub_list_dict, sub_tuple_int, sub_tuple_bool, sub_tuple_str, sub_tuple_list, sub_tuple_tuple, sub_tuple_dict, okC_int, okC_bool, okC_str, okC_list, okC_tuple, okC_dict, rEqM, rNeM, datF_int, datF_str, datF_bl, datF_non, datF_ref, allO, rIxTT, rIxTK, gTupT, gTupK, gCons, gNil, rLenT, rLenK, SeqAt.shaped, eqv_none_none, eqv_none_bool, eqv_none_int, eqv_none_str, eqv_none_list, eqv_none_tuple, eqv_bool_none, eqv_bool_bool, eqv_bool_int, eqv_bool_str, eqv_bool_list, eqv_bool_tuple, eqv_int_none, eqv_int_bool, eqv_int_int, eqv_int_str, eqv_int_list, eqv_int_tuple, eqv_str_none, eqv_str_bool, eqv_str_int, eqv_str_str, eqv_str_list, eqv_str_tuple, eqv_list_none, eqv_list_bool, eqv_list_int, eqv_list_str, eqv_list_list, eqv_list_tuple, eqv_tuple_none, eqv_tuple_bool, eqv_tuple_int, eqv_tuple_str, eqv_tuple_list, eqv_tuple_tuple, eqa_nil, eqa_cons, eqa_nc, eqa_cn, lay_none, dep_none, lay_bool, dep_bool, lay_int, dep_int, lay_list, dep_list, lay_tuple, dep_tuple, lay_str, dep_str, laa_nil, laa_cons, dea_nil, dea_cons, Option.map_some, Nat.max_self, Nat.max_zero, Nat.zero_max, Bool.and_self, decide_eq_decide, HO.tup.injEq, beq_iff_eq, Bool.and_eq_true, beq_self_eq_true, Nat.zero_add, Int.reduceBEq, tPar3, ex_sqT1, ex_sqL1, unrF, ite_not, cxOf_H0, tLc_eq, iEnum, iZip, allO_ints, laa_ints, dea_ints, eqa_ints, eqa_ints_nil, wipe_nil, wipe_cons, rListT, rTupT, tYes_eq, tBM, tBM0, rAppend, rExtend, rPop, Nat.reduceSub, List.length_map, List.map_cons, List.map_nil, ints_inj, decide_eq_true_iff, ints_set, List.length_set, sp_L_take, sp_L_pool, sp_L_number, sp_L_same0, sp_L_mark, sp_L_u, sp_mark_of, hS, k1, k2]
        intro p g r hp b1 b2 b3
        subst hk
        refine seq_gen fun k hk => ?_
        simp (config := { contextual := true, maxSteps := 2000000, maxDischargeDepth := 12 }) only [tAsg, gName, tVar, tC, tOp, tUn, tCB, tCons, tNil, tCall, tIfS, tTest, tB, tNot, tAnd, tOr, tAndV, tOrV, tNotV, tIf, tChain, tRet, tRetN, tDrop, tNext, tNever, tBreak, tCont, tAug, ipI, tPar, rI, rI0, rU, rEq, rNe, scal, tFor_eq, iRng1, iRng2, iList, iTup, tCallN, tLst, tTup, rIxL, rIxT, rIxLT, gSub, rSetL, CMul, CDiv, CPow, rInt1, atI, ixN, isI, List.getElem?_cons_zero, List.getElem?_cons_succ, List.set_cons_zero, List.set_cons_succ, Option.some.injEq, HO.lst.injEq, HO.tup.injEq, V.int.injEq, V.bl.injEq, V.ref.injEq, V.str.injEq, exists_eq_left', exists_eq_left, exists_eq_right, exists_eq_right', List.cons.injEq, and_true, true_and, List.append_nil, List.cons_append, List.nil_append, exists_and_left, exists_and_right, and_self, decide_eq_true_eq, Bool.not_eq_true', decide_eq_false_iff_not, if_true, if_false, Bool.false_eq_true, if_false_left, if_true_left, reduceCtorEq, exists_const, exists_eq', cxOf_K, upd_same, upd_upd, upd_none, upd_ne, upd_in, updI_eq, Option.isSome_some, plain_true, List.length_cons, List.length_nil, Nat.reduceAdd, Nat.reduceMul, Nat.reduceLeDiff, Nat.reduceLT, Int.reduceNeg, ne_eq, and_imp, Bool.not_true, Bool.not_false, not_false_eq_true, not_true_eq_false, Int.reducePow, Int.reduceToNat, Int.reduceLT, Int.reduceLE, Int.reduceMul, Int.reduceAdd, Nat.reducePow, Nat.zero_le, implies_true, true_implies, false_implies, or_true, true_or, or_false, false_or, or_self, false_and, and_false, exists_false, Int.reduceAbs, Option.bind_some, Int.cast_ofNat_Int, Int.ofNat_eq_coe, Int.toNat_zero, Int.toNat_one, Int.reduceSub, Int.reduceEq, Nat.reduceEqDiff, sizeLine_lit, Int.zero_add, Classical.not_not, and_assoc, upd_ne2, eq_self, forall_const, IntL_true, decide_true, decide_false, decide_not, Bool.true_and, Bool.and_true, Bool.false_and, Bool.and_false, Bool.or_true, Bool.true_or, Bool.or_false, Bool.false_or, ite_self, rIsM, rIsM2, tyR, sub_int_int, sub_int_bool, sub_int_str, sub_int_list, sub_int_tuple, sub_int_dict, sub_bool_int, sub_bool_bool, sub_bool_str, sub_bool_list, sub_bool_tuple, sub_bool_dict, sub_str_int, sub_str_bool, sub_str_str, sub_str_list, sub_str_tuple, sub_str_dict, sub_NoneType_int, sub_NoneType_bool, sub_NoneType_str, sub_NoneType_list, sub_NoneType_tuple, sub_NoneType_dict, sub_list_int, sub_list_bool, sub_list_str, sub_list_list, sub_list_tuple, sub_list_dict, sub_tuple_int, sub_tuple_bool, sub_tuple_str, sub_tuple_list, sub_tuple_tuple, sub_tuple_dict, okC_int, okC_bool, okC_str, okC_list, okC_tuple, okC_dict, rEqM, rNeM, datF_int, datF_str, datF_bl, datF_non, datF_ref, allO, rIxTT, rIxTK, gTupT, gTupK, gCons, gNil, rLenT, rLenK, SeqAt.shaped, eqv_none_none, eqv_none_bool, eqv_none_int, eqv_none_str, eqv_none_list, eqv_none_tuple, eqv_bool_none, eqv_bool_bool, eqv_bool_int, eqv_bool_str, eqv_bool_list, eqv_bool_tuple, eqv_int_none, eqv_int_bool, eqv_int_int, eqv_int_str, eqv_int_list, eqv_int_tuple, eqv_str_none, eqv_str_bool, eqv_str_int, eqv_str_str, eqv_str_list, eqv_str_tuple, eqv_list_none, eqv_list_bool, eqv_list_int, eqv_list_str, eqv_list_list, eqv_list_tuple, eqv_tuple_none, eqv_tuple_bool, eqv_tuple_int, eqv_tuple_str, eqv_tuple_list, eqv_tuple_tuple, eqa_nil, eqa_cons, eqa_nc, eqa_cn, lay_none, dep_none, lay_bool, dep_bool, lay_int, dep_int, lay_list, dep_list, lay_tuple, dep_tuple, lay_str, dep_str, laa_nil, laa_cons, dea_nil, dea_cons, Option.map_some, Nat.max_self, Nat.max_zero, Nat.zero_max, Bool.and_self, decide_eq_decide, HO.tup.injEq, beq_iff_eq, Bool.and_eq_true, beq_self_eq_true, Nat.zero_add, Int.reduceBEq, tPar3, ex_sqT1, ex_sqL1, unrF, ite_not, cxOf_H0, tLc_eq, iEnum, iZip, allO_ints, laa_ints, dea_ints, eqa_ints, eqa_ints_nil, wipe_nil, wipe_cons, rListT, rTupT, tYes_eq, tBM, tBM0, rAppend, rExtend, rPop, Nat.reduceSub, List.length_map, List.map_cons, List.map_nil, ints_inj, decide_eq_true_iff, ints_set, List.length_set, sp_L_take, sp_L_pool, sp_L_number, sp_L_same0, sp_L_mark, sp_L_u, sp_mark_of, b1, b2, b3]
        intro x g1 r1 x1 x2 x3 x4 x5 p1 n1 m1 x6 g2 r2 c1 c2 c3 c4 c5
        obtain ⟨j, ej, j0, j9⟩ : ∃ j : Int, [V.int 0, V.int 1, V.int 2, V.int 7, V.int x, V.int 64][x6.toNat]? = some (.int j) ∧ 0 ≤ j ∧ j ≤ 64 := by
          rcases six_of c1 c2 with rfl | rfl | rfl | rfl | rfl | rfl
          all_goals exact ⟨_, rfl, by omega, by omega⟩
        refine ⟨_, ej, j, rfl, by omega, by omega, fun Dl d1 d2 d3 => ?_⟩
        refine lcB_range (fun m H2 => ∃ ms g r, H2 = upd (upd (upd H' p (HO.lst [V.int g, V.int r])) p1 (HO.lst [V.int 0, V.int 1, V.int 2, V.int 7, V.int x, V.int 64])) Dl (HO.lst (ms.map V.int)) ∧ ms.length = m ∧ 0 ≤ g ∧ 0 ≤ r ∧ r < 2147483647) ⟨[], g2, r2, rfl, rfl, c3, c4, c5⟩ ?_ ?_
        · rintro m H2 hm ⟨ms, g, r, rfl, rfl, f1, f2, f3⟩
          simp (config := { contextual := true, maxSteps := 2000000, maxDischargeDepth := 12 }) only [tAsg, gName, tVar, tC, tOp, tUn, tCB, tCons, tNil, tCall, tIfS, tTest, tB, tNot, tAnd, tOr, tAndV, tOrV, tNotV, tIf, tChain, tRet, tRetN, tDrop, tNext, tNever, tBreak, tCont, tAug, ipI, tPar, rI, rI0, rU, rEq, rNe, scal, tFor_eq, iRng1, iRng2, iList, iTup, tCallN, tLst, tTup, rIxL, rIxT, rIxLT, gSub, rSetL, CMul, CDiv, CPow, rInt1, atI, ixN, isI, List.getElem?_cons_zero, List.getElem?_cons_succ, List.set_cons_zero, List.set_cons_succ, Option.some.injEq, HO.lst.injEq, HO.tup.injEq, V.int.injEq, V.bl.injEq, V.ref.injEq, V.str.injEq, exists_eq_left', exists_eq_left, exists_eq_right, exists_eq_right', List.cons.injEq, and_true, true_and, List.append_nil, List.cons_append, List.nil_append, exists_and_left, exists_and_right, and_self, decide_eq_true_eq, Bool.not_eq_true', decide_eq_false_iff_not, if_true, if_false, Bool.false_eq_true, if_false_left, if_true_left, reduceCtorEq, exists_const, exists_eq', cxOf_K, upd_same, upd_upd, upd_none, upd_ne, upd_in, updI_eq, Option.isSome_some, plain_true, List.length_cons, List.length_nil, Nat.reduceAdd, Nat.reduceMul, Nat.reduceLeDiff, Nat.reduceLT, Int.reduceNeg, ne_eq, and_imp, Bool.not_true, Bool.not_false, not_false_eq_true, not_true_eq_false, Int.reducePow, Int.reduceToNat, Int.reduceLT, Int.reduceLE, Int.reduceMul, Int.reduceAdd, Nat.reducePow, Nat.zero_le, implies_true, true_implies, false_implies, or_true, true_or, or_false, false_or, or_self, false_and, and_false, exists_false, Int.reduceAbs, Option.bind_some, Int.cast_ofNat_Int, Int.ofNat_eq_coe, Int.toNat_zero, Int.toNat_one, Int.reduceSub, Int.reduceEq, Nat.reduceEqDiff, sizeLine_lit, Int.zero_add, Classical.not_not, and_assoc, upd_ne2, eq_self, forall_const, IntL_true, decide_true, decide_false, decide_not, Bool.true_and, Bool.and_true, Bool.false_and, Bool.and_false, Bool.or_true, Bool.true_or, Bool.or_false, Bool.false_or, ite_self, rIsM, rIsM2, tyR, sub_int_int, sub_int_bool, sub_int_str, sub_int_list, sub_int_tuple, sub_int_dict, sub_bool_int, sub_bool_bool, sub_bool_str, sub_bool_list, sub_bool_tuple, sub_bool_dict, sub_str_int, sub_str_bool, sub_str_str, sub_str_list, sub_str_tuple, sub_str_dict, sub_NoneType_int, sub_NoneType_bool, sub_NoneType_str, sub_NoneType_list, sub_NoneType_tuple, sub_NoneType_dict, sub_list_int, sub_list_bool, sub_list_str, sub_list_list, sub_list_tuple, sub_list_dict, sub_tuple_int, sub_tuple_bool, sub_tuple_str, sub_tuple_list, sub_tuple_tuple, sub_tuple_dict, okC_int, okC_bool, okC_str, okC_list, okC_tuple, okC_dict, rEqM, rNeM, datF_int, datF_str, datF_bl, datF_non, datF_ref, allO, rIxTT, rIxTK, gTupT, gTupK, gCons, gNil, rLenT, rLenK, SeqAt.shaped, eqv_none_none, eqv_none_bool, eqv_none_int, eqv_none_str, eqv_none_list, eqv_none_tuple, eqv_bool_none, eqv_bool_bool, eqv_bool_int, eqv_bool_str, eqv_bool_list, eqv_bool_tuple, eqv_int_none, eqv_int_bool, eqv_int_int, eqv_int_str, eqv_int_list, eqv_int_tuple, eqv_str_none, eqv_str_bool, eqv_str_int, eqv_str_str, eqv_str_list, eqv_str_tuple, eqv_list_none, eqv_list_bool, eqv_list_int, eqv_list_str, eqv_list_list, eqv_list_tuple, eqv_tuple_none, eqv_tuple_bool, eqv_tuple_int, eqv_tuple_str, eqv_tuple_list, eqv_tuple_tuple, eqa_nil, eqa_cons, eqa_nc, eqa_cn, lay_none, dep_none, lay_bool, dep_bool, lay_int, dep_int, lay_list, dep_list, lay_tuple, dep_tuple, lay_str, dep_str, laa_nil, laa_cons, dea_nil, dea_cons, Option.map_some, Nat.max_self, Nat.max_zero, Nat.zero_max, Bool.and_self, decide_eq_decide, HO.tup.injEq, beq_iff_eq, Bool.and_eq_true, beq_self_eq_true, Nat.zero_add, Int.reduceBEq, tPar3, ex_sqT1, ex_sqL1, unrF, ite_not, cxOf_H0, tLc_eq, iEnum, iZip, allO_ints, laa_ints, dea_ints, eqa_ints, eqa_ints_nil, wipe_nil, wipe_cons, rListT, rTupT, tYes_eq, tBM, tBM0, rAppend, rExtend, rPop, Nat.reduceSub, List.length_map, List.map_cons, List.map_nil, ints_inj, decide_eq_true_iff, ints_set, List.length_set, sp_L_take, sp_L_pool, sp_L_number, sp_L_same0, sp_L_mark, sp_L_u, sp_mark_of, n1, m1, d1, d2, d3, f1, f2, f3]
          intro v g' r' v1 v2 v3 v4 v5
          refine ⟨Nat.lt_of_lt_of_le (show ms.length < 65 by omega) (by decide), ?_⟩
          exact ⟨ms ++ [v], g', r', by rw [ints_snoc], by simp, v3, v4, v5⟩
        · rintro H2 ⟨ms, g, r, rfl, hm, f1, f2, f3⟩
          have ml : ms.length ≤ 64 := by omega
          clear ej j0 j9 hm
          subst hk
          refine seq_gen fun k hk => ?_
          simp (config := { contextual := true, maxSteps := 2000000, maxDischargeDepth := 12 }) only [tAsg, gName, tVar, tC, tOp, tUn, tCB, tCons, tNil, tCall, tIfS, tTest, tB, tNot, tAnd, tOr, tAndV, tOrV, tNotV, tIf, tChain, tRet, tRetN, tDrop, tNext, tNever, tBreak, tCont, tAug, ipI, tPar, rI, rI0, rU, rEq, rNe, scal, tFor_eq, iRng1, iRng2, iList, iTup, tCallN, tLst, tTup, rIxL, rIxT, rIxLT, gSub, rSetL, CMul, CDiv, CPow, rInt1, atI, ixN, isI, List.getElem?_cons_zero, List.getElem?_cons_succ, List.set_cons_zero, List.set_cons_succ, Option.some.injEq, HO.lst.injEq, HO.tup.injEq, V.int.injEq, V.bl.injEq, V.ref.injEq, V.str.injEq, exists_eq_left', exists_eq_left, exists_eq_right, exists_eq_right', List.cons.injEq, and_true, true_and, List.append_nil, List.cons_append, List.nil_append, exists_and_left, exists_and_right, and_self, decide_eq_true_eq, Bool.not_eq_true', decide_eq_false_iff_not, if_true, if_false, Bool.false_eq_true, if_false_left, if_true_left, reduceCtorEq, exists_const, exists_eq', cxOf_K, upd_same, upd_upd, upd_none, upd_ne, upd_in, updI_eq, Option.isSome_some, plain_true, List.length_cons, List.length_nil, Nat.reduceAdd, Nat.reduceMul, Nat.reduceLeDiff, Nat.reduceLT, Int.reduceNeg, ne_eq, and_imp, Bool.not_true, Bool.not_false, not_false_eq_true, not_true_eq_false, Int.reducePow, Int.reduceToNat, Int.reduceLT, Int.reduceLE, Int.reduceMul, Int.reduceAdd, Nat.reducePow, Nat.zero_le, implies_true, true_implies, false_implies, or_true, true_or, or_false, false_or, or_self, false_and, and_false, exists_false, Int.reduceAbs, Option.bind_some, Int.cast_ofNat_Int, Int.ofNat_eq_coe, Int.toNat_zero, Int.toNat_one, Int.reduceSub, Int.reduceEq, Nat.reduceEqDiff, sizeLine_lit, Int.zero_add, Classical.not_not, and_assoc, upd_ne2, eq_self, forall_const, IntL_true, decide_true, decide_false, decide_not, Bool.true_and, Bool.and_true, Bool.false_and, Bool.and_false, Bool.or_true, Bool.true_or, Bool.or_false, Bool.false_or, ite_self, rIsM, rIsM2, tyR, sub_int_int, sub_int_bool, sub_int_str, sub_int_list, sub_int_tuple, sub_int_dict, sub_bool_int, sub_bool_bool, sub_bool_str, sub_bool_list, sub_bool_tuple, sub_bool_dict, sub_str_int, sub_str_bool, sub_str_str, sub_str_list, sub_str_tuple, sub_str_dict, sub_NoneType_int, sub_NoneType_bool, sub_NoneType_str, sub_NoneType_list, sub_NoneType_tuple, sub_NoneType_dict, sub_list_int, sub_list_bool, sub_list_str, sub_list_list, sub_list_tuple, sub_list_dict, sub_tuple_int, sub_tuple_bool, sub_tuple_str, sub_tuple_list, sub_tuple_tuple, sub_tuple_dict, okC_int, okC_bool, okC_str, okC_list, okC_tuple, okC_dict, rEqM, rNeM, datF_int, datF_str, datF_bl, datF_non, datF_ref, allO, rIxTT, rIxTK, gTupT, gTupK, gCons, gNil, rLenT, rLenK, SeqAt.shaped, eqv_none_none, eqv_none_bool, eqv_none_int, eqv_none_str, eqv_none_list, eqv_none_tuple, eqv_bool_none, eqv_bool_bool, eqv_bool_int, eqv_bool_str, eqv_bool_list, eqv_bool_tuple, eqv_int_none, eqv_int_bool, eqv_int_int, eqv_int_str, eqv_int_list, eqv_int_tuple, eqv_str_none, eqv_str_bool, eqv_str_int, eqv_str_str, eqv_str_list, eqv_str_tuple, eqv_list_none, eqv_list_bool, eqv_list_int, eqv_list_str, eqv_list_list, eqv_list_tuple, eqv_tuple_none, eqv_tuple_bool, eqv_tuple_int, eqv_tuple_str, eqv_tuple_list, eqv_tuple_tuple, eqa_nil, eqa_cons, eqa_nc, eqa_cn, lay_none, dep_none, lay_bool, dep_bool, lay_int, dep_int, lay_list, dep_list, lay_tuple, dep_tuple, lay_str, dep_str, laa_nil, laa_cons, dea_nil, dea_cons, Option.map_some, Nat.max_self, Nat.max_zero, Nat.zero_max, Bool.and_self, decide_eq_decide, HO.tup.injEq, beq_iff_eq, Bool.and_eq_true, beq_self_eq_true, Nat.zero_add, Int.reduceBEq, tPar3, ex_sqT1, ex_sqL1, unrF, ite_not, cxOf_H0, tLc_eq, iEnum, iZip, allO_ints, laa_ints, dea_ints, eqa_ints, eqa_ints_nil, wipe_nil, wipe_cons, rListT, rTupT, tYes_eq, tBM, tBM0, rAppend, rExtend, rPop, Nat.reduceSub, List.length_map, List.map_cons, List.map_nil, ints_inj, decide_eq_true_iff, ints_set, List.length_set, sp_L_take, sp_L_pool, sp_L_number, sp_L_same0, sp_L_mark, sp_L_u, sp_mark_of, d1, d2, d3]
          intro G o1 o2 o3 o4
          subst hk
          refine seq_gen fun k hk => ?_
          refine fg_gen fun D2 hnx2 hrt2 hbk2 hct2 => ?_
          simp (config := { contextual := true, maxSteps := 2000000, maxDischargeDepth := 12 }) only [tAsg, gName, tVar, tC, tOp, tUn, tCB, tCons, tNil, tCall, tIfS, tTest, tB, tNot, tAnd, tOr, tAndV, tOrV, tNotV, tIf, tChain, tRet, tRetN, tDrop, tNext, tNever, tBreak, tCont, tAug, ipI, tPar, rI, rI0, rU, rEq, rNe, scal, tFor_eq, iRng1, iRng2, iList, iTup, tCallN, tLst, tTup, rIxL, rIxT, rIxLT, gSub, rSetL, CMul, CDiv, CPow, rInt1, atI, ixN, isI, List.getElem?_cons_zero, List.getElem?_cons_succ, List.set_cons_zero, List.set_cons_succ, Option.some.injEq, HO.lst.injEq, HO.tup.injEq, V.int.injEq, V.bl.injEq, V.ref.injEq, V.str.injEq, exists_eq_left', exists_eq_left, exists_eq_right, exists_eq_right', List.cons.injEq, and_true, true_and, List.append_nil, List.cons_append, List.nil_append, exists_and_left, exists_and_right, and_self, decide_eq_true_eq, Bool.not_eq_true', decide_eq_false_iff_not, if_true, if_false, Bool.false_eq_true, if_false_left, if_true_left, reduceCtorEq, exists_const, exists_eq', cxOf_K, upd_same, upd_upd, upd_none, upd_ne, upd_in, updI_eq, Option.isSome_some, plain_true, List.length_cons, List.length_nil, Nat.reduceAdd, Nat.reduceMul, Nat.reduceLeDiff, Nat.reduceLT, Int.reduceNeg, ne_eq, and_imp, Bool.not_true, Bool.not_false, not_false_eq_true, not_true_eq_false, Int.reducePow, Int.reduceToNat, Int.reduceLT, Int.reduceLE, Int.reduceMul, Int.reduceAdd, Nat.reducePow, Nat.zero_le, implies_true, true_implies, false_implies, or_true, true_or, or_false, false_or, or_self, false_and, and_false, exists_false, Int.reduceAbs, Option.bind_some, Int.cast_ofNat_Int, Int.ofNat_eq_coe, Int.toNat_zero, Int.toNat_one, Int.reduceSub, Int.reduceEq, Nat.reduceEqDiff, sizeLine_lit, Int.zero_add, Classical.not_not, and_assoc, upd_ne2, eq_self, forall_const, IntL_true, decide_true, decide_false, decide_not, Bool.true_and, Bool.and_true, Bool.false_and, Bool.and_false, Bool.or_true, Bool.true_or, Bool.or_false, Bool.false_or, ite_self, rIsM, rIsM2, tyR, sub_int_int, sub_int_bool, sub_int_str, sub_int_list, sub_int_tuple, sub_int_dict, sub_bool_int, sub_bool_bool, sub_bool_str, sub_bool_list, sub_bool_tuple, sub_bool_dict, sub_str_int, sub_str_bool, sub_str_str, sub_str_list, sub_str_tuple, sub_str_dict, sub_NoneType_int, sub_NoneType_bool, sub_NoneType_str, sub_NoneType_list, sub_NoneType_tuple, sub_NoneType_dict, sub_list_int, sub_list_bool, sub_list_str, sub_list_list, sub_list_tuple, sub_list_dict, sub_tuple_int, sub_tuple_bool, sub_tuple_str, sub_tuple_list, sub_tuple_tuple, sub_tuple_dict, okC_int, okC_bool, okC_str, okC_list, okC_tuple, okC_dict, rEqM, rNeM, datF_int, datF_str, datF_bl, datF_non, datF_ref, allO, rIxTT, rIxTK, gTupT, gTupK, gCons, gNil, rLenT, rLenK, SeqAt.shaped, eqv_none_none, eqv_none_bool, eqv_none_int, eqv_none_str, eqv_none_list, eqv_none_tuple, eqv_bool_none, eqv_bool_bool, eqv_bool_int, eqv_bool_str, eqv_bool_list, eqv_bool_tuple, eqv_int_none, eqv_int_bool, eqv_int_int, eqv_int_str, eqv_int_list, eqv_int_tuple, eqv_str_none, eqv_str_bool, eqv_str_int, eqv_str_str, eqv_str_list, eqv_str_tuple, eqv_list_none, eqv_list_bool, eqv_list_int, eqv_list_str, eqv_list_list, eqv_list_tuple, eqv_tuple_none, eqv_tuple_bool, eqv_tuple_int, eqv_tuple_str, eqv_tuple_list, eqv_tuple_tuple, eqa_nil, eqa_cons, eqa_nc, eqa_cn, lay_none, dep_none, lay_bool, dep_bool, lay_int, dep_int, lay_list, dep_list, lay_tuple, dep_tuple, lay_str, dep_str, laa_nil, laa_cons, dea_nil, dea_cons, Option.map_some, Nat.max_self, Nat.max_zero, Nat.zero_max, Bool.and_self, decide_eq_decide, HO.tup.injEq, beq_iff_eq, Bool.and_eq_true, beq_self_eq_true, Nat.zero_add, Int.reduceBEq, tPar3, ex_sqT1, ex_sqL1, unrF, ite_not, cxOf_H0, tLc_eq, iEnum, iZip, allO_ints, laa_ints, dea_ints, eqa_ints, eqa_ints_nil, wipe_nil, wipe_cons, rListT, rTupT, tYes_eq, tBM, tBM0, rAppend, rExtend, rPop, Nat.reduceSub, List.length_map, List.map_cons, List.map_nil, ints_inj, decide_eq_true_iff, ints_set, List.length_set, sp_L_take, sp_L_pool, sp_L_number, sp_L_same0, sp_L_mark, sp_L_u, sp_mark_of, d1, d2, d3, o1, o2, o3, o4, ml]
          refine hnx2 _ _ _ fgt_id inferInstance ?_
          show k D _ _
          subst hk
          clear hnx2 hrt2 hbk2 hct2
          refine fg_gen fun D2 hnx2 hrt2 hbk2 hct2 => ?_
          simp (config := { contextual := true, maxSteps := 2000000, maxDischargeDepth := 12 }) only [tAsg, gName, tVar, tC, tOp, tUn, tCB, tCons, tNil, tCall, tIfS, tTest, tB, tNot, tAnd, tOr, tAndV, tOrV, tNotV, tIf, tChain, tRet, tRetN, tDrop, tNext, tNever, tBreak, tCont, tAug, ipI, tPar, rI, rI0, rU, rEq, rNe, scal, tFor_eq, iRng1, iRng2, iList, iTup, tCallN, tLst, tTup, rIxL, rIxT, rIxLT, gSub, rSetL, CMul, CDiv, CPow, rInt1, atI, ixN, isI, List.getElem?_cons_zero, List.getElem?_cons_succ, List.set_cons_zero, List.set_cons_succ, Option.some.injEq, HO.lst.injEq, HO.tup.injEq, V.int.injEq, V.bl.injEq, V.ref.injEq, V.str.injEq, exists_eq_left', exists_eq_left, exists_eq_right, exists_eq_right', List.cons.injEq, and_true, true_and, List.append_nil, List.cons_append, List.nil_append, exists_and_left, exists_and_right, and_self, decide_eq_true_eq, Bool.not_eq_true', decide_eq_false_iff_not, if_true, if_false, Bool.false_eq_true, if_false_left, if_true_left, reduceCtorEq, exists_const, exists_eq', cxOf_K, upd_same, upd_upd, upd_none, upd_ne, upd_in, updI_eq, Option.isSome_some, plain_true, List.length_cons, List.length_nil, Nat.reduceAdd, Nat.reduceMul, Nat.reduceLeDiff, Nat.reduceLT, Int.reduceNeg, ne_eq, and_imp, Bool.not_true, Bool.not_false, not_false_eq_true, not_true_eq_false, Int.reducePow, Int.reduceToNat, Int.reduceLT, Int.reduceLE, Int.reduceMul, Int.reduceAdd, Nat.reducePow, Nat.zero_le, implies_true, true_implies, false_implies, or_true, true_or, or_false, false_or, or_self, false_and, and_false, exists_false, Int.reduceAbs, Option.bind_some, Int.cast_ofNat_Int, Int.ofNat_eq_coe, Int.toNat_zero, Int.toNat_one, Int.reduceSub, Int.reduceEq, Nat.reduceEqDiff, sizeLine_lit, Int.zero_add, Classical.not_not, and_assoc, upd_ne2, eq_self, forall_const, IntL_true, decide_true, decide_false, decide_not, Bool.true_and, Bool.and_true, Bool.false_and, Bool.and_false, Bool.or_true, Bool.true_or, Bool.or_false, Bool.false_or, ite_self, rIsM, rIsM2, tyR, sub_int_int, sub_int_bool, sub_int_str, sub_int_list, sub_int_tuple, sub_int_dict, sub_bool_int, sub_bool_bool, sub_bool_str, sub_bool_list, sub_bool_tuple, sub_bool_dict, sub_str_int, sub_str_bool, sub_str_str, sub_str_list, sub_str_tuple, sub_str_dict, sub_NoneType_int, sub_NoneType_bool, sub_NoneType_str, sub_NoneType_list, sub_NoneType_tuple, sub_NoneType_dict, sub_list_int, sub_list_bool, sub_list_str, sub_list_list, sub_list_tuple, sub_list_dict, sub_tuple_int, sub_tuple_bool, sub_tuple_str, sub_tuple_list, sub_tuple_tuple, sub_tuple_dict, okC_int, okC_bool, okC_str, okC_list, okC_tuple, okC_dict, rEqM, rNeM, datF_int, datF_str, datF_bl, datF_non, datF_ref, allO, rIxTT, rIxTK, gTupT, gTupK, gCons, gNil, rLenT, rLenK, SeqAt.shaped, eqv_none_none, eqv_none_bool, eqv_none_int, eqv_none_str, eqv_none_list, eqv_none_tuple, eqv_bool_none, eqv_bool_bool, eqv_bool_int, eqv_bool_str, eqv_bool_list, eqv_bool_tuple, eqv_int_none, eqv_int_bool, eqv_int_int, eqv_int_str, eqv_int_list, eqv_int_tuple, eqv_str_none, eqv_str_bool, eqv_str_int, eqv_str_str, eqv_str_list, eqv_str_tuple, eqv_list_none, eqv_list_bool, eqv_list_int, eqv_list_str, eqv_list_list, eqv_list_tuple, eqv_tuple_none, eqv_tuple_bool, eqv_tuple_int, eqv_tuple_str, eqv_tuple_list, eqv_tuple_tuple, eqa_nil, eqa_cons, eqa_nc, eqa_cn, lay_none, dep_none, lay_bool, dep_bool, lay_int, dep_int, lay_list, dep_list, lay_tuple, dep_tuple, lay_str, dep_str, laa_nil, laa_cons, dea_nil, dea_cons, Option.map_some, Nat.max_self, Nat.max_zero, Nat.zero_max, Bool.and_self, decide_eq_decide, HO.tup.injEq, beq_iff_eq, Bool.and_eq_true, beq_self_eq_true, Nat.zero_add, Int.reduceBEq, tPar3, ex_sqT1, ex_sqL1, unrF, ite_not, cxOf_H0, tLc_eq, iEnum, iZip, allO_ints, laa_ints, dea_ints, eqa_ints, eqa_ints_nil, wipe_nil, wipe_cons, rListT, rTupT, tYes_eq, tBM, tBM0, rAppend, rExtend, rPop, Nat.reduceSub, List.length_map, List.map_cons, List.map_nil, ints_inj, decide_eq_true_iff, ints_set, List.length_set, sp_L_take, sp_L_pool, sp_L_number, sp_L_same0, sp_L_mark, sp_L_u, sp_mark_of, d1, d2, d3, o1, o2, o3, o4, ml]
          intro e1 l1 l2 l3 l4 l5
          split
          · rename_i ez
            subst ez
            refine hnx2 _ _ _ (fgt_of Ex.refl (by walk_at "kp")) inferInstance ?_
            exact hnx _ _ _ (fgt_ex (by walk_at "ex")) pl ⟨⟨_, _, _, _, _, _, rfl⟩, rfl⟩
          · rename_i ez
            have mp : 0 < ms.length := by
              cases ms with
              | nil => exact absurd rfl ez
              | cons b t => exact Nat.succ_pos _
            have mp1 : (0 : Int) < (ms.length : Int) := by omega
            have mp2 : (ms.length : Int) < 1073741824 := by omega
            refine seq_gen fun k hk => ?_
            simp (config := { contextual := true, maxSteps := 2000000, maxDischargeDepth := 12 }) only [tAsg, gName, tVar, tC, tOp, tUn, tCB, tCons, tNil, tCall, tIfS, tTest, tB, tNot, tAnd, tOr, tAndV, tOrV, tNotV, tIf, tChain, tRet, tRetN, tDrop, tNext, tNever, tBreak, tCont, tAug, ipI, tPar, rI, rI0, rU, rEq, rNe, scal, tFor_eq, iRng1, iRng2, iList, iTup, tCallN, tLst, tTup, rIxL, rIxT, rIxLT, gSub, rSetL, CMul, CDiv, CPow, rInt1, atI, ixN, isI, List.getElem?_cons_zero, List.getElem?_cons_succ, List.set_cons_zero, List.set_cons_succ, Option.some.injEq, HO.lst.injEq, HO.tup.injEq, V.int.injEq, V.bl.injEq, V.ref.injEq, V.str.injEq, exists_eq_left', exists_eq_left, exists_eq_right, exists_eq_right', List.cons.injEq, and_true, true_and, List.append_nil, List.cons_append, List.nil_append, exists_and_left, exists_and_right, and_self, decide_eq_true_eq, Bool.not_eq_true', decide_eq_false_iff_not, if_true, if_false, Bool.false_eq_true, if_false_left, if_true_left, reduceCtorEq, exists_const, exists_eq', cxOf_K, upd_same, upd_upd, upd_none, upd_ne, upd_in, updI_eq, Option.isSome_some, plain_true, List.length_cons, List.length_nil, Nat.reduceAdd, Nat.reduceMul, Nat.reduceLeDiff, Nat.reduceLT, Int.reduceNeg, ne_eq, and_imp, Bool.not_true, Bool.not_false, not_false_eq_true, not_true_eq_false, Int.reducePow, Int.reduceToNat, Int.reduceLT, Int.reduceLE, Int.reduceMul, Int.reduceAdd, Nat.reducePow, Nat.zero_le, implies_true, true_implies, false_implies, or_true, true_or, or_false, false_or, or_self, false_and, and_false, exists_false, Int.reduceAbs, Option.bind_some, Int.cast_ofNat_Int, Int.ofNat_eq_coe, Int.toNat_zero, Int.toNat_one, Int.reduceSub, Int.reduceEq, Nat.reduceEqDiff, sizeLine_lit, Int.zero_add, Classical.not_not, and_assoc, upd_ne2, eq_self, forall_const, IntL_true, decide_true, decide_false, decide_not, Bool.true_and, Bool.and_true, Bool.false_and, Bool.and_false, Bool.or_true, Bool.true_or, Bool.or_false, Bool.false_or, ite_self, rIsM, rIsM2, tyR, sub_int_int, sub_int_bool, sub_int_str, sub_int_list, sub_int_tuple, sub_int_dict, sub_bool_int, sub_bool_bool, sub_bool_str, sub_bool_list, sub_bool_tuple, sub_bool_dict, sub_str_int, sub_str_bool, sub_str_str, sub_str_list, sub_str_tuple, sub_str_dict, sub_NoneType_int, sub_NoneType_bool, sub_NoneType_str, sub_NoneType_list, sub_NoneType_tuple, sub_NoneType_dict, sub_list_int, sub_list_bool, sub_list_str, sub_list_list, sub_list_tuple, sub_list_dict, sub_tuple_int, sub_tuple_bool, sub_tuple_str, sub_tuple_list, sub_tuple_tuple, sub_tuple_dict, okC_int, okC_bool, okC_str, okC_list, okC_tuple, okC_dict, rEqM, rNeM, datF_int, datF_str, datF_bl, datF_non, datF_ref, allO, rIxTT, rIxTK, gTupT, gTupK, gCons, gNil, rLenT, rLenK, SeqAt.shaped, eqv_none_none, eqv_none_bool, eqv_none_int, eqv_none_str, eqv_none_list, eqv_none_tuple, eqv_bool_none, eqv_bool_bool, eqv_bool_int, eqv_bool_str, eqv_bool_list, eqv_bool_tuple, eqv_int_none, eqv_int_bool, eqv_int_int, eqv_int_str, eqv_int_list, eqv_int_tuple, eqv_str_none, eqv_str_bool, eqv_str_int, eqv_str_str, eqv_str_list, eqv_str_tuple, eqv_list_none, eqv_list_bool, eqv_list_int, eqv_list_str, eqv_list_list, eqv_list_tuple, eqv_tuple_none, eqv_tuple_bool, eqv_tuple_int, eqv_tuple_str, eqv_tuple_list, eqv_tuple_tuple, eqa_nil, eqa_cons, eqa_nc, eqa_cn, lay_none, dep_none, lay_bool, dep_bool, lay_int, dep_int, lay_list, dep_list, lay_tuple, dep_tuple, lay_str, dep_str, laa_nil, laa_cons, dea_nil, dea_cons, Option.map_some, Nat.max_self, Nat.max_zero, Nat.zero_max, Bool.and_self, decide_eq_decide, HO.tup.injEq, beq_iff_eq, Bool.and_eq_true, beq_self_eq_true, Nat.zero_add, Int.reduceBEq, tPar3, ex_sqT1, ex_sqL1, unrF, ite_not, cxOf_H0, tLc_eq, iEnum, iZip, allO_ints, laa_ints, dea_ints, eqa_ints, eqa_ints_nil, wipe_nil, wipe_cons, rListT, rTupT, tYes_eq, tBM, tBM0, rAppend, rExtend, rPop, Nat.reduceSub, List.length_map, List.map_cons, List.map_nil, ints_inj, decide_eq_true_iff, ints_set, List.length_set, sp_L_take, sp_L_pool, sp_L_number, sp_L_same0, sp_L_mark, sp_L_u, sp_mark_of, n1, m1, d1, d2, d3, o1, o2, o3, o4, ml, l1, l2, l3, l4, l5, f1, f2, f3, mp1, mp2]
            intro at_ g3 r3 t1 t2 t3 t4 t5
            subst hk
            obtain ⟨z, hz0⟩ : ∃ z, ms[at_.toNat]? = some z := ⟨_, List.getElem?_eq_getElem (show at_.toNat < ms.length by omega)⟩
            have hz : (ms.map V.int)[at_.toNat]? = some (.int z) := by rw [List.getElem?_map, hz0]; rfl
            refine seq_gen fun k hk => ?_
            simp (config := { contextual := true, maxSteps := 2000000, maxDischargeDepth := 12 }) only [tAsg, gName, tVar, tC, tOp, tUn, tCB, tCons, tNil, tCall, tIfS, tTest, tB, tNot, tAnd, tOr, tAndV, tOrV, tNotV, tIf, tChain, tRet, tRetN, tDrop, tNext, tNever, tBreak, tCont, tAug, ipI, tPar, rI, rI0, rU, rEq, rNe, scal, tFor_eq, iRng1, iRng2, iList, iTup, tCallN, tLst, tTup, rIxL, rIxT, rIxLT, gSub, rSetL, CMul, CDiv, CPow, rInt1, atI, ixN, isI, List.getElem?_cons_zero, List.getElem?_cons_succ, List.set_cons_zero, List.set_cons_succ, Option.some.injEq, HO.lst.injEq, HO.tup.injEq, V.int.injEq, V.bl.injEq, V.ref.injEq, V.str.injEq, exists_eq_left', exists_eq_left, exists_eq_right, exists_eq_right', List.cons.injEq, and_true, true_and, List.append_nil, List.cons_append, List.nil_append, exists_and_left, exists_and_right, and_self, decide_eq_true_eq, Bool.not_eq_true', decide_eq_false_iff_not, if_true, if_false, Bool.false_eq_true, if_false_left, if_true_left, reduceCtorEq, exists_const, exists_eq', cxOf_K, upd_same, upd_upd, upd_none, upd_ne, upd_in, updI_eq, Option.isSome_some, plain_true, List.length_cons, List.length_nil, Nat.reduceAdd, Nat.reduceMul, Nat.reduceLeDiff, Nat.reduceLT, Int.reduceNeg, ne_eq, and_imp, Bool.not_true, Bool.not_false, not_false_eq_true, not_true_eq_false, Int.reducePow, Int.reduceToNat, Int.reduceLT, Int.reduceLE, Int.reduceMul, Int.reduceAdd, Nat.reducePow, Nat.zero_le, implies_true, true_implies, false_implies, or_true, true_or, or_false, false_or, or_self, false_and, and_false, exists_false, Int.reduceAbs, Option.bind_some, Int.cast_ofNat_Int, Int.ofNat_eq_coe, Int.toNat_zero, Int.toNat_one, Int.reduceSub, Int.reduceEq, Nat.reduceEqDiff, sizeLine_lit, Int.zero_add, Classical.not_not, and_assoc, upd_ne2, eq_self, forall_const, IntL_true, decide_true, decide_false, decide_not, Bool.true_and, Bool.and_true, Bool.false_and, Bool.and_false, Bool.or_true, Bool.true_or, Bool.or_false, Bool.false_or, ite_self, rIsM, rIsM2, tyR, sub_int_int, sub_int_bool, sub_int_str, sub_int_list, sub_int_tuple, sub_int_dict, sub_bool_int, sub_bool_bool, sub_bool_str, sub_bool_list, sub_bool_tuple, sub_bool_dict, sub_str_int, sub_str_bool, sub_str_str, sub_str_list, sub_str_tuple, sub_str_dict, sub_NoneType_int, sub_NoneType_bool, sub_NoneType_str, sub_NoneType_list, sub_NoneType_tuple, sub_NoneType_dict, sub_list_int, sub_list_bool, sub_list_str, sub_list_list, sub_list_tuple, sub_list_dict, sub_tuple_int, sub_tuple_bool, sub_tuple_str, sub_tuple_list, sub_tuple_tuple, sub_tuple_dict, okC_int, okC_bool, okC_str, okC_list, okC_tuple, okC_dict, rEqM, rNeM, datF_int, datF_str, datF_bl, datF_non, datF_ref, allO, rIxTT, rIxTK, gTupT, gTupK, gCons, gNil, rLenT, rLenK, SeqAt.shaped, eqv_none_none, eqv_none_bool, eqv_none_int, eqv_none_str, eqv_none_list, eqv_none_tuple, eqv_bool_none, eqv_bool_bool, eqv_bool_int, eqv_bool_str, eqv_bool_list, eqv_bool_tuple, eqv_int_none, eqv_int_bool, eqv_int_int, eqv_int_str, eqv_int_list, eqv_int_tuple, eqv_str_none, eqv_str_bool, eqv_str_int, eqv_str_str, eqv_str_list, eqv_str_tuple, eqv_list_none, eqv_list_bool, eqv_list_int, eqv_list_str, eqv_list_list, eqv_list_tuple, eqv_tuple_none, eqv_tuple_bool, eqv_tuple_int, eqv_tuple_str, eqv_tuple_list, eqv_tuple_tuple, eqa_nil, eqa_cons, eqa_nc, eqa_cn, lay_none, dep_none, lay_bool, dep_bool, lay_int, dep_int, lay_list, dep_list, lay_tuple, dep_tuple, lay_str, dep_str, laa_nil, laa_cons, dea_nil, dea_cons, Option.map_some, Nat.max_self, Nat.max_zero, Nat.zero_max, Bool.and_self, decide_eq_decide, HO.tup.injEq, beq_iff_eq, Bool.and_eq_true, beq_self_eq_true, Nat.zero_add, Int.reduceBEq, tPar3, ex_sqT1, ex_sqL1, unrF, ite_not, cxOf_H0, tLc_eq, iEnum, iZip, allO_ints, laa_ints, dea_ints, eqa_ints, eqa_ints_nil, wipe_nil, wipe_cons, rListT, rTupT, tYes_eq, tBM, tBM0, rAppend, rExtend, rPop, Nat.reduceSub, List.length_map, List.map_cons, List.map_nil, ints_inj, decide_eq_true_iff, ints_set, List.length_set, sp_L_take, sp_L_pool, sp_L_number, sp_L_same0, sp_L_mark, sp_L_u, sp_mark_of, n1, m1, d1, d2, d3, o1, o2, o3, o4, l1, l2, l3, l4, l5, t1, t2, t3, t4, t5, hz]
            intro u1 g4 r4 u2 u3 u4 u5 u6 u7 g5 r5 v1 v2 v3 v4 v5 w1 w2 w3 w4 w5 w6 w7 u8 g6 r6 q1 q2 q3 q4 q5
            obtain ⟨w, ew⟩ : ∃ w : Int, [V.int (z + 1 + u1), V.int (-z), V.int u7][u8.toNat]? = some (.int w) := by
              obtain rfl | rfl | rfl : u8 = 0 ∨ u8 = 1 ∨ u8 = 2 := by omega
              all_goals exact ⟨_, rfl⟩
            refine ⟨_, ew, ?_⟩
            rw [ints_set]
            have al : at_.toNat < ms.length := by omega
            have a2 : at_ < ((ms.set at_.toNat w).length : Int) := by rw [List.length_set]; exact t2
            have hw : ((ms.set at_.toNat w).map V.int)[at_.toNat]? = some (.int w) := by rw [List.getElem?_map, List.getElem?_set_self al]; rfl
            have ml2 : (ms.set at_.toNat w).length ≤ 64 := by rw [List.length_set]; exact ml
            have mk := markF_set (w := w) hz0
            generalize hms : ms.set at_.toNat w = ws at a2 hw ml2 mk
            subst hk
            refine seq_gen fun k hk => ?_
            simp (config := { contextual := true, maxSteps := 2000000, maxDischargeDepth := 12 }) only [tAsg, gName, tVar, tC, tOp, tUn, tCB, tCons, tNil, tCall, tIfS, tTest, tB, tNot, tAnd, tOr, tAndV, tOrV, tNotV, tIf, tChain, tRet, tRetN, tDrop, tNext, tNever, tBreak, tCont, tAug, ipI, tPar, rI, rI0, rU, rEq, rNe, scal, tFor_eq, iRng1, iRng2, iList, iTup, tCallN, tLst, tTup, rIxL, rIxT, rIxLT, gSub, rSetL, CMul, CDiv, CPow, rInt1, atI, ixN, isI, List.getElem?_cons_zero, List.getElem?_cons_succ, List.set_cons_zero, List.set_cons_succ, Option.some.injEq, HO.lst.injEq, HO.tup.injEq, V.int.injEq, V.bl.injEq, V.ref.injEq, V.str.injEq, exists_eq_left', exists_eq_left, exists_eq_right, exists_eq_right', List.cons.injEq, and_true, true_and, List.append_nil, List.cons_append, List.nil_append, exists_and_left, exists_and_right, and_self, decide_eq_true_eq, Bool.not_eq_true', decide_eq_false_iff_not, if_true, if_false, Bool.false_eq_true, if_false_left, if_true_left, reduceCtorEq, exists_const, exists_eq', cxOf_K, upd_same, upd_upd, upd_none, upd_ne, upd_in, updI_eq, Option.isSome_some, plain_true, List.length_cons, List.length_nil, Nat.reduceAdd, Nat.reduceMul, Nat.reduceLeDiff, Nat.reduceLT, Int.reduceNeg, ne_eq, and_imp, Bool.not_true, Bool.not_false, not_false_eq_true, not_true_eq_false, Int.reducePow, Int.reduceToNat, Int.reduceLT, Int.reduceLE, Int.reduceMul, Int.reduceAdd, Nat.reducePow, Nat.zero_le, implies_true, true_implies, false_implies, or_true, true_or, or_false, false_or, or_self, false_and, and_false, exists_false, Int.reduceAbs, Option.bind_some, Int.cast_ofNat_Int, Int.ofNat_eq_coe, Int.toNat_zero, Int.toNat_one, Int.reduceSub, Int.reduceEq, Nat.reduceEqDiff, sizeLine_lit, Int.zero_add, Classical.not_not, and_assoc, upd_ne2, eq_self, forall_const, IntL_true, decide_true, decide_false, decide_not, Bool.true_and, Bool.and_true, Bool.false_and, Bool.and_false, Bool.or_true, Bool.true_or, Bool.or_false, Bool.false_or, ite_self, rIsM, rIsM2, tyR, sub_int_int, sub_int_bool, sub_int_str, sub_int_list, sub_int_tuple, sub_int_dict, sub_bool_int, sub_bool_bool, sub_bool_str, sub_bool_list, sub_bool_tuple, sub_bool_dict, sub_str_int, sub_str_bool, sub_str_str, sub_str_list, sub_str_tuple, sub_str_dict, sub_NoneType_int, sub_NoneType_bool, sub_NoneType_str, sub_NoneType_list, sub_NoneType_tuple, sub_NoneType_dict, sub_list_int, sub_list_bool, sub_list_str, sub_list_list, sub_list_tuple, sub_list_dict, sub_tuple_int, sub_tuple_bool, sub_tuple_str, sub_tuple_list, sub_tuple_tuple, sub_tuple_dict, okC_int, okC_bool, okC_str, okC_list, okC_tuple, okC_dict, rEqM, rNeM, datF_int, datF_str, datF_bl, datF_non, datF_ref, allO, rIxTT, rIxTK, gTupT, gTupK, gCons, gNil, rLenT, rLenK, SeqAt.shaped, eqv_none_none, eqv_none_bool, eqv_none_int, eqv_none_str, eqv_none_list, eqv_none_tuple, eqv_bool_none, eqv_bool_bool, eqv_bool_int, eqv_bool_str, eqv_bool_list, eqv_bool_tuple, eqv_int_none, eqv_int_bool, eqv_int_int, eqv_int_str, eqv_int_list, eqv_int_tuple, eqv_str_none, eqv_str_bool, eqv_str_int, eqv_str_str, eqv_str_list, eqv_str_tuple, eqv_list_none, eqv_list_bool, eqv_list_int, eqv_list_str, eqv_list_list, eqv_list_tuple, eqv_tuple_none, eqv_tuple_bool, eqv_tuple_int, eqv_tuple_str, eqv_tuple_list, eqv_tuple_tuple, eqa_nil, eqa_cons, eqa_nc, eqa_cn, lay_none, dep_none, lay_bool, dep_bool, lay_int, dep_int, lay_list, dep_list, lay_tuple, dep_tuple, lay_str, dep_str, laa_nil, laa_cons, dea_nil, dea_cons, Option.map_some, Nat.max_self, Nat.max_zero, Nat.zero_max, Bool.and_self, decide_eq_decide, HO.tup.injEq, beq_iff_eq, Bool.and_eq_true, beq_self_eq_true, Nat.zero_add, Int.reduceBEq, tPar3, ex_sqT1, ex_sqL1, unrF, ite_not, cxOf_H0, tLc_eq, iEnum, iZip, allO_ints, laa_ints, dea_ints, eqa_ints, eqa_ints_nil, wipe_nil, wipe_cons, rListT, rTupT, tYes_eq, tBM, tBM0, rAppend, rExtend, rPop, Nat.reduceSub, List.length_map, List.map_cons, List.map_nil, ints_inj, decide_eq_true_iff, ints_set, List.length_set, sp_L_take, sp_L_pool, sp_L_number, sp_L_same0, sp_L_mark, sp_L_u, sp_mark_of, n1, m1, d1, d2, d3, o1, o2, o3, o4, l1, l2, l3, l4, l5, t1, t2, w2, w3, w4, w5, w6, w7, hz, hw, a2]
            subst hk
            refine fg_gen fun D3 hnx3 hrt3 hbk3 hct3 => ?_
            simp (config := { contextual := true, maxSteps := 2000000, maxDischargeDepth := 12 }) only [tAsg, gName, tVar, tC, tOp, tUn, tCB, tCons, tNil, tCall, tIfS, tTest, tB, tNot, tAnd, tOr, tAndV, tOrV, tNotV, tIf, tChain, tRet, tRetN, tDrop, tNext, tNever, tBreak, tCont, tAug, ipI, tPar, rI, rI0, rU, rEq, rNe, scal, tFor_eq, iRng1, iRng2, iList, iTup, tCallN, tLst, tTup, rIxL, rIxT, rIxLT, gSub, rSetL, CMul, CDiv, CPow, rInt1, atI, ixN, isI, List.getElem?_cons_zero, List.getElem?_cons_succ, List.set_cons_zero, List.set_cons_succ, Option.some.injEq, HO.lst.injEq, HO.tup.injEq, V.int.injEq, V.bl.injEq, V.ref.injEq, V.str.injEq, exists_eq_left', exists_eq_left, exists_eq_right, exists_eq_right', List.cons.injEq, and_true, true_and, List.append_nil, List.cons_append, List.nil_append, exists_and_left, exists_and_right, and_self, decide_eq_true_eq, Bool.not_eq_true', decide_eq_false_iff_not, if_true, if_false, Bool.false_eq_true, if_false_left, if_true_left, reduceCtorEq, exists_const, exists_eq', cxOf_K, upd_same, upd_upd, upd_none, upd_ne, upd_in, updI_eq, Option.isSome_some, plain_true, List.length_cons, List.length_nil, Nat.reduceAdd, Nat.reduceMul, Nat.reduceLeDiff, Nat.reduceLT, Int.reduceNeg, ne_eq, and_imp, Bool.not_true, Bool.not_false, not_false_eq_true, not_true_eq_false, Int.reducePow, Int.reduceToNat, Int.reduceLT, Int.reduceLE, Int.reduceMul, Int.reduceAdd, Nat.reducePow, Nat.zero_le, implies_true, true_implies, false_implies, or_true, true_or, or_false, false_or, or_self, false_and, and_false, exists_false, Int.reduceAbs, Option.bind_some, Int.cast_ofNat_Int, Int.ofNat_eq_coe, Int.toNat_zero, Int.toNat_one, Int.reduceSub, Int.reduceEq, Nat.reduceEqDiff, sizeLine_lit, Int.zero_add, Classical.not_not, and_assoc, upd_ne2, eq_self, forall_const, IntL_true, decide_true, decide_false, decide_not, Bool.true_and, Bool.and_true, Bool.false_and, Bool.and_false, Bool.or_true, Bool.true_or, Bool.or_false, Bool.false_or, ite_self, rIsM, rIsM2, tyR, sub_int_int, sub_int_bool, sub_int_str, sub_int_list, sub_int_tuple, sub_int_dict, sub_bool_int, sub_bool_bool, sub_bool_str, sub_bool_list, sub_bool_tuple, sub_bool_dict, sub_str_int, sub_str_bool, sub_str_str, sub_str_list, sub_str_tuple, sub_str_dict, sub_NoneType_int, sub_NoneType_bool, sub_NoneType_str, sub_NoneType_list, sub_NoneType_tuple, sub_NoneType_dict, sub_list_int, sub_list_bool, sub_list_str, sub_list_list, sub_list_tuple, sub_list_dict, sub_tuple_int, sub_tuple_bool, sub_tuple_str, sub_tuple_list, sub_tuple_tuple, sub_tuple_dict, okC_int, okC_bool, okC_str, okC_list, okC_tuple, okC_dict, rEqM, rNeM, datF_int, datF_str, datF_bl, datF_non, datF_ref, allO, rIxTT, rIxTK, gTupT, gTupK, gCons, gNil, rLenT, rLenK, SeqAt.shaped, eqv_none_none, eqv_none_bool, eqv_none_int, eqv_none_str, eqv_none_list, eqv_none_tuple, eqv_bool_none, eqv_bool_bool, eqv_bool_int, eqv_bool_str, eqv_bool_list, eqv_bool_tuple, eqv_int_none, eqv_int_bool, eqv_int_int, eqv_int_str, eqv_int_list, eqv_int_tuple, eqv_str_none, eqv_str_bool, eqv_str_int, eqv_str_str, eqv_str_list, eqv_str_tuple, eqv_list_none, eqv_list_bool, eqv_list_int, eqv_list_str, eqv_list_list, eqv_list_tuple, eqv_tuple_none, eqv_tuple_bool, eqv_tuple_int, eqv_tuple_str, eqv_tuple_list, eqv_tuple_tuple, eqa_nil, eqa_cons, eqa_nc, eqa_cn, lay_none, dep_none, lay_bool, dep_bool, lay_int, dep_int, lay_list, dep_list, lay_tuple, dep_tuple, lay_str, dep_str, laa_nil, laa_cons, dea_nil, dea_cons, Option.map_some, Nat.max_self, Nat.max_zero, Nat.zero_max, Bool.and_self, decide_eq_decide, HO.tup.injEq, beq_iff_eq, Bool.and_eq_true, beq_self_eq_true, Nat.zero_add, Int.reduceBEq, tPar3, ex_sqT1, ex_sqL1, unrF, ite_not, cxOf_H0, tLc_eq, iEnum, iZip, allO_ints, laa_ints, dea_ints, eqa_ints, eqa_ints_nil, wipe_nil, wipe_cons, rListT, rTupT, tYes_eq, tBM, tBM0, rAppend, rExtend, rPop, Nat.reduceSub, List.length_map, List.map_cons, List.map_nil, ints_inj, decide_eq_true_iff, ints_set, List.length_set, sp_L_take, sp_L_pool, sp_L_number, sp_L_same0, sp_L_mark, sp_L_u, sp_mark_of, n1, m1, d1, d2, d3, o1, o2, o3, o4, l1, l2, l3, l4, l5, t1, t2, w2, w3, w4, w5, w6, w7, ml, ml2, mk]
            refine hnx3 _ _ _ (fgt_of Ex.refl .refl) inferInstance ?_
            refine hnx2 _ _ _ (fgt_of Ex.refl (by walk_at "kp")) inferInstance ?_
            exact hnx _ _ _ (fgt_ex (by walk_at "ex")) pl ⟨⟨_, _, _, _, _, _, rfl⟩, rfl⟩
      · rintro σ H' ⟨y1, y2, y3, y4, y5, y6, rfl, rfl⟩
        exact hrt _ _ _ (fgt_ex Ex.refl) pl (q _)
theorem all_mk {l : PySem.W.OpenLaw} {w : World} {K : PySem.W.Frag} {h : Heap} {mg : Str → Option Value} {fa f0 f1 f2 f3 f4 f5 f6 f7 f8 f9 f10 : Addr} (X : K.In h) (G : h.Ns mainGlobals mg) (hfa : mg "law" = some (.ref fa))
    {od0 an0 od1 an1 od2 an2 od3 an3 od4 an4 od5 an5 od6 an6 od7 an7 od8 an8 od9 an9 od10 an10 : Option Addr} {sl0 sl1 sl2 sl3 sl4 sl5 sl6 sl7 sl8 sl9 sl10 : Array (Option Value)} {oc0 kV0 dc0 pm0 cd0 ct0 oc1 kV1 dc1 pm1 cd1 ct1 oc2 kV2 dc2 pm2 cd2 ct2 oc3 kV3 dc3 pm3 cd3 ct3 oc4 kV4 dc4 pm4 cd4 ct4 oc5 kV5 dc5 pm5 cd5 ct5 oc6 kV6 dc6 pm6 cd6 ct6 oc7 kV7 dc7 pm7 cd7 ct7 oc8 kV8 dc8 pm8 cd8 ct8 oc9 kV9 dc9 pm9 cd9 ct9 oc10 kV10 dc10 pm10 cd10 ct10 : Value}
    (a0 : PySem.W.nsIn K mainGlobals "is_integer" = some (some (.ref f0)))
    (l0 : K.lookup f0 = some ⟨oc0, od0, .func (PySem.W.fnOf "is_integer" "is_integer" (defArgs s_is_integer) (defBody s_is_integer) (defScope s_is_integer) .none kV0 dc0 pm0 an0 cd0 ct0), sl0⟩)
    (c0 : PySem.W.codeIn K cd0 "is_integer" = true)
    (k0 : PySem.W.keepIn K (.ref f0) = true)
    (a1 : PySem.W.nsIn K mainGlobals "code_number" = some (some (.ref f1)))
    (l1 : K.lookup f1 = some ⟨oc1, od1, .func (PySem.W.fnOf "code_number" "code_number" (defArgs s_code_number) (defBody s_code_number) (defScope s_code_number) .none kV1 dc1 pm1 an1 cd1 ct1), sl1⟩)
    (c1 : PySem.W.codeIn K cd1 "code_number" = true)
    (k1 : PySem.W.keepIn K (.ref f1) = true)
    (a2 : PySem.W.nsIn K mainGlobals "require_numbers" = some (some (.ref f2)))
    (l2 : K.lookup f2 = some ⟨oc2, od2, .func (PySem.W.fnOf "require_numbers" "require_numbers" (defArgs s_require_numbers) (defBody s_require_numbers) (defScope s_require_numbers) .none kV2 dc2 pm2 an2 cd2 ct2), sl2⟩)
    (c2 : PySem.W.codeIn K cd2 "require_numbers" = true)
    (k2 : PySem.W.keepIn K (.ref f2) = true)
    (a3 : PySem.W.nsIn K mainGlobals "mark_of" = some (some (.ref f3)))
    (l3 : K.lookup f3 = some ⟨oc3, od3, .func (PySem.W.fnOf "mark_of" "mark_of" (defArgs s_mark_of) (defBody s_mark_of) (defScope s_mark_of) .none kV3 dc3 pm3 an3 cd3 ct3), sl3⟩)
    (c3 : PySem.W.codeIn K cd3 "mark_of" = true)
    (k3 : PySem.W.keepIn K (.ref f3) = true)
    (a4 : PySem.W.nsIn K mainGlobals "_law_pool" = some (some (.ref f4)))
    (l4 : K.lookup f4 = some ⟨oc4, od4, .func (PySem.W.fnOf "_law_pool" "_law_pool" (defArgs s_L_pool) (defBody s_L_pool) (defScope s_L_pool) .none kV4 dc4 pm4 an4 cd4 ct4), sl4⟩)
    (c4 : PySem.W.codeIn K cd4 "_law_pool" = true)
    (k4 : PySem.W.keepIn K (.ref f4) = true)
    (a5 : PySem.W.nsIn K mainGlobals "_law_take" = some (some (.ref f5)))
    (l5 : K.lookup f5 = some ⟨oc5, od5, .func (PySem.W.fnOf "_law_take" "_law_take" (defArgs s_L_take) (defBody s_L_take) (defScope s_L_take) .none kV5 dc5 pm5 an5 cd5 ct5), sl5⟩)
    (c5 : PySem.W.codeIn K cd5 "_law_take" = true)
    (k5 : PySem.W.keepIn K (.ref f5) = true)
    (a6 : PySem.W.nsIn K mainGlobals "_law_same" = some (some (.ref f6)))
    (l6 : K.lookup f6 = some ⟨oc6, od6, .func (PySem.W.fnOf "_law_same" "_law_same" (defArgs s_L_same) (defBody s_L_same) (defScope s_L_same) .none kV6 dc6 pm6 an6 cd6 ct6), sl6⟩)
    (c6 : PySem.W.codeIn K cd6 "_law_same" = true)
    (k6 : PySem.W.keepIn K (.ref f6) = true)
    (a7 : PySem.W.nsIn K mainGlobals "_law_number" = some (some (.ref f7)))
    (l7 : K.lookup f7 = some ⟨oc7, od7, .func (PySem.W.fnOf "_law_number" "_law_number" (defArgs s_L_number) (defBody s_L_number) (defScope s_L_number) .none kV7 dc7 pm7 an7 cd7 ct7), sl7⟩)
    (c7 : PySem.W.codeIn K cd7 "_law_number" = true)
    (k7 : PySem.W.keepIn K (.ref f7) = true)
    (a8 : PySem.W.nsIn K mainGlobals "_law_u" = some (some (.ref f8)))
    (l8 : K.lookup f8 = some ⟨oc8, od8, .func (PySem.W.fnOf "_law_u" "_law_u" (defArgs s_L_u) (defBody s_L_u) (defScope s_L_u) .none kV8 dc8 pm8 an8 cd8 ct8), sl8⟩)
    (c8 : PySem.W.codeIn K cd8 "_law_u" = true)
    (k8 : PySem.W.keepIn K (.ref f8) = true)
    (a9 : PySem.W.nsIn K mainGlobals "_law_mark" = some (some (.ref f9)))
    (l9 : K.lookup f9 = some ⟨oc9, od9, .func (PySem.W.fnOf "_law_mark" "_law_mark" (defArgs s_L_mark) (defBody s_L_mark) (defScope s_L_mark) .none kV9 dc9 pm9 an9 cd9 ct9), sl9⟩)
    (c9 : PySem.W.codeIn K cd9 "_law_mark" = true)
    (k9 : PySem.W.keepIn K (.ref f9) = true)
    (a10 : PySem.W.nsIn K mainGlobals "law" = some (some (.ref f10)))
    (l10 : K.lookup f10 = some ⟨oc10, od10, .func (PySem.W.fnOf "law" "law" (defArgs s_law) (defBody s_law) (defScope s_law) .none kV10 dc10 pm10 an10 cd10 ct10), sl10⟩)
    (c10 : PySem.W.codeIn K cd10 "law" = true)
    (k10 : PySem.W.keepIn K (.ref f10) = true)
    (g11 : ∃ t, PySem.W.nsIn K mainGlobals "MOST_NUMBERS" = some (some (.int 64 t)))
    (g12 : ∃ t, PySem.W.nsIn K mainGlobals "MARK_FACTOR" = some (some (.int 31 t)))
    (g13 : ∃ t, PySem.W.nsIn K mainGlobals "MARK_PRIME" = some (some (.int 9973 t)))
    (z_abs : PySem.W.nsIn K mainGlobals "abs" = some none)
    (z_bool : PySem.W.nsIn K mainGlobals "bool" = some none)
    (z_enumerate : PySem.W.nsIn K mainGlobals "enumerate" = some none)
    (z_int : PySem.W.nsIn K mainGlobals "int" = some none)
    (z_isinstance : PySem.W.nsIn K mainGlobals "isinstance" = some none)
    (z_len : PySem.W.nsIn K mainGlobals "len" = some none)
    (z_list : PySem.W.nsIn K mainGlobals "list" = some none)
    (z_max : PySem.W.nsIn K mainGlobals "max" = some none)
    (z_min : PySem.W.nsIn K mainGlobals "min" = some none)
    (z_range : PySem.W.nsIn K mainGlobals "range" = some none)
    (z_str : PySem.W.nsIn K mainGlobals "str" = some none)
    (z_tuple : PySem.W.nsIn K mainGlobals "tuple" = some none)
    (z_zip : PySem.W.nsIn K mainGlobals "zip" = some none)
    : ∃ fd : FuncData, (∀ (s : Shared) (v : Value), BindsTo s fd ⟨[v], []⟩ [("_law_script", v)]) ∧ ∀ base : Heap, K.In base → base.Ns mainGlobals mg → FnOk l.prog w K mg base CX0 7 fa fd ["_law_script"] (sp_law K) := by
  have e := hfa.symm.trans (PySem.W.mg_of X G a10)
  cases e
  have T : Tx K mg { f_is_integer := f0, d_is_integer := PySem.W.fnOf "is_integer" "is_integer" (defArgs s_is_integer) (defBody s_is_integer) (defScope s_is_integer) .none kV0 dc0 pm0 an0 cd0 ct0, f_code_number := f1, d_code_number := PySem.W.fnOf "code_number" "code_number" (defArgs s_code_number) (defBody s_code_number) (defScope s_code_number) .none kV1 dc1 pm1 an1 cd1 ct1, f_require_numbers := f2, d_require_numbers := PySem.W.fnOf "require_numbers" "require_numbers" (defArgs s_require_numbers) (defBody s_require_numbers) (defScope s_require_numbers) .none kV2 dc2 pm2 an2 cd2 ct2, f_mark_of := f3, d_mark_of := PySem.W.fnOf "mark_of" "mark_of" (defArgs s_mark_of) (defBody s_mark_of) (defScope s_mark_of) .none kV3 dc3 pm3 an3 cd3 ct3, f_L_pool := f4, d_L_pool := PySem.W.fnOf "_law_pool" "_law_pool" (defArgs s_L_pool) (defBody s_L_pool) (defScope s_L_pool) .none kV4 dc4 pm4 an4 cd4 ct4, f_L_take := f5, d_L_take := PySem.W.fnOf "_law_take" "_law_take" (defArgs s_L_take) (defBody s_L_take) (defScope s_L_take) .none kV5 dc5 pm5 an5 cd5 ct5, f_L_same := f6, d_L_same := PySem.W.fnOf "_law_same" "_law_same" (defArgs s_L_same) (defBody s_L_same) (defScope s_L_same) .none kV6 dc6 pm6 an6 cd6 ct6, f_L_number := f7, d_L_number := PySem.W.fnOf "_law_number" "_law_number" (defArgs s_L_number) (defBody s_L_number) (defScope s_L_number) .none kV7 dc7 pm7 an7 cd7 ct7, f_L_u := f8, d_L_u := PySem.W.fnOf "_law_u" "_law_u" (defArgs s_L_u) (defBody s_L_u) (defScope s_L_u) .none kV8 dc8 pm8 an8 cd8 ct8, f_L_mark := f9, d_L_mark := PySem.W.fnOf "_law_mark" "_law_mark" (defArgs s_L_mark) (defBody s_L_mark) (defScope s_L_mark) .none kV9 dc9 pm9 an9 cd9 ct9, f_law := fa, d_law := PySem.W.fnOf "law" "law" (defArgs s_law) (defBody s_law) (defScope s_law) .none kV10 dc10 pm10 an10 cd10 ct10 } :=
    { F_is_integer := fun_mk (st := s_is_integer) l0 c0 k0,
      b_is_integer := (fun_mk (st := s_is_integer) l0 c0 k0).binds (ps := ["value"]) fun _ _ _ _ _ _ us hl => match us, hl with | [_], _ => rfl,
      g_is_integer := PySem.W.mg_of X G a0,
      F_code_number := fun_mk (st := s_code_number) l1 c1 k1,
      b_code_number := (fun_mk (st := s_code_number) l1 c1 k1).binds (ps := ["number"]) fun _ _ _ _ _ _ us hl => match us, hl with | [_], _ => rfl,
      g_code_number := PySem.W.mg_of X G a1,
      F_require_numbers := fun_mk (st := s_require_numbers) l2 c2 k2,
      b_require_numbers := (fun_mk (st := s_require_numbers) l2 c2 k2).binds (ps := ["numbers"]) fun _ _ _ _ _ _ us hl => match us, hl with | [_], _ => rfl,
      g_require_numbers := PySem.W.mg_of X G a2,
      F_mark_of := fun_mk (st := s_mark_of) l3 c3 k3,
      b_mark_of := (fun_mk (st := s_mark_of) l3 c3 k3).binds (ps := ["numbers"]) fun _ _ _ _ _ _ us hl => match us, hl with | [_], _ => rfl,
      g_mark_of := PySem.W.mg_of X G a3,
      F_L_pool := fun_mk (st := s_L_pool) l4 c4 k4,
      b_L_pool := (fun_mk (st := s_L_pool) l4 c4 k4).binds (ps := ["_law_script", "_law_k"]) fun _ _ _ _ _ _ us hl => match us, hl with | [_, _], _ => rfl,
      g_L_pool := PySem.W.mg_of X G a4,
      F_L_take := fun_mk (st := s_L_take) l5 c5 k5,
      b_L_take := (fun_mk (st := s_L_take) l5 c5 k5).binds (ps := ["_law_pool_here", "_law_many"]) fun _ _ _ _ _ _ us hl => match us, hl with | [_, _], _ => rfl,
      g_L_take := PySem.W.mg_of X G a5,
      F_L_same := fun_mk (st := s_L_same) l6 c6 k6,
      b_L_same := (fun_mk (st := s_L_same) l6 c6 k6).binds (ps := ["_law_actual", "_law_due"]) fun _ _ _ _ _ _ us hl => match us, hl with | [_, _], _ => rfl,
      g_L_same := PySem.W.mg_of X G a6,
      F_L_number := fun_mk (st := s_L_number) l7 c7 k7,
      b_L_number := (fun_mk (st := s_L_number) l7 c7 k7).binds (ps := ["_law_pool_here"]) fun _ _ _ _ _ _ us hl => match us, hl with | [_], _ => rfl,
      g_L_number := PySem.W.mg_of X G a7,
      F_L_u := fun_mk (st := s_L_u) l8 c8 k8,
      b_L_u := (fun_mk (st := s_L_u) l8 c8 k8).binds (ps := ["_law_number_here"]) fun _ _ _ _ _ _ us hl => match us, hl with | [_], _ => rfl,
      g_L_u := PySem.W.mg_of X G a8,
      F_L_mark := fun_mk (st := s_L_mark) l9 c9 k9,
      b_L_mark := (fun_mk (st := s_L_mark) l9 c9 k9).binds (ps := ["_law_some"]) fun _ _ _ _ _ _ us hl => match us, hl with | [_], _ => rfl,
      g_L_mark := PySem.W.mg_of X G a9,
      F_law := fun_mk (st := s_law) l10 c10 k10,
      b_law := (fun_mk (st := s_law) l10 c10 k10).binds (ps := ["_law_script"]) fun _ _ _ _ _ _ us hl => match us, hl with | [_], _ => rfl,
      g_law := PySem.W.mg_of X G a10,
      g_MOST_NUMBERS := ⟨_, PySem.W.mg_of X G g11.choose_spec, ⟨_, rfl⟩⟩,
      g_MARK_FACTOR := ⟨_, PySem.W.mg_of X G g12.choose_spec, ⟨_, rfl⟩⟩,
      g_MARK_PRIME := ⟨_, PySem.W.mg_of X G g13.choose_spec, ⟨_, rfl⟩⟩,
      m_abs := PySem.W.mg_none_of X G z_abs,
      m_bool := PySem.W.mg_none_of X G z_bool,
      m_enumerate := PySem.W.mg_none_of X G z_enumerate,
      m_int := PySem.W.mg_none_of X G z_int,
      m_isinstance := PySem.W.mg_none_of X G z_isinstance,
      m_len := PySem.W.mg_none_of X G z_len,
      m_list := PySem.W.mg_none_of X G z_list,
      m_max := PySem.W.mg_none_of X G z_max,
      m_min := PySem.W.mg_none_of X G z_min,
      m_range := PySem.W.mg_none_of X G z_range,
      m_str := PySem.W.mg_none_of X G z_str,
      m_tuple := PySem.W.mg_none_of X G z_tuple,
      m_zip := PySem.W.mg_none_of X G z_zip }
  exact ⟨PySem.W.fnOf "law" "law" (defArgs s_law) (defBody s_law) (defScope s_law) .none kV10 dc10 pm10 an10 cd10 ct10, fun s v => .of_eq rfl, fun base _ _ => ok_law T⟩
end FJ
open PySem PySem.W PyProof.Rows
set_option maxHeartbeats 0 in
theorem PySem.Challenge.cw_framejoins_k18_marks_holds : PySem.Challenge.rw_framejoins_k18_marks.Holds := by
  w_on; o_law; k_head; (case hw => w_witness2)
  k_fill
  refine L2.walk_of (l := PySem.Challenge.rw_framejoins_k18_marks) (n := 63) (k := 7) (x := "_law_script") (CX := fun _ => L2.CX0) (sp := fun w => FJ.sp_law _) rfl (by decide) rfl ⟨rfl, by decide, by decide⟩ (fun w h Y => PySem.W.kIn_of Y) ?F (fun _ _ a ns hl hO hS => ⟨FJ.plain_only hO, ⟨ns, hS⟩, fun _ => rfl⟩) (fun _ _ _ _ _ h => h)
  case F =>
    intro w mg fa h KX G hmg
    refine' FJ.all_mk KX G hmg ?a0 ?l0 ?c0 ?k0 ?a1 ?l1 ?c1 ?k1 ?a2 ?l2 ?c2 ?k2 ?a3 ?l3 ?c3 ?k3 ?a4 ?l4 ?c4 ?k4 ?a5 ?l5 ?c5 ?k5 ?a6 ?l6 ?c6 ?k6 ?a7 ?l7 ?c7 ?k7 ?a8 ?l8 ?c8 ?k8 ?a9 ?l9 ?c9 ?k9 ?a10 ?l10 ?c10 ?k10 ?g11 ?g12 ?g13 ?z_abs ?z_bool ?z_enumerate ?z_int ?z_isinstance ?z_len ?z_list ?z_max ?z_min ?z_range ?z_str ?z_tuple ?z_zip
    (case a0 => k_is)
    (case l0 => k_is)
    (case c0 => k_is)
    (case k0 => k_is)
    (case a1 => k_is)
    (case l1 => k_is)
    (case c1 => k_is)
    (case k1 => k_is)
    (case a2 => k_is)
    (case l2 => k_is)
    (case c2 => k_is)
    (case k2 => k_is)
    (case a3 => k_is)
    (case l3 => k_is)
    (case c3 => k_is)
    (case k3 => k_is)
    (case a4 => k_is)
    (case l4 => k_is)
    (case c4 => k_is)
    (case k4 => k_is)
    (case a5 => k_is)
    (case l5 => k_is)
    (case c5 => k_is)
    (case k5 => k_is)
    (case a6 => k_is)
    (case l6 => k_is)
    (case c6 => k_is)
    (case k6 => k_is)
    (case a7 => k_is)
    (case l7 => k_is)
    (case c7 => k_is)
    (case k7 => k_is)
    (case a8 => k_is)
    (case l8 => k_is)
    (case c8 => k_is)
    (case k8 => k_is)
    (case a9 => k_is)
    (case l9 => k_is)
    (case c9 => k_is)
    (case k9 => k_is)
    (case a10 => k_is)
    (case l10 => k_is)
    (case c10 => k_is)
    (case k10 => k_is)
    (case g11 => exact ⟨_, by k_is⟩)
    (case g12 => exact ⟨_, by k_is⟩)
    (case g13 => exact ⟨_, by k_is⟩)
    (case z_abs => k_is)
    (case z_bool => k_is)
    (case z_enumerate => k_is)
    (case z_int => k_is)
    (case z_isinstance => k_is)
    (case z_len => k_is)
    (case z_list => k_is)
    (case z_max => k_is)
    (case z_min => k_is)
    (case z_range => k_is)
    (case z_str => k_is)
    (case z_tuple => k_is)
    (case z_zip => k_is)
