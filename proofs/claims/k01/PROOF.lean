import PyProof.Rows.All
import Wide.All
import OpenK.AllK
import Wide.FinOn
import HandS.ForMost
import HandS.IsInst
import HandS.Style
import HandS.Walk
import HandS.Codes
import PySem.Challenge.RW_samebytes_k01_marks_names_and_worths
set_option Elab.async false
set_option linter.all false
set_option maxRecDepth 100000
set_option maxHeartbeats 4000000
namespace SB
open PySem L2

/-! ### heaps that stay but for one place -/
def SameX (D : Addr) (H H' : Hp) : Prop := ∀ b o, b ≠ D → H b = some o → H' b = some o
theorem Same.x {D : Addr} {H H' : Hp} (h : Same H H') : SameX D H H' := fun b o _ e => h b o e
theorem SameX.trans {D : Addr} {A B C : Hp} (a : SameX D A B) (b : SameX D B C) : SameX D A C := fun c o n e => b c o n (a c o n e)
theorem SameX.refl {D : Addr} {A : Hp} : SameX D A A := fun _ _ _ e => e
theorem SameX.put {D : Addr} {H : Hp} {o : HO} : SameX D H (upd H D o) := fun b u n e => by rw [upd_ne n]; exact e
theorem SameX.same {D : Addr} {H H' : Hp} (h : SameX D H H') (n : H D = none) : Same H H' := fun b o e => h b o (ne_of_none e n) e
theorem same_new {H : Hp} {p : Addr} {o : HO} (h : H p = none) : Same H (upd H p o) := fun b u e => by rw [upd_ne (ne_of_none e h)]; exact e
theorem same_new2 {H0 H : Hp} {p : Addr} {o : HO} (s : Same H0 H) (h : H p = none) : Same H0 (upd H p o) := s.trans (same_new h)

/-! ### tests whose answer is told by an equation -/
theorem ifT {c : Bool} {A B : Prop} (e : c = true) (h : A) : if c = true then A else B := by rw [if_pos e]; exact h
theorem ifF {c : Bool} {A B : Prop} (e : c = false) (h : B) : if c = true then A else B := by rw [if_neg (by rw [e]; decide)]; exact h
theorem ifB {c : Bool} {A B : Prop} (h1 : c = true → A) (h2 : c = false → B) : if c = true then A else B := by
  cases e : c with
  | true => exact ifT rfl (h1 e)
  | false => exact ifF rfl (h2 e)

theorem atI_int {α : Type} {xs : List α} {k : Int} {v : α} (h0 : 0 ≤ k) (h : xs[k.toNat]? = some v) : atI xs k = some v := by
  have ek : ((k.toNat : Nat) : Int) = k := by omega
  have e := atI_nat h
  rw [ek] at e
  exact e

/-! ### a def that stands at the module's top -/
structure Defd (K : PySem.W.Frag) (mg : Str → Option Value) (x : Str) (st : Stmt) (ps : List Str) (f : Addr) (fd : FuncData) : Prop where
  F : Fun K x x st f fd
  g : mg x = some (.ref f)
  k : PySem.W.keepIn K (.ref f) = true
  b : Binds K fd ps []

/-! ### a call by names alone -/
section
variable {X : Cx} {CX : CXT} {k : Nat} {f : Addr} {fd : FuncData} {ps ks : List Str} {sp : Sp} {E : XK} {x : Str} {p pos : Pos} {kws : List Keyword} {tk : TA} {g : List Value → List Value → List Value} {gV : List V → List V → List V}
def tCallK0 (sp : Sp) (gV : List V → List V → List V) (E : XK) (tk : TA) : TE := fun σ H Q => tk σ H fun zs H2 => sp (gV [] zs) H2 Q E
theorem pe_callK0 (F : FnOk X.prog X.w X.K X.mg X.base CX k f fd ps sp) (hr : Room k X.A) (hg : Gl X x) (hm : X.mg x = some (.ref f)) (hk : PySem.W.keepIn X.K (.ref f) = true)
    (hb : KBinds X.K fd ps ks g gV) (hx : Passes CX X E) (hkw : PK X kws tk)
    (hall : (backToKw pos (keywordEach kws X.env)).all (·.1.isSome) = true := by rfl)
    (hks : (backToKw pos (keywordEach kws X.env)).filterMap (·.1) = ks := by rfl)
    (hdb : (x == ("__debug__" : Str)) = false := by decide)
    (hpl : ((backTo pos (starEach [] X.env)).any (·.1) || (backToKw pos (keywordEach kws X.env)).any (·.1.isNone)) = false := by rfl) :
    PE X (.Call (.Name x p) [] kws pos) (tCallK0 sp gV E tk) := by
  constructor
  intro pins s σ H Q I h
  refine wpAny_Call_Name_kw (ld_glob I hg hm ?_ hdb)
  refine PySem.W.callWith_KW0 (h₀ := X.base) I.ok.mod.kin hk hall ?_ hpl
  refine thn (hkw.run pos pins s σ H _ I h) fun ws s2 q => ?_
  obtain ⟨zs, H2, I2, rz, q2⟩ := q
  refine ⟨I2.kIn, ?_⟩
  rw [hks]
  exact run_fnk (us := []) (vs := []) F hr hb hx I2 .nil rz q2
end
theorem kbind1 {K : PySem.W.Frag} {x y qual : Str} {st : Stmt} {f : Addr} {fd : FuncData} (F : Fun K x qual st f fd)
    (h : ∀ (kV doc pm : Value) (an : Option Addr) (cdv ct : Value) (u : Value), bindArgs (PySem.W.fnOf x qual (defArgs st) (defBody st) (defScope st) .none kV doc pm an cdv ct) ⟨[], [(y, u)]⟩ = pure [(y, u)])
    (h2 : ∀ (kV doc pm : Value) (an : Option Addr) (cdv ct : Value) (u : Value), bindArgs (PySem.W.fnOf x qual (defArgs st) (defBody st) (defScope st) .none kV doc pm an cdv ct) ⟨[u], []⟩ = pure [(y, u)]) :
    KBinds K fd [y] [y] (fun us ws => us ++ ws) (fun us ws => us ++ ws) := by
  obtain ⟨oc, od, kV, doc, pm, an, cdv, ct, osl, rfl, lk, hcd⟩ := F.ex
  refine ⟨fun s us ws _ hl => ?_, fun a b => a.append b⟩
  match us, ws, hl with
  | [], [w], _ => exact .of_eq (h _ _ _ _ _ _ _)
  | [u], [], _ => exact .of_eq (h2 _ _ _ _ _ _ _)

/-! ### any value of the program's own kinds -/
def kinds : List String := ["NoneType", "bool", "int", "str", "list", "tuple", "dict"]
def asked : List String := ["str", "int", "bool", "tuple", "dict", "list"]
def isT (s T : String) : Bool := s == T || (s == "bool" && T == "int")
theorem kit_all : ∀ s ∈ kinds, ∀ T ∈ asked, kitB s T = some (isT s T) := by decide +kernel
structure AnyV (K : PySem.W.Frag) (H : Hp) (v : V) (s : String) : Prop where
  ty : TyX K H v (.type s)
  mem : s ∈ kinds
  small : ∀ x, v = .str x → x.length ≤ sizeLine
theorem AnyV.isi {K : PySem.W.Frag} {H : Hp} {v : V} {s : String} (a : AnyV K H v s) {T : String} (h : T ∈ asked := by decide) : PySem.W.kitOne K (.type s) (.type T) = some (isT s T) :=
  kit_ty (kit_all s a.mem T h)
theorem any_non {K : PySem.W.Frag} {H : Hp} : AnyV K H .non "NoneType" := ⟨.base .non, by decide, fun _ e => by cases e⟩
theorem any_bl {K : PySem.W.Frag} {H : Hp} (b : Bool) : AnyV K H (.bl b) "bool" := ⟨.base (.bl b), by decide, fun _ e => by cases e⟩
theorem any_int {K : PySem.W.Frag} {H : Hp} (i : Int) : AnyV K H (.int i) "int" := ⟨.base (.int i), by decide, fun _ e => by cases e⟩
theorem any_str {K : PySem.W.Frag} {H : Hp} {x : Str} (h : x.length ≤ sizeLine) : AnyV K H (.str x) "str" := ⟨.base (.str x), by decide, fun _ e => by cases e; exact h⟩
theorem any_lst {K : PySem.W.Frag} {H : Hp} {a : Addr} {xs : List V} (h : H a = some (.lst xs)) : AnyV K H (.ref a) "list" := ⟨.base (.lst h), by decide, fun _ e => by cases e⟩
theorem any_tup {K : PySem.W.Frag} {H : Hp} {a : Addr} {xs : List V} (h : H a = some (.tup xs)) : AnyV K H (.ref a) "tuple" := ⟨.base (.tup h), by decide, fun _ e => by cases e⟩
theorem any_dK {K : PySem.W.Frag} {H : Hp} {a : Addr} {xs : List (Key × V)} (h : H a = some (.dK xs)) : AnyV K H (.ref a) "dict" := ⟨.base (.dK h), by decide, fun _ e => by cases e⟩
theorem AnyV.cases {K : PySem.W.Frag} {H : Hp} {v : V} {s : String} (a : AnyV K H v s) :
    (v = .non ∧ s = "NoneType") ∨ (∃ b, v = .bl b ∧ s = "bool") ∨ (∃ i, v = .int i ∧ s = "int") ∨ (∃ x, v = .str x ∧ s = "str" ∧ x.length ≤ sizeLine) ∨ (∃ p, v = .ref p ∧ (s = "list" ∨ s = "tuple" ∨ s = "dict")) := by
  obtain ⟨ty, mem, sm⟩ := a
  generalize ht : Value.type s = t at ty
  cases ty with
  | base b =>
    cases b with
    | non => cases ht; exact .inl ⟨rfl, rfl⟩
    | bl y => cases ht; exact .inr (.inl ⟨y, rfl, rfl⟩)
    | int i => cases ht; exact .inr (.inr (.inl ⟨i, rfl, rfl⟩))
    | str y => cases ht; exact .inr (.inr (.inr (.inl ⟨y, rfl, rfl, sm y rfl⟩)))
    | flt y => cases ht; exact absurd mem (by decide)
    | lst e => cases ht; exact .inr (.inr (.inr (.inr ⟨_, rfl, .inl rfl⟩)))
    | frz e => cases ht; exact .inr (.inr (.inr (.inr ⟨_, rfl, .inl rfl⟩)))
    | tup e => cases ht; exact .inr (.inr (.inr (.inr ⟨_, rfl, .inr (.inl rfl)⟩)))
    | dK e => cases ht; exact .inr (.inr (.inr (.inr ⟨_, rfl, .inr (.inr rfl)⟩)))
    | dT e => cases ht; exact .inr (.inr (.inr (.inr ⟨_, rfl, .inr (.inr rfl)⟩)))
    | ins e => cases ht
  | byt b => cases ht; exact absurd mem (by decide)
  | set e => cases ht; exact absurd mem (by decide)
  | kList e c => cases ht; exact .inr (.inr (.inr (.inr ⟨_, rfl, .inl rfl⟩)))
  | kTuple e c => cases ht; exact .inr (.inr (.inr (.inr ⟨_, rfl, .inr (.inl rfl)⟩)))
  | kDict e c => cases ht; exact .inr (.inr (.inr (.inr ⟨_, rfl, .inr (.inr rfl)⟩)))
  | fTuple e => cases ht; exact .inr (.inr (.inr (.inr ⟨_, rfl, .inr (.inl rfl)⟩)))
  | fDict e => cases ht; exact .inr (.inr (.inr (.inr ⟨_, rfl, .inr (.inr rfl)⟩)))
/-- such a value stays one while the heap stays -/
theorem AnyV.mono {K : PySem.W.Frag} {H H' : Hp} {v : V} {s : String} (a : AnyV K H v s) (h : Same H H') : AnyV K H' v s := by
  obtain ⟨ty, mem, sm⟩ := a
  refine ⟨?_, mem, sm⟩
  cases ty with
  | base b =>
    cases b with
    | non => exact .base .non
    | bl y => exact .base (.bl y)
    | int i => exact .base (.int i)
    | str y => exact .base (.str y)
    | flt y => exact .base (.flt y)
    | lst e => exact .base (.lst (h _ _ e))
    | frz e => exact .base (.frz (h _ _ e))
    | tup e => exact .base (.tup (h _ _ e))
    | dK e => exact .base (.dK (h _ _ e))
    | dT e => exact .base (.dT (h _ _ e))
  | byt b => exact .byt b
  | set e => exact .set (h _ _ e)
  | kList e c => exact .kList e c
  | kTuple e c => exact .kTuple e c
  | kDict e c => exact .kDict e c
  | fTuple e => exact .fTuple (h _ _ e)
  | fDict e => exact .fDict (h _ _ e)

/-! ### is, is not of a flat value and a bool -/
section
variable {X : Cx}
def flatV : V → Bool
  | .non => true
  | .bl _ => true
  | .int _ => true
  | _ => false
theorem op_notBV : OpR X (compareOp .IsNot) (fun x y H Q => ∃ b : Bool, y = .bl b ∧ (∃ i, x = .int i) ∧ Q (.bl true) H) := by
  intro pins s σ H x y v u Q I rx ry h
  obtain ⟨b, rfl, ⟨i, rfl⟩, q⟩ := h
  obtain ⟨t, rfl⟩ := (show ∃ t, v = Value.int i t from rx)
  cases (show u = Value.bool b from ry)
  exact wpAny_isNot_other rfl (fun z => nomatch z) ⟨.bl true, H, I, rfl, q⟩
def rNotBB : R2 := fun x y H Q => ∃ b : Bool, y = .bl b ∧ ((∃ i, x = .int i) ∧ Q (.bl true) H ∨ ∃ a, x = .bl a ∧ Q (.bl (!decide (a = b))) H)
theorem op_notBB : OpR X (compareOp .IsNot) rNotBB := by
  intro pins s σ H x y v u Q I rx ry h
  obtain ⟨b, rfl, h⟩ := h
  rcases h with ⟨⟨i, rfl⟩, q⟩ | ⟨a, rfl, q⟩
  · exact op_notBV pins s σ H _ _ v u Q I rx ry ⟨b, rfl, ⟨i, rfl⟩, q⟩
  · exact op_notBl pins s σ H _ _ v u Q I rx ry ⟨a, b, rfl, rfl, q⟩
end

/-! ### a comprehension whose element leaves what stands -/
section
variable {J : It} {n : Nat} {G : Hp → Prop} {Y : Nat → Hp → V → Hp → Prop}
theorem lc_map (w : Walk J n G Y) {g : TG} {te : TE} {vs : List Nat} {σ : St} {H1 : Hp} {D : Addr} {Qd : Hp → Prop} (hD : H1 D = none) (hn : n ≤ sizeLine) (hG : ∀ H, Same H1 H → G H) (f : Nat → V)
    (hs : ∀ i x H H' (R : VK), i < n → Same H1 H → (∃ acc, H D = some (.lst acc)) → Y i H x H' → (∀ H4, Same H H4 → R (f i) H4) → g x (wipe σ vs) H' fun σ2 H2 => wipe σ2 vs = wipe σ vs ∧ te σ2 H2 R)
    (hd : ∀ H, Same H1 H → H D = some (.lst ((List.range n).map f)) → Qd H) :
    ∃ W : Nat → Nat → Hp → Prop, (∃ m, W 0 m (upd H1 D (.lst []))) ∧ ∀ i m H, W i m H →
      (J.stop i H ∧ Qd H) ∨ (J.go i H ∧ ∃ Nx : Hp → Prop, (∀ H', Nx H' → ∃ m', m' < m ∧ W (i + 1) m' H') ∧ ∀ x H', J.yld i H x H' → g x (wipe σ vs) H' fun σ2 H2 => wipe σ2 vs = wipe σ vs ∧ tYes σ2 H2 fun b H3 =>
        if b = true then te σ2 H3 fun y H4 => ∃ acc, H4 D = some (.lst acc) ∧ acc.length < sizeLine ∧ Nx (upd H4 D (.lst (acc ++ [y]))) else Nx H3) := by
  refine lc_it w (fun i H => Same H1 H ∧ H D = some (.lst ((List.range i).map f))) ⟨same_new hD, upd_same⟩ (fun i H _ p => hG H p.1) ?_ (fun H p => hd H p.1 p.2)
  intro i x H H' hi p y
  refine hs i x H H' _ hi p.1 ⟨_, p.2⟩ y fun H4 s4 => ?_
  refine ⟨_, s4 _ _ p.2, ?_, ?_, ?_⟩
  · rw [List.length_map, List.length_range]; omega
  · intro b o eb
    rw [upd_ne (ne_of_none eb hD)]
    exact s4 _ _ (p.1 _ _ eb)
  · rw [upd_same, List.range_succ, List.map_append]
    rfl
/-- the same over the items of a list ys: the new list is ys.map F -/
theorem lc_mapL {α : Type} {ys : List α} (w : Walk J ys.length G Y) {g : TG} {te : TE} {vs : List Nat} {σ : St} {H1 : Hp} {D : Addr} {Qd : Hp → Prop} (hD : H1 D = none) (hn : ys.length ≤ sizeLine) (hG : ∀ H, Same H1 H → G H) (F : α → V)
    (hs : ∀ i y x H H' (R : VK), ys[i]? = some y → Same H1 H → (∃ acc, H D = some (.lst acc)) → Y i H x H' → (∀ H4, Same H H4 → R (F y) H4) → g x (wipe σ vs) H' fun σ2 H2 => wipe σ2 vs = wipe σ vs ∧ te σ2 H2 R)
    (hd : ∀ H, Same H1 H → H D = some (.lst (ys.map F)) → Qd H) :
    ∃ W : Nat → Nat → Hp → Prop, (∃ m, W 0 m (upd H1 D (.lst []))) ∧ ∀ i m H, W i m H →
      (J.stop i H ∧ Qd H) ∨ (J.go i H ∧ ∃ Nx : Hp → Prop, (∀ H', Nx H' → ∃ m', m' < m ∧ W (i + 1) m' H') ∧ ∀ x H', J.yld i H x H' → g x (wipe σ vs) H' fun σ2 H2 => wipe σ2 vs = wipe σ vs ∧ tYes σ2 H2 fun b H3 =>
        if b = true then te σ2 H3 fun y H4 => ∃ acc, H4 D = some (.lst acc) ∧ acc.length < sizeLine ∧ Nx (upd H4 D (.lst (acc ++ [y]))) else Nx H3) := by
  refine lc_it w (fun i H => Same H1 H ∧ H D = some (.lst ((ys.take i).map F))) ⟨same_new hD, upd_same⟩ (fun i H _ p => hG H p.1) ?_ (fun H p => hd H p.1 (by rw [p.2, List.take_length]))
  intro i x H H' hi p y
  obtain ⟨z, hz⟩ : ∃ z, ys[i]? = some z := ⟨ys[i], List.getElem?_eq_getElem hi⟩
  refine hs i z x H H' _ hz p.1 ⟨_, p.2⟩ y fun H4 s4 => ?_
  refine ⟨_, s4 _ _ p.2, ?_, ?_, ?_⟩
  · rw [List.length_map, List.length_take]; omega
  · intro b o eb
    rw [upd_ne (ne_of_none eb hD)]
    exact s4 _ _ (p.1 _ _ eb)
  · rw [upd_same, List.take_succ, hz, List.map_append]
    rfl
/-- .. with a test: the new list is (ys.filter B).map F -/
theorem lc_filL {α : Type} {ys : List α} (w : Walk J ys.length G Y) {g : TG} {tt : TT} {te : TE} {vs : List Nat} {σ : St} {H1 : Hp} {D : Addr} {Qd : Hp → Prop} (hD : H1 D = none) (hn : ys.length ≤ sizeLine) (hG : ∀ H, Same H1 H → G H) (B : α → Bool) (F : α → V)
    (hs : ∀ i y x H H' (R : VK) (N : Hp → Prop), ys[i]? = some y → Same H1 H → (∃ acc, H D = some (.lst acc)) → Y i H x H' → (∀ H4, Same H H4 → B y = true → R (F y) H4) → (∀ H4, Same H H4 → B y = false → N H4) →
      g x (wipe σ vs) H' fun σ2 H2 => wipe σ2 vs = wipe σ vs ∧ tt σ2 H2 fun b H3 => if b = true then te σ2 H3 R else N H3)
    (hd : ∀ H, Same H1 H → H D = some (.lst ((ys.filter B).map F)) → Qd H) :
    ∃ W : Nat → Nat → Hp → Prop, (∃ m, W 0 m (upd H1 D (.lst []))) ∧ ∀ i m H, W i m H →
      (J.stop i H ∧ Qd H) ∨ (J.go i H ∧ ∃ Nx : Hp → Prop, (∀ H', Nx H' → ∃ m', m' < m ∧ W (i + 1) m' H') ∧ ∀ x H', J.yld i H x H' → g x (wipe σ vs) H' fun σ2 H2 => wipe σ2 vs = wipe σ vs ∧ tt σ2 H2 fun b H3 =>
        if b = true then te σ2 H3 fun y H4 => ∃ acc, H4 D = some (.lst acc) ∧ acc.length < sizeLine ∧ Nx (upd H4 D (.lst (acc ++ [y]))) else Nx H3) := by
  refine lc_it w (fun i H => Same H1 H ∧ H D = some (.lst (((ys.take i).filter B).map F))) ⟨same_new hD, upd_same⟩ (fun i H _ p => hG H p.1) ?_ (fun H p => hd H p.1 (by rw [p.2, List.take_length]))
  intro i x H H' hi p y
  obtain ⟨z, hz⟩ : ∃ z, ys[i]? = some z := ⟨ys[i], List.getElem?_eq_getElem hi⟩
  have et : ys.take (i + 1) = ys.take i ++ [z] := by rw [List.take_succ, hz]; rfl
  refine hs i z x H H' _ _ hz p.1 ⟨_, p.2⟩ y (fun H4 s4 hb => ?_) (fun H4 s4 hb => ?_)
  · refine ⟨_, s4 _ _ p.2, ?_, ?_, ?_⟩
    · rw [List.length_map]
      have h1 := List.length_filter_le B (ys.take i)
      rw [List.length_take] at h1
      omega
    · intro b o eb
      rw [upd_ne (ne_of_none eb hD)]
      exact s4 _ _ (p.1 _ _ eb)
    · rw [upd_same, et, List.filter_append, List.map_append, List.filter_cons_of_pos hb]
      rfl
  · refine ⟨p.1.trans s4, ?_⟩
    rw [et, List.filter_append, List.map_append, List.filter_cons_of_neg (by rw [hb]; decide)]
    simpa using s4 _ _ p.2
/-- the signs of a text, as a walk of its list of codes -/
theorem walk_signs {z : Str} : Walk (Its z) z.cps.toList.length (fun _ => True) (fun i H v H' => H' = H ∧ ∃ c, z.cps.toList[i]? = some c ∧ v = .str ⟨#[c]⟩) := by
  have h := walk_str (z := z)
  rw [← Array.length_toList] at h
  refine h.mono (fun _ _ => trivial) fun i H x H' _ _ y => ?_
  obtain ⟨e, c, hc, ev⟩ := y
  exact ⟨e, c, by rw [Array.getElem?_toList]; exact hc, ev⟩
end
end SB

set_option Elab.async false
set_option linter.all false
set_option maxRecDepth 100000
set_option maxHeartbeats 4000000
namespace SB
open PySem L2
def top (i : Nat) : Stmt := PySem.Challenge.pw_samebytes_k01_marks_names_and_worths.main.body.getD i (.Pass ⟨0, 0, 0, 0⟩)
abbrev s_is_made_of : Stmt := top 4
theorem sc_is_made_of : FnScope ["text", "signs", "sign"] ["text", "signs"] (defScope s_is_made_of) := ⟨rfl, rfl, rfl, by decide +kernel, rfl, by decide +kernel, by decide +kernel⟩
abbrev s_is_name : Stmt := top 5
theorem sc_is_name : FnScope ["value"] ["value"] (defScope s_is_name) := ⟨rfl, rfl, rfl, by decide +kernel, rfl, by decide +kernel, by decide +kernel⟩
abbrev s_is_mark : Stmt := top 6
theorem sc_is_mark : FnScope ["value"] ["value"] (defScope s_is_mark) := ⟨rfl, rfl, rfl, by decide +kernel, rfl, by decide +kernel, by decide +kernel⟩
abbrev s_is_integer : Stmt := top 7
theorem sc_is_integer : FnScope ["value"] ["value"] (defScope s_is_integer) := ⟨rfl, rfl, rfl, by decide +kernel, rfl, by decide +kernel, by decide +kernel⟩
abbrev s_is_plain : Stmt := top 8
theorem sc_is_plain : FnScope ["value"] ["value"] (defScope s_is_plain) := ⟨rfl, rfl, rfl, by decide +kernel, rfl, by decide +kernel, by decide +kernel⟩
abbrev s_is_reference : Stmt := top 9
theorem sc_is_reference : FnScope ["value"] ["value"] (defScope s_is_reference) := ⟨rfl, rfl, rfl, by decide +kernel, rfl, by decide +kernel, by decide +kernel⟩
abbrev s_is_worth : Stmt := top 10
theorem sc_is_worth : FnScope ["value"] ["value"] (defScope s_is_worth) := ⟨rfl, rfl, rfl, by decide +kernel, rfl, by decide +kernel, by decide +kernel⟩
abbrev s_l_pool : Stmt := top 12
theorem sc_l_pool : FnScope ["_law_script", "_law_k", "_law_cell", "_law_great", "_law_small", "_law_mixed"] ["_law_script", "_law_k"] (defScope s_l_pool) := ⟨rfl, rfl, rfl, by decide +kernel, rfl, by decide +kernel, by decide +kernel⟩
abbrev s_l_draw : Stmt := top 13
theorem sc_l_draw : FnScope ["_law_pool_here", "_law_many", "_law_found"] ["_law_pool_here", "_law_many"] (defScope s_l_draw) := ⟨rfl, rfl, rfl, by decide +kernel, rfl, by decide +kernel, by decide +kernel⟩
abbrev s_l_text : Stmt := top 14
theorem sc_l_text : FnScope ["_law_pool_here", "_law_size", "_law_signs", "_law_turn"] ["_law_pool_here"] (defScope s_l_text) := ⟨rfl, rfl, rfl, by decide +kernel, rfl, by decide +kernel, by decide +kernel⟩
abbrev s_l_is_made : Stmt := top 15
theorem sc_l_is_made : FnScope ["_law_text_here", "_law_signs", "_law_sign"] ["_law_text_here", "_law_signs"] (defScope s_l_is_made) := ⟨rfl, rfl, rfl, by decide +kernel, rfl, by decide +kernel, by decide +kernel⟩
abbrev s_l_due : Stmt := top 16
theorem sc_l_due : FnScope ["_law_thing", "_law_letters", "_law_digits", "_law_both", "_law_short", "_law_mark"] ["_law_thing"] (defScope s_l_due) := ⟨rfl, rfl, rfl, by decide +kernel, rfl, by decide +kernel, by decide +kernel⟩
abbrev s_l_references : Stmt := top 17
theorem sc_l_references : FnScope ["_law_text_here", "_law_mark", "_law_found"] ["_law_text_here"] (defScope s_l_references) := ⟨rfl, rfl, rfl, by decide +kernel, rfl, by decide +kernel, by decide +kernel⟩
abbrev s_law : Stmt := top 18
theorem sc_law : FnScope ["_law_script", "_law_k", "_law_pool_here", "_law_great", "_law_text_here", "_law_things", "_law_thing", "_law_due_here"] ["_law_script"] (defScope s_law) := ⟨rfl, rfl, rfl, by decide +kernel, rfl, by decide +kernel, by decide +kernel⟩
structure Ad where
  f_is_made_of : Addr
  d_is_made_of : FuncData
  f_is_name : Addr
  d_is_name : FuncData
  f_is_mark : Addr
  d_is_mark : FuncData
  f_is_integer : Addr
  d_is_integer : FuncData
  f_is_plain : Addr
  d_is_plain : FuncData
  f_is_reference : Addr
  d_is_reference : FuncData
  f_is_worth : Addr
  d_is_worth : FuncData
  f_l_pool : Addr
  d_l_pool : FuncData
  f_l_draw : Addr
  d_l_draw : FuncData
  f_l_text : Addr
  d_l_text : FuncData
  f_l_is_made : Addr
  d_l_is_made : FuncData
  f_l_due : Addr
  d_l_due : FuncData
  f_l_references : Addr
  d_l_references : FuncData
  f_law : Addr
  d_law : FuncData
  t_LETTERS : Tok
  t_DIGITS : Tok
  t_AT : Tok
structure Txt (K : PySem.W.Frag) (mg : Str → Option Value) (a : Ad) : Prop where
  is_made_of : Defd K mg "is_made_of" s_is_made_of ["text", "signs"] a.f_is_made_of a.d_is_made_of
  is_name : Defd K mg "is_name" s_is_name ["value"] a.f_is_name a.d_is_name
  is_mark : Defd K mg "is_mark" s_is_mark ["value"] a.f_is_mark a.d_is_mark
  is_integer : Defd K mg "is_integer" s_is_integer ["value"] a.f_is_integer a.d_is_integer
  is_plain : Defd K mg "is_plain" s_is_plain ["value"] a.f_is_plain a.d_is_plain
  is_reference : Defd K mg "is_reference" s_is_reference ["value"] a.f_is_reference a.d_is_reference
  is_worth : Defd K mg "is_worth" s_is_worth ["value"] a.f_is_worth a.d_is_worth
  l_pool : Defd K mg "_law_pool" s_l_pool ["_law_script", "_law_k"] a.f_l_pool a.d_l_pool
  l_draw : Defd K mg "_law_draw" s_l_draw ["_law_pool_here", "_law_many"] a.f_l_draw a.d_l_draw
  l_text : Defd K mg "_law_text" s_l_text ["_law_pool_here"] a.f_l_text a.d_l_text
  l_is_made : Defd K mg "_law_is_made" s_l_is_made ["_law_text_here", "_law_signs"] a.f_l_is_made a.d_l_is_made
  l_due : Defd K mg "_law_due" s_l_due ["_law_thing"] a.f_l_due a.d_l_due
  l_references : Defd K mg "_law_references" s_l_references ["_law_text_here"] a.f_l_references a.d_l_references
  law : Defd K mg "law" s_law ["_law_script"] a.f_law a.d_law
  c_LETTERS : mg "LETTERS" = some (.str "abcdefghijklmnopqrstuvwxyz" a.t_LETTERS)
  c_DIGITS : mg "DIGITS" = some (.str "0123456789" a.t_DIGITS)
  c_AT : mg "AT" = some (.str "at" a.t_AT)
  z_abs : mg "abs" = none
  z_all : mg "all" = none
  z_bool : mg "bool" = none
  z_int : mg "int" = none
  z_isinstance : mg "isinstance" = none
  z_len : mg "len" = none
  z_max : mg "max" = none
  z_min : mg "min" = none
  z_range : mg "range" = none
  z_str : mg "str" = none
  z_sum : mg "sum" = none
  z_tuple : mg "tuple" = none
end SB

set_option Elab.async false
set_option linter.all false
set_option maxRecDepth 100000
set_option maxHeartbeats 4000000
namespace SB
open PySem L2
/-! ### texts of signs, marks, names, worths: the mirror -/
def letters : Str := "abcdefghijklmnopqrstuvwxyz"
def digits : Str := "0123456789"
def both : Str := letters ++ digits
def madeOf (x z : Str) : Bool := x.cps.toList.all fun c => decide (c ∈ z.cps.toList)
def nameS (x : Str) : Bool := decide (1 ≤ x.length) && (decide (x.length ≤ 8) && madeOf x letters)
def firstIn (x z : Str) : Bool := match x.cps.toList with
  | [] => false
  | c :: _ => decide (c ∈ z.cps.toList)
def markS (x : Str) : Bool := decide (1 ≤ x.length) && (decide (x.length ≤ 8) && (firstIn x letters && madeOf x both))
def plainS (x : Str) : Bool := decide (x.length ≤ 20) && madeOf x both
def nameV : V → Bool
  | .str x => nameS x
  | _ => false
def markV : V → Bool
  | .str x => markS x
  | _ => false
def intV : V → Bool
  | .int _ => true
  | _ => false
def plainV : V → Bool
  | .int i => decide (-10 ^ 30 < i) && decide (i < 10 ^ 30)
  | .str x => plainS x
  | _ => false
theorem str_len (x : Str) : x.length = x.cps.toList.length := by
  show x.cps.size = _
  rw [Array.length_toList]
/-! ### the promises -/
/-- a question: a bool comes out, nothing that stood is changed -/
def spAsk (n : Nat) (P : List V → Hp → Bool → Prop) : Sp := fun vs H Q _ => vs.length = n ∧ ∃ b, P vs H b ∧ ∀ H', Same H H' → Q (.bl b) H'
def spMadeOf : Sp := fun vs H Q _ => ∃ x z : Str, vs = [.str x, .str z] ∧ x.length ≤ sizeLine ∧ ∀ H', Same H H' → Q (.bl (madeOf x z)) H'
def spV (f : V → Bool) (K : PySem.W.Frag) : Sp := fun vs H Q _ => ∃ v s, vs = [v] ∧ AnyV K H v s ∧ ∀ H', Same H H' → Q (.bl (f v)) H'
/-- the items of a tuple that is a reference -/
def refAt : V → V → Bool
  | .str x, y => decide (V.str x = .str "at") && markV y
  | _, _ => false
def refVs : List V → Bool
  | [x, y] => refAt x y
  | _ => false
/-- whether a value is a reference -/
def RefIs (K : PySem.W.Frag) (H : Hp) (v : V) (s : String) (b : Bool) : Prop :=
  (s ≠ "tuple" ∧ b = false) ∨ ∃ p xs, v = .ref p ∧ s = "tuple" ∧ SqT K H p xs ∧ (∀ y ∈ xs, ∃ t, AnyV K H y t) ∧ b = refVs xs
def spRef (K : PySem.W.Frag) : Sp := fun vs H Q _ => ∃ v s b, vs = [v] ∧ AnyV K H v s ∧ RefIs K H v s b ∧ ∀ H', Same H H' → Q (.bl b) H'
def spWorth (K : PySem.W.Frag) : Sp := fun vs H Q _ => ∃ v s b, vs = [v] ∧ AnyV K H v s ∧ RefIs K H v s b ∧ ∀ H', Same H H' → Q (.bl (plainV v || b)) H'
theorem same_seqT {K : PySem.W.Frag} {H H' : Hp} {a : Addr} {xs : List V} (e : Same H H') (h : SqT K H a xs) : SqT K H' a xs := by
  rcases h with (h | ⟨o, h⟩) | h
  · exact .inl (.inl (e _ _ h))
  · exact .inl (.inr ⟨o, e _ _ h⟩)
  · exact .inr h
theorem RefIs.mono {K : PySem.W.Frag} {H H' : Hp} {v : V} {s : String} {b : Bool} (h : RefIs K H v s b) (e : Same H H') : RefIs K H' v s b := by
  rcases h with h | ⟨p, xs, h1, h2, h3, h4, h5⟩
  · exact .inl h
  · refine .inr ⟨p, xs, h1, h2, same_seqT e h3, fun y hy => ?_, h5⟩
    obtain ⟨t, q⟩ := h4 y hy
    exact ⟨t, q.mono e⟩
section
variable {P : Program} {w : World} {K : PySem.W.Frag} {mg : Str → Option Value} {base : Heap} {a : Ad}
theorem ok_is_made_of (T : Txt K mg a) : FnOk P w K mg base CX0 1 a.f_is_made_of a.d_is_made_of ["text", "signs"] spMadeOf := by
  refine T.is_made_of.F.ok sc_is_made_of (fun vs H Q E h => ?_) (fun cdv A outer s H vs Q E hr h => ?_)
  · obtain ⟨x, z, rfl, _⟩ := h
    rfl
  · obtain ⟨x, z, rfl, hx, k⟩ := h
    refine ⟨_, (pss_one (ps_ret (pe_callB (cr_all rfl) (by rfl) T.z_all (by decide +kernel) (pa_cons (pe_lc (own := [("sign", 2)]) (g := gName 2) (tt := tYes) (by rfl) sc_is_made_of.nd (pi_str (pv 0)) (blkOk_by (own := [("sign", 2)]) (N := ["text", "signs", "sign"]) (sc := defScope s_is_made_of) (by decide +kernel)) (fun _ _ _ _ _ => (pg_name (i := 2) sc_is_made_of.nd rfl (Or.inl rfl))) (fun _ _ _ _ _ => pts_nil) (fun _ _ _ _ _ => (pe_cmpR op_in_sign (pv 2) (pv 1) (by rfl)))) pa_nil)))), ?_⟩
    refine ⟨_, rfl, x, rfl, fun D hD => lc_mapL (walk_signs (z := x)) hD (by rw [← str_len]; exact hx) (fun _ _ => trivial) (fun c => .bl (decide (c ∈ z.cps.toList))) ?_ fun H' s1 hl => ?_⟩
    · rintro i c y H1 H2 R hc s1 _ ⟨rfl, c', hc', rfl⟩ hR
      cases hc.symm.trans hc'
      exact ⟨rfl, _, rfl, _, rfl, c, z, rfl, rfl, hR _ (Same.refl _)⟩
    · refine ⟨D, x.cps.toList.map fun c => decide (c ∈ z.cps.toList), rfl, SqL.of (by rw [hl, List.map_map]; rfl), ?_⟩
      have e2 : (x.cps.toList.map fun c => decide (c ∈ z.cps.toList)).all id = madeOf x z := by
        rw [List.all_map]
        rfl
      rw [e2]
      exact k _ s1
theorem ok_is_name (T : Txt K mg a) : FnOk P w K mg base CX0 2 a.f_is_name a.d_is_name ["value"] (spV nameV K) := by
  refine T.is_name.F.ok sc_is_name (fun vs H Q E h => ?_) (fun cdv A outer s H vs Q E hr h => ?_)
  · obtain ⟨v, t, rfl, _⟩ := h
    rfl
  · obtain ⟨v, t, rfl, av, k⟩ := h
    refine ⟨_, (pss_one (ps_ret (pe_and (pe_callB call_isi (by rfl) T.z_isinstance (by decide +kernel) (pa_cons (pv 0) (pa_cons (pe_bltn (v := .ty "str") (by rfl) T.z_str (by decide +kernel) rfl) pa_nil))) (pe_and (pe_chain op_le op_le pe_int (pe_callB call_len_str (by rfl) T.z_len (by decide +kernel) (pa_cons (pv 0) pa_nil)) pe_int) (pe_one (pe_call (ok_is_made_of T) (hr.mono (by decide)) (by rfl) T.is_made_of.g T.is_made_of.k T.is_made_of.b .nil pass0 (pa_cons (pv 0) (pa_cons (pe_glob (v := .str "abcdefghijklmnopqrstuvwxyz") (by rfl) T.c_LETTERS ⟨_, rfl⟩) pa_nil)))))))), ?_⟩
    refine ⟨_, rfl, _, _, _, _, _, rfl, .ty _, av.ty, av.isi, _, rfl, ?_⟩
    rcases av.cases with ⟨rfl, rfl⟩ | ⟨b, rfl, rfl⟩ | ⟨i, rfl, rfl⟩ | ⟨x, rfl, rfl, hx⟩ | ⟨p, rfl, rfl | rfl | rfl⟩
    case inr.inr.inr.inl =>
      refine ifT (by decide) ?_
      refine ⟨_, rfl, x, rfl, hx, _, _, rfl, rfl, _, rfl, ?_⟩
      have ek : nameV (.str x) = (decide (1 ≤ x.length) && (decide (x.length ≤ 8) && madeOf x letters)) := rfl
      rw [ek] at k
      refine ifB (fun h1 => ?_) (fun h1 => ?_)
      · have h1' : decide (1 ≤ x.length) = true := by simp at h1 ⊢; omega
        rw [h1', Bool.true_and] at k
        refine ⟨_, _, rfl, rfl, _, rfl, ?_⟩
        refine ifB (fun h2 => ?_) (fun h2 => ?_)
        · have h2' : decide (x.length ≤ 8) = true := by simp at h2 ⊢; omega
          rw [h2', Bool.true_and] at k
          exact ⟨_, rfl, x, letters, rfl, hx, k⟩
        · have h2' : decide (x.length ≤ 8) = false := by simp at h2 ⊢; omega
          rw [h2', Bool.false_and] at k
          exact k _ (Same.refl _)
      · have h1' : decide (1 ≤ x.length) = false := by simp at h1 ⊢; omega
        rw [h1', Bool.false_and] at k
        exact ⟨_, rfl, ifF rfl (k _ (Same.refl _))⟩
    all_goals exact ifF (by decide) (k _ (Same.refl _))
theorem ok_is_mark (T : Txt K mg a) : FnOk P w K mg base CX0 2 a.f_is_mark a.d_is_mark ["value"] (spV markV K) := by
  refine T.is_mark.F.ok sc_is_mark (fun vs H Q E h => ?_) (fun cdv A outer s H vs Q E hr h => ?_)
  · obtain ⟨v, t, rfl, _⟩ := h
    rfl
  · obtain ⟨v, t, rfl, av, k⟩ := h
    refine ⟨_, (pss_cons (ps_if (PW.pt (pw_or (pt_not (pt_val (pe_callB call_isi (by rfl) T.z_isinstance (by decide +kernel) (pa_cons (pv 0) (pa_cons (pe_bltn (v := .ty "str") (by rfl) T.z_str (by decide +kernel) rfl) pa_nil))))) (pw_or1 (pt_not (pt_chain op_le op_le pe_int (pe_callB call_len_str (by rfl) T.z_len (by decide +kernel) (pa_cons (pv 0) pa_nil)) pe_int))))) (pss_one (ps_ret pe_bl)) pss_nil)
      (pss_one (ps_ret (pe_and (pe_cmpR op_in_sign (pe_ix ix_str (pv 0) pe_int (fun _ _ => rfl)) (pe_glob (v := .str "abcdefghijklmnopqrstuvwxyz") (by rfl) T.c_LETTERS ⟨_, rfl⟩) (by rfl)) (pe_one (pe_call (ok_is_made_of T) (hr.mono (by decide)) (by rfl) T.is_made_of.g T.is_made_of.k T.is_made_of.b .nil pass0 (pa_cons (pv 0) (pa_cons (pe_op op_add_str (pe_glob (v := .str "abcdefghijklmnopqrstuvwxyz") (by rfl) T.c_LETTERS ⟨_, rfl⟩) (pe_glob (v := .str "0123456789") (by rfl) T.c_DIGITS ⟨_, rfl⟩)) pa_nil)))))))), ?_⟩
    refine ⟨_, rfl, _, _, _, _, _, rfl, .ty _, av.ty, av.isi, _, rfl, ?_⟩
    rcases av.cases with ⟨rfl, rfl⟩ | ⟨b, rfl, rfl⟩ | ⟨i, rfl, rfl⟩ | ⟨x, rfl, rfl, hx⟩ | ⟨p, rfl, rfl | rfl | rfl⟩
    case inr.inr.inr.inl =>
      refine ifF (by decide) ?_
      refine ⟨_, rfl, x, rfl, hx, _, _, rfl, rfl, _, rfl, ?_⟩
      have ek : markV (.str x) = (decide (1 ≤ x.length) && (decide (x.length ≤ 8) && (firstIn x letters && madeOf x both))) := rfl
      rw [ek] at k
      refine ifB (fun h1 => ?_) (fun h1 => ?_)
      · have h1' : decide (1 ≤ x.length) = true := by simp at h1 ⊢; omega
        rw [h1', Bool.true_and] at k
        refine ⟨_, _, rfl, rfl, _, rfl, ?_⟩
        refine ifB (fun h2 => ?_) (fun h2 => ?_)
        · have h2' : decide (x.length ≤ 8) = false := by simp at h2 ⊢; omega
          rw [h2', Bool.false_and] at k
          exact k _ (Same.refl _)
        · have h2' : decide (x.length ≤ 8) = true := by simp at h2 ⊢; omega
          rw [h2', Bool.true_and] at k
          obtain ⟨c, r, hc⟩ : ∃ c r, x.cps.toList = c :: r := by
            have hl := str_len x
            cases e : x.cps.toList with
            | nil => rw [e] at hl; simp at hl h1'; omega
            | cons c r => exact ⟨c, r, rfl⟩
          have ef : firstIn x letters = decide (c ∈ letters.cps.toList) := by unfold firstIn; rw [hc]
          rw [ef] at k
          refine ⟨_, rfl, x, 0, c, rfl, rfl, hx, atI_nat (j := 0) (by rw [hc]; rfl), c, letters, rfl, rfl, _, rfl, ?_⟩
          refine ifB (fun h3 => ?_) (fun h3 => ?_)
          · rw [h3, Bool.true_and] at k
            exact ⟨_, rfl, letters, digits, rfl, rfl, by decide +kernel, x, both, rfl, hx, k⟩
          · rw [h3, Bool.false_and] at k
            exact k _ (Same.refl _)
      · have h1' : decide (1 ≤ x.length) = false := by simp at h1 ⊢; omega
        rw [h1', Bool.false_and] at k
        exact ⟨_, rfl, k _ (Same.refl _)⟩
    all_goals exact ifT (by decide) (k _ (Same.refl _))
theorem ok_is_integer (T : Txt K mg a) : FnOk P w K mg base CX0 1 a.f_is_integer a.d_is_integer ["value"] (spV intV K) := by
  refine T.is_integer.F.ok sc_is_integer (fun vs H Q E h => ?_) (fun cdv A outer s H vs Q E hr h => ?_)
  · obtain ⟨v, t, rfl, _⟩ := h
    rfl
  · obtain ⟨v, t, rfl, av, k⟩ := h
    refine ⟨_, (pss_one (ps_ret (pe_and (pe_callB call_isi (by rfl) T.z_isinstance (by decide +kernel) (pa_cons (pv 0) (pa_cons (pe_bltn (v := .ty "int") (by rfl) T.z_int (by decide +kernel) rfl) pa_nil))) (pe_one (pe_not (pe_callB call_isi (by rfl) T.z_isinstance (by decide +kernel) (pa_cons (pv 0) (pa_cons (pe_bltn (v := .ty "bool") (by rfl) T.z_bool (by decide +kernel) rfl) pa_nil)))))))), ?_⟩
    refine ⟨_, rfl, _, _, _, _, _, rfl, .ty _, av.ty, av.isi, _, rfl, ?_⟩
    rcases av.cases with ⟨rfl, rfl⟩ | ⟨b, rfl, rfl⟩ | ⟨i, rfl, rfl⟩ | ⟨x, rfl, rfl, hx⟩ | ⟨p, rfl, rfl | rfl | rfl⟩
    case inr.inl =>
      refine ifT (by decide) ?_
      exact ⟨_, rfl, _, _, _, _, _, rfl, .ty _, av.ty, av.isi, _, rfl, k _ (Same.refl _)⟩
    case inr.inr.inl =>
      refine ifT (by decide) ?_
      exact ⟨_, rfl, _, _, _, _, _, rfl, .ty _, av.ty, av.isi, _, rfl, k _ (Same.refl _)⟩
    all_goals exact ifF (by decide) (k _ (Same.refl _))
theorem ok_is_plain (T : Txt K mg a) : FnOk P w K mg base CX0 2 a.f_is_plain a.d_is_plain ["value"] (spV plainV K) := by
  refine T.is_plain.F.ok sc_is_plain (fun vs H Q E h => ?_) (fun cdv A outer s H vs Q E hr h => ?_)
  · obtain ⟨v, t, rfl, _⟩ := h
    rfl
  · obtain ⟨v, t, rfl, av, k⟩ := h
    refine ⟨_, (pss_cons (ps_if (pt_val (pe_call (ok_is_integer T) (hr.mono (by decide)) (by rfl) T.is_integer.g T.is_integer.k T.is_integer.b .nil pass0 (pa_cons (pv 0) pa_nil))) (pss_one (ps_ret (pe_chain op_lt op_lt (pe_un un_neg (pe_op op_pow pe_int pe_int)) (pv 0) (pe_op op_pow pe_int pe_int)))) pss_nil)
      (pss_one (ps_ret (pe_and (pe_callB call_isi (by rfl) T.z_isinstance (by decide +kernel) (pa_cons (pv 0) (pa_cons (pe_bltn (v := .ty "str") (by rfl) T.z_str (by decide +kernel) rfl) pa_nil))) (pe_and (pe_cmpR op_le (pe_callB call_len_str (by rfl) T.z_len (by decide +kernel) (pa_cons (pv 0) pa_nil)) pe_int (nomark _)) (pe_one (pe_call (ok_is_made_of T) (hr.mono (by decide)) (by rfl) T.is_made_of.g T.is_made_of.k T.is_made_of.b .nil pass0 (pa_cons (pv 0) (pa_cons (pe_op op_add_str (pe_glob (v := .str "abcdefghijklmnopqrstuvwxyz") (by rfl) T.c_LETTERS ⟨_, rfl⟩) (pe_glob (v := .str "0123456789") (by rfl) T.c_DIGITS ⟨_, rfl⟩)) pa_nil))))))))), ?_⟩
    refine ⟨_, rfl, v, t, rfl, av, fun H1 s1 => ⟨_, rfl, ?_⟩⟩
    have av1 := av.mono s1
    rcases av.cases with ⟨rfl, rfl⟩ | ⟨b, rfl, rfl⟩ | ⟨i, rfl, rfl⟩ | ⟨x, rfl, rfl, hx⟩ | ⟨p, rfl, rfl | rfl | rfl⟩
    case inr.inr.inl =>
      refine ifT rfl ?_
      refine ⟨10, 30, rfl, rfl, ⟨by decide, by decide, by decide⟩, _, rfl, _, rfl, _, _, rfl, rfl, _, rfl, ?_⟩
      have ek : plainV (.int i) = (decide (-10 ^ 30 < i) && decide (i < 10 ^ 30)) := rfl
      rw [ek] at k
      refine ifB (fun h1 => ?_) (fun h1 => ?_)
      · have h1' : decide (-10 ^ 30 < i) = true := h1
        rw [h1', Bool.true_and] at k
        exact ⟨10, 30, rfl, rfl, ⟨by decide, by decide, by decide⟩, _, _, rfl, rfl, k _ s1⟩
      · have h1' : decide (-10 ^ 30 < i) = false := h1
        rw [h1', Bool.false_and] at k
        exact k _ s1
    case inr.inr.inr.inl =>
      refine ifF rfl ?_
      refine ⟨_, rfl, _, _, _, _, _, rfl, .ty _, av1.ty, av1.isi, _, rfl, ifT (by decide) ?_⟩
      refine ⟨_, rfl, x, rfl, hx, _, _, rfl, rfl, _, rfl, ?_⟩
      have ek : plainV (.str x) = (decide (x.length ≤ 20) && madeOf x both) := rfl
      rw [ek] at k
      refine ifB (fun h1 => ?_) (fun h1 => ?_)
      · have h1' : decide (x.length ≤ 20) = true := by simp at h1 ⊢; omega
        rw [h1', Bool.true_and] at k
        exact ⟨_, rfl, letters, digits, rfl, rfl, by decide +kernel, x, both, rfl, hx, fun H' s2 => k _ (s1.trans s2)⟩
      · have h1' : decide (x.length ≤ 20) = false := by simp at h1 ⊢; omega
        rw [h1', Bool.false_and] at k
        exact k _ s1
    all_goals
      refine ifF rfl ?_
      exact ⟨_, rfl, _, _, _, _, _, rfl, .ty _, av1.ty, av1.isi, _, rfl, ifF (by decide) (k _ s1)⟩
theorem ok_is_reference (T : Txt K mg a) : FnOk P w K mg base CX0 3 a.f_is_reference a.d_is_reference ["value"] (spRef K) := by
  refine T.is_reference.F.ok sc_is_reference (fun vs H Q E h => ?_) (fun cdv A outer s H vs Q E hr h => ?_)
  · obtain ⟨v, t, b, rfl, _⟩ := h
    rfl
  · obtain ⟨v, t, b, rfl, av, rb, k⟩ := h
    refine ⟨_, (pss_cons (ps_if (PW.pt (pw_or (pt_not (pt_val (pe_callB call_isi (by rfl) T.z_isinstance (by decide +kernel) (pa_cons (pv 0) (pa_cons (pe_bltn (v := .ty "tuple") (by rfl) T.z_tuple (by decide +kernel) rfl) pa_nil))))) (pw_or (pt_cmpR op_ne (pe_callB call_len_seq (by rfl) T.z_len (by decide +kernel) (pa_cons (pv 0) pa_nil)) pe_int (nomark _)) (pw_or1 (pt_not (pt_val (pe_callB call_isi (by rfl) T.z_isinstance (by decide +kernel) (pa_cons (pe_ix ix_tup (pv 0) pe_int (fun _ _ => rfl)) (pa_cons (pe_bltn (v := .ty "str") (by rfl) T.z_str (by decide +kernel) rfl) pa_nil))))))))) (pss_one (ps_ret pe_bl)) pss_nil)
      (pss_one (ps_ret (pe_and (pe_cmpR op_eq (pe_ix ix_tup (pv 0) pe_int (fun _ _ => rfl)) (pe_glob (v := .str "at") (by rfl) T.c_AT ⟨_, rfl⟩) (nomark _)) (pe_one (pe_call (ok_is_mark T) (hr.mono (by decide)) (by rfl) T.is_mark.g T.is_mark.k T.is_mark.b .nil pass0 (pa_cons (pe_ix ix_tup (pv 0) pe_int (fun _ _ => rfl)) pa_nil))))))), ?_⟩
    refine ⟨_, rfl, _, _, _, _, _, rfl, .ty _, av.ty, av.isi, _, rfl, ?_⟩
    rcases rb with ⟨ht, rfl⟩ | ⟨p, xs, rfl, rfl, hs, ha, rfl⟩
    · have e : isT t "tuple" = false := by
        have h1 : ∀ t ∈ kinds, t ≠ "tuple" → isT t "tuple" = false := by decide
        exact h1 t av.mem ht
      rw [e]
      exact iteT (k _ (Same.refl _))
    · refine ifF (by decide) ?_
      refine ⟨_, rfl, p, xs, rfl, .inr hs, rfl, _, rfl, ?_⟩
      match xs, hs, ha, k with
      | [], hs, ha, k => exact ifT (by decide) (k _ (Same.refl _))
      | [x], hs, ha, k => exact ifT (by simp) (k _ (Same.refl _))
      | x :: y :: z :: r, hs, ha, k =>
        refine ifT ?_ (k _ (Same.refl _))
        simp
        omega
      | [x, y], hs, ha, k =>
        refine ifF (by simp) ?_
        obtain ⟨tx, ax⟩ := ha x (by simp)
        obtain ⟨ty, ay⟩ := ha y (by simp)
        refine ⟨_, rfl, p, [x, y], 0, x, rfl, rfl, hs, rfl, _, _, _, _, _, rfl, .ty _, ax.ty, ax.isi, _, rfl, ?_⟩
        rcases ax.cases with ⟨rfl, rfl⟩ | ⟨b, rfl, rfl⟩ | ⟨i, rfl, rfl⟩ | ⟨x, rfl, rfl, hx⟩ | ⟨p, rfl, rfl | rfl | rfl⟩
        case inr.inr.inr.inl =>
          refine ifF (by decide) ?_
          refine ⟨_, rfl, p, _, 0, _, rfl, rfl, hs, rfl, rfl, _, rfl, ?_⟩
          have ek : refVs [.str x, y] = (decide (V.str x = .str "at") && markV y) := rfl
          rw [ek] at k
          refine ifB (fun h1 => ?_) (fun h1 => ?_)
          · rw [h1, Bool.true_and] at k
            exact ⟨_, rfl, p, _, 1, _, rfl, rfl, hs, rfl, y, ty, rfl, ay, k⟩
          · rw [h1, Bool.false_and] at k
            exact k _ (Same.refl _)
        all_goals exact ifT (by decide) (k _ (Same.refl _))
theorem ok_is_worth (T : Txt K mg a) : FnOk P w K mg base CX0 4 a.f_is_worth a.d_is_worth ["value"] (spWorth K) := by
  refine T.is_worth.F.ok sc_is_worth (fun vs H Q E h => ?_) (fun cdv A outer s H vs Q E hr h => ?_)
  · obtain ⟨v, t, b, rfl, _⟩ := h
    rfl
  · obtain ⟨v, t, b, rfl, av, rb, k⟩ := h
    refine ⟨_, (pss_one (ps_ret (pe_or (pe_call (ok_is_plain T) (hr.mono (by decide)) (by rfl) T.is_plain.g T.is_plain.k T.is_plain.b .nil pass0 (pa_cons (pv 0) pa_nil)) (pe_one (pe_call (ok_is_reference T) (hr.mono (by decide)) (by rfl) T.is_reference.g T.is_reference.k T.is_reference.b .nil pass0 (pa_cons (pv 0) pa_nil)))))), ?_⟩
    refine ⟨_, rfl, v, t, rfl, av, fun H1 s1 => ⟨_, rfl, ?_⟩⟩
    refine ifB (fun h1 => ?_) (fun h1 => ?_)
    · rw [h1, Bool.true_or] at k
      exact k _ s1
    · rw [h1, Bool.false_or] at k
      exact ⟨_, rfl, v, t, b, rfl, av.mono s1, rb.mono s1, fun H' s2 => k _ (s1.trans s2)⟩
end
end SB

set_option Elab.async false
set_option linter.all false
set_option maxRecDepth 100000
set_option maxHeartbeats 4000000
namespace SB
open PySem L2
/-! ### the law's pool of draws: a list of two numbers that are not negative -/
def Pool (H : Hp) (p : Addr) : Prop := ∃ g m : Int, H p = some (.lst [.int g, .int m]) ∧ 0 ≤ g ∧ 0 ≤ m ∧ m < 2147483647
def spPool (K : PySem.W.Frag) : Sp := fun vs H Q _ => ∃ (a : Addr) (ns : List Int) (k : Int), vs = [.ref a, .int k] ∧ SqL K H a (ns.map V.int) ∧ 0 ≤ k ∧ k < 1000 ∧
  ∀ H' p, H p = none → Same H H' → Pool H' p → Q (.ref p) H'
/-- a draw: a number below many; the pool alone is changed -/
def spDraw : Sp := fun vs H Q _ => ∃ (p : Addr) (many : Int), vs = [.ref p, .int many] ∧ Pool H p ∧ 0 < many ∧ many < 1000 ∧
  ∀ (n : Nat) H', (n : Int) < many → SameX p H H' → Pool H' p → Q (.int n) H'
theorem Pool.at {H H' : Hp} {p : Addr} (h : Pool H p) (e : ∀ o, H p = some o → H' p = some o) : Pool H' p := by
  obtain ⟨g, m, hp, r⟩ := h
  exact ⟨g, m, e _ hp, r⟩
theorem Pool.new {H : Hp} {p q : Addr} {o : HO} (h : Pool H p) (hq : H q = none) : Pool (upd H q o) p := h.at fun _ e => same_new hq _ _ e
theorem Pool.ne {H : Hp} {p q : Addr} (h : Pool H p) (hq : H q = none) : p ≠ q := by
  obtain ⟨g, m, hp, r⟩ := h
  exact ne_of_none hp hq
theorem SameX.new {H0 H : Hp} {p q : Addr} {o : HO} (h : SameX p H0 H) (hq : H q = none) : SameX p H0 (upd H q o) := fun b u n e => by
  have e1 := h b u n e
  rw [upd_ne (ne_of_none e1 hq)]
  exact e1
theorem pick {xs : List V} {n : Nat} (h : n < xs.length) : ∃ v, v ∈ xs ∧ atI xs (n : Int) = some v :=
  ⟨xs[n], List.getElem_mem h, atI_nat (List.getElem?_eq_getElem h)⟩
theorem cut_map (ns : List Int) (lo hi : Option Int) : ∃ ms : List Int, cutV (ns.map V.int) lo hi = ms.map V.int := by
  unfold cutV
  exact ⟨_, by rw [← List.map_drop, ← List.map_take]⟩
section
variable {P : Program} {w : World} {K : PySem.W.Frag} {mg : Str → Option Value} {base : Heap} {a : Ad}
theorem ok_l_pool (T : Txt K mg a) : FnOk P w K mg base CX0 1 a.f_l_pool a.d_l_pool ["_law_script", "_law_k"] (spPool K) := by
  refine T.l_pool.F.ok sc_l_pool (fun vs H Q E h => ?_) (fun cdv A outer s H vs Q E hr h => ?_)
  · obtain ⟨x, ns, k, rfl, _⟩ := h
    rfl
  · obtain ⟨l, ns, k, rfl, hS, hk0, hk1, q⟩ := h
    refine ⟨_, (pss_cons (ps_set (i := 2) sc_l_pool.nd rfl (Or.inl rfl) (pe_op op_add (pe_op op_mul pe_int (pe_callB (cr_sum rfl) (by rfl) T.z_sum (by decide +kernel) (pa_cons (pe_slice sl_list (pv 0) po_none (po_some pe_int)) pa_nil))) (pv 1)))
      (C8.pss_cut (ps_if (pt_cmpR op_lt (pv 1) (pe_callB call_len_seq (by rfl) T.z_len (by decide +kernel) (pa_cons (pv 0) pa_nil)) (nomark _)) (pss_one (ps_set (i := 2) sc_l_pool.nd rfl (Or.inl rfl) (pe_ix ix_list (pv 0) (pv 1) (fun _ _ => rfl)))) pss_nil)
      (pss_cons (ps_set (i := 3) sc_l_pool.nd rfl (Or.inl rfl) (pe_callB call_abs (by rfl) T.z_abs (by decide +kernel) (pa_cons (pe_callTy call_int1 (by rfl) T.z_int (by decide +kernel) (pa_cons (pv 2) pa_nil)) pa_nil)))
      (pss_cons (ps_set (i := 4) sc_l_pool.nd rfl (Or.inl rfl) (pe_op op_mod (pe_callTy call_int1 (by rfl) T.z_int (by decide +kernel) (pa_cons (pv 3) pa_nil)) pe_int))
      (pss_cons (ps_set (i := 5) sc_l_pool.nd rfl (Or.inl rfl) (pe_op op_mod (pe_callTy call_int1 (by rfl) T.z_int (by decide +kernel) (pa_cons (pe_op op_mul (pe_op op_add (pe_op op_add (pe_op op_add (pv 4) (pe_op op_mul (pe_op op_mul pe_int (pv 1)) (pv 1))) (pe_op op_mul pe_int (pv 1))) pe_int) pe_int) pa_nil)) pe_int))
      (pss_one (ps_ret (pe_lst (pa_cons (pe_op op_mul (pv 3) (pe_callTy call_int1 (by rfl) T.z_int (by decide +kernel) (pa_cons (pe_cmpR op_ge (pv 3) (pe_op op_pow pe_int pe_int) (nomark _)) pa_nil))) (pa_cons (pe_op op_mod (pe_callTy call_int1 (by rfl) T.z_int (by decide +kernel) (pa_cons (pe_op op_mul (pv 5) (pv 5)) pa_nil)) pe_int) pa_nil)))))))))), ?_⟩
    obtain ⟨ms, hm⟩ := cut_map ns none (some 63)
    refine ⟨_, rfl, _, rfl, l, _, rfl, hS, fun p hp => ?_⟩
    rw [hm]
    refine ⟨p, ms, rfl, SqL.of upd_same, 11, _, rfl, rfl, .inl ⟨by decide, by decide⟩, _, rfl, _, _, rfl, rfl, ?_⟩
    have s1 : Same H (upd H p (.lst (ms.map V.int))) := same_new hp
    have hS1 := s1.seq hS
    have key : ∃ c : Int, decide (k < ((ns.map V.int).length : Int)) = true → atI (ns.map V.int) k = some (V.int c) := by
      by_cases hlt : k.toNat < ns.length
      · refine ⟨ns[k.toNat], fun _ => atI_int hk0 ?_⟩
        rw [List.getElem?_map, List.getElem?_eq_getElem hlt]
        rfl
      · refine ⟨0, fun h => ?_⟩
        simp at h
        omega
    obtain ⟨c, hc⟩ := key
    refine ⟨fun σ' H' => H' = upd H p (.lst (ms.map V.int)) ∧ ∃ c : Int, σ' = [some (.ref l), some (.int k), some (.int c), none, none, none], ?_, ?_⟩
    · refine ⟨_, rfl, _, rfl, l, _, rfl, .inl hS1, _, _, rfl, rfl, _, rfl, ?_⟩
      refine ifB (fun h => ?_) (fun h => ?_)
      · exact ⟨_, rfl, _, rfl, l, _, k, .int c, rfl, rfl, hS1, hc h, rfl, c, rfl⟩
      · exact ⟨rfl, _, rfl⟩
    · rintro _ _ ⟨rfl, c, rfl⟩
      refine ⟨_, rfl, .inl ⟨_, rfl, c, rfl, ?_⟩⟩
      generalize hg : (if c < 0 then -c else c) = g
      have hg0 : 0 ≤ g := by rw [← hg]; split <;> omega
      refine ⟨_, rfl, .inl ⟨g, rfl, _, _, rfl, rfl, (by show (0 : Int) < 2147483629; decide), ?_⟩⟩
      refine ⟨_, rfl, _, rfl, _, _, rfl, rfl, .inl ⟨by decide, by decide⟩, _, rfl, _, k, rfl, rfl, .inr ⟨by omega, by omega⟩, _, _, rfl, rfl, _, rfl, _, _, rfl, rfl, .inl ⟨by decide, by decide⟩, _, _, rfl, rfl, _, _, rfl, rfl,
        _, _, rfl, rfl, .inr ⟨by decide, by decide⟩, .inl ⟨_, rfl, _, _, rfl, rfl, (by show (0 : Int) < 2147483647; decide), ?_⟩⟩
      dsimp only
      generalize hm2 : ((g % 2147483629 + 7919 * k * k + 31 * k + 17) * 48271 % 2147483647 : Int) = m
      have hm0 : 0 ≤ m := by omega
      have hm1 : m < 2147483647 := by omega
      refine ⟨_, rfl, _, rfl, _, _, rfl, rfl, ⟨by decide, by decide, by decide⟩, _, _, rfl, rfl, .inr ⟨_, rfl, ?_⟩⟩
      refine ⟨_, _, rfl, rfl, .inr (by split <;> exact ⟨by decide, by decide⟩), _, rfl, _, rfl, m, m, rfl, rfl, .inl ⟨by omega, by omega⟩, .inl ⟨_, rfl, _, _, rfl, rfl, (by show (0 : Int) < 2147483629; decide), ?_⟩⟩
      refine ⟨by show 2 ≤ sizeLine; decide, fun p2 hp2 => ?_⟩
      have h0 : H p2 = none := s1.free hp2
      refine q _ p2 h0 (s1.trans (same_new hp2)) ⟨_, _, upd_same, ?_, ?_, ?_⟩
      · split
        · omega
        · omega
      · exact Int.emod_nonneg _ (by decide)
      · have := Int.emod_lt_of_pos (m * m) (show (0 : Int) < 2147483629 by decide)
        omega
theorem ok_l_draw (T : Txt K mg a) : FnOk P w K mg base CX0 1 a.f_l_draw a.d_l_draw ["_law_pool_here", "_law_many"] spDraw := by
  refine T.l_draw.F.ok sc_l_draw (fun vs H Q E h => ?_) (fun cdv A outer s H vs Q E hr h => ?_)
  · obtain ⟨p, m, rfl, _⟩ := h
    rfl
  · obtain ⟨p, many, rfl, ⟨g, m, hp, hg, hm0, hm1⟩, h0, h1, q⟩ := h
    refine ⟨_, (pss_cons (ps_if (pt_cmpR op_gt (pe_ix ix_list (pv 0) pe_int (fun _ _ => rfl)) pe_int (nomark _)) (pss_cons (ps_set (i := 2) sc_l_draw.nd rfl (Or.inl rfl) (pe_op op_mod (pe_callTy call_int1 (by rfl) T.z_int (by decide +kernel) (pa_cons (pe_ix ix_list (pv 0) pe_int (fun _ _ => rfl)) pa_nil)) (pv 1)))
      (pss_cons (ps_asg (pe_op op_fdiv (pe_ix ix_list (pv 0) pe_int (fun _ _ => rfl)) (pv 1)) (pg_sub (pv 0) pe_int set_list))
      (pss_one (ps_ret (pv 2))))) pss_nil)
      (pss_cons (ps_asg (pe_op op_mod (pe_callTy call_int1 (by rfl) T.z_int (by decide +kernel) (pa_cons (pe_op op_add (pe_op op_mul (pe_ix ix_list (pv 0) pe_int (fun _ _ => rfl)) pe_int) pe_int) pa_nil)) pe_int) (pg_sub (pv 0) pe_int set_list))
      (pss_one (ps_ret (pe_op op_mod (pe_callTy call_int1 (by rfl) T.z_int (by decide +kernel) (pa_cons (pe_op op_fdiv (pe_op op_mod (pe_callTy call_int1 (by rfl) T.z_int (by decide +kernel) (pa_cons (pe_op op_mul (pe_ix ix_list (pv 0) pe_int (fun _ _ => rfl)) (pe_ix ix_list (pv 0) pe_int (fun _ _ => rfl))) pa_nil)) pe_int) pe_int) pa_nil)) (pv 1)))))), ?_⟩
    refine ⟨_, rfl, p, _, 0, _, rfl, rfl, SqL.of hp, rfl, _, _, rfl, rfl, _, rfl, ?_⟩
    refine ifB (fun h => ?_) (fun h => ?_)
    · refine ⟨_, rfl, p, _, 0, _, rfl, rfl, SqL.of hp, rfl, .inl ⟨g, rfl, _, rfl, g, many, rfl, rfl, h0, ?_⟩⟩
      refine ⟨_, rfl, p, _, 0, _, rfl, rfl, SqL.of hp, rfl, _, rfl, g, many, rfl, rfl, ⟨h0, by omega⟩, _, rfl, p, _, 0, 0, rfl, rfl, hp, rfl, ?_⟩
      refine ⟨_, rfl, ?_⟩
      have e : g % many = (((g % many).toNat : Nat) : Int) := by
        have := Int.emod_nonneg g (show many ≠ 0 by omega)
        omega
      show Q (.int (g % many)) _
      rw [e]
      refine q _ _ ?_ SameX.put ⟨_, _, upd_same, Int.ediv_nonneg hg (by omega), hm0, hm1⟩
      rw [← e]
      exact Int.emod_lt_of_pos _ h0
    · refine ⟨_, rfl, p, _, 1, _, rfl, rfl, SqL.of hp, rfl, m, _, rfl, rfl, .inr ⟨by decide, by decide⟩, _, _, rfl, rfl, .inl ⟨_, rfl, _, _, rfl, rfl, (by show (0 : Int) < 2147483647; decide), _, rfl, p, _, 1, 1, rfl, rfl, hp, rfl, ?_⟩⟩
      dsimp only
      generalize hn : ((m * 48271 + 11) % 2147483647 : Int) = n
      have hn0 : 0 ≤ n := by omega
      have hn1 : n < 2147483647 := by omega
      refine ⟨_, rfl, p, _, 1, _, rfl, rfl, SqL.of upd_same, rfl, _, rfl, p, _, 1, _, rfl, rfl, SqL.of upd_same, rfl, n, n, rfl, rfl, .inl ⟨by omega, by omega⟩, .inl ⟨_, rfl, _, _, rfl, rfl, (by show (0 : Int) < 2147483629; decide), ?_⟩⟩
      refine ⟨_, _, rfl, rfl, ⟨by decide, by decide⟩, .inl ⟨_, rfl, _, rfl, _, many, rfl, rfl, h0, ?_⟩⟩
      generalize (n * n % 2147483629 / 16 : Int) = z
      have e : z % many = (((z % many).toNat : Nat) : Int) := by
        have := Int.emod_nonneg z (show many ≠ 0 by omega)
        omega
      show Q (.int (z % many)) _
      rw [e]
      refine q _ _ ?_ SameX.put ⟨_, _, upd_same, hg, hn0, hn1⟩
      rw [← e]
      exact Int.emod_lt_of_pos _ h0
end
end SB

set_option Elab.async false
set_option linter.all false
set_option maxRecDepth 100000
set_option maxHeartbeats 4000000
namespace SB
open PySem L2
theorem cutS_len (z : Str) (lo hi : Option Int) : (cutS z lo hi).length ≤ z.length := by
  rw [str_len, str_len]
  show (((z.cps.toList.drop _).take _).toArray.toList).length ≤ _
  rw [List.length_take, List.length_drop]
  omega
theorem app_len (x y : Str) : (x ++ y).length = x.length + y.length := by
  rw [str_len, str_len, str_len, ← List.length_append, ← TL.tl_append]
/-- all signs are those of plain ASCII -/
def alls (p : Nat → Prop) (x : Str) : Prop := ∀ c ∈ x.cps.toList, p c
abbrev asc (x : Str) : Prop := alls (· < 128) x
/-- .. and none of them is a t -/
abbrev ascT (x : Str) : Prop := alls (fun c => c < 128 ∧ c ≠ 116) x
theorem ascT.asc {x : Str} (h : ascT x) : asc x := fun c hc => (h c hc).1
theorem joinL_nil : ∀ ls : List (List Nat), TL.joinL [] ls = ls.flatten := by
  intro ls
  induction ls with
  | nil => rfl
  | cons l r ih =>
    cases r with
    | nil => show l = _; simp
    | cons q r =>
      show l ++ ([] ++ TL.joinL [] (q :: r)) = _
      rw [ih, List.nil_append]
      rfl
theorem join0 (ys : List Str) : (Txt.join "" ys).cps.toList = (ys.map fun y => y.cps.toList).flatten := by
  rw [TL.join_eq]
  show TL.tl (Str.join "" ys) = _
  rw [TL.tl_join]
  have e0 : TL.tl ("" : Str) = [] := by decide +kernel
  rw [e0, joinL_nil] <;> rfl
theorem join0_len (ys : List Str) {p : Nat → Prop} (h : ∀ y ∈ ys, y.length = 1 ∧ alls p y) : (Txt.join "" ys).length = ys.length := by
  rw [str_len, join0]
  induction ys with
  | nil => rfl
  | cons y r ih =>
    rw [List.map_cons, List.flatten_cons, List.length_append, ih (fun z hz => h z (List.mem_cons_of_mem _ hz)), ← str_len, (h y (by simp)).1, List.length_cons]
    omega
theorem join0_asc (ys : List Str) {p : Nat → Prop} (h : ∀ y ∈ ys, y.length = 1 ∧ alls p y) : alls p (Txt.join "" ys) := by
  intro c hc
  rw [join0] at hc
  obtain ⟨l, hl, hc⟩ := List.mem_flatten.mp hc
  obtain ⟨y, hy, rfl⟩ := List.mem_map.mp hl
  exact (h y hy).2 c hc
theorem cutS_asc {z : Str} {p : Nat → Prop} (h : alls p z) (lo hi : Option Int) : alls p (cutS z lo hi) := by
  intro c hc
  have hc' : c ∈ (z.cps.toList.drop (HT.sIx z.length 0 lo)).take (HT.sIx z.length z.length hi - HT.sIx z.length 0 lo) := hc
  exact h c (List.mem_of_mem_drop (List.mem_of_mem_take hc'))
theorem app_asc {x y : Str} {p : Nat → Prop} (hx : alls p x) (hy : alls p y) : alls p (x ++ y) := by
  intro c hc
  have e : (x ++ y).cps.toList = x.cps.toList ++ y.cps.toList := TL.tl_append x y
  rw [e] at hc
  rcases List.mem_append.mp hc with h | h
  · exact hx c h
  · exact hy c h
instance (x : Str) (p : Nat → Prop) [DecidablePred p] : Decidable (alls p x) := inferInstanceAs (Decidable (∀ c ∈ x.cps.toList, p c))
theorem sum_ones {p : Nat → Prop} : ∀ ys : List Str, (∀ y ∈ ys, y.length = 1 ∧ alls p y) → (ys.map (·.length)).sum = ys.length := by
  intro ys
  induction ys with
  | nil => intro _; rfl
  | cons y r ih =>
    intro h
    rw [List.map_cons, List.sum_cons, ih (fun z hz => h z (List.mem_cons_of_mem _ hz)), (h y (by simp)).1, List.length_cons]
    omega
/-- a drawn text of at most 21 signs; the pool alone is changed -/
def spText : Sp := fun vs H Q _ => ∃ (p : Addr), vs = [.ref p] ∧ Pool H p ∧ ∀ (x : Str) H', x.length ≤ 21 → ascT x → SameX p H H' → Pool H' p → Q (.str x) H'
def spMade : Sp := fun vs H Q _ => ∃ x z : Str, vs = [.str x, .str z] ∧ x.length ≤ 1000 ∧ asc x ∧ ∀ H', Same H H' → Q (.bl (madeOf x z)) H'
theorem strOk_asc {x : Str} (h : asc x) : PyData.strOk x = true := by
  unfold PyData.strOk
  rw [← Array.all_toList]
  refine List.all_eq_true.mpr fun c hc => ?_
  have := h c hc
  simp
  omega
theorem dp_strs {K : PySem.W.Frag} {H : Hp} : ∀ xs : List Str, DpAll K H (xs.map V.str) (xs.map PyData.str)
  | [] => .nil
  | x :: xs => .cons (.str x) (dp_strs xs)
theorem shaped_strs (xs : List Str) (h : ∀ x ∈ xs, asc x) : SeqAt.shaped (.list (xs.map PyData.str)) = true := by
  have h1 : PyData.canLayAll0 (xs.map PyData.str) = true := by
    induction xs with
    | nil => rfl
    | cons x r ih =>
      show (PyData.strOk x && PyData.canLayAll0 (r.map PyData.str)) = true
      rw [strOk_asc (h x (by simp)), ih fun y hy => h y (List.mem_cons_of_mem _ hy)]
      rfl
  have h2 : ∀ ys : List Str, PyData.depthAll (ys.map PyData.str) ≤ 1 := by
    intro ys
    induction ys with
    | nil => decide
    | cons x r ih =>
      have e : PyData.depthAll ((x :: r).map PyData.str) = max (PyData.depth (.str x)) (PyData.depthAll (r.map PyData.str)) := by
        first | rfl | simp [PyData.depthAll]
      have e1 : PyData.depth (.str x) ≤ 1 := by first | exact Nat.le_refl _ | (simp [PyData.depth])
      rw [e]
      omega
  unfold SeqAt.shaped
  have h3 := h2 xs
  have e : PyData.depth (.list (xs.map PyData.str)) ≤ 64 := by
    have : PyData.depth (.list (xs.map PyData.str)) = PyData.depthAll (xs.map PyData.str) + 1 := by first | rfl | simp [PyData.depth]
    omega
  have h4 : PyData.canLay0 (.list (xs.map PyData.str)) = true := h1
  rw [h4]
  simpa using e
section
variable {P : Program} {w : World} {K : PySem.W.Frag} {mg : Str → Option Value} {base : Heap} {a : Ad}
theorem ok_l_text (T : Txt K mg a) : FnOk P w K mg base CX0 2 a.f_l_text a.d_l_text ["_law_pool_here"] spText := by
  refine T.l_text.F.ok sc_l_text (fun vs H Q E h => ?_) (fun cdv A outer s H vs Q E hr h => ?_)
  · obtain ⟨p, rfl, _⟩ := h
    rfl
  · obtain ⟨p, rfl, hp, k⟩ := h
    refine ⟨_, (pss_cons (ps_set (i := 1) sc_l_text.nd rfl (Or.inl rfl) (pe_ix ix_list (pe_lst (pa_cons (pe_call (ok_l_draw T) (hr.mono (by decide)) (by rfl) T.l_draw.g T.l_draw.k T.l_draw.b .nil pass0 (pa_cons (pv 0) (pa_cons pe_int pa_nil))) (pa_cons (pe_op op_add pe_int (pe_call (ok_l_draw T) (hr.mono (by decide)) (by rfl) T.l_draw.g T.l_draw.k T.l_draw.b .nil pass0 (pa_cons (pv 0) (pa_cons pe_int pa_nil)))) (pa_cons (pe_op op_add pe_int (pe_call (ok_l_draw T) (hr.mono (by decide)) (by rfl) T.l_draw.g T.l_draw.k T.l_draw.b .nil pass0 (pa_cons (pv 0) (pa_cons pe_int pa_nil)))) pa_nil)))) (pe_call (ok_l_draw T) (hr.mono (by decide)) (by rfl) T.l_draw.g T.l_draw.k T.l_draw.b .nil pass0 (pa_cons (pv 0) (pa_cons pe_int pa_nil))) (fun _ _ => rfl)))
      (pss_cons (ps_set (i := 2) sc_l_text.nd rfl (Or.inr rfl) (pe_op op_add_str pe_str (pe_slice sl_str pe_str po_none (po_some (pe_call (ok_l_draw T) (hr.mono (by decide)) (by rfl) T.l_draw.g T.l_draw.k T.l_draw.b .nil pass0 (pa_cons (pv 0) (pa_cons pe_int pa_nil)))))))
      (pss_one (ps_ret (pe_join pe_str (pe_lc (own := [("_law_turn", 3)]) (g := gName 3) (tt := tYes) (by rfl) sc_l_text.nd (pi_range1 (by rfl) T.z_range (pa_cons (pv 1) pa_nil)) (blkOk_by (own := [("_law_turn", 3)]) (N := ["_law_pool_here", "_law_size", "_law_signs", "_law_turn"]) (sc := defScope s_l_text) (by decide +kernel)) (fun _ _ _ _ _ => (pg_name (i := 3) sc_l_text.nd rfl (Or.inl rfl))) (fun _ _ _ _ _ => pts_nil) (fun _ _ _ _ _ => (pe_ix ix_str (pv 2) (pe_call (ok_l_draw T) (hr.mono (by decide)) (by rfl) T.l_draw.g T.l_draw.k T.l_draw.b .nil pass0 (pa_cons (pv 0) (pa_cons (pe_callB call_len_str (by rfl) T.z_len (by decide +kernel) (pa_cons (pv 2) pa_nil)) pa_nil))) (fun _ _ => rfl))))))))), ?_⟩
    refine ⟨_, rfl, p, 3, rfl, hp, by decide, by decide, fun n1 H1 hn1 s1 hp1 => ?_⟩
    refine ⟨_, rfl, p, 3, rfl, hp1, by decide, by decide, fun n2 H2 hn2 s2 hp2 => ⟨_, _, rfl, rfl, ?_⟩⟩
    refine ⟨_, rfl, p, 3, rfl, hp2, by decide, by decide, fun n3 H3 hn3 s3 hp3 => ⟨_, _, rfl, rfl, ?_⟩⟩
    refine ⟨by show 3 ≤ sizeLine; decide, fun q1 hq1 => ?_⟩
    have sx3 : SameX p H H3 := (s1.trans s2).trans s3
    refine ⟨_, rfl, p, 3, rfl, hp3.new hq1, by decide, by decide, fun n4 H4 hn4 s4 hp4 => ?_⟩
    have sx4 : SameX p H H4 := (sx3.new hq1).trans s4
    have hl4 : H4 q1 = some (.lst [.int n1, .int (7 + n2), .int (19 + n3)]) := s4 _ _ (hp3.ne hq1).symm upd_same
    obtain ⟨v, hv, hat⟩ := pick (xs := [.int (n1 : Int), .int (7 + n2), .int (19 + n3)]) (n := n4) (by simp; omega)
    obtain ⟨z, rfl, hz0, hz1⟩ : ∃ z : Int, v = .int z ∧ 0 ≤ z ∧ z ≤ 21 := by
      simp at hv
      rcases hv with rfl | rfl | rfl
      · exact ⟨_, rfl, by omega, by omega⟩
      · exact ⟨_, rfl, by omega, by omega⟩
      · exact ⟨_, rfl, by omega, by omega⟩
    refine ⟨q1, _, _, _, rfl, rfl, SqL.of hl4, hat, ?_⟩
    -- the signs
    refine ⟨_, rfl, p, 8, rfl, hp4, by decide, by decide, fun n5 H5 hn5 s5 hp5 => ⟨_, rfl, ?_⟩⟩
    refine ⟨_, rfl, by decide +kernel, _, _, rfl, rfl, ?_, ?_⟩
    · have := cutS_len "09_AZ-'" none (some (n5 : Int))
      have e1 : ("09_AZ-'" : Str).length = 7 := by decide +kernel
      have e2 : ("abz" : Str).length = 3 := by decide +kernel
      have e3 : sizeLine = 16777216 := sizeLine_eq
      omega
    have hxa : ascT (("abz" : Str) ++ cutS "09_AZ-'" none (some (n5 : Int))) := app_asc (by decide +kernel) (cutS_asc (by decide +kernel) _ _)
    generalize hx : (("abz" : Str) ++ cutS "09_AZ-'" none (some (n5 : Int))) = x
    rw [hx] at hxa
    have hx0 : 0 < x.length := by
      rw [← hx, app_len]
      have e2 : ("abz" : Str).length = 3 := by decide +kernel
      omega
    have hx1 : x.length ≤ 10 := by
      rw [← hx, app_len]
      have e2 : ("abz" : Str).length = 3 := by decide +kernel
      have := cutS_len "09_AZ-'" none (some (n5 : Int))
      have e1 : ("09_AZ-'" : Str).length = 7 := by decide +kernel
      omega
    have hsl : x.length ≤ sizeLine := by rw [sizeLine_eq]; omega
    have sx5 := sx4.trans s5
    refine ⟨⟨_, rfl⟩, _, rfl, z, rfl, by omega, by omega, fun D hD => lc_range (lo := 0) (n := z.toNat) (fun i H' => SameX p H H' ∧ Pool H' p ∧ ∃ ys : List Str, (∀ y ∈ ys, y.length = 1 ∧ ascT y) ∧ ys.length = i ∧ H' D = some (.lst (ys.map V.str))) ?_ ?_ ?_⟩
    · exact ⟨sx5.new hD, hp5.new hD, [], by simp, rfl, upd_same⟩
    · rintro i H6 hi ⟨sx6, hp6, ys, hy, hl, hD6⟩
      have nDp : D ≠ p := (hp5.ne hD).symm
      refine ⟨rfl, _, rfl, _, rfl, _, rfl, x, rfl, hsl, p, x.length, rfl, hp6, by omega, by omega, fun n7 H7 hn7 s7 hp7 => ?_⟩
      have hlt : n7 < x.cps.toList.length := by rw [← str_len]; omega
      refine ⟨x, _, x.cps.toList[n7], rfl, rfl, hsl, atI_nat (List.getElem?_eq_getElem hlt), ?_⟩
      refine ⟨_, s7 _ _ nDp hD6, ?_, ?_⟩
      · rw [List.length_map, sizeLine_eq]; omega
      · refine ⟨?_, ?_, ys ++ [⟨#[x.cps.toList[n7]]⟩], ?_, ?_, ?_⟩
        · intro b o nb eb
          have nbD : b ≠ D := fun z => by
            subst z
            have := (sx5 b o nb eb)
            rw [hD] at this
            cases this
          rw [upd_ne nbD]
          exact s7 _ _ nb (sx6 _ _ nb eb)
        · exact hp7.at fun o e => by rw [upd_ne nDp.symm]; exact e
        · intro y hyy
          rcases List.mem_append.mp hyy with h | h
          · exact hy y h
          · rw [List.mem_singleton.mp h]
            refine ⟨rfl, fun c hc => ?_⟩
            have hc' : c ∈ [x.cps.toList[n7]] := hc
            rw [List.mem_singleton.mp hc']
            exact hxa _ (List.getElem_mem hlt)
        · rw [List.length_append, hl]; rfl
        · rw [upd_same, List.map_append]; rfl
    · rintro H6 ⟨sx6, hp6, ys, hy, hl, hD6⟩
      refine ⟨_, D, ys, rfl, rfl, .inl (SqL.of hD6), ?_, ?_⟩
      · have e0 : ("" : Str).length = 0 := by decide +kernel
        rw [sum_ones ys hy, e0]
        omega
      · exact k _ H6 (by rw [join0_len ys hy]; omega) (join0_asc ys hy) sx6 hp6
theorem ok_l_is_made (T : Txt K mg a) : FnOk P w K mg base CX0 1 a.f_l_is_made a.d_l_is_made ["_law_text_here", "_law_signs"] spMade := by
  refine T.l_is_made.F.ok sc_l_is_made (fun vs H Q E h => ?_) (fun cdv A outer s H vs Q E hr h => ?_)
  · obtain ⟨x, z, rfl, _⟩ := h
    rfl
  · obtain ⟨x, z, rfl, hx, hxa, k⟩ := h
    refine ⟨_, (pss_one (ps_ret (pe_cmpR (op_eqD hr.units) (pe_lc (own := [("_law_sign", 2)]) (g := gName 2) (by rfl) sc_l_is_made.nd (pi_str (pv 0)) (blkOk_by (own := [("_law_sign", 2)]) (N := ["_law_text_here", "_law_signs", "_law_sign"]) (sc := defScope s_l_is_made) (by decide +kernel)) (fun _ _ _ _ _ => (pg_name (i := 2) sc_l_is_made.nd rfl (Or.inl rfl))) (fun _ _ _ _ _ => (pts_one (pt_cmpR op_notIn_sign (pv 2) (pv 1) (by rfl)))) (fun _ _ _ _ _ => (pv 2))) (pe_lst pa_nil) (nomark _)))), ?_⟩
    refine ⟨_, rfl, x, rfl, fun D hD => lc_filL (walk_signs (z := x)) hD (by rw [← str_len, sizeLine_eq]; omega) (fun _ _ => trivial) (fun c => !decide (c ∈ z.cps.toList)) (fun c => .str ⟨#[c]⟩) ?_ fun H' s1 hl => ?_⟩
    · rintro i c y H1 H2 R N hc s1 _ ⟨rfl, c', hc', rfl⟩ hR hN
      cases hc.symm.trans hc'
      refine ⟨rfl, _, rfl, _, rfl, c, z, rfl, rfl, _, rfl, ifB (fun h => ?_) (fun h => ?_)⟩
      · exact ⟨_, rfl, hR _ (Same.refl _) h⟩
      · exact hN _ (Same.refl _) h
    · refine ⟨by show 0 ≤ sizeLine; exact Nat.zero_le _, fun q hq => ?_⟩
      generalize hf : x.cps.toList.filter (fun c => !decide (c ∈ z.cps.toList)) = bad at hl
      have hb : ∀ c ∈ bad, c < 128 := fun c hc => by
        rw [← hf] at hc
        exact hxa c (List.mem_filter.mp hc).1
      refine ⟨.list ((bad.map fun c => (⟨#[c]⟩ : Str)).map PyData.str), .list [], .lst (SqL.of (xs := (bad.map fun c => (⟨#[c]⟩ : Str)).map V.str) ?_) (dp_strs _), .lst (SqL.of upd_same) .nil, ?_, by decide +kernel, ?_⟩
      · rw [upd_ne (ne_of_none hl hq), hl, List.map_map]
        rfl
      · refine shaped_strs _ fun y hy => ?_
        obtain ⟨c, hc, rfl⟩ := List.mem_map.mp hy
        intro d hd
        have hd' : d ∈ [c] := hd
        rw [List.mem_singleton.mp hd']
        exact hb c hc
      · have e : PyData.eqv (.list ((bad.map fun c => (⟨#[c]⟩ : Str)).map PyData.str)) (.list []) = madeOf x z := by
          show PyData.eqvAll _ [] = _
          cases hbad : bad with
          | nil =>
            rw [hbad] at hf
            have h1 : madeOf x z = true := by
              refine List.all_eq_true.mpr fun c hc => ?_
              have := List.filter_eq_nil_iff.mp hf c hc
              simpa using this
            rw [h1]
            rfl
          | cons c r =>
            rw [hbad] at hf
            have h1 : madeOf x z = false := by
              have hm : c ∈ x.cps.toList.filter (fun c => !decide (c ∈ z.cps.toList)) := by rw [hf]; simp
              obtain ⟨m1, m2⟩ := List.mem_filter.mp hm
              refine List.all_eq_false.mpr ⟨c, m1, ?_⟩
              simpa using m2
            rw [h1]
            rfl
        rw [e]
        exact k _ (s1.trans (same_new hq))
end
end SB

set_option Elab.async false
set_option linter.all false
set_option maxRecDepth 100000
set_option maxHeartbeats 4000000
namespace SB
open PySem L2
/-- texts of this law: short, plain ASCII -/
def OkT (v : V) : Prop := ∀ x, v = .str x → x.length ≤ 1000 ∧ asc x
def spDue (K : PySem.W.Frag) : Sp := fun vs H Q _ => ∃ v s, vs = [v] ∧ AnyV K H v s ∧ OkT v ∧
  ∀ H' q, H q = none → Same H H' → H' q = some (.lst [.bl (markV v), .bl (nameV v), .bl (plainV v)]) → Q (.ref q) H'
def spRefs (K : PySem.W.Frag) : Sp := fun vs H Q _ => ∃ x : Str, vs = [.str x] ∧ x.length ≤ 1000 ∧ x ≠ "at" ∧ ∀ H', Same H H' → Q (.bl true) H'
theorem and3 (a b c : Bool) : (a && (b && c)) = (a && (c && b)) := by cases a <;> cases b <;> cases c <;> rfl
section
variable {P : Program} {w : World} {K : PySem.W.Frag} {mg : Str → Option Value} {base : Heap} {a : Ad}
theorem ok_l_due (T : Txt K mg a) : FnOk P w K mg base CX0 2 a.f_l_due a.d_l_due ["_law_thing"] (spDue K) := by
  refine T.l_due.F.ok sc_l_due (fun vs H Q E h => ?_) (fun cdv A outer s H vs Q E hr h => ?_)
  · obtain ⟨v, t, rfl, _⟩ := h
    rfl
  · obtain ⟨v, t, rfl, av, hv, k⟩ := h
    refine ⟨_, (pss_cons (ps_asg (pe_tup (pa_cons pe_str (pa_cons pe_str pa_nil))) (pg_tup (by rfl) (pgs_cons (pg_name (i := 1) sc_l_due.nd rfl (Or.inl rfl)) (pgs_cons (pg_name (i := 2) sc_l_due.nd rfl (Or.inl rfl)) pgs_nil))))
      (pss_cons (ps_if (pt_val (pe_callB call_isi (by rfl) T.z_isinstance (by decide +kernel) (pa_cons (pv 0) (pa_cons (pe_bltn (v := .ty "str") (by rfl) T.z_str (by decide +kernel) rfl) pa_nil)))) (C8.pss_cut (ps_par (i := 3) (j := 4) (by rfl) sc_l_due.nd rfl rfl (by decide) rfl rfl (pa_cons (pe_call (ok_l_is_made T) (hr.mono (by decide)) (by rfl) T.l_is_made.g T.l_is_made.k T.l_is_made.b .nil pass0 (pa_cons (pv 0) (pa_cons (pe_op op_add_str (pv 1) (pv 2)) pa_nil))) (pa_cons (pe_chain op_le op_le pe_int (pe_callB call_len_str (by rfl) T.z_len (by decide +kernel) (pa_cons (pv 0) pa_nil)) pe_int) pa_nil)) (by rfl))
      (C8.pss_cut (ps_set (i := 5) sc_l_due.nd rfl (Or.inl rfl) (pe_and (pv 4) (pe_and (pv 3) (pe_one (pe_cmpR op_in_sign (pe_ix ix_str (pv 0) pe_int (fun _ _ => rfl)) (pv 1) (by rfl))))))
      (pss_one (ps_ret (pe_lst (pa_cons (pv 5) (pa_cons (pe_and (pv 4) (pe_one (pe_call (ok_l_is_made T) (hr.mono (by decide)) (by rfl) T.l_is_made.g T.l_is_made.k T.l_is_made.b .nil pass0 (pa_cons (pv 0) (pa_cons (pv 1) pa_nil))))) (pa_cons (pe_and (pv 3) (pe_one (pe_cmpR op_le (pe_callB call_len_str (by rfl) T.z_len (by decide +kernel) (pa_cons (pv 0) pa_nil)) pe_int (nomark _)))) pa_nil)))))))) pss_nil)
      (pss_cons (ps_if (PW.pt (pw_and (pt_val (pe_callB call_isi (by rfl) T.z_isinstance (by decide +kernel) (pa_cons (pv 0) (pa_cons (pe_bltn (v := .ty "int") (by rfl) T.z_int (by decide +kernel) rfl) pa_nil)))) (pw_and (pt_cmpR op_notBB (pv 0) pe_bl (nomark _)) (pw_and1 (pt_cmpR op_notBB (pv 0) pe_bl (nomark _)))))) (pss_one (ps_ret (pe_lst (pa_cons pe_bl (pa_cons pe_bl (pa_cons (pe_chain op_lt op_lt (pe_un un_neg (pe_op op_pow pe_int pe_int)) (pv 0) (pe_op op_pow pe_int pe_int)) pa_nil)))))) pss_nil)
      (pss_one (ps_ret (pe_lst (pa_cons pe_bl (pa_cons pe_bl (pa_cons pe_bl pa_nil))))))))), ?_⟩
    refine ⟨by show 2 ≤ sizeLine; decide, fun tt htt => ⟨tt, _, rfl, SqT.of upd_same, rfl, _, _, rfl, _, _, rfl, rfl, ?_⟩⟩
    have s0 : Same H (upd H tt (.tup [.str letters, .str digits])) := same_new htt
    have av0 := av.mono s0
    refine ⟨_, rfl, _, _, _, _, _, rfl, .ty _, av0.ty, av0.isi, _, rfl, ?_⟩
    rcases av.cases with ⟨rfl, rfl⟩ | ⟨b, rfl, rfl⟩ | ⟨i, rfl, rfl⟩ | ⟨x, rfl, rfl, hx⟩ | ⟨p, rfl, ht⟩
    case inr.inr.inr.inl =>
      obtain ⟨hx1, hxa⟩ := hv x rfl
      refine ifT (by decide) ?_
      have key : ∃ sh : Bool, sh = (decide (1 ≤ x.length) && decide (x.length ≤ 8)) := ⟨_, rfl⟩
      obtain ⟨sh, hsh⟩ := key
      refine ⟨fun σ' H' => Same H H' ∧ σ' = [some (.str x), some (.str letters), some (.str digits), some (.bl (madeOf x both)), some (.bl sh), none], ?_, ?_⟩
      · refine ⟨_, rfl, _, rfl, _, rfl, _, _, rfl, rfl, (by decide +kernel), x, both, rfl, hx1, hxa, fun H1 s1 => ?_⟩
        refine ⟨_, rfl, x, rfl, hx, _, _, rfl, rfl, _, rfl, ifB (fun h1 => ?_) (fun h1 => ?_)⟩
        · have e1 : decide (1 ≤ x.length) = true := by simp at h1 ⊢; omega
          have e2 : decide (((x.length : Nat) : Int) ≤ 8) = decide (x.length ≤ 8) := by
            rw [Bool.eq_iff_iff]
            simp
            omega
          refine ⟨_, _, rfl, rfl, _, _, rfl, s0.trans s1, ?_⟩
          rw [hsh, e1, Bool.true_and, ← e2]
          rfl
        · have e1 : decide (1 ≤ x.length) = false := by simp at h1 ⊢; omega
          refine ⟨_, _, rfl, s0.trans s1, ?_⟩
          rw [hsh, e1, Bool.false_and]
          rfl
      · rintro _ H2 ⟨s2, rfl⟩
        refine ⟨fun σ' H' => Same H H' ∧ σ' = [some (.str x), some (.str letters), some (.str digits), some (.bl (madeOf x both)), some (.bl sh), some (.bl (markS x))], ?_, ?_⟩
        · have em : markS x = (sh && (madeOf x both && firstIn x letters)) := by
            unfold markS
            rw [hsh, Bool.and_assoc, Bool.and_comm (madeOf x both)]
          refine ⟨_, rfl, _, rfl, ifB (fun h1 => ?_) (fun h1 => ?_)⟩
          · rw [h1, Bool.true_and] at em
            refine ⟨_, rfl, _, rfl, ifB (fun h2 => ?_) (fun h2 => ?_)⟩
            · rw [h2, Bool.true_and] at em
              obtain ⟨c, r, hc⟩ : ∃ c r, x.cps.toList = c :: r := by
                have hl := str_len x
                cases e : x.cps.toList with
                | nil => rw [e] at hl; rw [hsh] at h1; simp at hl h1; omega
                | cons c r => exact ⟨c, r, rfl⟩
              refine ⟨_, rfl, x, 0, c, rfl, rfl, hx, atI_nat (j := 0) (by rw [hc]; rfl), _, rfl, c, letters, rfl, rfl, s2, ?_⟩
              have ef : firstIn x letters = decide (c ∈ letters.cps.toList) := by unfold firstIn; rw [hc]
              rw [em, ef, h1, h2]
              rfl
            · rw [h2, Bool.false_and] at em
              refine ⟨s2, ?_⟩
              rw [em, h1, h2]
              rfl
          · rw [h1, Bool.false_and] at em
            refine ⟨s2, ?_⟩
            rw [em, h1]
            rfl
        · rintro _ H3 ⟨s3, rfl⟩
          have en : nameS x = (sh && madeOf x letters) := by
            unfold nameS
            rw [hsh, Bool.and_assoc]
          have ep : plainS x = (madeOf x both && decide (x.length ≤ 20)) := by
            unfold plainS
            rw [Bool.and_comm]
          have fin : ∀ (H4 : Hp) (n m : Bool), Same H H4 → n = nameS x → m = plainS x → 3 ≤ sizeLine ∧ ∀ q, H4 q = none → Q (.ref q) (upd H4 q (.lst [.bl (markS x), .bl n, .bl m])) := by
            rintro H4 _ _ s4 rfl rfl
            exact ⟨by decide, fun q hq => k _ q (s4.free hq) (same_new2 s4 hq) upd_same⟩
          have last : ∀ (H4 : Hp) (n : Bool), Same H H4 → n = nameS x → tAndV (tVar 3) (tOp (rI0 fun i j => .bl (decide (i ≤ j))) (tCB (fun xs H Q => ∃ z : Str, xs = [.str z] ∧ z.length ≤ sizeLine ∧ Q (.int z.length) H) (tCons (tVar 0) tNil)) (tC (.int 20)))
              [some (.str x), some (.str letters), some (.str digits), some (.bl (madeOf x both)), some (.bl sh), some (.bl (markS x))] H4 (fun v H5 => [V.bl (markS x), V.bl n, v].length ≤ sizeLine ∧ ∀ q, H5 q = none → Q (.ref q) (upd H5 q (.lst [.bl (markS x), .bl n, v]))) := by
            intro H4 n s4 hn
            refine ⟨_, rfl, _, rfl, ifB (fun h => ?_) (fun h => ?_)⟩
            · refine ⟨_, rfl, x, rfl, hx, _, _, rfl, rfl, fin H4 _ _ s4 hn ?_⟩
              rw [ep, h, Bool.true_and, Bool.eq_iff_iff]
              simp
              omega
            · refine fin H4 _ _ s4 hn ?_
              rw [ep, h, Bool.false_and]
          refine ⟨_, rfl, _, rfl, _, rfl, ifB (fun h1 => ?_) (fun h1 => ?_)⟩
          · refine ⟨_, rfl, _, rfl, x, letters, rfl, hx1, hxa, fun H4 s4 => ?_⟩
            exact last H4 _ (s3.trans s4) (by rw [en, h1, Bool.true_and])
          · exact last H3 _ s3 (by rw [en, h1, Bool.false_and])
    case inr.inl =>
      refine ifF (by decide) ?_
      refine ⟨_, rfl, _, _, _, _, _, rfl, .ty _, av0.ty, av0.isi, _, rfl, ifT (by decide) ?_⟩
      have fin : ∀ H4 : Hp, Same H H4 → 3 ≤ sizeLine ∧ ∀ q, H4 q = none → Q (.ref q) (upd H4 q (.lst [.bl false, .bl false, .bl false])) := fun H4 s4 =>
        ⟨by decide, fun q hq => k _ q (s4.free hq) (same_new2 s4 hq) upd_same⟩
      cases b with
      | true => exact ⟨_, rfl, true, rfl, .inr ⟨true, rfl, _, rfl, ifF (by decide) (ifF (by decide) (fin _ s0))⟩⟩
      | false => exact ⟨_, rfl, true, rfl, .inr ⟨false, rfl, _, rfl, ifT (by decide) ⟨_, rfl, false, rfl, .inr ⟨false, rfl, _, rfl, ifF (by decide) (fin _ s0)⟩⟩⟩⟩
    case inr.inr.inl =>
      refine ifF (by decide) ?_
      refine ⟨_, rfl, _, _, _, _, _, rfl, .ty _, av0.ty, av0.isi, _, rfl, ifT (by decide) ?_⟩
      refine ⟨_, rfl, true, rfl, .inl ⟨⟨i, rfl⟩, _, rfl, iteT ⟨_, rfl, false, rfl, .inl ⟨⟨i, rfl⟩, _, rfl, iteT ?_⟩⟩⟩⟩
      have ek : plainV (.int i) = (decide (-10 ^ 30 < i) && decide (i < 10 ^ 30)) := rfl
      refine ⟨10, 30, rfl, rfl, ⟨by decide, by decide, by decide⟩, _, rfl, _, rfl, _, _, rfl, rfl, _, rfl, ifB (fun h1 => ?_) (fun h1 => ?_)⟩
      · have h1' : decide (-10 ^ 30 < i) = true := h1
        rw [h1', Bool.true_and] at ek
        refine ⟨10, 30, rfl, rfl, ⟨by decide, by decide, by decide⟩, _, _, rfl, rfl, by show 3 ≤ sizeLine; decide, fun q hq => k _ q (s0.free hq) (same_new2 s0 hq) ?_⟩
        rw [upd_same, ek]
        rfl
      · have h1' : decide (-10 ^ 30 < i) = false := h1
        rw [h1', Bool.false_and] at ek
        refine ⟨by show 3 ≤ sizeLine; decide, fun q hq => k _ q (s0.free hq) (same_new2 s0 hq) ?_⟩
        rw [upd_same, ek]
        rfl
    case inl =>
      refine ifF (by decide) ?_
      refine ⟨_, rfl, _, _, _, _, _, rfl, .ty _, av0.ty, av0.isi, _, rfl, ifF (by decide) ?_⟩
      refine ifF rfl ?_
      exact ⟨by show 3 ≤ sizeLine; decide, fun q hq => k _ q (s0.free hq) (same_new2 s0 hq) upd_same⟩
    case inr.inr.inr.inr =>
      have e1 : isT t "str" = false := by rcases ht with rfl | rfl | rfl <;> decide
      have e2 : isT t "int" = false := by rcases ht with rfl | rfl | rfl <;> decide
      refine ifF e1 ?_
      refine ⟨_, rfl, _, _, _, _, _, rfl, .ty _, av0.ty, av0.isi, _, rfl, ifF e2 ?_⟩
      refine ifF rfl ?_
      exact ⟨by show 3 ≤ sizeLine; decide, fun q hq => k _ q (s0.free hq) (same_new2 s0 hq) upd_same⟩
theorem shaped1 (b : Bool) : SeqAt.shaped (.list [.bool b]) = true := by cases b <;> decide +kernel
theorem ok_l_references (T : Txt K mg a) : FnOk P w K mg base CX0 5 a.f_l_references a.d_l_references ["_law_text_here"] (spRefs K) := by
  refine T.l_references.F.ok sc_l_references (fun vs H Q E h => ?_) (fun cdv A outer s H vs Q E hr h => ?_)
  · obtain ⟨x, rfl, _⟩ := h
    rfl
  · obtain ⟨x, rfl, hx1, hat, k⟩ := h
    have hx : x.length ≤ sizeLine := by rw [sizeLine_eq]; omega
    have h2 : ∀ (H' : Hp) (y : Str) (z : V) (p : Addr), y.length ≤ sizeLine → (∃ t, AnyV K H' z t) → H' p = some (.tup [.str y, z]) → AnyV K H' (.ref p) "tuple" ∧ RefIs K H' (.ref p) "tuple" (refVs [.str y, z]) := by
      intro H' y z p hy hz hp
      refine ⟨any_tup hp, .inr ⟨p, _, rfl, rfl, SqT.of hp, fun v hv => ?_, rfl⟩⟩
      simp at hv
      rcases hv with rfl | rfl
      · exact ⟨_, any_str hy⟩
      · exact hz
    have e2 : (2 : Nat) ≤ sizeLine := by decide
    refine ⟨_, (pss_cons (ps_set (i := 1) sc_l_references.nd rfl (Or.inl rfl) (pe_lst (pa_cons (pe_call (ok_is_mark T) (hr.mono (by decide)) (by rfl) T.is_mark.g T.is_mark.k T.is_mark.b .nil pass0 (pa_cons (pv 0) pa_nil)) pa_nil)))
      (C8.pss_cut (ps_set (i := 2) sc_l_references.nd rfl (Or.inl rfl) (pe_and (pe_cmpR (op_eqD hr.units) (pe_lst (pa_cons (pe_call (ok_is_worth T) (hr.mono (by decide)) (by rfl) T.is_worth.g T.is_worth.k T.is_worth.b .nil pass0 (pa_cons (pe_tup (pa_cons pe_str (pa_cons (pv 0) pa_nil))) pa_nil)) pa_nil)) (pv 1) (nomark _)) (pe_and (pe_not (pe_call (ok_is_worth T) (hr.mono (by decide)) (by rfl) T.is_worth.g T.is_worth.k T.is_worth.b .nil pass0 (pa_cons (pe_tup (pa_cons pe_str (pa_cons (pv 0) (pa_cons pe_int pa_nil)))) pa_nil))) (pe_one (pe_not (pe_call (ok_is_worth T) (hr.mono (by decide)) (by rfl) T.is_worth.g T.is_worth.k T.is_worth.b .nil pass0 (pa_cons (pe_lst (pa_cons pe_str (pa_cons (pv 0) pa_nil))) pa_nil)))))))
      (pss_one (ps_ret (pe_and (pv 2) (pe_and (pe_not (pe_call (ok_is_worth T) (hr.mono (by decide)) (by rfl) T.is_worth.g T.is_worth.k T.is_worth.b .nil pass0 (pa_cons (pe_tup (pa_cons pe_str (pa_cons (pv 0) pa_nil))) pa_nil))) (pe_and (pe_not (pe_call (ok_is_worth T) (hr.mono (by decide)) (by rfl) T.is_worth.g T.is_worth.k T.is_worth.b .nil pass0 (pa_cons (pe_tup (pa_cons (pv 0) (pa_cons pe_str pa_nil))) pa_nil))) (pe_one (pe_not (pe_call (ok_is_worth T) (hr.mono (by decide)) (by rfl) T.is_worth.g T.is_worth.k T.is_worth.b .nil pass0 (pa_cons (pe_tup (pa_cons pe_str pa_nil)) pa_nil))))))))))), ?_⟩
    refine ⟨_, rfl, .str x, _, rfl, any_str hx, fun H1 s1 => ?_⟩
    refine ⟨by show 1 ≤ sizeLine; decide, fun m hm => ?_⟩
    have s2 : Same H (upd H1 m (.lst [.bl (markV (.str x))])) := same_new2 s1 hm
    refine ⟨fun σ' H' => Same H H' ∧ σ' = [some (.str x), some (.ref m), some (.bl true)], ?_, ?_⟩
    · refine ⟨_, rfl, e2, fun t1 ht1 => ?_⟩
      obtain ⟨a1, r1⟩ := h2 _ "at" (.str x) t1 (by decide +kernel) ⟨_, any_str hx⟩ (upd_same (H := upd H1 m (.lst [.bl (markV (.str x))])))
      refine ⟨_, _, _, rfl, a1, r1, fun H3 s3 => ?_⟩
      have er : (plainV (.ref t1) || refVs [.str "at", .str x]) = markV (.str x) := by
        show (false || (decide (V.str "at" = .str "at") && markV (.str x))) = _
        simp
      rw [er]
      have s4 : Same H H3 := (s2.trans (same_new ht1)).trans s3
      refine ⟨by show 1 ≤ sizeLine; decide, fun q hq => ?_⟩
      have s5 := same_new2 (o := .lst [.bl (markV (.str x))]) s4 hq
      have hm5 : upd H3 q (.lst [.bl (markV (.str x))]) m = some (.lst [.bl (markV (.str x))]) := by
        refine same_new hq _ _ (s3 _ _ (same_new ht1 _ _ ?_))
        exact upd_same
      refine ⟨_, rfl, .list [.bool (markV (.str x))], .list [.bool (markV (.str x))], .lst (SqL.of upd_same) (.cons (.bl _) .nil), .lst (SqL.of hm5) (.cons (.bl _) .nil), shaped1 _, shaped1 _, _, rfl, ?_⟩
      refine ifT (by show (_ == _ && true) = true; simp) ?_
      -- ("at", text, 1)
      refine ⟨_, rfl, by show 3 ≤ sizeLine; decide, fun t2 ht2 => ?_⟩
      refine ⟨_, _, _, rfl, any_tup upd_same, .inr ⟨t2, _, rfl, rfl, SqT.of upd_same, ?_, rfl⟩, fun H6 s6 => ?_⟩
      · intro v hv
        simp at hv
        rcases hv with rfl | rfl | rfl
        · exact ⟨_, any_str (by decide +kernel)⟩
        · exact ⟨_, any_str hx⟩
        · exact ⟨_, any_int 1⟩
      refine ⟨_, rfl, _, rfl, iteT ?_⟩
      have s7 : Same H H6 := (s5.trans (same_new ht2)).trans s6
      -- ["at", text]
      refine ⟨_, rfl, e2, fun t3 ht3 => ?_⟩
      refine ⟨_, _, _, rfl, any_lst upd_same, .inl ⟨by decide, rfl⟩, fun H8 s8 => ⟨_, rfl, ?_⟩⟩
      exact ⟨(s7.trans (same_new ht3)).trans s8, rfl⟩
    · rintro _ H9 ⟨s9, rfl⟩
      refine ⟨_, rfl, _, rfl, iteT ?_⟩
      -- ("to", text)
      refine ⟨_, rfl, e2, fun t1 ht1 => ?_⟩
      obtain ⟨a1, r1⟩ := h2 _ "to" (.str x) t1 (by decide +kernel) ⟨_, any_str hx⟩ (upd_same (H := H9))
      refine ⟨_, _, _, rfl, a1, r1, fun H3 s3 => ⟨_, rfl, _, rfl, ifT ?_ ?_⟩⟩
      · show (!(false || (decide (V.str "to" = .str "at") && markV (.str x)))) = true
        have : decide (V.str "to" = .str "at") = false := by decide +kernel
        rw [this]
        rfl
      have s4 : Same H H3 := (s9.trans (same_new ht1)).trans s3
      -- (text, "at")
      refine ⟨_, rfl, e2, fun t2 ht2 => ?_⟩
      obtain ⟨a2, r2⟩ := h2 _ x (.str "at") t2 hx ⟨_, any_str (by decide +kernel)⟩ (upd_same (H := H3))
      refine ⟨_, _, _, rfl, a2, r2, fun H5 s5 => ⟨_, rfl, _, rfl, ifT ?_ ?_⟩⟩
      · show (!(false || (decide (V.str x = .str "at") && markV (.str "at")))) = true
        have : decide (V.str x = .str "at") = false := by
          rw [decide_eq_false_iff_not]
          intro e
          injection e with e
          exact hat e
        rw [this]
        rfl
      have s6 : Same H H5 := (s4.trans (same_new ht2)).trans s5
      -- ("at",)
      refine ⟨by show 1 ≤ sizeLine; decide, fun t3 ht3 => ?_⟩
      refine ⟨_, _, _, rfl, any_tup upd_same, .inr ⟨t3, _, rfl, rfl, SqT.of upd_same, ?_, rfl⟩, fun H7 s7 => ⟨_, rfl, ?_⟩⟩
      · intro v hv
        simp at hv
        rw [hv]
        exact ⟨_, any_str (by decide +kernel)⟩
      · exact k _ ((s6.trans (same_new ht3)).trans s7)
end
end SB

set_option Elab.async false
set_option linter.all false
set_option maxRecDepth 100000
set_option maxHeartbeats 4000000
namespace SB
open PySem L2
def spLaw (K : PySem.W.Frag) : Sp := fun vs H Q _ => ∃ (a : Addr) (ns : List Int), vs = [.ref a] ∧ SqL K H a (ns.map V.int) ∧ ns.length ≤ 63 ∧ ∀ H', Q (.bl true) H'
theorem same_sx {A B C : Hp} {p : Addr} (s : Same A B) (n : A p = none) (x : SameX p B C) : Same A C := fun b o e => x b o (ne_of_none e n) (s b o e)
theorem newH {H : Hp} {p : Addr} (o : HO) (h : H p = none) : ∃ H', upd H p o = H' ∧ Same H H' ∧ H' p = some o := ⟨_, rfl, same_new h, upd_same⟩
/-- a thing of the law's list -/
def Thing (K : PySem.W.Frag) (H : Hp) (v : V) : Prop := ∃ s b, AnyV K H v s ∧ OkT v ∧ RefIs K H v s b ∧ (plainV v || b) = plainV v
theorem thing_flat {K : PySem.W.Frag} {H : Hp} {v : V} {s : String} (a : AnyV K H v s) (o : OkT v) (h : s ≠ "tuple") : Thing K H v := ⟨s, false, a, o, .inl ⟨h, rfl⟩, Bool.or_false _⟩
theorem okT_int (i : Int) : OkT (.int i) := fun _ e => by cases e
theorem okT_ref (i : Addr) : OkT (.ref i) := fun _ e => by cases e
theorem Thing.mono {K : PySem.W.Frag} {H H' : Hp} {v : V} (h : Thing K H v) (e : Same H H') : Thing K H' v := by
  obtain ⟨s, b, h1, h2, h3, h4⟩ := h
  exact ⟨s, b, h1.mono e, h2, h3.mono e, h4⟩
theorem thing_int {K : PySem.W.Frag} {H : Hp} (i : Int) : Thing K H (.int i) := thing_flat (any_int i) (okT_int i) (by decide)
theorem thing_str {K : PySem.W.Frag} {H : Hp} {x : Str} (h : x.length ≤ 1000) (ha : asc x) : Thing K H (.str x) :=
  thing_flat (any_str (by rw [sizeLine_eq]; omega)) (fun y e => by cases e; exact ⟨h, ha⟩) (by decide)
theorem thing_tup {K : PySem.W.Frag} {H : Hp} {p : Addr} {xs : List V} (h : H p = some (.tup xs)) (ha : ∀ y ∈ xs, ∃ t, AnyV K H y t) (hr : refVs xs = false) : Thing K H (.ref p) :=
  ⟨_, refVs xs, any_tup h, okT_ref p, .inr ⟨p, xs, rfl, rfl, SqT.of h, ha, rfl⟩, by rw [hr]; rfl⟩
theorem shaped3 (a b c : Bool) : SeqAt.shaped (.list [.bool a, .bool b, .bool c]) = true := by cases a <;> cases b <;> cases c <;> decide +kernel
section
variable {P : Program} {w : World} {K : PySem.W.Frag} {mg : Str → Option Value} {base : Heap} {a : Ad}
theorem ok_law (T : Txt K mg a) : FnOk P w K mg base CX0 6 a.f_law a.d_law ["_law_script"] (spLaw K) := by
  refine T.law.F.ok sc_law (fun vs H Q E h => ?_) (fun cdv A outer s H vs Q E hr h => ?_)
  · obtain ⟨l, ns, rfl, _⟩ := h
    rfl
  · obtain ⟨l, ns, rfl, hS, hlen, k⟩ := h
    refine ⟨_, (pss_cons (ps_for PassesOwn.never rfl (pi_range1 (by rfl) T.z_range (pa_cons (pe_callB (call_max2 rfl) (by rfl) T.z_max (by decide +kernel) (pa_cons pe_int (pa_cons (pe_callB (call_min2 rfl) (by rfl) T.z_min (by decide +kernel) (pa_cons (pe_callB call_len_seq (by rfl) T.z_len (by decide +kernel) (pa_cons (pv 0) pa_nil)) (pa_cons pe_int pa_nil))) pa_nil))) pa_nil)) (pg_name (i := 1) sc_law.nd rfl (Or.inl rfl)) (pss_cons (ps_set (i := 2) sc_law.nd rfl (Or.inl rfl) (pe_call (ok_l_pool T) (hr.mono (by decide)) (by rfl) T.l_pool.g T.l_pool.k T.l_pool.b .nil pass0 (pa_cons (pv 0) (pa_cons (pv 1) pa_nil))))
      (pss_cons (ps_set (i := 3) sc_law.nd rfl (Or.inl rfl) (pe_op op_sub (pe_ix ix_list (pe_lst (pa_cons pe_int (pa_cons (pe_op op_pow pe_int pe_int) (pa_cons (pe_op op_pow pe_int pe_int) (pa_cons (pe_op op_pow pe_int pe_int) (pa_cons (pe_op op_pow pe_int pe_int) (pa_cons (pe_op op_pow pe_int pe_int) pa_nil))))))) (pe_call (ok_l_draw T) (hr.mono (by decide)) (by rfl) T.l_draw.g T.l_draw.k T.l_draw.b .nil pass0 (pa_cons (pv 2) (pa_cons pe_int pa_nil))) (fun _ _ => rfl)) (pe_call (ok_l_draw T) (hr.mono (by decide)) (by rfl) T.l_draw.g T.l_draw.k T.l_draw.b .nil pass0 (pa_cons (pv 2) (pa_cons pe_int pa_nil)))))
      (pss_cons (ps_set (i := 4) sc_law.nd rfl (Or.inl rfl) (pe_call (ok_l_text T) (hr.mono (by decide)) (by rfl) T.l_text.g T.l_text.k T.l_text.b .nil pass0 (pa_cons (pv 2) pa_nil)))
      (pss_cons (ps_set (i := 5) sc_law.nd rfl (Or.inl rfl) (pe_lst (pa_cons (pv 3) (pa_cons (pe_un un_neg (pv 3)) (pa_cons (pe_op op_pow pe_int pe_int) (pa_cons (pe_op op_sub (pe_op op_pow pe_int pe_int) pe_int) (pa_cons (pe_un un_neg (pe_op op_pow pe_int pe_int)) (pa_cons (pe_op op_sub pe_int (pe_op op_pow pe_int pe_int)) (pa_cons pe_int (pa_cons pe_bl (pa_cons pe_bl (pa_cons pe_non (pa_cons (pe_tup pa_nil) pa_nil)))))))))))))
      (pss_cons (ps_set (i := 5) sc_law.nd rfl (Or.inl rfl) (pe_op op_cat (pv 5) (pe_lst (pa_cons (pv 4) (pa_cons (pe_op op_add_str (pv 4) pe_str) (pa_cons pe_str (pa_cons pe_str (pa_cons pe_str (pa_cons pe_str (pa_cons pe_dnewK (pa_cons (pe_lst (pa_cons pe_str pa_nil)) (pa_cons (pe_tup (pa_cons pe_str pa_nil)) pa_nil))))))))))))
      (pss_cons (ps_for PassesOwn.never rfl (pi_list (pe_op op_cat (pv 5) (pe_lst (pa_cons (pe_tup (pa_cons pe_str (pa_cons pe_int pa_nil))) (pa_cons (pe_tup (pa_cons pe_str (pa_cons pe_non pa_nil))) pa_nil))))) (pg_name (i := 6) sc_law.nd rfl (Or.inl rfl)) (pss_cons (ps_set (i := 7) sc_law.nd rfl (Or.inl rfl) (pe_call (ok_l_due T) (hr.mono (by decide)) (by rfl) T.l_due.g T.l_due.k T.l_due.b .nil pass0 (pa_cons (pv 6) pa_nil)))
      (pss_one (ps_if (PW.pt (pw_or (pt_cmpR (op_neD hr.units) (pe_lst (pa_cons (pe_call (ok_is_mark T) (hr.mono (by decide)) (by rfl) T.is_mark.g T.is_mark.k T.is_mark.b .nil pass0 (pa_cons (pv 6) pa_nil)) (pa_cons (pe_call (ok_is_name T) (hr.mono (by decide)) (by rfl) T.is_name.g T.is_name.k T.is_name.b .nil pass0 (pa_cons (pv 6) pa_nil)) (pa_cons (pe_call (ok_is_plain T) (hr.mono (by decide)) (by rfl) T.is_plain.g T.is_plain.k T.is_plain.b .nil pass0 (pa_cons (pv 6) pa_nil)) pa_nil)))) (pv 7) (nomark _)) (pw_or1 (pt_cmpR op_ne (pe_call (ok_is_worth T) (hr.mono (by decide)) (by rfl) T.is_worth.g T.is_worth.k T.is_worth.b .nil pass0 (pa_cons (pv 6) pa_nil)) (pe_ix ix_list (pv 7) pe_int (fun _ _ => rfl)) (nomark _))))) (pss_one (ps_ret pe_bl)) pss_nil))))
      (pss_cons (ps_if (PW.pt (pw_or (pt_not (pt_val (pe_call (ok_l_references T) (hr.mono (by decide)) (by rfl) T.l_references.g T.l_references.k T.l_references.b .nil pass0 (pa_cons (pv 4) pa_nil)))) (pw_or1 (pt_not (pt_val (pe_call (ok_l_references T) (hr.mono (by decide)) (by rfl) T.l_references.g T.l_references.k T.l_references.b .nil pass0 (pa_cons pe_str pa_nil))))))) (pss_one (ps_ret pe_bl)) pss_nil)
      (pss_one (ps_if (PW.pt (pw_or (pt_not (pt_val (pe_call (ok_is_worth T) (hr.mono (by decide)) (by rfl) T.is_worth.g T.is_worth.k T.is_worth.b .nil pass0 (pa_cons (pe_tup (pa_cons pe_str (pa_cons pe_str pa_nil))) pa_nil)))) (pw_or (pt_val (pe_call (ok_is_worth T) (hr.mono (by decide)) (by rfl) T.is_worth.g T.is_worth.k T.is_worth.b .nil pass0 (pa_cons (pe_tup (pa_cons pe_str (pa_cons pe_bl pa_nil))) pa_nil))) (pw_or1 (pt_val (pe_call (ok_is_worth T) (hr.mono (by decide)) (by rfl) T.is_worth.g T.is_worth.k T.is_worth.b .nil pass0 (pa_cons (pe_tup (pa_cons pe_bl (pa_cons pe_str pa_nil))) pa_nil))))))) (pss_one (ps_ret pe_bl)) pss_nil))))))))))
      (pss_one (ps_ret (pe_and (pe_callK0 (ok_is_mark T) (hr.mono (by decide)) (by rfl) T.is_mark.g T.is_mark.k (kbind1 T.is_mark.F (fun _ _ _ _ _ _ _ => rfl) (fun _ _ _ _ _ _ _ => rfl)) pass0 (pk_cons pe_str pk_nil)) (pe_and (pe_callK0 (ok_is_name T) (hr.mono (by decide)) (by rfl) T.is_name.g T.is_name.k (kbind1 T.is_name.F (fun _ _ _ _ _ _ _ => rfl) (fun _ _ _ _ _ _ _ => rfl)) pass0 (pk_cons pe_str pk_nil)) (pe_and (pe_callK0 (ok_is_plain T) (hr.mono (by decide)) (by rfl) T.is_plain.g T.is_plain.k (kbind1 T.is_plain.F (fun _ _ _ _ _ _ _ => rfl) (fun _ _ _ _ _ _ _ => rfl)) pass0 (pk_cons pe_int pk_nil)) (pe_one (pe_callK0 (ok_is_worth T) (hr.mono (by decide)) (by rfl) T.is_worth.g T.is_worth.k (kbind1 T.is_worth.F (fun _ _ _ _ _ _ _ => rfl) (fun _ _ _ _ _ _ _ => rfl)) pass0 (pk_cons pe_int pk_nil))))))))), ?_⟩
    refine ⟨_, rfl, l, _, rfl, .inl hS, _, _, rfl, _, _, rfl, ?_⟩
    generalize hN : (if (if (8 : Int) < (((ns.map V.int).length : Nat) : Int) then (8 : Int) else (((ns.map V.int).length : Nat) : Int)) > 1 then (if (8 : Int) < (((ns.map V.int).length : Nat) : Int) then (8 : Int) else (((ns.map V.int).length : Nat) : Int)) else 1) = N
    have hN1 : N ≤ 8 := by rw [← hN]; split <;> (try split) <;> omega
    have hN0 : 0 ≤ N := by rw [← hN]; split <;> (try split) <;> omega
    refine ⟨N, rfl, by omega, by omega, for_range (lo := 0) (n := N.toNat) (fun i σ H' => Same H H' ∧ ∃ o1 o2 o3 o4 o5 o6 o7, σ = [some (.ref l), o1, o2, o3, o4, o5, o6, o7]) ?_ ?_ ?_⟩
    · exact ⟨Same.refl _, _, _, _, _, _, _, _, rfl⟩
    · rintro i σ H0 hi ⟨s0, o1, o2, o3, o4, o5, o6, o7, rfl⟩
      -- the pool
      refine ⟨_, rfl, _, rfl, l, ns, _, rfl, s0.seq hS, by omega, by omega, fun H1 p hp s1 pl1 => ?_⟩
      -- great
      refine ⟨10, 9, rfl, rfl, ⟨by decide, by decide, by decide⟩, 10, 28, rfl, rfl, ⟨by decide, by decide, by decide⟩, 10, 29, rfl, rfl, ⟨by decide, by decide, by decide⟩, 10, 30, rfl, rfl, ⟨by decide, by decide, by decide⟩, 10, 31, rfl, rfl, ⟨by decide, by decide, by decide⟩,
        by show 6 ≤ sizeLine; decide, fun q1 hq1 => ?_⟩
      refine ⟨_, rfl, p, 6, rfl, pl1.new hq1, by decide, by decide, fun n1 H2 hn1 x2 pl2 => ?_⟩
      obtain ⟨v, hv, hat⟩ := pick (xs := [.int 10, .int (10 ^ Int.toNat 9), .int (10 ^ Int.toNat 28), .int (10 ^ Int.toNat 29), .int (10 ^ Int.toNat 30), .int (10 ^ Int.toNat 31)]) (n := n1) (by simp; omega)
      obtain ⟨gr, rfl⟩ : ∃ z : Int, v = .int z := by
        simp only [List.mem_cons, List.not_mem_nil, or_false] at hv
        rcases hv with rfl | rfl | rfl | rfl | rfl | rfl <;> exact ⟨_, rfl⟩
      refine ⟨q1, _, _, _, rfl, rfl, SqL.of (x2 _ _ (pl1.ne hq1).symm upd_same), hat, ?_⟩
      refine ⟨_, rfl, p, 3, rfl, pl2, by decide, by decide, fun n2 H3 hn2 x3 pl3 => ⟨_, _, rfl, rfl, ?_⟩⟩
      dsimp only
      generalize gr - (n2 : Int) = g
      -- the text
      refine ⟨_, rfl, p, rfl, pl3, fun x H4 hx hxa x4 pl4 => ?_⟩
      have s4 : Same H0 H4 := same_sx (same_sx (same_sx (same_new2 s1 hq1) hp x2) hp x3) hp x4
      have hxl : x.length ≤ sizeLine := by rw [sizeLine_eq]; omega
      have xat : x ≠ "at" := by
        intro e
        have h1 := hxa 116 (by rw [e]; decide +kernel)
        exact h1.2 rfl
      have ha := hxa.asc
      -- the things
      refine ⟨_, rfl, _, rfl, g, rfl, 10, 30, rfl, rfl, ⟨by decide, by decide, by decide⟩, 10, 30, rfl, rfl, ⟨by decide, by decide, by decide⟩, _, _, rfl, rfl, 10, 30, rfl, rfl, ⟨by decide, by decide, by decide⟩, _, rfl, 10, 30, rfl, rfl, ⟨by decide, by decide, by decide⟩, _, _, rfl, rfl, Nat.zero_le _, fun t0 ht0 => ?_⟩
      obtain ⟨H5, e5, s5, f5⟩ := newH (.tup []) ht0
      rw [e5]
      refine ⟨by show 11 ≤ sizeLine; decide, fun L1 hL1 => ?_⟩
      dsimp only
      generalize hxs1 : [V.int g, V.int (-g), V.int (10 ^ Int.toNat 30), V.int (10 ^ Int.toNat 30 - 1), V.int (-10 ^ Int.toNat 30), V.int (1 - 10 ^ Int.toNat 30), V.int 0, V.bl true, V.bl false, V.non, V.ref t0] = xs1
      obtain ⟨H6, e6, s6, f6⟩ := newH (.lst xs1) hL1
      rw [e6]
      refine ⟨_, rfl, _, rfl, _, rfl, _, _, rfl, rfl, (by have e1 : ("a" : Str).length = 1 := by decide +kernel
                                                          rw [sizeLine_eq, e1]; omega), fun d1 hd1 => ?_⟩
      obtain ⟨H7, e7, s7, f7⟩ := newH (.dK []) hd1
      rw [e7]
      refine ⟨by show 1 ≤ sizeLine; decide, fun m1 hm1 => ?_⟩
      obtain ⟨H8, e8, s8, f8⟩ := newH (.lst [.str "a"]) hm1
      rw [e8]
      refine ⟨by show 1 ≤ sizeLine; decide, fun t1 ht1 => ?_⟩
      obtain ⟨H9, e9, s9, f9⟩ := newH (.tup [.str "a"]) ht1
      rw [e9]
      refine ⟨by show 9 ≤ sizeLine; decide, fun L2 hL2 => ?_⟩
      dsimp only
      generalize hxs2 : [V.str x, V.str (x ++ "a"), V.str "at", V.str "", V.str "a1", V.str "1a", V.ref d1, V.ref m1, V.ref t1] = xs2
      obtain ⟨HA, eA, sA, fA⟩ := newH (.lst xs2) hL2
      rw [eA]
      have l1 : xs1.length = 11 := by rw [← hxs1]; rfl
      have l2 : xs2.length = 9 := by rw [← hxs2]; rfl
      refine ⟨L1, L2, xs1, xs2, rfl, rfl, sA _ _ (s9 _ _ (s8 _ _ (s7 _ _ f6))), fA, by rw [sizeLine_eq]; omega, fun L3 hL3 => ?_⟩
      obtain ⟨HB, eB, sB, fB⟩ := newH (.lst (xs1 ++ xs2)) hL3
      rw [eB]
      refine ⟨_, rfl, by show 2 ≤ sizeLine; decide, fun t2 ht2 => ?_⟩
      obtain ⟨HC, eC, sC, fC⟩ := newH (.tup [.str "at", .int 5]) ht2
      rw [eC]
      refine ⟨by show 2 ≤ sizeLine; decide, fun t3 ht3 => ?_⟩
      obtain ⟨HD, eD, sD, fD⟩ := newH (.tup [.str "at", .non]) ht3
      rw [eD]
      refine ⟨by show 2 ≤ sizeLine; decide, fun L4 hL4 => ?_⟩
      obtain ⟨HE, eE, sE, fE⟩ := newH (.lst [.ref t2, .ref t3]) hL4
      rw [eE]
      refine ⟨L3, L4, _, _, rfl, rfl, sE _ _ (sD _ _ (sC _ _ fB)), fE, by rw [sizeLine_eq, List.length_append]; show xs1.length + xs2.length + 2 ≤ _; omega, fun L5 hL5 => ?_⟩
      generalize hxs : xs1 ++ xs2 ++ [V.ref t2, V.ref t3] = xs
      obtain ⟨HF, eF, sF, fF⟩ := newH (.lst xs) hL5
      rw [eF]
      have z5 : Same H5 HF := s6.trans (s7.trans (s8.trans (s9.trans (sA.trans (sB.trans (sC.trans (sD.trans (sE.trans sF))))))))
      have z7 : Same H7 HF := s8.trans (s9.trans (sA.trans (sB.trans (sC.trans (sD.trans (sE.trans sF))))))
      have z8 : Same H8 HF := s9.trans (sA.trans (sB.trans (sC.trans (sD.trans (sE.trans sF)))))
      have z9 : Same H9 HF := sA.trans (sB.trans (sC.trans (sD.trans (sE.trans sF))))
      have zC : Same HC HF := sD.trans (sE.trans sF)
      have zD : Same HD HF := sE.trans sF
      have z0 : Same H0 HF := s4.trans (s5.trans z5)
      have hxa1 : ("a" : Str).length = 1 := by decide +kernel
      have all : ∀ v ∈ xs, Thing K HF v := by
        intro v hv
        rw [← hxs, ← hxs1, ← hxs2] at hv
        simp only [List.cons_append, List.nil_append, List.mem_cons, List.not_mem_nil, or_false] at hv
        rcases hv with rfl | rfl | rfl | rfl | rfl | rfl | rfl | rfl | rfl | rfl | rfl | rfl | rfl | rfl | rfl | rfl | rfl | rfl | rfl | rfl | rfl | rfl
        · exact thing_int _
        · exact thing_int _
        · exact thing_int _
        · exact thing_int _
        · exact thing_int _
        · exact thing_int _
        · exact thing_int _
        · exact thing_flat (any_bl _) (fun _ e => by cases e) (by decide)
        · exact thing_flat (any_bl _) (fun _ e => by cases e) (by decide)
        · exact thing_flat any_non (fun _ e => by cases e) (by decide)
        · exact thing_tup (z5 _ _ f5) (by simp) rfl
        · exact thing_str (by omega) ha
        · exact thing_str (by rw [app_len]; omega) (app_asc ha (by decide +kernel))
        · exact thing_str (by decide +kernel) (by decide +kernel)
        · exact thing_str (by decide +kernel) (by decide +kernel)
        · exact thing_str (by decide +kernel) (by decide +kernel)
        · exact thing_str (by decide +kernel) (by decide +kernel)
        · exact thing_flat (any_dK (z7 _ _ f7)) (okT_ref _) (by decide)
        · exact thing_flat (any_lst (z8 _ _ f8)) (okT_ref _) (by decide)
        · refine thing_tup (z9 _ _ f9) (fun y hy => ?_) rfl
          simp at hy
          rw [hy]
          exact ⟨_, any_str (by decide +kernel)⟩
        · refine thing_tup (zC _ _ fC) (fun y hy => ?_) (by decide +kernel)
          simp at hy
          rcases hy with rfl | rfl
          · exact ⟨_, any_str (by decide +kernel)⟩
          · exact ⟨_, any_int _⟩
        · refine thing_tup (zD _ _ fD) (fun y hy => ?_) (by decide +kernel)
          simp at hy
          rcases hy with rfl | rfl
          · exact ⟨_, any_str (by decide +kernel)⟩
          · exact ⟨_, any_non⟩
      clear hxs hxs1 hxs2
      refine ⟨L5, rfl, ⟨xs, SqL.of fF⟩, for_list (K := K) (a := L5) (xs := xs) (fun j σ H' => Same HF H' ∧ ∃ o6 o7, σ = [some (.ref l), some (.int (0 + (i : Int))), some (.ref p), some (.int g), some (.str x), some (.ref L3), o6, o7])
        ⟨Same.refl _, _, _, rfl⟩ (fun j σ H' _ h => SqL.of (h.1 _ _ fF)) ?_ ?_⟩
      · rintro j v σ HG hj ⟨sG, o6, o7, rfl⟩
        obtain ⟨ty, b, av, ov, rv, eb⟩ := (all v (List.mem_of_getElem? hj)).mono sG
        refine ⟨_, rfl, v, ty, rfl, av, ov, fun HH q hq sH hl => ?_⟩
        refine ⟨_, rfl, v, ty, rfl, av.mono sH, fun HI sI => ?_⟩
        refine ⟨_, rfl, v, ty, rfl, av.mono (sH.trans sI), fun HJ sJ => ?_⟩
        refine ⟨_, rfl, v, ty, rfl, av.mono (sH.trans (sI.trans sJ)), fun HK sK => ?_⟩
        refine ⟨by show 3 ≤ sizeLine; decide, fun m hm => ?_⟩
        obtain ⟨HL, eL, sL, fL⟩ := newH (.lst [.bl (markV v), .bl (nameV v), .bl (plainV v)]) hm
        rw [eL]
        have zH : Same HH HL := sI.trans (sJ.trans (sK.trans sL))
        refine ⟨_, rfl, .list [.bool (markV v), .bool (nameV v), .bool (plainV v)], .list [.bool (markV v), .bool (nameV v), .bool (plainV v)], .lst (SqL.of fL) (.cons (.bl _) (.cons (.bl _) (.cons (.bl _) .nil))), .lst (SqL.of (zH _ _ hl)) (.cons (.bl _) (.cons (.bl _) (.cons (.bl _) .nil))), shaped3 _ _ _, shaped3 _ _ _, _, rfl, ?_⟩
        refine ifF (by rw [SeqAt.eqv_refl _ (SeqAt.canLay_of_shaped (shaped3 _ _ _))]; rfl) ?_
        have aL := av.mono (sH.trans zH)
        have rL := rv.mono (sH.trans zH)
        refine ⟨_, rfl, v, ty, b, rfl, aL, rL, fun HM sM => ?_⟩
        rw [eb]
        refine ⟨_, rfl, q, _, 2, _, rfl, rfl, SqL.of (sM _ _ (zH _ _ hl)), rfl, rfl, _, rfl, ?_⟩
        refine ifF (by simp) ?_
        exact ⟨sG.trans (sH.trans (zH.trans sM)), _, _, rfl⟩
      · rintro σ HG ⟨sG, o6, o7, rfl⟩
        refine ⟨_, rfl, x, rfl, by omega, xat, fun HH sH => ⟨_, rfl, iteF ?_⟩⟩
        refine ⟨"a1", rfl, by decide +kernel, by decide +kernel, fun HI sI => ⟨_, rfl, iteF ?_⟩⟩
        have zI : Same H0 HI := z0.trans (sG.trans (sH.trans sI))
        have two : ∀ (H' : Hp) (v1 v2 : V) (p : Addr), (∃ t, AnyV K H' v1 t) → (∃ t, AnyV K H' v2 t) → H' p = some (.tup [v1, v2]) → AnyV K H' (.ref p) "tuple" ∧ RefIs K H' (.ref p) "tuple" (refVs [v1, v2]) := by
          intro H' v1 v2 p h1 h2 hp
          refine ⟨any_tup hp, .inr ⟨p, _, rfl, rfl, SqT.of hp, fun v hv => ?_, rfl⟩⟩
          simp at hv
          rcases hv with rfl | rfl
          · exact h1
          · exact h2
        refine ⟨by show 2 ≤ sizeLine; decide, fun u1 hu1 => ?_⟩
        obtain ⟨a1, r1⟩ := two _ (.str "at") (.str "a") u1 ⟨_, any_str (by decide +kernel)⟩ ⟨_, any_str (by decide +kernel)⟩ (upd_same (H := HI))
        refine ⟨_, _, _, rfl, a1, r1, fun HJ sJ => ⟨_, rfl, ifF (by show (!(false || refVs [V.str "at", V.str "a"])) = false; decide +kernel) ?_⟩⟩
        refine ⟨by show 2 ≤ sizeLine; decide, fun u2 hu2 => ?_⟩
        obtain ⟨a2, r2⟩ := two _ (.str "at") (.bl true) u2 ⟨_, any_str (by decide +kernel)⟩ ⟨_, any_bl _⟩ (upd_same (H := HJ))
        refine ⟨_, _, _, rfl, a2, r2, fun HK sK => ⟨_, rfl, ifF (by show (false || refVs [V.str "at", V.bl true]) = false; decide +kernel) ?_⟩⟩
        refine ⟨by show 2 ≤ sizeLine; decide, fun u3 hu3 => ?_⟩
        obtain ⟨a3, r3⟩ := two _ (.bl true) (.str "a") u3 ⟨_, any_bl _⟩ ⟨_, any_str (by decide +kernel)⟩ (upd_same (H := HK))
        refine ⟨_, _, _, rfl, a3, r3, fun HL sL => ⟨_, rfl, ifF (by show (false || refVs [V.bl true, V.str "a"]) = false; decide +kernel) ?_⟩⟩
        exact ⟨s0.trans (zI.trans ((same_new hu1).trans (sJ.trans ((same_new hu2).trans (sK.trans ((same_new hu3).trans sL)))))), _, _, _, _, _, _, _, rfl⟩
    · rintro σ H0 ⟨s0, o1, o2, o3, o4, o5, o6, o7, rfl⟩
      refine ⟨.str "a", _, rfl, any_str (by decide +kernel), fun H1 s1 => ⟨_, rfl, ifT (by decide +kernel) ?_⟩⟩
      refine ⟨.str "a", _, rfl, any_str (by decide +kernel), fun H2 s2 => ⟨_, rfl, ifT (by decide +kernel) ?_⟩⟩
      refine ⟨.int 1, _, rfl, any_int 1, fun H3 s3 => ⟨_, rfl, ifT (by decide +kernel) ?_⟩⟩
      refine ⟨.int 1, _, false, rfl, any_int 1, .inl ⟨by decide, rfl⟩, fun H4 s4 => ?_⟩
      exact k H4
end
end SB

namespace SB
open PySem L2
theorem all_mk {l : PySem.W.OpenLaw} {w : World} {K : PySem.W.Frag} {h : Heap} {mg : Str → Option Value} {fa : Addr} (X : K.In h) (G : h.Ns mainGlobals mg) (hfa : mg "law" = some (.ref fa))
    {oc0 kV0 dc0 pm0 cd0 ct0 : Value} {od0 an0 : Option Addr} {sl0 : Array (Option Value)} {f0 : Addr}
    (a0 : PySem.W.nsIn K mainGlobals "is_made_of" = some (some (.ref f0))) (l0 : K.lookup f0 = some ⟨oc0, od0, .func (PySem.W.fnOf "is_made_of" "is_made_of" (defArgs s_is_made_of) (defBody s_is_made_of) (defScope s_is_made_of) .none kV0 dc0 pm0 an0 cd0 ct0), sl0⟩) (c0 : PySem.W.codeIn K cd0 "is_made_of" = true) (k0 : PySem.W.keepIn K (.ref f0) = true)
    {oc1 kV1 dc1 pm1 cd1 ct1 : Value} {od1 an1 : Option Addr} {sl1 : Array (Option Value)} {f1 : Addr}
    (a1 : PySem.W.nsIn K mainGlobals "is_name" = some (some (.ref f1))) (l1 : K.lookup f1 = some ⟨oc1, od1, .func (PySem.W.fnOf "is_name" "is_name" (defArgs s_is_name) (defBody s_is_name) (defScope s_is_name) .none kV1 dc1 pm1 an1 cd1 ct1), sl1⟩) (c1 : PySem.W.codeIn K cd1 "is_name" = true) (k1 : PySem.W.keepIn K (.ref f1) = true)
    {oc2 kV2 dc2 pm2 cd2 ct2 : Value} {od2 an2 : Option Addr} {sl2 : Array (Option Value)} {f2 : Addr}
    (a2 : PySem.W.nsIn K mainGlobals "is_mark" = some (some (.ref f2))) (l2 : K.lookup f2 = some ⟨oc2, od2, .func (PySem.W.fnOf "is_mark" "is_mark" (defArgs s_is_mark) (defBody s_is_mark) (defScope s_is_mark) .none kV2 dc2 pm2 an2 cd2 ct2), sl2⟩) (c2 : PySem.W.codeIn K cd2 "is_mark" = true) (k2 : PySem.W.keepIn K (.ref f2) = true)
    {oc3 kV3 dc3 pm3 cd3 ct3 : Value} {od3 an3 : Option Addr} {sl3 : Array (Option Value)} {f3 : Addr}
    (a3 : PySem.W.nsIn K mainGlobals "is_integer" = some (some (.ref f3))) (l3 : K.lookup f3 = some ⟨oc3, od3, .func (PySem.W.fnOf "is_integer" "is_integer" (defArgs s_is_integer) (defBody s_is_integer) (defScope s_is_integer) .none kV3 dc3 pm3 an3 cd3 ct3), sl3⟩) (c3 : PySem.W.codeIn K cd3 "is_integer" = true) (k3 : PySem.W.keepIn K (.ref f3) = true)
    {oc4 kV4 dc4 pm4 cd4 ct4 : Value} {od4 an4 : Option Addr} {sl4 : Array (Option Value)} {f4 : Addr}
    (a4 : PySem.W.nsIn K mainGlobals "is_plain" = some (some (.ref f4))) (l4 : K.lookup f4 = some ⟨oc4, od4, .func (PySem.W.fnOf "is_plain" "is_plain" (defArgs s_is_plain) (defBody s_is_plain) (defScope s_is_plain) .none kV4 dc4 pm4 an4 cd4 ct4), sl4⟩) (c4 : PySem.W.codeIn K cd4 "is_plain" = true) (k4 : PySem.W.keepIn K (.ref f4) = true)
    {oc5 kV5 dc5 pm5 cd5 ct5 : Value} {od5 an5 : Option Addr} {sl5 : Array (Option Value)} {f5 : Addr}
    (a5 : PySem.W.nsIn K mainGlobals "is_reference" = some (some (.ref f5))) (l5 : K.lookup f5 = some ⟨oc5, od5, .func (PySem.W.fnOf "is_reference" "is_reference" (defArgs s_is_reference) (defBody s_is_reference) (defScope s_is_reference) .none kV5 dc5 pm5 an5 cd5 ct5), sl5⟩) (c5 : PySem.W.codeIn K cd5 "is_reference" = true) (k5 : PySem.W.keepIn K (.ref f5) = true)
    {oc6 kV6 dc6 pm6 cd6 ct6 : Value} {od6 an6 : Option Addr} {sl6 : Array (Option Value)} {f6 : Addr}
    (a6 : PySem.W.nsIn K mainGlobals "is_worth" = some (some (.ref f6))) (l6 : K.lookup f6 = some ⟨oc6, od6, .func (PySem.W.fnOf "is_worth" "is_worth" (defArgs s_is_worth) (defBody s_is_worth) (defScope s_is_worth) .none kV6 dc6 pm6 an6 cd6 ct6), sl6⟩) (c6 : PySem.W.codeIn K cd6 "is_worth" = true) (k6 : PySem.W.keepIn K (.ref f6) = true)
    {oc7 kV7 dc7 pm7 cd7 ct7 : Value} {od7 an7 : Option Addr} {sl7 : Array (Option Value)} {f7 : Addr}
    (a7 : PySem.W.nsIn K mainGlobals "_law_pool" = some (some (.ref f7))) (l7 : K.lookup f7 = some ⟨oc7, od7, .func (PySem.W.fnOf "_law_pool" "_law_pool" (defArgs s_l_pool) (defBody s_l_pool) (defScope s_l_pool) .none kV7 dc7 pm7 an7 cd7 ct7), sl7⟩) (c7 : PySem.W.codeIn K cd7 "_law_pool" = true) (k7 : PySem.W.keepIn K (.ref f7) = true)
    {oc8 kV8 dc8 pm8 cd8 ct8 : Value} {od8 an8 : Option Addr} {sl8 : Array (Option Value)} {f8 : Addr}
    (a8 : PySem.W.nsIn K mainGlobals "_law_draw" = some (some (.ref f8))) (l8 : K.lookup f8 = some ⟨oc8, od8, .func (PySem.W.fnOf "_law_draw" "_law_draw" (defArgs s_l_draw) (defBody s_l_draw) (defScope s_l_draw) .none kV8 dc8 pm8 an8 cd8 ct8), sl8⟩) (c8 : PySem.W.codeIn K cd8 "_law_draw" = true) (k8 : PySem.W.keepIn K (.ref f8) = true)
    {oc9 kV9 dc9 pm9 cd9 ct9 : Value} {od9 an9 : Option Addr} {sl9 : Array (Option Value)} {f9 : Addr}
    (a9 : PySem.W.nsIn K mainGlobals "_law_text" = some (some (.ref f9))) (l9 : K.lookup f9 = some ⟨oc9, od9, .func (PySem.W.fnOf "_law_text" "_law_text" (defArgs s_l_text) (defBody s_l_text) (defScope s_l_text) .none kV9 dc9 pm9 an9 cd9 ct9), sl9⟩) (c9 : PySem.W.codeIn K cd9 "_law_text" = true) (k9 : PySem.W.keepIn K (.ref f9) = true)
    {oc10 kV10 dc10 pm10 cd10 ct10 : Value} {od10 an10 : Option Addr} {sl10 : Array (Option Value)} {f10 : Addr}
    (a10 : PySem.W.nsIn K mainGlobals "_law_is_made" = some (some (.ref f10))) (l10 : K.lookup f10 = some ⟨oc10, od10, .func (PySem.W.fnOf "_law_is_made" "_law_is_made" (defArgs s_l_is_made) (defBody s_l_is_made) (defScope s_l_is_made) .none kV10 dc10 pm10 an10 cd10 ct10), sl10⟩) (c10 : PySem.W.codeIn K cd10 "_law_is_made" = true) (k10 : PySem.W.keepIn K (.ref f10) = true)
    {oc11 kV11 dc11 pm11 cd11 ct11 : Value} {od11 an11 : Option Addr} {sl11 : Array (Option Value)} {f11 : Addr}
    (a11 : PySem.W.nsIn K mainGlobals "_law_due" = some (some (.ref f11))) (l11 : K.lookup f11 = some ⟨oc11, od11, .func (PySem.W.fnOf "_law_due" "_law_due" (defArgs s_l_due) (defBody s_l_due) (defScope s_l_due) .none kV11 dc11 pm11 an11 cd11 ct11), sl11⟩) (c11 : PySem.W.codeIn K cd11 "_law_due" = true) (k11 : PySem.W.keepIn K (.ref f11) = true)
    {oc12 kV12 dc12 pm12 cd12 ct12 : Value} {od12 an12 : Option Addr} {sl12 : Array (Option Value)} {f12 : Addr}
    (a12 : PySem.W.nsIn K mainGlobals "_law_references" = some (some (.ref f12))) (l12 : K.lookup f12 = some ⟨oc12, od12, .func (PySem.W.fnOf "_law_references" "_law_references" (defArgs s_l_references) (defBody s_l_references) (defScope s_l_references) .none kV12 dc12 pm12 an12 cd12 ct12), sl12⟩) (c12 : PySem.W.codeIn K cd12 "_law_references" = true) (k12 : PySem.W.keepIn K (.ref f12) = true)
    {oc13 kV13 dc13 pm13 cd13 ct13 : Value} {od13 an13 : Option Addr} {sl13 : Array (Option Value)} {f13 : Addr}
    (a13 : PySem.W.nsIn K mainGlobals "law" = some (some (.ref f13))) (l13 : K.lookup f13 = some ⟨oc13, od13, .func (PySem.W.fnOf "law" "law" (defArgs s_law) (defBody s_law) (defScope s_law) .none kV13 dc13 pm13 an13 cd13 ct13), sl13⟩) (c13 : PySem.W.codeIn K cd13 "law" = true) (k13 : PySem.W.keepIn K (.ref f13) = true)
    {t_LETTERS : Tok} (g_LETTERS : PySem.W.nsIn K mainGlobals "LETTERS" = some (some (.str "abcdefghijklmnopqrstuvwxyz" t_LETTERS)))
    {t_DIGITS : Tok} (g_DIGITS : PySem.W.nsIn K mainGlobals "DIGITS" = some (some (.str "0123456789" t_DIGITS)))
    {t_AT : Tok} (g_AT : PySem.W.nsIn K mainGlobals "AT" = some (some (.str "at" t_AT)))
    (z_abs : PySem.W.nsIn K mainGlobals "abs" = some none)
    (z_all : PySem.W.nsIn K mainGlobals "all" = some none)
    (z_bool : PySem.W.nsIn K mainGlobals "bool" = some none)
    (z_int : PySem.W.nsIn K mainGlobals "int" = some none)
    (z_isinstance : PySem.W.nsIn K mainGlobals "isinstance" = some none)
    (z_len : PySem.W.nsIn K mainGlobals "len" = some none)
    (z_max : PySem.W.nsIn K mainGlobals "max" = some none)
    (z_min : PySem.W.nsIn K mainGlobals "min" = some none)
    (z_range : PySem.W.nsIn K mainGlobals "range" = some none)
    (z_str : PySem.W.nsIn K mainGlobals "str" = some none)
    (z_sum : PySem.W.nsIn K mainGlobals "sum" = some none)
    (z_tuple : PySem.W.nsIn K mainGlobals "tuple" = some none) :
    ∃ fd : FuncData, (∀ (s : Shared) (v : Value), BindsTo s fd ⟨[v], []⟩ [("_law_script", v)]) ∧ ∀ base : Heap, K.In base → base.Ns mainGlobals mg → FnOk l.prog w K mg base CX0 6 fa fd ["_law_script"] (spLaw K) := by
  have e := hfa.symm.trans (PySem.W.mg_of X G a13)
  cases e
  have F0 := fun_mk (st := s_is_made_of) l0 c0 k0
  have b0 := F0.binds (ps := ["text", "signs"]) fun _ _ _ _ _ _ us hl => match us, hl with | [_, _], _ => rfl
  have F1 := fun_mk (st := s_is_name) l1 c1 k1
  have b1 := F1.binds (ps := ["value"]) fun _ _ _ _ _ _ us hl => match us, hl with | [_], _ => rfl
  have F2 := fun_mk (st := s_is_mark) l2 c2 k2
  have b2 := F2.binds (ps := ["value"]) fun _ _ _ _ _ _ us hl => match us, hl with | [_], _ => rfl
  have F3 := fun_mk (st := s_is_integer) l3 c3 k3
  have b3 := F3.binds (ps := ["value"]) fun _ _ _ _ _ _ us hl => match us, hl with | [_], _ => rfl
  have F4 := fun_mk (st := s_is_plain) l4 c4 k4
  have b4 := F4.binds (ps := ["value"]) fun _ _ _ _ _ _ us hl => match us, hl with | [_], _ => rfl
  have F5 := fun_mk (st := s_is_reference) l5 c5 k5
  have b5 := F5.binds (ps := ["value"]) fun _ _ _ _ _ _ us hl => match us, hl with | [_], _ => rfl
  have F6 := fun_mk (st := s_is_worth) l6 c6 k6
  have b6 := F6.binds (ps := ["value"]) fun _ _ _ _ _ _ us hl => match us, hl with | [_], _ => rfl
  have F7 := fun_mk (st := s_l_pool) l7 c7 k7
  have b7 := F7.binds (ps := ["_law_script", "_law_k"]) fun _ _ _ _ _ _ us hl => match us, hl with | [_, _], _ => rfl
  have F8 := fun_mk (st := s_l_draw) l8 c8 k8
  have b8 := F8.binds (ps := ["_law_pool_here", "_law_many"]) fun _ _ _ _ _ _ us hl => match us, hl with | [_, _], _ => rfl
  have F9 := fun_mk (st := s_l_text) l9 c9 k9
  have b9 := F9.binds (ps := ["_law_pool_here"]) fun _ _ _ _ _ _ us hl => match us, hl with | [_], _ => rfl
  have F10 := fun_mk (st := s_l_is_made) l10 c10 k10
  have b10 := F10.binds (ps := ["_law_text_here", "_law_signs"]) fun _ _ _ _ _ _ us hl => match us, hl with | [_, _], _ => rfl
  have F11 := fun_mk (st := s_l_due) l11 c11 k11
  have b11 := F11.binds (ps := ["_law_thing"]) fun _ _ _ _ _ _ us hl => match us, hl with | [_], _ => rfl
  have F12 := fun_mk (st := s_l_references) l12 c12 k12
  have b12 := F12.binds (ps := ["_law_text_here"]) fun _ _ _ _ _ _ us hl => match us, hl with | [_], _ => rfl
  have F13 := fun_mk (st := s_law) l13 c13 k13
  have b13 := F13.binds (ps := ["_law_script"]) fun _ _ _ _ _ _ us hl => match us, hl with | [_], _ => rfl
  have T : Txt K mg ⟨_, _, _, _, _, _, _, _, _, _, _, _, _, _, _, _, _, _, _, _, _, _, _, _, _, _, _, _, t_LETTERS, t_DIGITS, t_AT⟩ := ⟨⟨F0, PySem.W.mg_of X G a0, k0, b0⟩, ⟨F1, PySem.W.mg_of X G a1, k1, b1⟩, ⟨F2, PySem.W.mg_of X G a2, k2, b2⟩, ⟨F3, PySem.W.mg_of X G a3, k3, b3⟩, ⟨F4, PySem.W.mg_of X G a4, k4, b4⟩, ⟨F5, PySem.W.mg_of X G a5, k5, b5⟩, ⟨F6, PySem.W.mg_of X G a6, k6, b6⟩, ⟨F7, PySem.W.mg_of X G a7, k7, b7⟩, ⟨F8, PySem.W.mg_of X G a8, k8, b8⟩, ⟨F9, PySem.W.mg_of X G a9, k9, b9⟩, ⟨F10, PySem.W.mg_of X G a10, k10, b10⟩, ⟨F11, PySem.W.mg_of X G a11, k11, b11⟩, ⟨F12, PySem.W.mg_of X G a12, k12, b12⟩, ⟨F13, PySem.W.mg_of X G a13, k13, b13⟩, PySem.W.mg_of X G g_LETTERS, PySem.W.mg_of X G g_DIGITS, PySem.W.mg_of X G g_AT, PySem.W.mg_none_of X G z_abs, PySem.W.mg_none_of X G z_all, PySem.W.mg_none_of X G z_bool, PySem.W.mg_none_of X G z_int, PySem.W.mg_none_of X G z_isinstance, PySem.W.mg_none_of X G z_len, PySem.W.mg_none_of X G z_max, PySem.W.mg_none_of X G z_min, PySem.W.mg_none_of X G z_range, PySem.W.mg_none_of X G z_str, PySem.W.mg_none_of X G z_sum, PySem.W.mg_none_of X G z_tuple⟩
  exact ⟨_, fun s v => .of_eq rfl, fun base _ _ => ok_law T⟩
theorem walk {l : PySem.W.OpenLaw} {q : Program} {loose : List Str} {XP : (Str → Option Value) → Heap → Prop} {YP : World → Heap → Prop} {d : DefRec} {K : Params → PySem.W.Frag} (hn : l.most = some 63) (hdf : d.params.defaults = [])
    (hY : ∀ (w : World) (h : Heap), YP w h → (K w.params).In h)
    (F : ∀ (w : World) (mg : Str → Option Value) (fa : Addr) (h : Heap), (K w.params).In h → h.Ns mainGlobals mg → mg d.name = some (.ref fa) →
      ∃ fd : FuncData, (∀ (s : Shared) (u : Value), BindsTo s fd ⟨[u], []⟩ [("_law_script", u)]) ∧ ∀ base : Heap, (K w.params).In base → base.Ns mainGlobals mg → FnOk l.prog w (K w.params) mg base CX0 6 fa fd ["_law_script"] (spLaw (K w.params))) :
    PySem.W.WalkO q loose XP YP l.row.toRowW d [] (fun f vs => PySem.call f vs) :=
  L2.walk_of (n := 63) (k := 6) (x := "_law_script") (CX := fun _ => CX0) (sp := fun w => spLaw (K w.params)) hn (by decide) hdf ⟨rfl, by decide, by decide⟩ hY F (fun _ _ a ns hl _ hS => ⟨a, ns, rfl, hS, hl, fun _ => rfl⟩) fun _ _ _ _ _ z => z
end SB
open PySem PySem.W PyProof.Rows
set_option maxRecDepth 100000 in
set_option maxHeartbeats 0 in
theorem PySem.Challenge.cw_samebytes_k01_marks_names_and_worths_holds : PySem.Challenge.rw_samebytes_k01_marks_names_and_worths.Holds := by
  w_on; o_law; k_head; (case hw => w_witness2)
  k_fill
  refine SB.walk (l := PySem.Challenge.rw_samebytes_k01_marks_names_and_worths) rfl rfl (fun w h Y => PySem.W.kIn_of Y) ?F
  case F =>
    intro w mg fa h KX G hmg
    refine' SB.all_mk KX G hmg ?a0 ?l0 ?c0 ?k0 ?a1 ?l1 ?c1 ?k1 ?a2 ?l2 ?c2 ?k2 ?a3 ?l3 ?c3 ?k3 ?a4 ?l4 ?c4 ?k4 ?a5 ?l5 ?c5 ?k5 ?a6 ?l6 ?c6 ?k6 ?a7 ?l7 ?c7 ?k7 ?a8 ?l8 ?c8 ?k8 ?a9 ?l9 ?c9 ?k9 ?a10 ?l10 ?c10 ?k10 ?a11 ?l11 ?c11 ?k11 ?a12 ?l12 ?c12 ?k12 ?a13 ?l13 ?c13 ?k13 ?g_LETTERS ?g_DIGITS ?g_AT ?z_abs ?z_all ?z_bool ?z_int ?z_isinstance ?z_len ?z_max ?z_min ?z_range ?z_str ?z_sum ?z_tuple
    (case a0 => k_is)
    (case l0 => k_is)
    (case c0 => k_is)
    (case k0 => k_is)
    (case a1 => k_is)
    (case l1 => k_is)
    (case c1 => k_is)
    (case k1 => k_is)
    (case a2 => k_is)
    (case l2 => k_is)
    (case c2 => k_is)
    (case k2 => k_is)
    (case a3 => k_is)
    (case l3 => k_is)
    (case c3 => k_is)
    (case k3 => k_is)
    (case a4 => k_is)
    (case l4 => k_is)
    (case c4 => k_is)
    (case k4 => k_is)
    (case a5 => k_is)
    (case l5 => k_is)
    (case c5 => k_is)
    (case k5 => k_is)
    (case a6 => k_is)
    (case l6 => k_is)
    (case c6 => k_is)
    (case k6 => k_is)
    (case a7 => k_is)
    (case l7 => k_is)
    (case c7 => k_is)
    (case k7 => k_is)
    (case a8 => k_is)
    (case l8 => k_is)
    (case c8 => k_is)
    (case k8 => k_is)
    (case a9 => k_is)
    (case l9 => k_is)
    (case c9 => k_is)
    (case k9 => k_is)
    (case a10 => k_is)
    (case l10 => k_is)
    (case c10 => k_is)
    (case k10 => k_is)
    (case a11 => k_is)
    (case l11 => k_is)
    (case c11 => k_is)
    (case k11 => k_is)
    (case a12 => k_is)
    (case l12 => k_is)
    (case c12 => k_is)
    (case k12 => k_is)
    (case a13 => k_is)
    (case l13 => k_is)
    (case c13 => k_is)
    (case k13 => k_is)
    (case g_LETTERS => k_is)
    (case g_DIGITS => k_is)
    (case g_AT => k_is)
    (case z_abs => k_is)
    (case z_all => k_is)
    (case z_bool => k_is)
    (case z_int => k_is)
    (case z_isinstance => k_is)
    (case z_len => k_is)
    (case z_max => k_is)
    (case z_min => k_is)
    (case z_range => k_is)
    (case z_str => k_is)
    (case z_sum => k_is)
    (case z_tuple => k_is)

