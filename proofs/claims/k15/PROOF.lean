import PyProof.Rows.All
import Wide.All
import OpenK.AllK
import Wide.FinOn
import HandS.ForMost
import HandS.IsInst
import HandS.Style
import HandS.Walk
import HandS.Codes
import KE.KExcSuper
import HandS.ForExc
import HandS.ExcSuper
import HandS.ExcIs
import PyProof.ReprRoads
import HandS.DictComp
import HandS.Finally
import KE.KDictZip
import PySem.Challenge.RW_samebytes_k15_maps_one_after_the_other
set_option Elab.async false
set_option linter.all false
set_option maxRecDepth 100000
set_option maxHeartbeats 4000000
namespace SB
open PySem L2

/-! ### heaps that stay but for one place -/
def SameX (D : Addr) (H H' : Hp) : Prop := ∀ b o, b ≠ D → H b = some o → H' b = some o
theorem Same.x {D : Addr} {H H' : Hp} (h : Same H H') : SameX D H H' := fun b o _ e => h b o e
theorem SameX.trans {D : Addr} {A B C : Hp} (a : SameX D A B) (b : SameX D B C) : SameX D A C := fun c o n e => b c o n (a c o n e)
theorem SameX.refl {D : Addr} {A : Hp} : SameX D A A := fun _ _ _ e => e
theorem SameX.put {D : Addr} {H : Hp} {o : HO} : SameX D H (upd H D o) := fun b u n e => by rw [upd_ne n]; exact e
theorem SameX.same {D : Addr} {H H' : Hp} (h : SameX D H H') (n : H D = none) : Same H H' := fun b o e => h b o (ne_of_none e n) e
theorem same_new {H : Hp} {p : Addr} {o : HO} (h : H p = none) : Same H (upd H p o) := fun b u e => by rw [upd_ne (ne_of_none e h)]; exact e
theorem same_new2 {H0 H : Hp} {p : Addr} {o : HO} (s : Same H0 H) (h : H p = none) : Same H0 (upd H p o) := s.trans (same_new h)

/-! ### tests whose answer is told by an equation -/
theorem ifT {c : Bool} {A B : Prop} (e : c = true) (h : A) : if c = true then A else B := by rw [if_pos e]; exact h
theorem ifF {c : Bool} {A B : Prop} (e : c = false) (h : B) : if c = true then A else B := by rw [if_neg (by rw [e]; decide)]; exact h
theorem ifB {c : Bool} {A B : Prop} (h1 : c = true → A) (h2 : c = false → B) : if c = true then A else B := by
  cases e : c with
  | true => exact ifT rfl (h1 e)
  | false => exact ifF rfl (h2 e)

theorem atI_int {α : Type} {xs : List α} {k : Int} {v : α} (h0 : 0 ≤ k) (h : xs[k.toNat]? = some v) : atI xs k = some v := by
  have ek : ((k.toNat : Nat) : Int) = k := by omega
  have e := atI_nat h
  rw [ek] at e
  exact e

/-! ### a def that stands at the module's top -/
structure Defd (K : PySem.W.Frag) (mg : Str → Option Value) (x : Str) (st : Stmt) (ps : List Str) (f : Addr) (fd : FuncData) : Prop where
  F : Fun K x x st f fd
  g : mg x = some (.ref f)
  k : PySem.W.keepIn K (.ref f) = true
  b : Binds K fd ps []

/-! ### a call by names alone -/
section
variable {X : Cx} {CX : CXT} {k : Nat} {f : Addr} {fd : FuncData} {ps ks : List Str} {sp : Sp} {E : XK} {x : Str} {p pos : Pos} {kws : List Keyword} {tk : TA} {g : List Value → List Value → List Value} {gV : List V → List V → List V}
def tCallK0 (sp : Sp) (gV : List V → List V → List V) (E : XK) (tk : TA) : TE := fun σ H Q => tk σ H fun zs H2 => sp (gV [] zs) H2 Q E
theorem pe_callK0 (F : FnOk X.prog X.w X.K X.mg X.base CX k f fd ps sp) (hr : Room k X.A) (hg : Gl X x) (hm : X.mg x = some (.ref f)) (hk : PySem.W.keepIn X.K (.ref f) = true)
    (hb : KBinds X.K fd ps ks g gV) (hx : Passes CX X E) (hkw : PK X kws tk)
    (hall : (backToKw pos (keywordEach kws X.env)).all (·.1.isSome) = true := by rfl)
    (hks : (backToKw pos (keywordEach kws X.env)).filterMap (·.1) = ks := by rfl)
    (hdb : (x == ("__debug__" : Str)) = false := by decide)
    (hpl : ((backTo pos (starEach [] X.env)).any (·.1) || (backToKw pos (keywordEach kws X.env)).any (·.1.isNone)) = false := by rfl) :
    PE X (.Call (.Name x p) [] kws pos) (tCallK0 sp gV E tk) := by
  constructor
  intro pins s σ H Q I h
  refine wpAny_Call_Name_kw (ld_glob I hg hm ?_ hdb)
  refine PySem.W.callWith_KW0 (h₀ := X.base) I.ok.mod.kin hk hall ?_ hpl
  refine thn (hkw.run pos pins s σ H _ I h) fun ws s2 q => ?_
  obtain ⟨zs, H2, I2, rz, q2⟩ := q
  refine ⟨I2.kIn, ?_⟩
  rw [hks]
  exact run_fnk (us := []) (vs := []) F hr hb hx I2 .nil rz q2
end
theorem kbind1 {K : PySem.W.Frag} {x y qual : Str} {st : Stmt} {f : Addr} {fd : FuncData} (F : Fun K x qual st f fd)
    (h : ∀ (kV doc pm : Value) (an : Option Addr) (cdv ct : Value) (u : Value), bindArgs (PySem.W.fnOf x qual (defArgs st) (defBody st) (defScope st) .none kV doc pm an cdv ct) ⟨[], [(y, u)]⟩ = pure [(y, u)])
    (h2 : ∀ (kV doc pm : Value) (an : Option Addr) (cdv ct : Value) (u : Value), bindArgs (PySem.W.fnOf x qual (defArgs st) (defBody st) (defScope st) .none kV doc pm an cdv ct) ⟨[u], []⟩ = pure [(y, u)]) :
    KBinds K fd [y] [y] (fun us ws => us ++ ws) (fun us ws => us ++ ws) := by
  obtain ⟨oc, od, kV, doc, pm, an, cdv, ct, osl, rfl, lk, hcd⟩ := F.ex
  refine ⟨fun s us ws _ hl => ?_, fun a b => a.append b⟩
  match us, ws, hl with
  | [], [w], _ => exact .of_eq (h _ _ _ _ _ _ _)
  | [u], [], _ => exact .of_eq (h2 _ _ _ _ _ _ _)

/-! ### any value of the program's own kinds -/
def kinds : List String := ["NoneType", "bool", "int", "str", "list", "tuple", "dict"]
def asked : List String := ["str", "int", "bool", "tuple", "dict", "list"]
def isT (s T : String) : Bool := s == T || (s == "bool" && T == "int")
theorem kit_all : ∀ s ∈ kinds, ∀ T ∈ asked, kitB s T = some (isT s T) := by decide +kernel
structure AnyV (K : PySem.W.Frag) (H : Hp) (v : V) (s : String) : Prop where
  ty : TyX K H v (.type s)
  mem : s ∈ kinds
  small : ∀ x, v = .str x → x.length ≤ sizeLine
theorem AnyV.isi {K : PySem.W.Frag} {H : Hp} {v : V} {s : String} (a : AnyV K H v s) {T : String} (h : T ∈ asked := by decide) : PySem.W.kitOne K (.type s) (.type T) = some (isT s T) :=
  kit_ty (kit_all s a.mem T h)
theorem any_non {K : PySem.W.Frag} {H : Hp} : AnyV K H .non "NoneType" := ⟨.base .non, by decide, fun _ e => by cases e⟩
theorem any_bl {K : PySem.W.Frag} {H : Hp} (b : Bool) : AnyV K H (.bl b) "bool" := ⟨.base (.bl b), by decide, fun _ e => by cases e⟩
theorem any_int {K : PySem.W.Frag} {H : Hp} (i : Int) : AnyV K H (.int i) "int" := ⟨.base (.int i), by decide, fun _ e => by cases e⟩
theorem any_str {K : PySem.W.Frag} {H : Hp} {x : Str} (h : x.length ≤ sizeLine) : AnyV K H (.str x) "str" := ⟨.base (.str x), by decide, fun _ e => by cases e; exact h⟩
theorem any_lst {K : PySem.W.Frag} {H : Hp} {a : Addr} {xs : List V} (h : H a = some (.lst xs)) : AnyV K H (.ref a) "list" := ⟨.base (.lst h), by decide, fun _ e => by cases e⟩
theorem any_tup {K : PySem.W.Frag} {H : Hp} {a : Addr} {xs : List V} (h : H a = some (.tup xs)) : AnyV K H (.ref a) "tuple" := ⟨.base (.tup h), by decide, fun _ e => by cases e⟩
theorem any_dK {K : PySem.W.Frag} {H : Hp} {a : Addr} {xs : List (Key × V)} (h : H a = some (.dK xs)) : AnyV K H (.ref a) "dict" := ⟨.base (.dK h), by decide, fun _ e => by cases e⟩
theorem AnyV.cases {K : PySem.W.Frag} {H : Hp} {v : V} {s : String} (a : AnyV K H v s) :
    (v = .non ∧ s = "NoneType") ∨ (∃ b, v = .bl b ∧ s = "bool") ∨ (∃ i, v = .int i ∧ s = "int") ∨ (∃ x, v = .str x ∧ s = "str" ∧ x.length ≤ sizeLine) ∨ (∃ p, v = .ref p ∧ (s = "list" ∨ s = "tuple" ∨ s = "dict")) := by
  obtain ⟨ty, mem, sm⟩ := a
  generalize ht : Value.type s = t at ty
  cases ty with
  | base b =>
    cases b with
    | non => cases ht; exact .inl ⟨rfl, rfl⟩
    | bl y => cases ht; exact .inr (.inl ⟨y, rfl, rfl⟩)
    | int i => cases ht; exact .inr (.inr (.inl ⟨i, rfl, rfl⟩))
    | str y => cases ht; exact .inr (.inr (.inr (.inl ⟨y, rfl, rfl, sm y rfl⟩)))
    | flt y => cases ht; exact absurd mem (by decide)
    | lst e => cases ht; exact .inr (.inr (.inr (.inr ⟨_, rfl, .inl rfl⟩)))
    | frz e => cases ht; exact .inr (.inr (.inr (.inr ⟨_, rfl, .inl rfl⟩)))
    | tup e => cases ht; exact .inr (.inr (.inr (.inr ⟨_, rfl, .inr (.inl rfl)⟩)))
    | dK e => cases ht; exact .inr (.inr (.inr (.inr ⟨_, rfl, .inr (.inr rfl)⟩)))
    | dT e => cases ht; exact .inr (.inr (.inr (.inr ⟨_, rfl, .inr (.inr rfl)⟩)))
    | ins e => cases ht
  | byt b => cases ht; exact absurd mem (by decide)
  | set e => cases ht; exact absurd mem (by decide)
  | kList e c => cases ht; exact .inr (.inr (.inr (.inr ⟨_, rfl, .inl rfl⟩)))
  | kTuple e c => cases ht; exact .inr (.inr (.inr (.inr ⟨_, rfl, .inr (.inl rfl)⟩)))
  | kDict e c => cases ht; exact .inr (.inr (.inr (.inr ⟨_, rfl, .inr (.inr rfl)⟩)))
  | fTuple e => cases ht; exact .inr (.inr (.inr (.inr ⟨_, rfl, .inr (.inl rfl)⟩)))
  | fDict e => cases ht; exact .inr (.inr (.inr (.inr ⟨_, rfl, .inr (.inr rfl)⟩)))
/-- such a value stays one while the heap stays -/
theorem AnyV.mono {K : PySem.W.Frag} {H H' : Hp} {v : V} {s : String} (a : AnyV K H v s) (h : Same H H') : AnyV K H' v s := by
  obtain ⟨ty, mem, sm⟩ := a
  refine ⟨?_, mem, sm⟩
  cases ty with
  | base b =>
    cases b with
    | non => exact .base .non
    | bl y => exact .base (.bl y)
    | int i => exact .base (.int i)
    | str y => exact .base (.str y)
    | flt y => exact .base (.flt y)
    | lst e => exact .base (.lst (h _ _ e))
    | frz e => exact .base (.frz (h _ _ e))
    | tup e => exact .base (.tup (h _ _ e))
    | dK e => exact .base (.dK (h _ _ e))
    | dT e => exact .base (.dT (h _ _ e))
  | byt b => exact .byt b
  | set e => exact .set (h _ _ e)
  | kList e c => exact .kList e c
  | kTuple e c => exact .kTuple e c
  | kDict e c => exact .kDict e c
  | fTuple e => exact .fTuple (h _ _ e)
  | fDict e => exact .fDict (h _ _ e)

/-! ### is, is not of a flat value and a bool -/
section
variable {X : Cx}
def flatV : V → Bool
  | .non => true
  | .bl _ => true
  | .int _ => true
  | _ => false
theorem op_notBV : OpR X (compareOp .IsNot) (fun x y H Q => ∃ b : Bool, y = .bl b ∧ (∃ i, x = .int i) ∧ Q (.bl true) H) := by
  intro pins s σ H x y v u Q I rx ry h
  obtain ⟨b, rfl, ⟨i, rfl⟩, q⟩ := h
  obtain ⟨t, rfl⟩ := (show ∃ t, v = Value.int i t from rx)
  cases (show u = Value.bool b from ry)
  exact wpAny_isNot_other rfl (fun z => nomatch z) ⟨.bl true, H, I, rfl, q⟩
def rNotBB : R2 := fun x y H Q => ∃ b : Bool, y = .bl b ∧ ((∃ i, x = .int i) ∧ Q (.bl true) H ∨ ∃ a, x = .bl a ∧ Q (.bl (!decide (a = b))) H)
theorem op_notBB : OpR X (compareOp .IsNot) rNotBB := by
  intro pins s σ H x y v u Q I rx ry h
  obtain ⟨b, rfl, h⟩ := h
  rcases h with ⟨⟨i, rfl⟩, q⟩ | ⟨a, rfl, q⟩
  · exact op_notBV pins s σ H _ _ v u Q I rx ry ⟨b, rfl, ⟨i, rfl⟩, q⟩
  · exact op_notBl pins s σ H _ _ v u Q I rx ry ⟨a, b, rfl, rfl, q⟩
end

/-! ### a comprehension whose element leaves what stands -/
section
variable {J : It} {n : Nat} {G : Hp → Prop} {Y : Nat → Hp → V → Hp → Prop}
theorem lc_map (w : Walk J n G Y) {g : TG} {te : TE} {vs : List Nat} {σ : St} {H1 : Hp} {D : Addr} {Qd : Hp → Prop} (hD : H1 D = none) (hn : n ≤ sizeLine) (hG : ∀ H, Same H1 H → G H) (f : Nat → V)
    (hs : ∀ i x H H' (R : VK), i < n → Same H1 H → (∃ acc, H D = some (.lst acc)) → Y i H x H' → (∀ H4, Same H H4 → R (f i) H4) → g x (wipe σ vs) H' fun σ2 H2 => wipe σ2 vs = wipe σ vs ∧ te σ2 H2 R)
    (hd : ∀ H, Same H1 H → H D = some (.lst ((List.range n).map f)) → Qd H) :
    ∃ W : Nat → Nat → Hp → Prop, (∃ m, W 0 m (upd H1 D (.lst []))) ∧ ∀ i m H, W i m H →
      (J.stop i H ∧ Qd H) ∨ (J.go i H ∧ ∃ Nx : Hp → Prop, (∀ H', Nx H' → ∃ m', m' < m ∧ W (i + 1) m' H') ∧ ∀ x H', J.yld i H x H' → g x (wipe σ vs) H' fun σ2 H2 => wipe σ2 vs = wipe σ vs ∧ tYes σ2 H2 fun b H3 =>
        if b = true then te σ2 H3 fun y H4 => ∃ acc, H4 D = some (.lst acc) ∧ acc.length < sizeLine ∧ Nx (upd H4 D (.lst (acc ++ [y]))) else Nx H3) := by
  refine lc_it w (fun i H => Same H1 H ∧ H D = some (.lst ((List.range i).map f))) ⟨same_new hD, upd_same⟩ (fun i H _ p => hG H p.1) ?_ (fun H p => hd H p.1 p.2)
  intro i x H H' hi p y
  refine hs i x H H' _ hi p.1 ⟨_, p.2⟩ y fun H4 s4 => ?_
  refine ⟨_, s4 _ _ p.2, ?_, ?_, ?_⟩
  · rw [List.length_map, List.length_range]; omega
  · intro b o eb
    rw [upd_ne (ne_of_none eb hD)]
    exact s4 _ _ (p.1 _ _ eb)
  · rw [upd_same, List.range_succ, List.map_append]
    rfl
/-- the same over the items of a list ys: the new list is ys.map F -/
theorem lc_mapL {α : Type} {ys : List α} (w : Walk J ys.length G Y) {g : TG} {te : TE} {vs : List Nat} {σ : St} {H1 : Hp} {D : Addr} {Qd : Hp → Prop} (hD : H1 D = none) (hn : ys.length ≤ sizeLine) (hG : ∀ H, Same H1 H → G H) (F : α → V)
    (hs : ∀ i y x H H' (R : VK), ys[i]? = some y → Same H1 H → (∃ acc, H D = some (.lst acc)) → Y i H x H' → (∀ H4, Same H H4 → R (F y) H4) → g x (wipe σ vs) H' fun σ2 H2 => wipe σ2 vs = wipe σ vs ∧ te σ2 H2 R)
    (hd : ∀ H, Same H1 H → H D = some (.lst (ys.map F)) → Qd H) :
    ∃ W : Nat → Nat → Hp → Prop, (∃ m, W 0 m (upd H1 D (.lst []))) ∧ ∀ i m H, W i m H →
      (J.stop i H ∧ Qd H) ∨ (J.go i H ∧ ∃ Nx : Hp → Prop, (∀ H', Nx H' → ∃ m', m' < m ∧ W (i + 1) m' H') ∧ ∀ x H', J.yld i H x H' → g x (wipe σ vs) H' fun σ2 H2 => wipe σ2 vs = wipe σ vs ∧ tYes σ2 H2 fun b H3 =>
        if b = true then te σ2 H3 fun y H4 => ∃ acc, H4 D = some (.lst acc) ∧ acc.length < sizeLine ∧ Nx (upd H4 D (.lst (acc ++ [y]))) else Nx H3) := by
  refine lc_it w (fun i H => Same H1 H ∧ H D = some (.lst ((ys.take i).map F))) ⟨same_new hD, upd_same⟩ (fun i H _ p => hG H p.1) ?_ (fun H p => hd H p.1 (by rw [p.2, List.take_length]))
  intro i x H H' hi p y
  obtain ⟨z, hz⟩ : ∃ z, ys[i]? = some z := ⟨ys[i], List.getElem?_eq_getElem hi⟩
  refine hs i z x H H' _ hz p.1 ⟨_, p.2⟩ y fun H4 s4 => ?_
  refine ⟨_, s4 _ _ p.2, ?_, ?_, ?_⟩
  · rw [List.length_map, List.length_take]; omega
  · intro b o eb
    rw [upd_ne (ne_of_none eb hD)]
    exact s4 _ _ (p.1 _ _ eb)
  · rw [upd_same, List.take_succ, hz, List.map_append]
    rfl
/-- .. with a test: the new list is (ys.filter B).map F -/
theorem lc_filL {α : Type} {ys : List α} (w : Walk J ys.length G Y) {g : TG} {tt : TT} {te : TE} {vs : List Nat} {σ : St} {H1 : Hp} {D : Addr} {Qd : Hp → Prop} (hD : H1 D = none) (hn : ys.length ≤ sizeLine) (hG : ∀ H, Same H1 H → G H) (B : α → Bool) (F : α → V)
    (hs : ∀ i y x H H' (R : VK) (N : Hp → Prop), ys[i]? = some y → Same H1 H → (∃ acc, H D = some (.lst acc)) → Y i H x H' → (∀ H4, Same H H4 → B y = true → R (F y) H4) → (∀ H4, Same H H4 → B y = false → N H4) →
      g x (wipe σ vs) H' fun σ2 H2 => wipe σ2 vs = wipe σ vs ∧ tt σ2 H2 fun b H3 => if b = true then te σ2 H3 R else N H3)
    (hd : ∀ H, Same H1 H → H D = some (.lst ((ys.filter B).map F)) → Qd H) :
    ∃ W : Nat → Nat → Hp → Prop, (∃ m, W 0 m (upd H1 D (.lst []))) ∧ ∀ i m H, W i m H →
      (J.stop i H ∧ Qd H) ∨ (J.go i H ∧ ∃ Nx : Hp → Prop, (∀ H', Nx H' → ∃ m', m' < m ∧ W (i + 1) m' H') ∧ ∀ x H', J.yld i H x H' → g x (wipe σ vs) H' fun σ2 H2 => wipe σ2 vs = wipe σ vs ∧ tt σ2 H2 fun b H3 =>
        if b = true then te σ2 H3 fun y H4 => ∃ acc, H4 D = some (.lst acc) ∧ acc.length < sizeLine ∧ Nx (upd H4 D (.lst (acc ++ [y]))) else Nx H3) := by
  refine lc_it w (fun i H => Same H1 H ∧ H D = some (.lst (((ys.take i).filter B).map F))) ⟨same_new hD, upd_same⟩ (fun i H _ p => hG H p.1) ?_ (fun H p => hd H p.1 (by rw [p.2, List.take_length]))
  intro i x H H' hi p y
  obtain ⟨z, hz⟩ : ∃ z, ys[i]? = some z := ⟨ys[i], List.getElem?_eq_getElem hi⟩
  have et : ys.take (i + 1) = ys.take i ++ [z] := by rw [List.take_succ, hz]; rfl
  refine hs i z x H H' _ _ hz p.1 ⟨_, p.2⟩ y (fun H4 s4 hb => ?_) (fun H4 s4 hb => ?_)
  · refine ⟨_, s4 _ _ p.2, ?_, ?_, ?_⟩
    · rw [List.length_map]
      have h1 := List.length_filter_le B (ys.take i)
      rw [List.length_take] at h1
      omega
    · intro b o eb
      rw [upd_ne (ne_of_none eb hD)]
      exact s4 _ _ (p.1 _ _ eb)
    · rw [upd_same, et, List.filter_append, List.map_append, List.filter_cons_of_pos hb]
      rfl
  · refine ⟨p.1.trans s4, ?_⟩
    rw [et, List.filter_append, List.map_append, List.filter_cons_of_neg (by rw [hb]; decide)]
    simpa using s4 _ _ p.2
/-- the signs of a text, as a walk of its list of codes -/
theorem walk_signs {z : Str} : Walk (Its z) z.cps.toList.length (fun _ => True) (fun i H v H' => H' = H ∧ ∃ c, z.cps.toList[i]? = some c ∧ v = .str ⟨#[c]⟩) := by
  have h := walk_str (z := z)
  rw [← Array.length_toList] at h
  refine h.mono (fun _ _ => trivial) fun i H x H' _ _ y => ?_
  obtain ⟨e, c, hc, ev⟩ := y
  exact ⟨e, c, by rw [Array.getElem?_toList]; exact hc, ev⟩
end
end SB

set_option Elab.async false
set_option linter.all false
set_option maxRecDepth 100000
set_option maxHeartbeats 4000000
/-! errors of the program's own: class E(GraphError) with __init__(self, f): super().__init__(f); self.f = f -/
namespace PySem
namespace ErrX
open PySem.W PySem.Calls PyProof.Rows PySem.HandSPX
abbrev tailE : List Value := [.type "Exception", .type "BaseException", .type "object"]
/-! ### the text of __init__ -/
def eA (f : Str) (p1 p2 : Pos) : Arguments := { posonlyargs := [], args := [{ arg := "self", annotation := none, pos := p1 }, { arg := f, annotation := none, pos := p2 }], vararg := none, kwonlyargs := [], kw_defaults := [], kwarg := none, defaults := [] }
def eB (f : Str) (q1 q2 q3 q4 q5 q6 q7 q8 q9 q10 : Pos) : List Stmt :=
  [.Expr (.Call (.Attribute (.Call (.Name "super" q1) [] [] q2) "__init__" q3) [.Name f q4] [] q5) q6, .Assign [.Attribute (.Name "self" q7) f q8] (.Name f q9) q10]
def eS (f : Str) : Scope := { kind := .function, names := [(PySem.Str.ofString "self", .local), (f, .local), (PySem.Str.ofString "__class__", .free), (PySem.Str.ofString "super", .globalImplicit)], isGenerator := false, isCoroutine := false, more := [] }
/-- the names that a field may have -/
structure FldOk (f : Str) : Prop where
  self : (f == ("self" : Str)) = false
  cls : (f == ("__class__" : Str)) = false
  sup : (f == ("super" : Str)) = false
  dbg : (f == ("__debug__" : Str)) = false
  bnd : ∀ (qual : Str) (p1 p2 : Pos) (body : List Stmt) (doc pm : Value) (an : Option Addr) (cdv ct : Value) (cc : Addr) (u v : Value), bindArgs (ksFn "__init__" qual (eA f p1 p2) body (eS f) .none .none doc pm an cdv ct cc) ⟨[u, v], []⟩ = pure [(("self" : Str), u), (f, v)]
  bndK : ∀ (qual : Str) (p1 p2 : Pos) (body : List Stmt) (doc pm : Value) (an : Option Addr) (cdv ct : Value) (cc : Addr) (u v : Value), bindArgs (ksFn "__init__" qual (eA f p1 p2) body (eS f) .none .none doc pm an cdv ct cc) ⟨[u], [(f, v)]⟩ = pure [(("self" : Str), u), (f, v)]
theorem fld_value : FldOk "value" := ⟨by decide +kernel, by decide +kernel, by decide +kernel, by decide +kernel, fun _ _ _ _ _ _ _ _ _ _ _ _ => rfl, fun _ _ _ _ _ _ _ _ _ _ _ _ => rfl⟩
theorem fld_mark : FldOk "mark" := ⟨by decide +kernel, by decide +kernel, by decide +kernel, by decide +kernel, fun _ _ _ _ _ _ _ _ _ _ _ _ => rfl, fun _ _ _ _ _ _ _ _ _ _ _ _ => rfl⟩
theorem fld_number : FldOk "number" := ⟨by decide +kernel, by decide +kernel, by decide +kernel, by decide +kernel, fun _ _ _ _ _ _ _ _ _ _ _ _ => rfl, fun _ _ _ _ _ _ _ _ _ _ _ _ => rfl⟩
theorem fld_name : FldOk "name" := ⟨by decide +kernel, by decide +kernel, by decide +kernel, by decide +kernel, fun _ _ _ _ _ _ _ _ _ _ _ _ => rfl, fun _ _ _ _ _ _ _ _ _ _ _ _ => rfl⟩
theorem fld_line : FldOk "line" := ⟨by decide +kernel, by decide +kernel, by decide +kernel, by decide +kernel, fun _ _ _ _ _ _ _ _ _ _ _ _ => rfl, fun _ _ _ _ _ _ _ _ _ _ _ _ => rfl⟩
theorem fld_index : FldOk "index" := ⟨by decide +kernel, by decide +kernel, by decide +kernel, by decide +kernel, fun _ _ _ _ _ _ _ _ _ _ _ _ => rfl, fun _ _ _ _ _ _ _ _ _ _ _ _ => rfl⟩
theorem fld_clashes : FldOk "clashes" := ⟨by decide +kernel, by decide +kernel, by decide +kernel, by decide +kernel, fun _ _ _ _ _ _ _ _ _ _ _ _ => rfl, fun _ _ _ _ _ _ _ _ _ _ _ _ => rfl⟩
/-- what the written part says of the error's class, at C, and of its __init__, at fI; G: GraphError -/
structure ErrTxt (P : Program) (K : Frag) (mg : Str → Option Value) (x f qual : Str) (C G fI : Addr) : Prop where
  gC : mg x = some (.ref C)
  cls : ∃ nm q N bs sn sub ab col dd k0 k1 k2 k3 k5, K.lookup C = some (excClassObj nm q C N bs (.ref G :: tailE) true sn sub ab col dd k0 k1 k2 k3 k5 "Exception.__new__")
  sa : findIn K (.ref C) "__setattr__" = some (some (.builtin "object.__setattr__"))
  ga : findIn K (.ref C) "__getattribute__" = some (some (.builtin "BaseException.__getattribute__"))
  gg : findIn K (.ref C) "__getattr__" = some none
  noN : findIn K (.ref C) f = some none
  iC : findIn K (.ref C) "__init__" = some (some (.ref fI))
  tC : typeIn K (.ref fI) = some (.type "function")
  kC : keepIn K (.ref C) = true
  exC : subIn K (.ref C) (.type "BaseException") = some true
  exE : subIn K (.ref C) (.type "Exception") = some true
  tyC : typeIn K (.ref C) = some (.type "type")
  hdC : hasDictIn K C = true
  te : exmOne K (.ref C) (.ref C) = some true
  mro : mroIn K C (.ref C) = some true
  sup : ks_superIn K C C "__init__" = some (some (.builtin "Exception.__init__"))
  opq : nsIn K cStatics "thirdparty.any" = some none
  gS : mg "super" = none
  fld : FldOk f
  fn : ∃ (oc : Value) (od : Option Addr) (doc pm : Value) (an : Option Addr) (cda : Addr) (ct : Value) (osl : Array (Option Value)) (cc : Addr) (p1 p2 q1 q2 q3 q4 q5 q6 q7 q8 q9 q10 : Pos), (q3.endLine == q5.line) = true ∧
    K.lookup fI = some ⟨oc, od, .func (ksFn "__init__" qual (eA f p1 p2) (eB f q1 q2 q3 q4 q5 q6 q7 q8 q9 q10) (eS f) .none .none doc pm an (.ref cda) ct cc), osl⟩ ∧ codeIn K (.ref cda) qual = true ∧
    (∃ ccl cdd vs ccs file tf, K.lookup cda = some ⟨ccl, cdd, .fields vs, ccs⟩ ∧ vs[2]? = some (.str file tf) ∧ ((P.main.file : Str) == file) = true) ∧ ∃ cl cld csl, K.lookup cc = some ⟨cl, cld, .cell (some (.ref C)), csl⟩
  top : (P.main.scope.names.lookup ("super" : Str)).isSome = false
/-! ### the first field that is stored -/
section
open Builtin Builtin.ObjectAttr
variable {prog : Program} {w : World} {A : Around} {R : Result → Shared → Prop} {hp : Heap} {g : Array GenState} {d : Drawn} {t : Nat} {os : OsState}
theorem store_first {K : Frag} {name : Str} {tk : Tok} {v : Value} {x C G : Addr} {fv : Array Value} {cd : ClassData} (X : K.In hp) (hx : hp.get? x = some { cls := .ref C, data := .fields fv })
    (hcd : clsIn K C = some cd) (hm : cd.mro = .ref C :: .ref G :: tailE) (hh : cd.hasDict = true) (ha : findIn K (.ref C) name = some none)
    (hq : ∀ h' tk' dx, (∀ b o, b ≠ x → hp.get? b = some o → h'.get? b = some o) → hp.objs.size ≤ dx → dx ≠ x → h'.get? x = some { cls := .ref C, dict := some dx, data := .fields fv } →
      h'.Ns1 dx (fun y => if y = name then some v else none) → R (.ok (.ret .none)) ⟨h', g, d, tk', os⟩) :
    codeAny (model prog w) A (.call (.builtin "object.__setattr__") ⟨[.ref x, .str name tk, v], []⟩) R ⟨hp, g, d, t, os⟩ := by
  have inst : InstAt hp x { cls := .ref C, data := .fields fv } C none := ⟨hx, rfl, rfl, trivial⟩
  have SO := F.store_object
  have apart : x ≠ hp.objs.size := Nat.ne_of_lt (Heap.lt_size hx)
  have cont : (Value.ref C :: .ref G :: tailE).contains (.type "object") = true := by
    rw [List.contains_cons, List.contains_cons, show tailE.contains (.type "object") = true by decide +kernel]
    simp
  have sub : Looks (model prog w) hp (isInstance (.ref x) (.type "object")) true := by
    refine inst.type.andThen (looks_mroIn X ?_)
    unfold mroIn
    rw [hcd, Option.bind_some, hm, if_neg (by simp), cont]
  refine codeAny_call_builtin SO.slot.plain SO.entry ?_
  refine @check_slot (model prog w) _ _ ⟨hp, g, d, t, os⟩ "object.__setattr__" "object" "__setattr__" (.ref x) [.str name tk, v] [] _ SO.kind SO.split sub (SO.args (.ref x) (.str name tk) v) ?_
  have seeM : Looks (model prog w) hp (mroOf (.ref C)) cd.mro := (looks_clsIn X hcd).andThen .now
  have seeT : Looks (model prog w) hp (storeTaker? none) none := .now
  have seeC : Looks (model prog w) hp (classData C) cd := looks_clsIn X hcd
  rw [osa_eq, refuse_eq]
  refine wpAny_bind (wpAny_bind (inst.type.at (wpAny_bind (seeM.at ?_))))
  rw [hm, refuseLoop_ref, refuseLoop_ref, show refuseLoop (.ref x) "__setattr__" tailE = pure () from F.store_Exception.passes _]
  refine wpAny_pure (wpAny_bind (inst.type.at (wpAny_bind ((looks_findIn X ha).at (wpAny_bind (seeT.at ?_))))))
  show wpAny _ _ (storeInOwnDict (.ref x) (.ref C) (.str name tk) name v false) _ _ _
  obtain ⟨nm, bs, mro, ns, qn, hd, sn, sb, ab, col, del⟩ := cd
  dsimp only at hh
  subst hh
  unfold storeInOwnDict ownDictForStores
  repeat (first | with_reducible refine store_in_new ?_ ?_ | with_reducible refine wpAny_loadPart_at hx ?_ | with_reducible refine seeC.at ?_ | wp_step)
  · refine ⟨_, #[], _, (Heap.get?_update_ne _ _ _ _ apart.symm).trans (Heap.get?_push_at rfl rfl), rfl, fun e he => absurd he (by simp), fun _ => rfl⟩
  · intro h' tk' hn' hs
    have old : (hp.push { cls := .type "dict", data := .dict #[] }).get? x = some { cls := .ref C, data := .fields fv } := Heap.get?_push_of_some _ hx
    refine hq h' tk' hp.objs.size (fun b o hb ho => ?_) (Nat.le_refl _) apart.symm ((hs.2 x apart).trans (Heap.get?_update_self _ old rfl)) hn'
    have far : b ≠ hp.objs.size := Nat.ne_of_lt (Heap.lt_size ho)
    exact (hs.2 b far).trans ((Heap.get?_update_ne _ _ _ _ hb).trans (Heap.get?_push_of_some _ ho))
end
end ErrX
end PySem

set_option Elab.async false
set_option linter.all false
set_option maxRecDepth 100000
set_option maxHeartbeats 4000000
namespace PySem
namespace ErrX
open PySem.W PySem.Calls PyProof.Rows PySem.HandSPX
theorem look_self (f : Str) : (eS f).names.lookup ("self" : Str) = some .local := by
  show List.lookup ("self" : Str) ((PySem.Str.ofString "self", NameKind.local) :: _) = _
  simp [List.lookup]
theorem look_fld {f : Str} (h : FldOk f) : (eS f).names.lookup f = some .local := by
  have h1 : (f == PySem.Str.ofString "self") = false := h.self
  simp [eS, List.lookup, h1]
theorem look_cls {f : Str} (h : FldOk f) : (eS f).names.lookup ("__class__" : Str) = some .free := by
  have h1 : (("__class__" : Str) == f) = false := by
    have := h.cls
    rw [beq_eq_false_iff_ne] at this ⊢
    exact this.symm
  have h2 : (("__class__" : Str) == PySem.Str.ofString "self") = false := by decide +kernel
  simp [eS, List.lookup, h1, h2]
theorem look_sup {f : Str} (h : FldOk f) : (eS f).names.lookup ("super" : Str) = some .globalImplicit := by
  have h1 : (("super" : Str) == f) = false := by
    have := h.sup
    rw [beq_eq_false_iff_ne] at this ⊢
    exact this.symm
  have h2 : (("super" : Str) == PySem.Str.ofString "self") = false := by decide +kernel
  have h3 : (("super" : Str) == PySem.Str.ofString "__class__") = false := by decide +kernel
  simp [eS, List.lookup, h1, h2, h3]
/-- a method's call, where the name's end and the call's begin stand in one line -/
theorem mcall_eq {o : Expr} {name : Str} {apos pos : Pos} {args : List Expr} {env : Env} (hp : (apos.endLine == pos.line) = true) (hs : methodCallForm (args.length + 0) (backTo pos (starEach args env)) [] = true) :
    eval (.Call (.Attribute o name apos) args [] pos) env = (do
      let ov ← attributeBase o name env (eval o env)
      standAt apos.atName
      let (f, first) ← holding [ov] (getMethod ov name (do return (← importBound o env).getD true))
      callWith pos f first (backTo pos (starEach args env)) []) := by
  show (do
      let ov ← attributeBase o name env (eval o env)
      standAt apos.atName
      methodCall o name apos pos env ov (args.length + 0) (backTo pos (starEach args env)) []) = _
  have e : ∀ ov, methodCall o name apos pos env ov (args.length + 0) (backTo pos (starEach args env)) [] = (do
      let (f, first) ← holding [ov] (getMethod ov name (do return (← importBound o env).getD true))
      callWith pos f first (backTo pos (starEach args env)) []) := by
    intro ov
    unfold methodCall methodCallPos calleeOf
    simp only [hs, hp, Bool.or_true, if_true, pure_bind]
  simp only [e]
/-- what __init__ leaves of the new error at x -/
structure Began (h h' : Heap) (x C dx t1 : Addr) (f : Str) (v : Value) : Prop where
  keep : ∀ b o, b ≠ x → h.get? b = some o → h'.get? b = some o
  obj : h'.get? x = some { cls := .ref C, dict := some dx, data := .fields #[.ref t1, .none, .none, .none, .bool false, .none] }
  dbig : h.objs.size ≤ dx
  dne : dx ≠ x
  ns : h'.Ns1 dx (fun y => if y = f then some v else none)
section
variable {prog : Program} {w : World} {A : Around} {R : Result → Shared → Prop} {s : Shared} {K : Frag} {mg : Str → Option Value} {x0 f qual : Str} {C G fI : Addr}
theorem err_init (T : ErrTxt prog K mg x0 f qual C G fI) {x t0 : Addr} {v : Value} (X : K.In s.heap) (Gm : s.heap.Ns mainGlobals mg) (Bm : ∃ mb, s.heap.Ns builtinsNs mb ∧ ∀ y : Str, y ≠ "__name__" → mb y = bootBuiltins y)
    (hlim : s.heap.NoLimit) (hx : s.heap.get? x = some (excO C t0)) (hnx : K.lookup x = none) (hroom : A.depth < recursionLimit)
    (hq : ∀ h' tk dx t1, Began s.heap h' x C dx t1 f v → R (.ok (.ret .none)) { s with heap := h', toks := tk }) :
    codeAny (model prog w) A (.call (.ref fI) ⟨[.ref x, v], []⟩) R s := by
  obtain ⟨oc, od, doc, pm, an, cda, ct, osl, cc, p1, p2, q1, q2, q3, q4, q5, q6, q7, q8, q9, q10, hp, ho, hcd, ⟨ccl, cdd, vs, ccs, file, tf, hcode, hvs, hfile⟩, cl, cld, csl, hcell⟩ := T.fn
  obtain ⟨nm, q, N, bs, sn, sub, ab, col, dd, k0, k1, k2, k3, k5, hC⟩ := T.cls
  have hcl : clsIn K C = some { name := nm, bases := bs, mro := .ref C :: .ref G :: tailE, ns := N, qualname := q, hasDict := true, slotNames := sn, subclasses := sub, abstract := ab, collection := col, hasDel := false } := by unfold clsIn; rw [hC] <;> rfl
  refine ks_codeAny_call_defAt (fd := ksFn "__init__" qual (eA f p1 p2) (eB f q1 q2 q3 q4 q5 q6 q7 q8 q9 q10) (eS f) .none .none doc pm an (.ref cda) ct cc) (body := eB f q1 q2 q3 q4 q5 q6 q7 q8 q9 q10)
    (binds := [("self", .ref x), (f, v)]) hroom (X _ _ ho) rfl hlim (codeRec_of X hcd) rfl (BindsTo.of_eq (T.fld.bnd _ _ _ _ _ _ _ _ _ _ _ _)) ?_ ?_ (fun h₁ hn k => ?_) rfl rfl rfl
  · intro y hy
    simp [eS] at hy
    rcases hy with rfl | rfl | rfl | rfl <;> simp
  · intro y hy
    simp at hy
    rcases hy with rfl | rfl
    · exact look_self f
    · exact look_fld T.fld
  · have X1 : K.In h₁ := X.keeps k
    have x1 := k _ _ hx
    have G1 := Gm.keeps k
    obtain ⟨mb, B0, hmb⟩ := Bm
    have B1 := B0.keeps k
    obtain ⟨oD, hD1, hD2⟩ : ∃ oD, h₁.get? C = some oD ∧ oD.data = .cls { name := nm, bases := bs, mro := .ref C :: .ref G :: tailE, ns := N, qualname := q, hasDict := true, slotNames := sn, subclasses := sub, abstract := ab, collection := col, hasDel := false } := ⟨_, X1 _ _ hC, rfl⟩
    have inst : InstAt h₁ x (excO C t0) C none := ⟨x1, rfl, rfl, trivial⟩
    have lookS : (fun y => List.lookup y [(f, v), (("self" : Str), Value.ref x)]) ("self" : Str) = some (.ref x) := by
      have e : (("self" : Str) == f) = false := by
        have := T.fld.self
        rw [beq_eq_false_iff_ne] at this ⊢
        exact this.symm
      simp [List.lookup, e]
    have lookF : (fun y => List.lookup y [(f, v), (("self" : Str), Value.ref x)]) f = some v := by simp [List.lookup]
    refine ks_wpAt_execs_cons (ks_wpAt_Expr_any ?_ rfl rfl)
    refine' ks_wpAt_MethodCall ?m1 ?m2
    case m2 => exact mcall_eq hp rfl
    case m1 =>
      refine ks_wpAt_super_base (look_sup T.fld) (look_cls T.fld) (by decide +kernel) rfl (X1 _ _ ho) rfl rfl rfl (X1 _ _ hcode) rfl hvs hfile T.top ?_
      refine ks_loadName_global rfl (look_sup T.fld) (loadGlobal_builtin G1 T.gS B1 ((hmb _ (by decide +kernel)).trans (by decide +kernel)) ⟨rfl, ?_⟩)
      refine wpAny_loadName_free rfl (look_cls T.fld) rfl ⟨_, X1 _ _ hcell, rfl⟩ ?_
      refine wpAny_loadName_local rfl (look_self f) hn lookS ?_
      refine ks_wpAny_isType_cls hD1 hD2 ⟨rfl, ?_⟩
      refine ks_wpAny_call_super hD1 hD2 x1 rfl (fun c e => by cases e) (looks_mroIn X1 T.mro) (fun h2 e2 k2 => ?_)
      have X2 : K.In h2 := X1.keeps k2
      have x2 := k2 _ _ x1
      have inst2 : InstAt h2 x (excO C t0) C none := ⟨x2, rfl, rfl, trivial⟩
      have xC : x ≠ C := ks_ne X2 inst2 hcl
      have hsup : alongIn K "__init__" (((Value.ref C :: .ref G :: tailE).dropWhile (· != .ref C)).drop 1) = some (some (.builtin "Exception.__init__")) := by
        have := T.sup
        unfold ks_superIn at this
        rw [hcl] at this
        exact this
      refine ESX.getMethod_super e2 (looks_opaque X2 T.opq) (l₀ := .ref C :: .ref G :: tailE) ((looks_clsIn X2 hcl).andThen .now) rfl X2 hsup xC (by decide +kernel) (inst2.type.andThen (looks_subIn X2 T.exE)) ?_
      have k3 : ∀ b o, h2.get? b = some o → (h2.push (ESX.bw x)).get? b = some o := fun b o e => Heap.get?_push_of_some _ e
      have hn3 := (hn.keeps k2).keeps k3
      have u3 : (h2.push (ESX.bw x)).get? h2.objs.size = some (ESX.bw x) := Heap.get?_push_at rfl rfl
      refine ESX.callWith_bound (x := x) ?_ rfl rfl
      show wpAny _ _ (spliced ((false, eval (.Name f q4) _) :: backTo q5 (starEach [] _))) _ _ _
      refine Calls.spliced_cons (wpAny_Name ?_ T.fld.dbg)
      refine wpAny_loadName_local rfl (look_fld T.fld) hn3 lookF ?_
      refine Calls.spliced_nil ⟨u3, ?_⟩
      have x3 := k3 _ _ x2
      have kC : ∀ b o, h₁.get? b = some o → (h2.push (ESX.bw x)).get? b = some o := fun b o e => k3 b o (k2 b o e)
      refine ESX.call_bw (X1.keeps kC _ _ hC) x3 u3 (by rw [sizeLine_eq]; show 1 ≤ 16777216; decide) fun h4 t1 k4 x4 => ?_
      -- self.f = f
      have nL : s.heap.objs.size ≠ x := Nat.ne_of_gt (Heap.lt_size hx)
      have hn4 : h4.Ns s.heap.objs.size (fun y => List.lookup y [(f, v), (("self" : Str), Value.ref x)]) := by
        obtain ⟨o, es, ep, e1, r⟩ := hn3
        exact ⟨o, es, ep, k4 _ _ nL e1, r⟩
      have X4 : K.In h4 := fun b o e => by
        refine k4 b o (fun z => ?_) (X1.keeps kC b o e)
        rw [z, hnx] at e
        cases e
      refine wpAt_of_wpAny (wpAny_execs_cons (plainObj_wpAny_Assign_Attribute ?_ rfl))
      refine wpAny_Name (wpAny_loadName_local rfl (look_fld T.fld) hn4 lookF ?_) T.fld.dbg
      refine wpAny_Name (wpAny_loadName_local rfl (look_self f) hn4 lookS ?_) (by decide +kernel)
      refine set_plain X4 (ox := excO C t1) (od := none) ⟨x4, rfl, rfl, trivial⟩ T.sa ?_
      refine store_first X4 x4 hcl rfl rfl T.noN fun h5 tk5 dx k5 dn dne x5 n5 => ?_
      refine wpAny_execs_nil (hq h5 tk5 dx t1 ⟨fun b o hb e => k5 b o hb (k4 b o hb (kC b o (k b o e))), x5, ?_, dne, n5⟩)
      have z1 : s.heap.objs.size < h4.objs.size := hn4.lt
      exact Nat.le_of_lt (Nat.lt_of_lt_of_le z1 dn)
/-- a made error -/
structure Made (h h' : Heap) (e C d : Addr) (f : Str) (v : Value) : Prop where
  keep : ∀ b o, h.get? b = some o → h'.get? b = some o
  new : h.objs.size ≤ e
  obj : ∃ t1, h'.get? e = some { cls := .ref C, dict := some d, data := .fields #[.ref t1, .none, .none, .none, .bool false, .none] }
  dbig : h.objs.size ≤ d
  dne : d ≠ e
  ns : h'.Ns1 d (fun y => if y = f then some v else none)
theorem tail_same (G : Addr) (X : String) : (Value.ref G :: tailE).contains (.type X) = tailE.contains (.type X) := by
  rw [List.contains_cons]
  rfl
theorem err_made (T : ErrTxt prog K mg x0 f qual C G fI) {v : Value} (X : K.In s.heap) (Gm : s.heap.Ns mainGlobals mg) (Bm : ∃ mb, s.heap.Ns builtinsNs mb ∧ ∀ y : Str, y ≠ "__name__" → mb y = bootBuiltins y)
    (hlim : s.heap.NoLimit) (hroom : A.depth + 1 < recursionLimit) (hq : ∀ h' tk e d, Made s.heap h' e C d f v → R (.ok (.ret (.ref e))) { s with heap := h', toks := tk }) :
    codeAny (model prog w) A (.call (.ref C) ⟨[v], []⟩) R s := by
  obtain ⟨nm, q, N, bs, sn, sub, ab, col, dd, k0, k1, k2, k3, k5, hC⟩ := T.cls
  obtain ⟨hp, g, dr, tk, os⟩ := s
  have up : ∀ b o, hp.get? b = some o → ((hp.push (kdv_tup [v])).push (excO C hp.objs.size)).get? b = some o := fun b o e => Heap.get?_push_of_some _ (Heap.get?_push_of_some _ e)
  have at1 : ((hp.push (kdv_tup [v])).push (excO C hp.objs.size)).get? (hp.objs.size + 1) = some (excO C hp.objs.size) := by heap_get
  have free : K.lookup (hp.objs.size + 1) = none := by
    cases e : K.lookup (hp.objs.size + 1) with
    | none => rfl
    | some o =>
      have z : hp.get? (hp.objs.size + 1) = some o := X _ _ e
      exact absurd (Nat.lt_of_succ_lt (Heap.lt_size z)) (Nat.lt_irrefl _)
  obtain ⟨mb, B0, hmb⟩ := Bm
  refine call_own F.excBase_Exception (tail_same G) (X _ _ hC) (looks_findIn X T.iC) (fun self => bind_fn X self T.tC) (by rw [sizeLine_eq]; show 1 ≤ 16777216; decide) ?_
  refine err_init (s := ⟨(hp.push (kdv_tup [v])).push (excO C hp.objs.size), g, dr, tk, os⟩) T (X.keeps up) (Gm.keeps up) ⟨mb, B0.keeps up, hmb⟩ (hlim.keeps up) at1 free ?_ fun h' tk' dx t1 Z => ?_
  · show A.depth + 1 < recursionLimit
    exact hroom
  · have z : hp.objs.size + 1 + 1 ≤ dx := by
      have b := Z.dbig
      first
        | exact b
        | (simp only [Heap.size_push] at b; exact b)
    refine ⟨rfl, hq h' tk' (hp.objs.size + 1) dx ⟨fun b o e => Z.keep b o (Nat.ne_of_lt (Nat.lt_succ_of_lt (Heap.lt_size e))) (up b o e), Nat.le_succ _, ⟨_, Z.obj⟩, by show hp.objs.size ≤ dx; omega, Z.dne, Z.ns⟩⟩
end
end ErrX
end PySem
namespace L2
open PySem PySem.Spec PyProof.Rows PySem.ErrX
theorem relO_one {f : Str} {v : V} {u : Value} (r : RelV v u) (y : Str) : RelO (List.lookup y [(f, v)]) (if y = f then some u else none) := by
  by_cases h : y = f
  · rw [if_pos h, h]
    have q : List.lookup f [(f, v)] = some v := by simp [List.lookup]
    rw [q]
    exact r
  · rw [if_neg h]
    have q : (y == f) = false := by simpa using h
    have q2 : List.lookup y [(f, v)] = none := by simp [List.lookup, q]
    rw [q2]
    trivial
section
variable {X : Cx} {C G fI : Addr} {x f qual : Str}
/-- E(e), to be raised: its own dict d, new, holds the field -/
def tMkErr (C : Addr) (f : Str) (ta : TA) : St → Hp → XK → Prop := fun σ H Q => ta σ H fun vs H1 => ∃ v, vs = [v] ∧ ∀ d, H1 d = none → Q (.ref C) (some d) (upd H1 d (.xd [(f, v)]))
theorem pmk_err {a : Expr} {ta : TA} {p pos : Pos} {k : Nat} (T : ErrTxt X.prog X.K X.mg x f qual C G fI) (hr : Room k X.A) (ha : PA X [a] ta) (hg : Gl X x) (hdb : (x == ("__debug__" : Str)) = false)
    (he : starEach (a :: []) X.env = (false, eval a X.env) :: starEach [] X.env := by rfl) (hpl : (backTo pos (starEach [] X.env)).any (·.1) = false := by rfl) :
    PMk X (.Call (.Name x p) [a] [] pos) (tMkErr C f ta) := by
  intro pins s σ H Q I h
  refine wpAny_Call_Name_kw (ld_glob I hg T.gC ?_ hdb)
  refine PySem.W.callWith_K (h₀ := X.base) I.ok.mod.kin T.kC (thn (ha.run pos pins s σ H _ I h) fun us s1 hh => ?_) he hpl
  obtain ⟨vs, H1, I1, r1, v, ev, q1⟩ := hh
  subst ev
  refine ⟨I1.kIn, ?_⟩
  cases r1 with
  | cons rv rn =>
    rename_i v' us'
    cases rn
    show wpAny _ _ (call (.ref C) [v']) _ _ _
    have hlim := I1.nolimit
    have hgl : s1.heap.Ns mainGlobals X.mg := I1.mod.glob.keeps I1.bk
    have hbl : ∃ mb, s1.heap.Ns builtinsNs mb ∧ ∀ y : Str, y ≠ "__name__" → mb y = bootBuiltins y := by
      obtain ⟨mb, b1, b2⟩ := I1.mod.blt
      exact ⟨mb, b1.keeps I1.bk, b2⟩
    obtain ⟨hp, g, dr, tk, os⟩ := s1
    refine wpAny_call (err_made T I1.kIn hgl hbl hlim (by have := hr.dp; omega) fun h' tk' e d M => ?_)
    show MkP X pins σ Q (.ref e) ⟨h', g, dr, tk', os⟩
    obtain ⟨t1, hoe⟩ := M.obj
    have hns := M.ns
    obtain ⟨G', g1, g2⟩ := restrict h' fun b => decide (b ≠ e)
    have gk : ∀ b, b ≠ e → G'.get? b = h'.get? b := fun b hb => g1 b (decide_eq_true hb)
    have ge : G'.get? e = none := g2 e (by simp)
    have old : ∀ b o, hp.get? b = some o → G'.get? b = some o := fun b o q => (gk b (Nat.ne_of_lt (Nat.lt_of_lt_of_le (Heap.lt_size q) M.new))).trans (M.keep b o q)
    have ob : ObjOk X.prog X.w (upd H1 d (.xd [(f, v)])) G' d (.xd [(f, v)]) := ⟨_, hns.at (fun o q => (gk d M.dne).trans q), fun y => relO_one rv y⟩
    have J : Inv X pins σ (upd H1 d (.xd [(f, v)])) ⟨G', g, dr, tk', os⟩ := I1.laid (t' := tk') old M.dbig ob
    refine ⟨e, _, _, ⟨G', g, dr, tk', os⟩, _, .ref C, some d, rfl, J, fun b o q => ?_, ge, hoe, ⟨rfl, rfl⟩, rfl, rfl, ?_, rfl, I1.bare, raises_own T.exC T.tyC, q1 d (I1.hok.fresh M.dbig)⟩
    · by_cases hb : b = e
      · have q' : G'.get? b = some o := q
        rw [hb, ge] at q'; cases q'
      · exact (gk b hb).symm.trans q
    · rw [upd_ne (Ne.symm M.dne)]
      exact I1.hok.fresh M.new
/-- raise E(e) -/
def tRaiseErr (C : Addr) (f : Str) (W : WX) (ta : TA) : TS := fun _ σ H => tMkErr C f ta σ H fun cls d H' => W cls d σ H'
theorem ps_raiseErr {a : Expr} {ta : TA} {W : WX} {p pos pos2 : Pos} {k : Nat} (hc : X.calm = true) (T : ErrTxt X.prog X.K X.mg x f qual C G fI) (hr : Room k X.A) (tk : Takes X W) (ha : PA X [a] ta) (hg : Gl X x) (hdb : (x == ("__debug__" : Str)) = false := by decide)
    (he : starEach (a :: []) X.env = (false, eval a X.env) :: starEach [] X.env := by rfl) (hpl : (backTo pos (starEach [] X.env)).any (·.1) = false := by rfl) :
    PS X (.Raise (some (.Call (.Name x p) [a] [] pos)) none pos2) (tRaiseErr C f W ta) := ps_raise hc tk (pmk_err T hr ha hg hdb he hpl)
/-- e.f, e the error that the suite holds (at a; its class cls, its dict d) -/
def tErrF (C : Addr) (f : Str) (a : Addr) (cls : Value) (d : Option Addr) (te : TE) : TE := fun σ H Q => te σ H fun x H1 => x = .ref a ∧ cls = .ref C ∧ ∃ (dd : Addr) (v : V), d = some dd ∧ H1 dd = some (.xd [(f, v)]) ∧ Q v H1
theorem pe_errF {a : Addr} {oe : Obj} {cls : Value} {d : Option Addr} {pn : List (Addr × Obj)} {e : Expr} {te : TE} {pos : Pos} (T : ErrTxt X.prog X.K X.mg x f qual C G fI) (hz : Zc cls d oe) (hf : ∃ vs, oe.data = .fields vs) (he : PE (X.suite a ((a, oe) :: pn)) e te)
    (hb : attributeBase e f X.env (eval e X.env) = eval e X.env := by rfl) :
    PE (X.suite a ((a, oe) :: pn)) (.Attribute e f pos) (tErrF C f a cls d te) := by
  refine ⟨fun pins s σ H Q I h => ?_⟩
  refine attr_of hb (thn (he.run pins s σ H _ I h) fun u s1 hh => ?_)
  obtain ⟨x, H1, I1, rx, ex, ec, dd, v, ed, ea, q⟩ := hh
  subst ex
  obtain rfl : u = Value.ref a := rx
  subst ec
  subst ed
  obtain ⟨ha, _⟩ := I1.pin (a, oe) (List.mem_append_left _ List.mem_cons_self)
  obtain ⟨vs, hd⟩ := hf
  have hx : ObjOk X.prog X.w H1 s1.heap dd (.xd [(f, v)]) := I1.hok dd _ ea
  obtain ⟨mA, hns, hr⟩ := hx
  obtain ⟨od, ho, hl⟩ := lookIn_ns hns
  have l : List.lookup f [(f, v)] = some v := by simp [List.lookup]
  obtain ⟨u, hu, ru⟩ := RelO.some_of (v := v) (o := mA f) (by rw [← l]; exact hr f)
  have J : PySem.W.InstAt s1.heap a oe C (some od) := ⟨ha, hz.1, by unfold PySem.W.notCls; rw [hd] <;> rfl, by rw [hz.2]; exact ho⟩
  exact HandSPX.exc_get I1.kIn J T.ga T.gg T.exC (PySem.W.findObj_own T.hdC T.noN rfl (by rw [hl, hu])) (handed_of ru) ⟨v, H1, I1.tok _, ru, q⟩
theorem passX0 {X : Cx} : Passes (L2.CX X.prog X.w) X E0 := fun _ _ _ _ _ _ _ h => by
  obtain ⟨_, _, _, _, _, _, _, _, _, _, _, _, h⟩ := h
  exact h.elim
theorem exm_of {K : PySem.W.Frag} {S : Addr} (h1 : PySem.W.subIn K (.ref S) (.type "BaseException") = some true) (h2 : PySem.W.isClsIn K S = true) (h3 : PySem.W.typeIn K (.ref S) = some (.type "type")) (h4 : PySem.W.subIn K (.ref S) (.ref S) = some true) :
    PySem.W.exmOne K (.ref S) (.ref S) = some true := by
  have e1 : (PySem.W.subIn K (.ref S) (.type "BaseException") == some true) = true := by rw [h1] <;> rfl
  have h2' : (PySem.W.clsIn K S).isSome = true := h2
  have e2 : ((PySem.W.clsIn K S).isSome && PySem.W.typeIn K (.ref S) == some (.type "type")) = true := by rw [h2', h3] <;> rfl
  show (if (PySem.W.subIn K (.ref S) (.type "BaseException") == some true) = true then (if ((PySem.W.clsIn K S).isSome && PySem.W.typeIn K (.ref S) == some (.type "type")) = true then PySem.W.subIn K (.ref S) (.ref S) else none) else none) = some true
  rw [if_pos e1, if_pos e2, h4]
end
end L2

set_option Elab.async false
set_option linter.all false
set_option maxRecDepth 100000
set_option maxHeartbeats 4000000
/-! defs whose promise wants that no repr is under way (guards = some []): the layer's call rules once more, with that beside -/
namespace L2
open PySem PySem.Spec PyProof.Rows
structure FnOkG (P : Program) (w : World) (K : PySem.W.Frag) (mg : Str → Option Value) (base : Heap) (CX : CXT) (k : Nat) (f : Addr) (fd : FuncData) (ps : List Str) (sp : Sp) : Prop where
  len : ∀ vs H Q E, sp vs H Q E → vs.length = ps.length
  run : ∀ (A : Around) (outer : List Env) (s : Shared) (H : Hp) (args : Args) (us : List Value) (vs : List V) (Q : VK) (E : XK), Room k A → A.guards = some [] → Env0 P w K mg base A outer s H →
    BindsTo s fd args (ps.zip us) → Vals vs us → sp vs H Q E → codeAny (model P w) A (.call (.ref f) args) (CR CX outer P w H s Q E) s
section
variable {P : Program} {w : World} {K : PySem.W.Frag} {mg : Str → Option Value} {base : Heap} {CX : CXT} {k : Nat} {f : Addr} {fd : FuncData} {ps : List Str} {sp : Sp}
theorem fnG_of {name qual : Str} {params : Arguments} {body : List Stmt} {scope : Scope} {dV kV doc pm cdv ct oc : Value} {an od : Option Addr} {osl : Array (Option Value)} {N : List Str}
    (lk : K.lookup f = some ⟨oc, od, .func (PySem.W.fnOf name qual params body scope dV kV doc pm an cdv ct), osl⟩) (hcd : PySem.W.codeIn K cdv qual = true) (S : FnScope N ps scope) (len : ∀ vs H Q E, sp vs H Q E → vs.length = ps.length)
    (hbody : ∀ (A : Around) (outer : List Env) (s : Shared) (H : Hp) (vs : List V) (Q : VK) (E : XK), Room k (A.deeper (envOfC qual scope s.heap.objs.size f cdv)) → (A.deeper (envOfC qual scope s.heap.objs.size f cdv)).guards = some [] → sp vs H Q E →
      ∃ t, PSs (cxOf CX P w K mg base N qual scope f cdv A outer s H E) body t ∧ t { nx := fun _ H' => Q .non H', rt := Q } (start N vs) H) :
    FnOkG P w K mg base CX (k + 1) f (PySem.W.fnOf name qual params body scope dV kV doc pm an cdv ct) ps sp := by
  constructor
  · exact len
  intro A outer s H args us vs Q E room gds env0 bnd rel want
  have keep : ∀ b o, base.get? b = some o → s.heap.get? b = some o := fun b o e => (env0.bs b o e).1
  have KX := env0.mod.kin.keeps keep
  have lim := env0.mod.nolimit.keeps keep
  have kinds : ∀ y ∈ ps.zip us, scope.names.lookup y.1 = some .local ∨ (scope.names.lookup y.1 = some .cell ∧ ((cellsFrom (s.heap.objs.size + 1) scope.names []).lookup y.1).isSome = true) := by
    rintro ⟨n, v⟩ hy
    have hp := S.par n (List.of_mem_zip hy).1
    exact hp.imp id fun q => ⟨q, PySem.W.cellsFrom_some _ _ _ (.inl q)⟩
  refine codeAny_call_function room.depth (KX _ _ lk) rfl S.co S.gen rfl (PySem.W.codeRec_of KX hcd) (bnd _ _ _ _ ?_)
  refine wpAny_newFunctionEnv_cells S.kind kinds fun env he s1 x => ?_
  subst he
  refine ⟨lim.keeps x.toInCall.keep, codeAny_func ?_⟩
  obtain ⟨t, ht, hq⟩ := hbody A outer s H vs Q E (room.deeper _) gds want
  have I := inv_start (CX := CX) (E := E) S room.hd env0 (len _ _ _ _ want) rel x
  refine wpAny_mono (ht.run [] s1 (start N vs) H _ I hq) (fun fl s' hs => ?_) fun e s' hs => hs
  cases fl with
  | ret u =>
    obtain ⟨v, σ', H', J, rv, q⟩ := hs
    exact ⟨v, H', J.os, J.bare, J.base, J.hok, rv, q⟩
  | next =>
    obtain ⟨σ', H', J, q⟩ := hs
    exact ⟨.non, H', J.os, J.bare, J.base, J.hok, rfl, q⟩
  | brk => exact hs.elim fun _ h => h.elim fun _ h => h.2.elim
  | cont => exact hs.elim fun _ h => h.elim fun _ h => h.2.elim
theorem Fun.okG {x qual : Str} {st : Stmt} {N : List Str} (F : Fun K x qual st f fd) (S : FnScope N ps (defScope st)) (len : ∀ vs H Q E, sp vs H Q E → vs.length = ps.length)
    (hbody : ∀ (cdv : Value) (A : Around) (outer : List Env) (s : Shared) (H : Hp) (vs : List V) (Q : VK) (E : XK), Room k (A.deeper (envOfC qual (defScope st) s.heap.objs.size f cdv)) → (A.deeper (envOfC qual (defScope st) s.heap.objs.size f cdv)).guards = some [] → sp vs H Q E →
      ∃ t, PSs (cxOf CX0 P w K mg base N qual (defScope st) f cdv A outer s H E).nox (defBody st) t ∧ t { nx := fun _ H' => Q .non H', rt := Q } (start N vs) H) : FnOkG P w K mg base CX0 (k + 1) f fd ps sp := by
  obtain ⟨oc, od, kV, doc, pm, an, cdv, ct, osl, rfl, lk, hcd⟩ := F.ex
  refine fnG_of lk hcd S len fun A outer s H vs Q E hr hg hsp => ?_
  obtain ⟨t, h, q⟩ := hbody cdv A outer s H vs Q E hr hg hsp
  exact ⟨t, h.nox, q⟩
theorem Fun.okXG {x qual : Str} {st : Stmt} {N : List Str} (F : Fun K x qual st f fd) (S : FnScope N ps (defScope st)) (len : ∀ vs H Q E, sp vs H Q E → vs.length = ps.length)
    (hbody : ∀ (cdv : Value) (A : Around) (outer : List Env) (s : Shared) (H : Hp) (vs : List V) (Q : VK) (E : XK), Room k (A.deeper (envOfC qual (defScope st) s.heap.objs.size f cdv)) → (A.deeper (envOfC qual (defScope st) s.heap.objs.size f cdv)).guards = some [] → sp vs H Q E →
      ∃ t, PSs (cxOf (L2.CX P w) P w K mg base N qual (defScope st) f cdv A outer s H E) (defBody st) t ∧ t { nx := fun _ H' => Q .non H', rt := Q } (start N vs) H) : FnOkG P w K mg base (L2.CX P w) (k + 1) f fd ps sp := by
  obtain ⟨oc, od, kV, doc, pm, an, cdv, ct, osl, rfl, lk, hcd⟩ := F.ex
  exact fnG_of lk hcd S len fun A outer s H vs Q E hr hg hsp => hbody cdv A outer s H vs Q E hr hg hsp
end
section
variable {X : Cx} {CX : CXT} {k : Nat} {f : Addr} {fd : FuncData} {ps : List Str} {sp : Sp} {x : Str} {p pos : Pos} {e : Expr} {es : List Expr} {t : TA}
theorem run_fnG {E : XK} {pins : List (Addr × Obj)} {σ : St} {H : Hp} {s : Shared} {Q : VK} {us : List Value} {vs : List V} (F : FnOkG X.prog X.w X.K X.mg X.base CX k f fd ps sp) (hr : Room k X.A) (hgd : X.A.guards = some []) (hb : Binds X.K fd ps []) (hx : Passes CX X E)
    (I : Inv X pins σ H s) (r : Vals vs us) (h : sp vs H Q E) : wpAny (model X.prog X.w) X.A (call (.ref f) us) (EP X pins σ Q) X.xe s := by
  have hl : us.length = ps.length := r.length.symm.trans (F.len _ _ _ _ h)
  have b := hb s us I.kIn (by rw [List.append_nil]; exact hl)
  rw [List.append_nil] at b
  refine wpAny_call (codeAny_mono (F.run X.A X.stack s H ⟨us, []⟩ us vs Q E hr hgd I.env0 b r h) fun rr s' hq => ?_)
  match rr, hq with
  | .error e, hq => exact hx pins σ H s e s' I hq
  | .ok (.ret u), hq => exact I.after hq
  | .ok .next, hq => exact False.elim hq
  | .ok .brk, hq => exact False.elim hq
  | .ok .cont, hq => exact False.elim hq
theorem pe_callG {E : XK} (F : FnOkG X.prog X.w X.K X.mg X.base CX k f fd ps sp) (hr : Room k X.A) (hgd : X.A.guards = some []) (hg : Gl X x) (hm : X.mg x = some (.ref f)) (hk : PySem.W.keepIn X.K (.ref f) = true) (hb : Binds X.K fd ps []) (hx : Passes CX X E) (ha : PA X (e :: es) t)
    (hdb : (x == ("__debug__" : Str)) = false := by decide) (he : starEach (e :: es) X.env = (false, eval e X.env) :: starEach es X.env := by rfl) (hpl : (backTo pos (starEach es X.env)).any (·.1) = false := by rfl) :
    PE X (.Call (.Name x p) (e :: es) [] pos) (tCall sp [] E t) := by
  constructor
  intro pins s σ H Q I h
  refine wpAny_Call_Name_kw (ld_glob I hg hm ?_ hdb)
  refine PySem.W.callWith_K (h₀ := X.base) I.ok.mod.kin hk (thn (ha.run pos pins s σ H _ I h) fun us s1 hh => ?_) he hpl
  obtain ⟨vs, H1, I1, r, q⟩ := hh
  have q' : sp (vs ++ []) H1 Q E := q
  rw [List.append_nil] at q'
  exact ⟨I1.kIn, run_fnG F hr hgd hb hx I1 r q'⟩
end
/-! ### the law's own end -/
theorem law_callG {P : Program} {w : World} {K : PySem.W.Frag} {mg mb : Str → Option Value} {CX : CXT} {k : Nat} {fa a : Addr} {fd : FuncData} {x : Str} {sp : Sp} {s₁ : Shared} {vs : List Value} {ns : List Int} (KX : K.In s₁.heap) (hns : s₁.heap.Ns mainGlobals mg)
    (hb : s₁.heap.Ns builtinsNs mb) (hbb : ∀ x : Str, x ≠ "__name__" → mb x = bootBuiltins x) (hlim : s₁.heap.NoLimit) (hg : s₁.gens = #[]) (ha : s₁.heap.get? a = some { cls := .type "list", data := .seq vs.toArray }) (hi : IntsAre vs ns) (hl : ns.length ≤ sizeLine) (hr : Room k callerA)
    (F : ∀ base : Heap, K.In base → base.Ns mainGlobals mg → FnOkG P w K mg base CX k fa fd [x] sp) (hbind : ∀ (s : Shared) (u : Value), BindsTo s fd ⟨[u], []⟩ [(x, u)])
    (hsp : ∀ H : Hp, Only H → SqL K H a (ns.map V.int) → sp [.ref a] H (fun v _ => v = .bl true) fun _ _ _ => False) (hCX : ∀ H e s', CX [] H s₁ (fun _ _ _ => False) e s' → False) :
    codeAny (model P w) callerA (.call (.ref fa) ⟨[.ref a], []⟩) (fun r s' => r = .ok (.ret (.bool true)) ∧ OldK s₁.heap s'.heap ∧ s'.os = s₁.os ∧ AllBare s'.gens) s₁ := by
  have rv := vals_ints hi
  have nil_no : ∀ b : Addr, b ∉ ([] : List Addr) := fun b => by simp
  -- from an abstract heap in which the script alone may be tracked
  have core : ∀ H : Hp, Only H → SqL K H a (ns.map V.int) → HOk P w H s₁.heap → (∀ b, H b ≠ none → b = a) → (H a ≠ none → K.lookup a = none) →
      codeAny (model P w) callerA (.call (.ref fa) ⟨[.ref a], []⟩) (fun r s' => r = .ok (.ret (.bool true)) ∧ OldK s₁.heap s'.heap ∧ s'.os = s₁.os ∧ AllBare s'.gens) s₁ := by
    intro H only sq hok alone unk
    have free : ∀ {b : Addr} {o : Obj} {es : Array DictEntry} {ep : Nat}, s₁.heap.get? b = some o → o.data = .dict es ep → H b = none := by
      intro b o es ep e d
      cases q : H b with
      | none => rfl
      | some u =>
        have eb : b = a := alone b (by rw [q]; simp)
        rw [eb, ha] at e
        cases e
        cases (show Data.seq vs.toArray _ = Data.dict es ep from d)
    have nsK : ∀ {b : Addr} {m : Str → Option Value}, s₁.heap.Ns b m → (hidT s₁.heap H).Ns b m := by
      rintro b m ⟨o, es, ep, e, d, r⟩
      exact ⟨o, es, ep, hidT_get e (free e d), d, r⟩
    have hKb : K.In (hidT s₁.heap H) := by
      intro b o e
      refine hidT_get (KX b o e) ?_
      cases q : H b with
      | none => rfl
      | some u =>
        have eb : b = a := alone b (by rw [q]; simp)
        rw [eb] at q e
        rw [unk (by rw [q]; simp)] at e
        cases e
    have hM : Mod K mg (hidT s₁.heap H) := by
      obtain ⟨mc, h1, h2⟩ := hlim
      exact ⟨hKb, nsK hns, ⟨mb, nsK hb, hbb⟩, mc, nsK h1, h2⟩
    have e0 : Env0 P w K mg (hidT s₁.heap H) callerA [] s₁ H := ⟨rfl, hM, fun b o e => of_hidT e, Nat.le_of_eq (hidT_size _ _), trivial, fun b hb => (nil_no b hb).elim, hok, .of_eq hg⟩
    have run := (F _ hKb (nsK hns)).run callerA [] s₁ H ⟨[.ref a], []⟩ [.ref a] [.ref a] _ _ hr rfl e0 (hbind s₁ (.ref a)) (.cons rfl .nil) (hsp H only sq)
    refine codeAny_mono run fun r s' h => ?_
    match r, h with
    | .error e, h => exact (hCX H e s' h).elim
    | .ok .next, h => exact False.elim h
    | .ok .brk, h => exact False.elim h
    | .ok .cont, h => exact False.elim h
    | .ok (.ret u), h =>
      obtain ⟨v, H', os, bare, un, hok', r', rfl⟩ := h
      obtain rfl : u = Value.bool true := r'
      refine ⟨rfl, OldK.of_keep fun b o e => ?_, os, bare⟩
      rcases only b with z | ⟨ob, xs, z⟩
      · exact un.keep b o e z (nil_no b) (by simp)
      · obtain ⟨e1, _⟩ := hok b _ z
        obtain ⟨e2, _⟩ := hok' b _ (un.frzs b ob _ z)
        rw [e] at e1
        cases e1
        exact e2
  cases hk : K.lookup a with
  | some o =>
    have e := KX a o hk
    rw [ha] at e
    cases e
    refine core (fun _ => none) (fun _ => .inl rfl) ?_ (fun b u z => nomatch z) (fun b z => absurd rfl z) fun z => absurd rfl z
    exact .inr ⟨_, vs.toArray, _, hk, rfl, rfl, rfl, by rw [List.size_toArray, hi.length]; exact hl, by simpa using rv⟩
  | none =>
    refine core (fun b => if b = a then some (.frz { cls := .type "list", data := .seq vs.toArray } (.lst (ns.map V.int))) else none) (fun b => ?_) (.inl (.inr ⟨_, if_pos rfl⟩)) (fun b u z => ?_) (fun b z => ?_) fun _ => hk
    all_goals by_cases hb : b = a
    · exact .inr ⟨_, _, if_pos hb⟩
    · exact .inl (if_neg hb)
    · cases (if_pos hb).symm.trans z
      subst hb
      exact ⟨ha, by rw [List.length_map]; exact hl, vs, _, rv, ha⟩
    · cases (if_neg hb).symm.trans z
    · exact hb
    · exact absurd (if_neg hb) z
theorem walk_ofG {l : PySem.W.OpenLaw} {n k : Nat} {q : Program} {loose : List Str} {XP : (Str → Option Value) → Heap → Prop} {YP : World → Heap → Prop} {d : DefRec} {K : Params → PySem.W.Frag} {CX : World → CXT} {sp : World → Sp} {x : Str} (hn : l.most = some n) (hn2 : n ≤ sizeLine)
    (hdf : d.params.defaults = []) (hr : Room k callerA) (hY : ∀ (w : World) (h : Heap), YP w h → (K w.params).In h)
    (F : ∀ (w : World) (mg : Str → Option Value) (fa : Addr) (h : Heap), (K w.params).In h → h.Ns mainGlobals mg → mg d.name = some (.ref fa) → ∃ fd : FuncData, (∀ (s : Shared) (u : Value), BindsTo s fd ⟨[u], []⟩ [(x, u)]) ∧
        ∀ base : Heap, (K w.params).In base → base.Ns mainGlobals mg → FnOkG l.prog w (K w.params) mg base (CX w) k fa fd [x] (sp w))
    (hsp : ∀ (w : World) (H : Hp) (a : Addr) (ns : List Int), ns.length ≤ n → Only H → SqL (K w.params) H a (ns.map V.int) → sp w [.ref a] H (fun v _ => v = .bl true) fun _ _ _ => False)
    (hCX : ∀ (w : World) (H : Hp) (s : Shared) (e : Value) (s' : Shared), CX w [] H s (fun _ _ _ => False) e s' → False) : PySem.W.WalkO q loose XP YP l.row.toRowW d [] (fun f vs => PySem.call f vs) := by
  refine Att.attach_call hn hdf fun w s₀ s₁ mg mb fa o pm cd doc a vs ns G Y ho hd hcd hmg hobj hints hlen hg => ?_
  obtain ⟨fd, bnd, ok⟩ := F w mg fa _ (hY w _ Y) G.T.g hmg
  exact law_callG (hY w _ Y) G.T.g G.T.b G.T.builtins G.T.nolimit hg hobj hints (Nat.le_trans hlen hn2) hr ok bnd (fun H hO hS => hsp w H a ns hlen hO hS) fun H e s' => hCX w H s₁ e s'
end L2

set_option Elab.async false
set_option linter.all false
set_option maxRecDepth 100000
set_option maxHeartbeats 4000000
/-! repr of data -/
namespace L2
open PySem PySem.Spec PyProof.Rows
/-! data without lists and dicts -/
mutual
def plainD : PyData → Bool
  | .none => true
  | .bool _ => true
  | .int _ => true
  | .str _ => true
  | .tuple xs => plainDs xs
  | .list _ => false
  | .dict _ => false
def plainDs : List PyData → Bool
  | [] => true
  | x :: xs => plainD x && plainDs xs
end
mutual
theorem plain_reads {h : Heap} : ∀ {v : Value} {d : PyData} {as : List Addr}, Reads h v d as → plainD d = true → as = []
  | _, _, _, .none, _ => rfl
  | _, _, _, .bool _, _ => rfl
  | _, _, _, .int _ _, _ => rfl
  | _, _, _, .str _ _, _ => rfl
  | _, _, _, .tuple _ _ _ r, e => plain_readsAll r (by simpa [plainD] using e)
  | _, _, _, .list _ _ _ _, e => by simp [plainD] at e
  | _, _, _, .dict _ _ _ _ _, e => by simp [plainD] at e
theorem plain_readsAll {h : Heap} : ∀ {v : List Value} {d : List PyData} {as : List Addr}, ReadsAll h v d as → plainDs d = true → as = []
  | _, _, _, .nil, _ => rfl
  | _, _, _, .cons r rs, e => by
    simp [plainDs] at e
    rw [plain_reads r e.1, plain_readsAll rs e.2]
    rfl
end
mutual
theorem dp_nodict {K : PySem.W.Frag} {H : Hp} : ∀ {v : V} {d : PyData}, Dp K H v d → d.hasDict = false
  | _, _, .non => rfl
  | _, _, .bl _ => rfl
  | _, _, .int _ => rfl
  | _, _, .str _ => rfl
  | _, _, .lst _ r => by simpa [PyData.hasDict] using dpAll_nodict r
  | _, _, .tup _ r => by simpa [PyData.hasDict] using dpAll_nodict r
theorem dpAll_nodict {K : PySem.W.Frag} {H : Hp} : ∀ {v : List V} {d : List PyData}, DpAll K H v d → PyData.hasDictAll d = false
  | _, _, .nil => rfl
  | _, _, .cons r rs => by simp [PyData.hasDictAll, dp_nodict r, dpAll_nodict rs]
end
/-- a key, as data -/
def keyD : Key → PyData
  | .inl i => .int i
  | .inr x => .str x
/-- a value that repr is asked of: data without dicts, or a dict of plain data -/
def Rp (K : PySem.W.Frag) (H : Hp) (v : V) (d : PyData) : Prop :=
  Dp K H v d ∨ ∃ (a : Addr) (kvs : List (Key × V)) (ds : List PyData), v = .ref a ∧ H a = some (.dK kvs) ∧ DpAll K H (kvs.map (·.2)) ds ∧ plainDs ds = true ∧ d = .dict ((kvs.map fun kv => keyD kv.1).zip ds)
section
variable {X : Cx}
theorem zip_fst {α β : Type} : ∀ {xs : List α} {ys : List β}, xs.length = ys.length → (xs.zip ys).map (·.1) = xs ∧ (xs.zip ys).map (·.2) = ys
  | [], [], _ => ⟨rfl, rfl⟩
  | x :: xs, y :: ys, h => by
    obtain ⟨a, b⟩ := zip_fst (xs := xs) (ys := ys) (by simpa using h)
    simp [a, b]
theorem DpAll.len {K : PySem.W.Frag} {H : Hp} : ∀ {vs : List V} {ds : List PyData}, DpAll K H vs ds → vs.length = ds.length
  | _, _, .nil => rfl
  | _, _, .cons _ r => by simp [DpAll.len r]
theorem keys_read {h : Heap} {P : Program} {w : World} {es : List DictEntry} {vs : List (Key × Value)} (r : Pairs (mixKind P w) es vs) : ReadsAll h (es.map (·.key)) (vs.map fun kv => keyD kv.1) [] ∧ es.map (·.val) = vs.map (·.2) := by
  induction r with
  | nil => exact ⟨.nil, rfl⟩
  | cons hk hv r ih =>
    refine ⟨?_, by simp [ih.2, hv]⟩
    rcases keyIs_shape hk with ⟨i, t, e1, e2⟩ | ⟨x, t, e1, e2⟩
    · simp only [List.map_cons, e1, e2]
      exact .cons (.int i t) ih.1
    · simp only [List.map_cons, e1, e2]
      exact .cons (.str x t) ih.1
theorem KV.fst {kvs : List (Key × V)} {vs : List (Key × Value)} (r : KV kvs vs) : kvs.map (·.1) = vs.map (·.1) ∧ Vals (kvs.map (·.2)) (vs.map (·.2)) := by
  induction r with
  | nil => exact ⟨rfl, .nil⟩
  | cons p r ih =>
    refine ⟨?_, .cons p.2 ih.2⟩
    simp only [List.map_cons, p.1, ih.1]
/-- repr(v) -/
def rRepr (K : PySem.W.Frag) : List V → Hp → VK → Prop := fun xs H Q => ∃ v d, xs = [v] ∧ Rp K H v d ∧ d.showable = true ∧ d.shown.length ≤ sizeLine ∧ d.depth ≤ 60 ∧ Q (.str d.shown) H
theorem call_reprD (hg : X.A.guards = some []) (hu : X.A.units + 65 < cLine) : CallR X (.builtin "repr") (rRepr X.K) := by
  intro pins s σ H xs us Q I r h
  obtain ⟨v, d, rfl, hv, hs, hz, hd, q⟩ := h
  obtain ⟨u, rfl, ru⟩ := vals1 r
  have end0 : ∀ (h' : Heap) (t : Tok) (tk : Nat), (∀ b o, s.heap.get? b = some o → h'.get? b = some o) → EP X pins σ Q (.str d.shown t) { s with heap := h', toks := tk } := fun h' t tk k => ⟨.str _, H, I.kept k, ⟨_, rfl⟩, q⟩
  have byRef : ∀ a as, u = .ref a → Reads s.heap u d as → (d.hasDict = true → sysModules ∉ as) → wpAny (model X.prog X.w) X.A (call (.builtin "repr") [u]) (EP X pins σ Q) X.xe s := by
    rintro a as rfl rd nm
    exact repr_of_reads' rd hs nm hg (by omega) (fun _ _ e => e) (fun h' t tk k => end0 h' t tk k) hz
  rcases hv with hv | ⟨a, kvs, ds, rfl, ha, hds, hp, rfl⟩
  · obtain ⟨as, rd⟩ := Dp.reads I d v u hv ru
    have nd := dp_nodict hv
    cases hv with
    | non => cases (show u = Value.none from ru); exact PySem.P.repr_of_none (end0 _ _ _ fun _ _ e => e)
    | bl b => cases (show u = Value.bool b from ru); exact PySem.P.repr_of_bool (end0 _ _ _ fun _ _ e => e)
    | int i =>
      obtain ⟨t, rfl⟩ := (show ∃ t, u = Value.int i t from ru)
      exact PySem.P.repr_of_int (of_decide_eq_true hs) (end0 _ _ _ fun _ _ e => e)
    | str x =>
      obtain ⟨t, rfl⟩ := (show ∃ t, u = Value.str x t from ru)
      exact PySem.P.repr_of_str (end0 _ _ _ fun _ _ e => e) hz
    | lst sq al => exact byRef _ as ru rd (fun e => by rw [nd] at e; cases e)
    | tup sq al => exact byRef _ as ru rd (fun e => by rw [nd] at e; cases e)
  · obtain rfl : u = Value.ref a := ru
    obtain ⟨_, hsys, vs, rkv, o, es, ep, ho, hex, hdat, _, hpr, _⟩ := (show ObjOk X.prog X.w H s.heap a (.dK kvs) from I.hok a _ ha)
    obtain ⟨e1, rv⟩ := KV.fst rkv
    obtain ⟨rk, ev⟩ := keys_read (h := s.heap) hpr
    obtain ⟨bs, rb⟩ := Dp.readsAll I ds _ _ hds rv
    have eb := plain_readsAll rb hp
    subst eb
    have el : (kvs.map fun kv => keyD kv.1).length = ds.length := by
      have := hds.len
      rw [List.length_map] at this ⊢
      exact this
    obtain ⟨z1, z2⟩ := zip_fst el
    have e2 : (kvs.map fun kv => keyD kv.1) = vs.map fun kv => keyD kv.1 := by
      have := congrArg (List.map keyD) e1
      simpa [List.map_map, Function.comp_def] using this
    have rd : Reads s.heap (.ref a) (.dict ((kvs.map fun kv => keyD kv.1).zip ds)) (a :: [] ++ []) := by
      refine .dict ho hex.1 hdat ?_ ?_
      · rw [z1, e2]; exact rk
      · rw [z2, ev]; exact rb
    refine byRef a _ rfl rd fun _ hm => ?_
    have : sysModules = a := by simpa using hm
    rw [← this] at hsys
    simp at hsys
end
end L2

set_option Elab.async false
set_option linter.all false
set_option maxRecDepth 100000
set_option maxHeartbeats 4000000
/-! dicts made by comprehensions; locks -/
namespace SB
open PySem L2
theorem valV_none {kvs : List (Key × V)} {k : Key} : valV kvs k = none ↔ k ∉ kvs.map (·.1) := by
  unfold valV
  rw [Option.map_eq_none_iff, List.find?_eq_none]
  constructor
  · intro h hm
    obtain ⟨kv, h1, h2⟩ := List.mem_map.mp hm
    exact h kv h1 (decide_eq_true h2)
  · intro h kv hm hd
    exact h (List.mem_map.mpr ⟨kv, hm, of_decide_eq_true hd⟩)
theorem putK_len (kvs : List (Key × V)) (k : Key) (v : V) : (putK kvs k v).length ≤ kvs.length + 1 := by
  unfold putK
  split
  · simp
  · simp
theorem putK_old {kvs : List (Key × V)} {k : Key} (v : V) (h : k ∈ kvs.map (·.1)) : (putK kvs k v).length = kvs.length ∧ (putK kvs k v).map (·.1) = kvs.map (·.1) := by
  have h1 : (kvs.any fun kv => decide (kv.1 = k)) = true := by
    obtain ⟨kv, a, b⟩ := List.mem_map.mp h
    exact List.any_eq_true.mpr ⟨kv, a, decide_eq_true b⟩
  unfold putK
  rw [if_pos h1]
  refine ⟨by simp, ?_⟩
  rw [List.map_map]
  refine List.map_congr_left fun kv _ => ?_
  show (if kv.1 = k then (kv.1, v) else kv).1 = kv.1
  split <;> rfl
theorem merge_len : ∀ (more kvs : List (Key × V)), (mergeK kvs more).length ≤ kvs.length + more.length
  | [], kvs => by simp [mergeK]
  | p :: r, kvs => by
    have h := merge_len r (putK kvs p.1 p.2)
    have h2 := putK_len kvs p.1 p.2
    show (mergeK (putK kvs p.1 p.2) r).length ≤ _
    rw [List.length_cons]
    omega
theorem merge_nodup : ∀ (more kvs : List (Key × V)), ((kvs ++ more).map (·.1)).Nodup → mergeK kvs more = kvs ++ more
  | [], kvs, _ => by simp [mergeK]
  | p :: r, kvs, h => by
    have e : kvs ++ p :: r = (kvs ++ [p]) ++ r := by simp
    have hn : valV kvs p.1 = none := by
      refine valV_none.mpr fun hm => ?_
      rw [List.map_append, List.nodup_append] at h
      exact h.2.2 _ hm p.1 (by simp) rfl
    show mergeK (putK kvs p.1 p.2) r = _
    rw [putK_new _ hn, merge_nodup r _ (by rw [e] at h; exact h), e]
theorem merge_len_iff : ∀ (more kvs : List (Key × V)), (mergeK kvs more).length = kvs.length + more.length ↔ (more.map (·.1)).Nodup ∧ ∀ p ∈ more, p.1 ∉ kvs.map (·.1)
  | [], kvs => by simp [mergeK]
  | p :: r, kvs => by
    by_cases hp : p.1 ∈ kvs.map (·.1)
    · have h1 := putK_old p.2 hp
      have h2 := merge_len r (putK kvs p.1 p.2)
      constructor
      · intro e
        have e' : (mergeK (putK kvs p.1 p.2) r).length = kvs.length + (p :: r).length := e
        rw [List.length_cons] at e'
        omega
      · intro h
        exact absurd hp (h.2 p (by simp))
    · have h1 := putK_new (kvs := kvs) p.2 (valV_none.mpr hp)
      have ih := merge_len_iff r (kvs ++ [p])
      have e0 : mergeK kvs (p :: r) = mergeK (kvs ++ [p]) r := by
        show mergeK (putK kvs p.1 p.2) r = _
        rw [h1]
      rw [e0, List.length_cons]
      have e1 : kvs.length + (r.length + 1) = (kvs ++ [p]).length + r.length := by simp; omega
      rw [e1, ih]
      constructor
      · rintro ⟨n, d⟩
        refine ⟨?_, ?_⟩
        · rw [List.map_cons, List.nodup_cons]
          refine ⟨fun hm => ?_, n⟩
          obtain ⟨q, q1, q2⟩ := List.mem_map.mp hm
          exact d q q1 (by rw [q2]; simp)
        · intro q hq
          rcases List.mem_cons.mp hq with rfl | hq
          · exact hp
          · intro hm
            exact d q hq (by rw [List.map_append]; exact List.mem_append_left _ hm)
      · rintro ⟨n, d⟩
        rw [List.map_cons, List.nodup_cons] at n
        refine ⟨n.2, fun q hq hm => ?_⟩
        rw [List.map_append] at hm
        rcases List.mem_append.mp hm with hm | hm
        · exact d q (List.mem_cons_of_mem _ hq) hm
        · have : q.1 = p.1 := by simpa using hm
          exact n.1 (List.mem_map.mpr ⟨q, hq, this⟩)
/-- what stood stands again behind a lock -/
theorem same_lock {H H' : Hp} {d : Addr} {f u : HO} (hd : H d = some u) (s : Same (upd H d f) H') : Same H (upd H' d u) := fun b o e => by
  by_cases hb : b = d
  · subst hb
    rw [hd] at e
    cases e
    exact upd_same
  · rw [upd_ne hb]
    exact s b o (by rw [upd_ne hb]; exact e)
theorem lock_same {H : Hp} {d b : Addr} {f o : HO} (hb : b ≠ d) (e : H b = some o) : upd H d f b = some o := by rw [upd_ne hb]; exact e
section
variable {J : It} {n : Nat} {G : Hp → Prop} {Y : Nat → Hp → V → Hp → Prop}
/-- a dict comprehension over the items of a list ys -/
theorem dc_mapL {α : Type} {ys : List α} (w : Walk J ys.length G Y) {g : TG} {tk tv : TE} {vs : List Nat} {σ : St} {H1 : Hp} {D : Addr} {Qd : Hp → Prop} (hD : H1 D = none) (hn : ys.length ≤ sizeLine) (hG : ∀ H, Same H1 H → G H) (F : α → Key × V)
    (hs : ∀ i y x H H' (R : V → V → Hp → Prop), ys[i]? = some y → Same H1 H → (∃ acc, H D = some (.dK acc)) → Y i H x H' → (∀ H5, Same H H5 → R (kV (F y).1) (F y).2 H5) →
      g x (wipe σ vs) H' fun σ2 H2 => wipe σ2 vs = wipe σ vs ∧ tk σ2 H2 fun y H4 => tv σ2 H4 fun z H5 => R y z H5)
    (hd : ∀ H, Same H1 H → H D = some (.dK (mergeK [] (ys.map F))) → Qd H) :
    ∃ W : Nat → Nat → Hp → Prop, (∃ m, W 0 m (upd H1 D (.dK []))) ∧ ∀ i m H, W i m H →
      (J.stop i H ∧ Qd H) ∨ (J.go i H ∧ ∃ Nx : Hp → Prop, (∀ H', Nx H' → ∃ m', m' < m ∧ W (i + 1) m' H') ∧ ∀ x H', J.yld i H x H' → g x (wipe σ vs) H' fun σ2 H2 => wipe σ2 vs = wipe σ vs ∧ tYes σ2 H2 fun b H3 =>
        if b = true then tk σ2 H3 fun y H4 => tv σ2 H4 fun z H5 => ∃ kvs k, y = kV k ∧ H5 D = some (.dK kvs) ∧ kvs.length < sizeLine ∧ Nx (upd H5 D (.dK (putK kvs k z))) else Nx H3) := by
  refine ⟨fun i m H => m = ys.length - i ∧ i ≤ ys.length ∧ Same H1 H ∧ H D = some (.dK (mergeK [] ((ys.take i).map F))), ⟨ys.length, by simp, Nat.zero_le _, same_new hD, upd_same⟩, ?_⟩
  rintro i m H ⟨rfl, hi, s1, hH⟩
  by_cases hlt : i < ys.length
  · refine .inr ⟨w.goes i H hlt (hG H s1), fun H' => Same H1 H' ∧ H' D = some (.dK (mergeK [] ((ys.take (i + 1)).map F))), fun H' p => ⟨ys.length - (i + 1), by omega, rfl, hlt, p.1, p.2⟩, fun x H' y => ?_⟩
    have hz : ys[i]? = some ys[i] := List.getElem?_eq_getElem hlt
    refine hs i ys[i] x H H' _ hz s1 ⟨_, hH⟩ (w.yields i H x H' hlt (hG H s1) y) fun H5 s5 => ?_
    refine ⟨_, _, rfl, s5 _ _ hH, ?_, ?_, ?_⟩
    · have := merge_len ((ys.take i).map F) []
      rw [List.length_map, List.length_take, show ([] : List (Key × V)).length = 0 from rfl] at this
      omega
    · intro b o eb
      rw [upd_ne (ne_of_none eb hD)]
      exact s5 _ _ (s1 _ _ eb)
    · rw [upd_same, List.take_succ, hz, List.map_append]
      show _ = some (HO.dK (List.foldl _ [] (_ ++ _)))
      rw [List.foldl_append]
      rfl
  · have e : i = ys.length := by omega
    subst e
    exact .inl ⟨w.stops H (hG H s1), hd H s1 (by rw [hH, List.take_length])⟩
/-- the items of a dict, one by one -/
theorem walk_kv {d : Addr} {o : Obj} {kvs : List (Key × V)} : Walk (Iti d o kvs) kvs.length (fun H => H d = some (.frz o (.dK kvs)))
    (fun i H v H' => ∃ T kv, kvs[i]? = some kv ∧ v = .ref T ∧ H T = none ∧ H' = upd H T (.tup [kV kv.1, kv.2])) := by
  refine (walk_items (d := d) (o := o) (kvs := kvs)).mono (fun _ h => h) fun i H x H' hi _ y => ?_
  obtain ⟨T, a, b, e1, e2, e3, e4, e5⟩ := y
  have hz : kvs[i]? = some kvs[i] := List.getElem?_eq_getElem hi
  dsimp only at e4 e5
  rw [hz] at e4 e5
  cases e4
  cases e5
  exact ⟨T, _, hz, e1, e2, e3⟩
end
end SB

set_option Elab.async false
set_option linter.all false
set_option maxRecDepth 100000
set_option maxHeartbeats 4000000
/-! list(d.values()), dict(zip(xs, ys)) -/
namespace L2
open PySem PySem.Spec PyProof.Rows
section
variable {X : Cx} {e e2 : Expr} {te : TE} {ta : TA} {p p2 pos pos2 apos cpos : Pos}
def tListVals (te : TE) : TE := fun σ H Q => te σ H fun x H1 => ∃ (d : Addr) (kvs : List (Key × V)), x = .ref d ∧ H1 d = some (.dK kvs) ∧ ∀ q, H1 q = none → Q (.ref q) (upd H1 q (.lst (kvs.map (·.2))))
theorem pe_listVals (hc : X.calm = true) (he : PE X e te) (hg : Gl X "list") (hm : X.mg "list" = none) (hv : bootBuiltins "list" = some (.type "list")) (hbase : attributeBase e "values" X.env (eval e X.env) = eval e X.env := by rfl) (hline : (apos.endLine == cpos.line) = true := by rfl)
    (hs : starEach [.Call (.Attribute e "values" apos) [] [] cpos] X.env = (false, eval (.Call (.Attribute e "values" apos) [] [] cpos) X.env) :: starEach [] X.env := by rfl) :
    PE X (.Call (.Name "list" p) [.Call (.Attribute e "values" apos) [] [] cpos] [] pos) (tListVals te) := by
  constructor
  intro pins s σ H Q I hq
  refine wpAny_Call_Name_kw (ld_blt I hg hm hv (PyProof.Rows.callWith_type1 ?_ hs rfl))
  rw [hs]
  show wpAny _ _ (spliced ((false, eval (.Call (.Attribute e "values" apos) [] [] cpos) X.env) :: backTo pos (starEach [] X.env))) _ _ s
  refine Calls.spliced_cons (wpAny_Call_method (T := "dict") (id := "dict.values") hbase rfl hline F.plainAttrs_dict F.slot_dict_values F.type_dict_values (thn (he.run pins s σ H _ I hq) fun u s1 hh => ?_))
  obtain ⟨x, H1, I1, rx, d, kvs, ex, hd, q⟩ := hh
  subst ex
  obtain rfl : u = Value.ref d := rx
  obtain ⟨hz, hs0, vs, kv, hdo⟩ := (show ObjOk X.prog X.w H1 s1.heap d (.dK kvs) from I1.hok d _ hd)
  obtain ⟨ep, hat⟩ := hdo.dictAt
  have lk : kvs.length = vs.length := Paired.length kv
  have up : ∀ b ob, s1.heap.get? b = some ob → (s1.heap.push { cls := .type "dict_values", data := .fields #[.ref d] }).get? b = some ob := fun b ob q => Heap.get?_push_of_some _ q
  refine ⟨hdo.typeIs, hdo.mapOf.noDict, ?_⟩
  show wpAny _ _ (callWith cpos (.builtin "dict.values") [.ref d] [] []) _ X.xe s1
  refine method_meetsIn F.slot_dict_values F.entry_dict_values rfl (PySem.evalArgs_none ⟨rfl, hdo.typeIs, F.args_dict_values_1 _, _, meets_dict_values (mixKind X.prog X.w) d hs0, ⟨vs, hdo⟩, ?_⟩)
  refine Calls.spliced_nil (PySem.W.kdl_call (PySem.W.kdl_values (knd := mixKind X.prog X.w) (r := s1.heap.objs.size) (d := d) (kvs := vs) (ep := ep)) (I1.ok.hd hc) ⟨⟨_, Heap.get?_push_size _ rfl, rfl, rfl⟩, hat.push _⟩ (by omega) fun h' tk acc c hk hS hi => ?_)
  have e1 : acc.toList = vs.map (·.2) := PySem.W.kdl_vals_eq acc.toList (by rw [Array.length_toList]; exact hi.1) fun j v hj => by
    rw [Array.getElem?_toList] at hj
    exact hi.2 j v hj
  have rv : Vals (kvs.map (·.2)) acc.toList := by rw [e1]; exact (KV.fst kv).2
  have lz : (s1.heap.push { cls := .type "dict_values", data := .fields #[.ref d] }).objs.size = s1.heap.objs.size + 1 := Heap.size_push ..
  have big : s1.heap.objs.size ≤ (s1.heap.push { cls := .type "dict_values", data := .fields #[.ref d] }).objs.size := by rw [lz]; exact Nat.le_succ _
  refine ⟨.ref _, _, I1.laid (t' := tk) (o := .lst (kvs.map (·.2))) (fun b ob z => hk b ob (up b ob z)) big ?_, rfl, q _ (I1.hok.fresh big)⟩
  exact ⟨by rw [List.length_map]; exact hz, acc.toList, c, rv, by rw [hS]⟩
/-- dict(zip(xs, ys)): the keys xs are ints and texts, ys is not shorter -/
def tDictZip (K : PySem.W.Frag) (ta : TA) : TE := fun σ H Q => ta σ H fun vs H1 => ∃ (a b : Addr) (ks : List Key) (ys : List V), vs = [.ref a, .ref b] ∧ SqL K H1 a (ks.map kV) ∧ SqL K H1 b ys ∧ ks.length ≤ ys.length ∧
  ∀ q, H1 q = none → Q (.ref q) (upd H1 q (.dK (mergeK [] (ks.zip ys))))
theorem zip_pairs {ks : List Key} {ys : List V} {us ws : List Value} (ru : Vals (ks.map kV) us) (rw' : Vals ys ws) : KV (ks.zip ys) (ks.zip ws) ∧ ∀ (i : Nat) (key v : Value), us[i]? = some key → ws[i]? = some v → ∃ k, (ks.zip ws)[i]? = some (k, v) ∧ keyIs k key = true := by
  induction ks generalizing ys us ws with
  | nil =>
    cases ru
    exact ⟨.nil, fun i key v h _ => by simp at h⟩
  | cons k r ih =>
    cases ru with
    | cons r1 r2 =>
      cases rw' with
      | nil => exact ⟨.nil, fun i key v _ h => by simp at h⟩
      | cons q1 q2 =>
        obtain ⟨a, b⟩ := ih r2 q2
        refine ⟨.cons ⟨rfl, q1⟩ a, fun i key v h1 h2 => ?_⟩
        cases i with
        | zero =>
          simp at h1 h2
          subst h1 h2
          refine ⟨k, by simp, ?_⟩
          cases k with
          | inl i => obtain ⟨t, rfl⟩ := (show ∃ t, _ = Value.int i t from r1); exact keyIs_int i t
          | inr x => obtain ⟨t, rfl⟩ := (show ∃ t, _ = Value.str x t from r1); exact keyIs_str x t
        | succ i => exact b i key v (by simpa using h1) (by simpa using h2)
theorem pe_dictZip (hc : X.calm = true) (ha : PA X [e, e2] ta) (hg : Gl X "dict") (hm : X.mg "dict" = none) (hgz : Gl X "zip") (hmz : X.mg "zip" = none)
    (hs : starEach [.Call (.Name "zip" p2) [e, e2] [] pos2] X.env = (false, eval (.Call (.Name "zip" p2) [e, e2] [] pos2) X.env) :: starEach [] X.env := by rfl)
    (hs2 : starEach [e, e2] X.env = (false, eval e X.env) :: starEach [e2] X.env := by rfl) (hpl : (backTo pos2 (starEach [e2] X.env)).any (·.1) = false := by rfl) :
    PE X (.Call (.Name "dict" p) [.Call (.Name "zip" p2) [e, e2] [] pos2] [] pos) (tDictZip X.K ta) := by
  constructor
  intro pins s σ H Q I hq
  have bd : bootBuiltins "dict" = some (.type "dict") := by decide +kernel
  refine wpAny_Call_Name_kw (ld_blt I hg hm bd (PyProof.Rows.callWith_type1 ?_ hs rfl))
  rw [hs]
  show wpAny _ _ (spliced ((false, eval (.Call (.Name "zip" p2) [e, e2] [] pos2) X.env) :: backTo pos (starEach [] X.env))) _ _ s
  refine Calls.spliced_cons (Call_ (ld_blt I hgz hmz PyProof.Rows.boot_zip (PyProof.Rows.callWith_type1 (thn (ha.run pos2 pins s σ H _ I hq) fun us s1 hh => ?_) hs2 hpl)))
  obtain ⟨vs, H1, I1, r1, a, b, ks, ys, ex, sa, sb, hle, q⟩ := hh
  subst ex
  obtain ⟨u1, u2, rfl, ra, rb⟩ := vals2 r1
  cases (show u1 = Value.ref a from ra)
  cases (show u2 = Value.ref b from rb)
  obtain ⟨its, rv, pl1, z1⟩ := I1.list sa
  obtain ⟨its2, rv2, pl2, z2⟩ := I1.list sb
  refine call_zip_2 pl1.isList pl2.isList fun h' hz hTI hTO i1 i2 hsz hk => ?_
  obtain ⟨kvR, kvG⟩ := zip_pairs rv rv2
  have l1 : its.length = ks.length := by rw [← rv.length, List.length_map]
  have l2 : its2.length = ys.length := rv2.length.symm
  have mn : min its.toArray.size its2.toArray.size = ks.length := by
    simp only [List.size_toArray]
    omega
  have P := PairArg.zip (prog := X.prog) (w := X.w) _ _ _ _ _ a b (PySem.W.ktu_apart s1.heap.objs.size a b pl1.lt pl2.lt) its.toArray its2.toArray
  have keepL : ∀ {l : Addr} {xs : Array Value}, s1.heap.IsList l xs → h'.IsList l xs := fun {l xs} hl => by
    obtain ⟨o, e1, r⟩ := hl
    exact ⟨o, hk _ _ e1, r⟩
  have have1 : PairsHave (mixKind X.prog X.w) (min its.toArray.size its2.toArray.size) (fun i k v => its.toArray[i]? = some k ∧ its2.toArray[i]? = some v) (ks.zip its2) := by
    refine ⟨?_, fun i key v hr => ?_⟩
    · rw [mn, List.length_zip]
      omega
    · simp only [List.getElem?_toArray] at hr
      exact kvG i key v hr.1 hr.2
  refine Calls.spliced_nil (PySem.call_dict_pairs (knd := mixKind X.prog X.w) (s := { s1 with heap := h' }) P (I1.ok.hd hc) ⟨hz, hTI, ⟨_, _, hTO⟩, i1, i2, keepL pl1.isList, keepL pl2.isList⟩ have1 (by rw [mn]; rw [List.length_map] at z1; exact z1) fun h2 tk hd2 k2 => ?_)
  have big : s1.heap.objs.size ≤ h'.objs.size := by rw [hsz]; omega
  have all : ∀ c o, s1.heap.get? c = some o → h2.get? c = some o := fun c o ec => by
    refine k2 c o (fun hm => ?_) (hk c o ec)
    have lt := Heap.lt_size ec
    simp only [List.mem_cons, List.not_mem_nil, or_false] at hm
    rcases hm with rfl | rfl | rfl | rfl
    · exact absurd lt (Nat.not_lt.mpr (Nat.le_add_right _ _))
    · exact absurd lt (Nat.not_lt.mpr (Nat.le_add_right _ _))
    · exact absurd lt (Nat.lt_irrefl _)
    · exact absurd lt (Nat.not_lt.mpr (Nat.le_add_right _ _))
  have nsys : (h'.objs.size == sysModules) = false := beq_eq_false_iff_ne.mpr (Nat.ne_of_gt (Nat.lt_of_lt_of_le I1.big big))
  have hlen : (mergeK [] (ks.zip ys)).length ≤ sizeLine := by
    refine Nat.le_trans (length_mergeK _ _) ?_
    rw [List.length_nil, Nat.zero_add, List.length_zip]
    rw [List.length_map] at z1
    omega
  exact ⟨.ref h'.objs.size, _, I1.laid (t' := tk) (o := .dK (mergeK [] (ks.zip ys))) all big (show ObjOk X.prog X.w _ _ _ (.dK (mergeK [] (ks.zip ys))) from ⟨hlen, nsys, merged [] (ks.zip its2), KV.merge kvR .nil, hd2⟩), rfl, q _ (I1.hok.fresh big)⟩
end
end L2

set_option Elab.async false
set_option linter.all false
set_option maxRecDepth 100000
set_option maxHeartbeats 4000000
namespace SB
open PySem L2
def top (i : Nat) : Stmt := PySem.Challenge.pw_samebytes_k15_maps_one_after_the_other.main.body.getD i (.Pass ⟨0, 0, 0, 0⟩)
abbrev s_is_made_of : Stmt := top 6
theorem sc_is_made_of : FnScope ["text", "signs", "sign"] ["text", "signs"] (defScope s_is_made_of) := ⟨rfl, rfl, rfl, by decide +kernel, rfl, by decide +kernel, by decide +kernel⟩
abbrev s_is_mark : Stmt := top 7
theorem sc_is_mark : FnScope ["value"] ["value"] (defScope s_is_mark) := ⟨rfl, rfl, rfl, by decide +kernel, rfl, by decide +kernel, by decide +kernel⟩
abbrev s_are_different : Stmt := top 8
theorem sc_are_different : FnScope ["values", "value"] ["values"] (defScope s_are_different) := ⟨rfl, rfl, rfl, by decide +kernel, rfl, by decide +kernel, by decide +kernel⟩
abbrev s_is_dict_of_marks : Stmt := top 9
theorem sc_is_dict_of_marks : FnScope ["value", "mark", "image"] ["value"] (defScope s_is_dict_of_marks) := ⟨rfl, rfl, rfl, by decide +kernel, rfl, by decide +kernel, by decide +kernel⟩
abbrev s_check_map : Stmt := top 11
theorem sc_check_map : FnScope ["value"] ["value"] (defScope s_check_map) := ⟨rfl, rfl, rfl, by decide +kernel, rfl, by decide +kernel, by decide +kernel⟩
abbrev s_then_d : Stmt := top 12
theorem sc_then_d : FnScope ["first", "second", "image", "mark"] ["first", "second"] (defScope s_then_d) := ⟨rfl, rfl, rfl, by decide +kernel, rfl, by decide +kernel, by decide +kernel⟩
abbrev s_backwards : Stmt := top 13
theorem sc_backwards : FnScope ["first", "mark", "image"] ["first"] (defScope s_backwards) := ⟨rfl, rfl, rfl, by decide +kernel, rfl, by decide +kernel, by decide +kernel⟩
abbrev s_l_pool : Stmt := top 15
theorem sc_l_pool : FnScope ["_law_script", "_law_k", "_law_cell", "_law_great", "_law_small", "_law_mixed_here"] ["_law_script", "_law_k"] (defScope s_l_pool) := ⟨rfl, rfl, rfl, by decide +kernel, rfl, by decide +kernel, by decide +kernel⟩
abbrev s_l_draw : Stmt := top 16
theorem sc_l_draw : FnScope ["_law_pool_here", "_law_many", "_law_found"] ["_law_pool_here", "_law_many"] (defScope s_l_draw) := ⟨rfl, rfl, rfl, by decide +kernel, rfl, by decide +kernel, by decide +kernel⟩
abbrev s_l_mixed : Stmt := top 17
theorem sc_l_mixed : FnScope ["_law_pool_here", "_law_things", "_law_left", "_law_found", "_law_thing", "_law_at"] ["_law_pool_here", "_law_things"] (defScope s_l_mixed) := ⟨rfl, rfl, rfl, by decide +kernel, rfl, by decide +kernel, by decide +kernel⟩
abbrev s_l_told : Stmt := top 18
theorem sc_l_told : FnScope ["_law_door", "_law_one", "_law_two", "e"] ["_law_door", "_law_one", "_law_two"] (defScope s_l_told) := ⟨rfl, rfl, rfl, by decide +kernel, rfl, by decide +kernel, by decide +kernel⟩
abbrev s_law : Stmt := top 19
theorem sc_law : FnScope ["_law_script", "_law_k", "_law_pool_here", "_law_marks", "_law_one", "_law_images", "_law_two", "_law_due", "_law_same", "_law_odd", "_law_mark", "_law_door"] ["_law_script"] (defScope s_law) := ⟨rfl, rfl, rfl, by decide +kernel, rfl, by decide +kernel, by decide +kernel⟩
structure Ad where
  f_is_made_of : Addr
  d_is_made_of : FuncData
  f_is_mark : Addr
  d_is_mark : FuncData
  f_are_different : Addr
  d_are_different : FuncData
  f_is_dict_of_marks : Addr
  d_is_dict_of_marks : FuncData
  f_check_map : Addr
  d_check_map : FuncData
  f_then_d : Addr
  d_then_d : FuncData
  f_backwards : Addr
  d_backwards : FuncData
  f_l_pool : Addr
  d_l_pool : FuncData
  f_l_draw : Addr
  d_l_draw : FuncData
  f_l_mixed : Addr
  d_l_mixed : FuncData
  f_l_told : Addr
  d_l_told : FuncData
  f_law : Addr
  d_law : FuncData
  t_LETTERS : Tok
  t_DIGITS : Tok
  C_GraphError : Addr
  C_BadMap : Addr
  i_BadMap : Addr
structure Txt (P : Program) (K : PySem.W.Frag) (mg : Str → Option Value) (a : Ad) : Prop where
  is_made_of : Defd K mg "is_made_of" s_is_made_of ["text", "signs"] a.f_is_made_of a.d_is_made_of
  is_mark : Defd K mg "is_mark" s_is_mark ["value"] a.f_is_mark a.d_is_mark
  are_different : Defd K mg "are_different" s_are_different ["values"] a.f_are_different a.d_are_different
  is_dict_of_marks : Defd K mg "is_dict_of_marks" s_is_dict_of_marks ["value"] a.f_is_dict_of_marks a.d_is_dict_of_marks
  check_map : Defd K mg "check_map" s_check_map ["value"] a.f_check_map a.d_check_map
  then_d : Defd K mg "then" s_then_d ["first", "second"] a.f_then_d a.d_then_d
  backwards : Defd K mg "backwards" s_backwards ["first"] a.f_backwards a.d_backwards
  l_pool : Defd K mg "_law_pool" s_l_pool ["_law_script", "_law_k"] a.f_l_pool a.d_l_pool
  l_draw : Defd K mg "_law_draw" s_l_draw ["_law_pool_here", "_law_many"] a.f_l_draw a.d_l_draw
  l_mixed : Defd K mg "_law_mixed" s_l_mixed ["_law_pool_here", "_law_things"] a.f_l_mixed a.d_l_mixed
  l_told : Defd K mg "_law_told" s_l_told ["_law_door", "_law_one", "_law_two"] a.f_l_told a.d_l_told
  law : Defd K mg "law" s_law ["_law_script"] a.f_law a.d_law
  c_LETTERS : mg "LETTERS" = some (.str "abcdefghijklmnopqrstuvwxyz" a.t_LETTERS)
  c_DIGITS : mg "DIGITS" = some (.str "0123456789" a.t_DIGITS)
  z_abs : mg "abs" = none
  z_all : mg "all" = none
  z_dict : mg "dict" = none
  z_int : mg "int" = none
  z_isinstance : mg "isinstance" = none
  z_len : mg "len" = none
  z_list : mg "list" = none
  z_max : mg "max" = none
  z_min : mg "min" = none
  z_range : mg "range" = none
  z_repr : mg "repr" = none
  z_str : mg "str" = none
  z_sum : mg "sum" = none
  z_super : mg "super" = none
  z_zip : mg "zip" = none
  g_GraphError : mg "GraphError" = some (.ref a.C_GraphError)
  x_BadMap : ErrX.ErrTxt P K mg "BadMap" "value" "BadMap.__init__" a.C_BadMap a.C_GraphError a.i_BadMap
end SB

set_option Elab.async false
set_option linter.all false
set_option maxRecDepth 100000
set_option maxHeartbeats 4000000
namespace SB
open PySem L2
/-! ### texts of signs, marks, names, worths: the mirror -/
def letters : Str := "abcdefghijklmnopqrstuvwxyz"
def digits : Str := "0123456789"
def both : Str := letters ++ digits
def madeOf (x z : Str) : Bool := x.cps.toList.all fun c => decide (c ∈ z.cps.toList)
def nameS (x : Str) : Bool := decide (1 ≤ x.length) && (decide (x.length ≤ 8) && madeOf x letters)
def firstIn (x z : Str) : Bool := match x.cps.toList with
  | [] => false
  | c :: _ => decide (c ∈ z.cps.toList)
def markS (x : Str) : Bool := decide (1 ≤ x.length) && (decide (x.length ≤ 8) && (firstIn x letters && madeOf x both))
def plainS (x : Str) : Bool := decide (x.length ≤ 20) && madeOf x both
def nameV : V → Bool
  | .str x => nameS x
  | _ => false
def markV : V → Bool
  | .str x => markS x
  | _ => false
def intV : V → Bool
  | .int _ => true
  | _ => false
def plainV : V → Bool
  | .int i => decide (-10 ^ 30 < i) && decide (i < 10 ^ 30)
  | .str x => plainS x
  | _ => false
theorem str_len (x : Str) : x.length = x.cps.toList.length := by
  show x.cps.size = _
  rw [Array.length_toList]
/-! ### the promises -/
/-- a question: a bool comes out, nothing that stood is changed -/
def spAsk (n : Nat) (P : List V → Hp → Bool → Prop) : Sp := fun vs H Q _ => vs.length = n ∧ ∃ b, P vs H b ∧ ∀ H', Same H H' → Q (.bl b) H'
def spMadeOf : Sp := fun vs H Q _ => ∃ x z : Str, vs = [.str x, .str z] ∧ x.length ≤ sizeLine ∧ ∀ H', Same H H' → Q (.bl (madeOf x z)) H'
def spV (f : V → Bool) (K : PySem.W.Frag) : Sp := fun vs H Q _ => ∃ v s, vs = [v] ∧ AnyV K H v s ∧ ∀ H', Same H H' → Q (.bl (f v)) H'
/-- the items of a tuple that is a reference -/
def refAt : V → V → Bool
  | .str x, y => decide (V.str x = .str "at") && markV y
  | _, _ => false
def refVs : List V → Bool
  | [x, y] => refAt x y
  | _ => false
/-- whether a value is a reference -/
def RefIs (K : PySem.W.Frag) (H : Hp) (v : V) (s : String) (b : Bool) : Prop :=
  (s ≠ "tuple" ∧ b = false) ∨ ∃ p xs, v = .ref p ∧ s = "tuple" ∧ SqT K H p xs ∧ (∀ y ∈ xs, ∃ t, AnyV K H y t) ∧ b = refVs xs
def spRef (K : PySem.W.Frag) : Sp := fun vs H Q _ => ∃ v s b, vs = [v] ∧ AnyV K H v s ∧ RefIs K H v s b ∧ ∀ H', Same H H' → Q (.bl b) H'
def spWorth (K : PySem.W.Frag) : Sp := fun vs H Q _ => ∃ v s b, vs = [v] ∧ AnyV K H v s ∧ RefIs K H v s b ∧ ∀ H', Same H H' → Q (.bl (plainV v || b)) H'
theorem same_seqT {K : PySem.W.Frag} {H H' : Hp} {a : Addr} {xs : List V} (e : Same H H') (h : SqT K H a xs) : SqT K H' a xs := by
  rcases h with (h | ⟨o, h⟩) | h
  · exact .inl (.inl (e _ _ h))
  · exact .inl (.inr ⟨o, e _ _ h⟩)
  · exact .inr h
theorem RefIs.mono {K : PySem.W.Frag} {H H' : Hp} {v : V} {s : String} {b : Bool} (h : RefIs K H v s b) (e : Same H H') : RefIs K H' v s b := by
  rcases h with h | ⟨p, xs, h1, h2, h3, h4, h5⟩
  · exact .inl h
  · refine .inr ⟨p, xs, h1, h2, same_seqT e h3, fun y hy => ?_, h5⟩
    obtain ⟨t, q⟩ := h4 y hy
    exact ⟨t, q.mono e⟩
section
variable {P : Program} {w : World} {K : PySem.W.Frag} {mg : Str → Option Value} {base : Heap} {a : Ad}
theorem ok_is_made_of (T : Txt P K mg a) : FnOk P w K mg base CX0 1 a.f_is_made_of a.d_is_made_of ["text", "signs"] spMadeOf := by
  refine T.is_made_of.F.ok sc_is_made_of (fun vs H Q E h => ?_) (fun cdv A outer s H vs Q E hr h => ?_)
  · obtain ⟨x, z, rfl, _⟩ := h
    rfl
  · obtain ⟨x, z, rfl, hx, k⟩ := h
    refine ⟨_, (pss_one (ps_ret (pe_callB (cr_all rfl) (by rfl) T.z_all (by decide +kernel) (pa_cons (pe_lc (own := [("sign", 2)]) (g := gName 2) (tt := tYes) (by rfl) sc_is_made_of.nd (pi_str (pv 0)) (blkOk_by (own := [("sign", 2)]) (N := ["text", "signs", "sign"]) (sc := defScope s_is_made_of) (by decide +kernel)) (fun _ _ _ _ _ => (pg_name (i := 2) sc_is_made_of.nd rfl (Or.inl rfl))) (fun _ _ _ _ _ => pts_nil) (fun _ _ _ _ _ => (pe_cmpR op_in_sign (pv 2) (pv 1) (by rfl)))) pa_nil)))), ?_⟩
    refine ⟨_, rfl, x, rfl, fun D hD => lc_mapL (walk_signs (z := x)) hD (by rw [← str_len]; exact hx) (fun _ _ => trivial) (fun c => .bl (decide (c ∈ z.cps.toList))) ?_ fun H' s1 hl => ?_⟩
    · rintro i c y H1 H2 R hc s1 _ ⟨rfl, c', hc', rfl⟩ hR
      cases hc.symm.trans hc'
      exact ⟨rfl, _, rfl, _, rfl, c, z, rfl, rfl, hR _ (Same.refl _)⟩
    · refine ⟨D, x.cps.toList.map fun c => decide (c ∈ z.cps.toList), rfl, SqL.of (by rw [hl, List.map_map]; rfl), ?_⟩
      have e2 : (x.cps.toList.map fun c => decide (c ∈ z.cps.toList)).all id = madeOf x z := by
        rw [List.all_map]
        rfl
      rw [e2]
      exact k _ s1
theorem ok_is_mark (T : Txt P K mg a) : FnOk P w K mg base CX0 2 a.f_is_mark a.d_is_mark ["value"] (spV markV K) := by
  refine T.is_mark.F.ok sc_is_mark (fun vs H Q E h => ?_) (fun cdv A outer s H vs Q E hr h => ?_)
  · obtain ⟨v, t, rfl, _⟩ := h
    rfl
  · obtain ⟨v, t, rfl, av, k⟩ := h
    refine ⟨_, (pss_cons (ps_if (PW.pt (pw_or (pt_not (pt_val (pe_callB call_isi (by rfl) T.z_isinstance (by decide +kernel) (pa_cons (pv 0) (pa_cons (pe_bltn (v := .ty "str") (by rfl) T.z_str (by decide +kernel) rfl) pa_nil))))) (pw_or1 (pt_not (pt_chain op_le op_le pe_int (pe_callB call_len_str (by rfl) T.z_len (by decide +kernel) (pa_cons (pv 0) pa_nil)) pe_int))))) (pss_one (ps_ret pe_bl)) pss_nil)
      (pss_one (ps_ret (pe_and (pe_cmpR op_in_sign (pe_ix ix_str (pv 0) pe_int (fun _ _ => rfl)) (pe_glob (v := .str "abcdefghijklmnopqrstuvwxyz") (by rfl) T.c_LETTERS ⟨_, rfl⟩) (by rfl)) (pe_one (pe_call (ok_is_made_of T) (hr.mono (by decide)) (by rfl) T.is_made_of.g T.is_made_of.k T.is_made_of.b .nil pass0 (pa_cons (pv 0) (pa_cons (pe_op op_add_str (pe_glob (v := .str "abcdefghijklmnopqrstuvwxyz") (by rfl) T.c_LETTERS ⟨_, rfl⟩) (pe_glob (v := .str "0123456789") (by rfl) T.c_DIGITS ⟨_, rfl⟩)) pa_nil)))))))), ?_⟩
    refine ⟨_, rfl, _, _, _, _, _, rfl, .ty _, av.ty, av.isi, _, rfl, ?_⟩
    rcases av.cases with ⟨rfl, rfl⟩ | ⟨b, rfl, rfl⟩ | ⟨i, rfl, rfl⟩ | ⟨x, rfl, rfl, hx⟩ | ⟨p, rfl, rfl | rfl | rfl⟩
    case inr.inr.inr.inl =>
      refine ifF (by decide) ?_
      refine ⟨_, rfl, x, rfl, hx, _, _, rfl, rfl, _, rfl, ?_⟩
      have ek : markV (.str x) = (decide (1 ≤ x.length) && (decide (x.length ≤ 8) && (firstIn x letters && madeOf x both))) := rfl
      rw [ek] at k
      refine ifB (fun h1 => ?_) (fun h1 => ?_)
      · have h1' : decide (1 ≤ x.length) = true := by simp at h1 ⊢; omega
        rw [h1', Bool.true_and] at k
        refine ⟨_, _, rfl, rfl, _, rfl, ?_⟩
        refine ifB (fun h2 => ?_) (fun h2 => ?_)
        · have h2' : decide (x.length ≤ 8) = false := by simp at h2 ⊢; omega
          rw [h2', Bool.false_and] at k
          exact k _ (Same.refl _)
        · have h2' : decide (x.length ≤ 8) = true := by simp at h2 ⊢; omega
          rw [h2', Bool.true_and] at k
          obtain ⟨c, r, hc⟩ : ∃ c r, x.cps.toList = c :: r := by
            have hl := str_len x
            cases e : x.cps.toList with
            | nil => rw [e] at hl; simp at hl h1'; omega
            | cons c r => exact ⟨c, r, rfl⟩
          have ef : firstIn x letters = decide (c ∈ letters.cps.toList) := by unfold firstIn; rw [hc]
          rw [ef] at k
          refine ⟨_, rfl, x, 0, c, rfl, rfl, hx, atI_nat (j := 0) (by rw [hc]; rfl), c, letters, rfl, rfl, _, rfl, ?_⟩
          refine ifB (fun h3 => ?_) (fun h3 => ?_)
          · rw [h3, Bool.true_and] at k
            exact ⟨_, rfl, letters, digits, rfl, rfl, by decide +kernel, x, both, rfl, hx, k⟩
          · rw [h3, Bool.false_and] at k
            exact k _ (Same.refl _)
      · have h1' : decide (1 ≤ x.length) = false := by simp at h1 ⊢; omega
        rw [h1', Bool.false_and] at k
        exact ⟨_, rfl, k _ (Same.refl _)⟩
    all_goals exact ifT (by decide) (k _ (Same.refl _))
end
end SB

set_option Elab.async false
set_option linter.all false
set_option maxRecDepth 100000
set_option maxHeartbeats 4000000
namespace SB
open PySem L2
/-! ### the law's pool of draws: a list of two numbers that are not negative -/
def Pool (H : Hp) (p : Addr) : Prop := ∃ g m : Int, H p = some (.lst [.int g, .int m]) ∧ 0 ≤ g ∧ 0 ≤ m ∧ m < 2147483647
def spPool (K : PySem.W.Frag) : Sp := fun vs H Q _ => ∃ (a : Addr) (ns : List Int) (k : Int), vs = [.ref a, .int k] ∧ SqL K H a (ns.map V.int) ∧ 0 ≤ k ∧ k < 1000 ∧
  ∀ H' p, H p = none → Same H H' → Pool H' p → Q (.ref p) H'
/-- a draw: a number below many; the pool alone is changed -/
def spDraw : Sp := fun vs H Q _ => ∃ (p : Addr) (many : Int), vs = [.ref p, .int many] ∧ Pool H p ∧ 0 < many ∧ many < 1000 ∧
  ∀ (n : Nat) H', (n : Int) < many → SameX p H H' → Pool H' p → Q (.int n) H'
theorem Pool.at {H H' : Hp} {p : Addr} (h : Pool H p) (e : ∀ o, H p = some o → H' p = some o) : Pool H' p := by
  obtain ⟨g, m, hp, r⟩ := h
  exact ⟨g, m, e _ hp, r⟩
theorem Pool.new {H : Hp} {p q : Addr} {o : HO} (h : Pool H p) (hq : H q = none) : Pool (upd H q o) p := h.at fun _ e => same_new hq _ _ e
theorem Pool.ne {H : Hp} {p q : Addr} (h : Pool H p) (hq : H q = none) : p ≠ q := by
  obtain ⟨g, m, hp, r⟩ := h
  exact ne_of_none hp hq
theorem SameX.new {H0 H : Hp} {p q : Addr} {o : HO} (h : SameX p H0 H) (hq : H q = none) : SameX p H0 (upd H q o) := fun b u n e => by
  have e1 := h b u n e
  rw [upd_ne (ne_of_none e1 hq)]
  exact e1
theorem pick {xs : List V} {n : Nat} (h : n < xs.length) : ∃ v, v ∈ xs ∧ atI xs (n : Int) = some v :=
  ⟨xs[n], List.getElem_mem h, atI_nat (List.getElem?_eq_getElem h)⟩
theorem cut_map (ns : List Int) (lo hi : Option Int) : ∃ ms : List Int, cutV (ns.map V.int) lo hi = ms.map V.int := by
  unfold cutV
  exact ⟨_, by rw [← List.map_drop, ← List.map_take]⟩
section
variable {P : Program} {w : World} {K : PySem.W.Frag} {mg : Str → Option Value} {base : Heap} {a : Ad}
theorem ok_l_pool (T : Txt P K mg a) : FnOk P w K mg base CX0 1 a.f_l_pool a.d_l_pool ["_law_script", "_law_k"] (spPool K) := by
  refine T.l_pool.F.ok sc_l_pool (fun vs H Q E h => ?_) (fun cdv A outer s H vs Q E hr h => ?_)
  · obtain ⟨x, ns, k, rfl, _⟩ := h
    rfl
  · obtain ⟨l, ns, k, rfl, hS, hk0, hk1, q⟩ := h
    refine ⟨_, (pss_cons (ps_set (i := 2) sc_l_pool.nd rfl (Or.inl rfl) (pe_op op_add (pe_op op_mul pe_int (pe_callB (cr_sum rfl) (by rfl) T.z_sum (by decide +kernel) (pa_cons (pe_slice sl_list (pv 0) po_none (po_some pe_int)) pa_nil))) (pv 1)))
      (C8.pss_cut (ps_if (pt_cmpR op_lt (pv 1) (pe_callB call_len_seq (by rfl) T.z_len (by decide +kernel) (pa_cons (pv 0) pa_nil)) (nomark _)) (pss_one (ps_set (i := 2) sc_l_pool.nd rfl (Or.inl rfl) (pe_ix ix_list (pv 0) (pv 1) (fun _ _ => rfl)))) pss_nil)
      (pss_cons (ps_set (i := 3) sc_l_pool.nd rfl (Or.inl rfl) (pe_callB call_abs (by rfl) T.z_abs (by decide +kernel) (pa_cons (pe_callTy call_int1 (by rfl) T.z_int (by decide +kernel) (pa_cons (pv 2) pa_nil)) pa_nil)))
      (pss_cons (ps_set (i := 4) sc_l_pool.nd rfl (Or.inl rfl) (pe_op op_mod (pe_callTy call_int1 (by rfl) T.z_int (by decide +kernel) (pa_cons (pv 3) pa_nil)) pe_int))
      (pss_cons (ps_set (i := 5) sc_l_pool.nd rfl (Or.inl rfl) (pe_op op_mod (pe_callTy call_int1 (by rfl) T.z_int (by decide +kernel) (pa_cons (pe_op op_mul (pe_op op_add (pe_op op_add (pe_op op_add (pv 4) (pe_op op_mul (pe_op op_mul pe_int (pv 1)) (pv 1))) (pe_op op_mul pe_int (pv 1))) pe_int) pe_int) pa_nil)) pe_int))
      (pss_one (ps_ret (pe_lst (pa_cons (pe_op op_mul (pv 3) (pe_callTy call_int1 (by rfl) T.z_int (by decide +kernel) (pa_cons (pe_cmpR op_ge (pv 3) (pe_op op_pow pe_int pe_int) (nomark _)) pa_nil))) (pa_cons (pe_op op_mod (pe_callTy call_int1 (by rfl) T.z_int (by decide +kernel) (pa_cons (pe_op op_mul (pv 5) (pv 5)) pa_nil)) pe_int) pa_nil)))))))))), ?_⟩
    obtain ⟨ms, hm⟩ := cut_map ns none (some 63)
    refine ⟨_, rfl, _, rfl, l, _, rfl, hS, fun p hp => ?_⟩
    rw [hm]
    refine ⟨p, ms, rfl, SqL.of upd_same, 11, _, rfl, rfl, .inl ⟨by decide, by decide⟩, _, rfl, _, _, rfl, rfl, ?_⟩
    have s1 : Same H (upd H p (.lst (ms.map V.int))) := same_new hp
    have hS1 := s1.seq hS
    have key : ∃ c : Int, decide (k < ((ns.map V.int).length : Int)) = true → atI (ns.map V.int) k = some (V.int c) := by
      by_cases hlt : k.toNat < ns.length
      · refine ⟨ns[k.toNat], fun _ => atI_int hk0 ?_⟩
        rw [List.getElem?_map, List.getElem?_eq_getElem hlt]
        rfl
      · refine ⟨0, fun h => ?_⟩
        simp at h
        omega
    obtain ⟨c, hc⟩ := key
    refine ⟨fun σ' H' => H' = upd H p (.lst (ms.map V.int)) ∧ ∃ c : Int, σ' = [some (.ref l), some (.int k), some (.int c), none, none, none], ?_, ?_⟩
    · refine ⟨_, rfl, _, rfl, l, _, rfl, .inl hS1, _, _, rfl, rfl, _, rfl, ?_⟩
      refine ifB (fun h => ?_) (fun h => ?_)
      · exact ⟨_, rfl, _, rfl, l, _, k, .int c, rfl, rfl, hS1, hc h, rfl, c, rfl⟩
      · exact ⟨rfl, _, rfl⟩
    · rintro _ _ ⟨rfl, c, rfl⟩
      refine ⟨_, rfl, .inl ⟨_, rfl, c, rfl, ?_⟩⟩
      generalize hg : (if c < 0 then -c else c) = g
      have hg0 : 0 ≤ g := by rw [← hg]; split <;> omega
      refine ⟨_, rfl, .inl ⟨g, rfl, _, _, rfl, rfl, (by show (0 : Int) < 2147483629; decide), ?_⟩⟩
      refine ⟨_, rfl, _, rfl, _, _, rfl, rfl, .inl ⟨by decide, by decide⟩, _, rfl, _, k, rfl, rfl, .inr ⟨by omega, by omega⟩, _, _, rfl, rfl, _, rfl, _, _, rfl, rfl, .inl ⟨by decide, by decide⟩, _, _, rfl, rfl, _, _, rfl, rfl,
        _, _, rfl, rfl, .inr ⟨by decide, by decide⟩, .inl ⟨_, rfl, _, _, rfl, rfl, (by show (0 : Int) < 2147483647; decide), ?_⟩⟩
      dsimp only
      generalize hm2 : ((g % 2147483629 + 7919 * k * k + 31 * k + 17) * 48271 % 2147483647 : Int) = m
      have hm0 : 0 ≤ m := by omega
      have hm1 : m < 2147483647 := by omega
      refine ⟨_, rfl, _, rfl, _, _, rfl, rfl, ⟨by decide, by decide, by decide⟩, _, _, rfl, rfl, .inr ⟨_, rfl, ?_⟩⟩
      refine ⟨_, _, rfl, rfl, .inr (by split <;> exact ⟨by decide, by decide⟩), _, rfl, _, rfl, m, m, rfl, rfl, .inl ⟨by omega, by omega⟩, .inl ⟨_, rfl, _, _, rfl, rfl, (by show (0 : Int) < 2147483629; decide), ?_⟩⟩
      refine ⟨by show 2 ≤ sizeLine; decide, fun p2 hp2 => ?_⟩
      have h0 : H p2 = none := s1.free hp2
      refine q _ p2 h0 (s1.trans (same_new hp2)) ⟨_, _, upd_same, ?_, ?_, ?_⟩
      · split
        · omega
        · omega
      · exact Int.emod_nonneg _ (by decide)
      · have := Int.emod_lt_of_pos (m * m) (show (0 : Int) < 2147483629 by decide)
        omega
theorem ok_l_draw (T : Txt P K mg a) : FnOk P w K mg base CX0 1 a.f_l_draw a.d_l_draw ["_law_pool_here", "_law_many"] spDraw := by
  refine T.l_draw.F.ok sc_l_draw (fun vs H Q E h => ?_) (fun cdv A outer s H vs Q E hr h => ?_)
  · obtain ⟨p, m, rfl, _⟩ := h
    rfl
  · obtain ⟨p, many, rfl, ⟨g, m, hp, hg, hm0, hm1⟩, h0, h1, q⟩ := h
    refine ⟨_, (pss_cons (ps_if (pt_cmpR op_gt (pe_ix ix_list (pv 0) pe_int (fun _ _ => rfl)) pe_int (nomark _)) (pss_cons (ps_set (i := 2) sc_l_draw.nd rfl (Or.inl rfl) (pe_op op_mod (pe_callTy call_int1 (by rfl) T.z_int (by decide +kernel) (pa_cons (pe_ix ix_list (pv 0) pe_int (fun _ _ => rfl)) pa_nil)) (pv 1)))
      (pss_cons (ps_asg (pe_op op_fdiv (pe_ix ix_list (pv 0) pe_int (fun _ _ => rfl)) (pv 1)) (pg_sub (pv 0) pe_int set_list))
      (pss_one (ps_ret (pv 2))))) pss_nil)
      (pss_cons (ps_asg (pe_op op_mod (pe_callTy call_int1 (by rfl) T.z_int (by decide +kernel) (pa_cons (pe_op op_add (pe_op op_mul (pe_ix ix_list (pv 0) pe_int (fun _ _ => rfl)) pe_int) pe_int) pa_nil)) pe_int) (pg_sub (pv 0) pe_int set_list))
      (pss_one (ps_ret (pe_op op_mod (pe_callTy call_int1 (by rfl) T.z_int (by decide +kernel) (pa_cons (pe_op op_fdiv (pe_op op_mod (pe_callTy call_int1 (by rfl) T.z_int (by decide +kernel) (pa_cons (pe_op op_mul (pe_ix ix_list (pv 0) pe_int (fun _ _ => rfl)) (pe_ix ix_list (pv 0) pe_int (fun _ _ => rfl))) pa_nil)) pe_int) pe_int) pa_nil)) (pv 1)))))), ?_⟩
    refine ⟨_, rfl, p, _, 0, _, rfl, rfl, SqL.of hp, rfl, _, _, rfl, rfl, _, rfl, ?_⟩
    refine ifB (fun h => ?_) (fun h => ?_)
    · refine ⟨_, rfl, p, _, 0, _, rfl, rfl, SqL.of hp, rfl, .inl ⟨g, rfl, _, rfl, g, many, rfl, rfl, h0, ?_⟩⟩
      refine ⟨_, rfl, p, _, 0, _, rfl, rfl, SqL.of hp, rfl, _, rfl, g, many, rfl, rfl, ⟨h0, by omega⟩, _, rfl, p, _, 0, 0, rfl, rfl, hp, rfl, ?_⟩
      refine ⟨_, rfl, ?_⟩
      have e : g % many = (((g % many).toNat : Nat) : Int) := by
        have := Int.emod_nonneg g (show many ≠ 0 by omega)
        omega
      show Q (.int (g % many)) _
      rw [e]
      refine q _ _ ?_ SameX.put ⟨_, _, upd_same, Int.ediv_nonneg hg (by omega), hm0, hm1⟩
      rw [← e]
      exact Int.emod_lt_of_pos _ h0
    · refine ⟨_, rfl, p, _, 1, _, rfl, rfl, SqL.of hp, rfl, m, _, rfl, rfl, .inr ⟨by decide, by decide⟩, _, _, rfl, rfl, .inl ⟨_, rfl, _, _, rfl, rfl, (by show (0 : Int) < 2147483647; decide), _, rfl, p, _, 1, 1, rfl, rfl, hp, rfl, ?_⟩⟩
      dsimp only
      generalize hn : ((m * 48271 + 11) % 2147483647 : Int) = n
      have hn0 : 0 ≤ n := by omega
      have hn1 : n < 2147483647 := by omega
      refine ⟨_, rfl, p, _, 1, _, rfl, rfl, SqL.of upd_same, rfl, _, rfl, p, _, 1, _, rfl, rfl, SqL.of upd_same, rfl, n, n, rfl, rfl, .inl ⟨by omega, by omega⟩, .inl ⟨_, rfl, _, _, rfl, rfl, (by show (0 : Int) < 2147483629; decide), ?_⟩⟩
      refine ⟨_, _, rfl, rfl, ⟨by decide, by decide⟩, .inl ⟨_, rfl, _, rfl, _, many, rfl, rfl, h0, ?_⟩⟩
      generalize (n * n % 2147483629 / 16 : Int) = z
      have e : z % many = (((z % many).toNat : Nat) : Int) := by
        have := Int.emod_nonneg z (show many ≠ 0 by omega)
        omega
      show Q (.int (z % many)) _
      rw [e]
      refine q _ _ ?_ SameX.put ⟨_, _, upd_same, hg, hn0, hn1⟩
      rw [← e]
      exact Int.emod_lt_of_pos _ h0
end
end SB

set_option Elab.async false
set_option linter.all false
set_option maxRecDepth 100000
set_option maxHeartbeats 4000000
namespace SB
open PySem L2
/-! ### dicts from marks to marks -/
def dkv (m : List (Str × Str)) : List (Key × V) := m.map fun q => (Sum.inr q.1, V.str q.2)
theorem dkv_len (m : List (Str × Str)) : (dkv m).length = m.length := by simp [dkv]
/-- whether a value is a dict from marks to marks -/
def DomIs (K : PySem.W.Frag) (H : Hp) (v : V) (s : String) (b : Bool) : Prop :=
  (s ≠ "dict" ∧ b = false) ∨ ∃ p kvs, v = .ref p ∧ s = "dict" ∧ H p = some (.dK kvs) ∧ kvs.length ≤ sizeLine ∧ (∀ kv ∈ kvs, (∀ x, kv.1 = Sum.inr x → x.length ≤ sizeLine) ∧ kv.2 ≠ .ref p ∧ ∃ t, AnyV K H kv.2 t) ∧ b = kvs.all fun kv => markV (kV kv.1) && markV kv.2
def spDom (K : PySem.W.Frag) : Sp := fun vs H Q _ => ∃ v s b, vs = [v] ∧ AnyV K H v s ∧ DomIs K H v s b ∧ ∀ H', Same H H' → Q (.bl b) H'
/-- are_different of a list of texts -/
def spDiffT (K : PySem.W.Frag) : Sp := fun vs H Q _ => ∃ (a : Addr) (xs : List Str), vs = [.ref a] ∧ SqL K H a (xs.map V.str) ∧ xs.length ≤ sizeLine ∧ ∀ H', Same H H' → Q (.bl (decide xs.Nodup)) H'
theorem AnyV.away {K : PySem.W.Frag} {H : Hp} {v : V} {s : String} {p : Addr} {o : HO} (a : AnyV K H v s) (n : v ≠ .ref p) : AnyV K (upd H p o) v s := by
  obtain ⟨ty, mem, sm⟩ := a
  refine ⟨?_, mem, sm⟩
  have k : ∀ {q : Addr} {u : HO}, V.ref q ≠ .ref p → H q = some u → upd H p o q = some u := fun {q u} hn e => by
    rw [upd_ne (fun z => hn (by rw [z]))]
    exact e
  cases ty with
  | base b =>
    cases b with
    | non => exact .base .non
    | bl y => exact .base (.bl y)
    | int i => exact .base (.int i)
    | str y => exact .base (.str y)
    | flt y => exact .base (.flt y)
    | lst e => exact .base (.lst (k n e))
    | frz e => exact .base (.frz (k n e))
    | tup e => exact .base (.tup (k n e))
    | dK e => exact .base (.dK (k n e))
    | dT e => exact .base (.dT (k n e))
  | byt b => exact .byt b
  | set e => exact .set (k n e)
  | kList e c => exact .kList e c
  | kTuple e c => exact .kTuple e c
  | kDict e c => exact .kDict e c
  | fTuple e => exact .fTuple (k n e)
  | fDict e => exact .fDict (k n e)
section
variable {P : Program} {w : World} {K : PySem.W.Frag} {mg : Str → Option Value} {base : Heap} {a : Ad}
theorem ok_are_different (T : Txt P K mg a) : FnOk P w K mg base CX0 1 a.f_are_different a.d_are_different ["values"] (spDiffT K) := by
  refine T.are_different.F.ok sc_are_different (fun vs H Q E h => ?_) (fun cdv A outer s H vs Q E hr h => ?_)
  · obtain ⟨l, xs, rfl, _⟩ := h
    rfl
  · obtain ⟨l, xs, rfl, hS, hz, k⟩ := h
    refine ⟨_, (pss_one (ps_ret (pe_cmpR op_eq (pe_callB call_lenD (by rfl) T.z_len (by decide +kernel) (pa_cons (pe_dc (own := [("value", 1)]) (g := gName 1) (tt := tYes) (by rfl) sc_are_different.nd (pi_list (pv 0)) (blkOk_by (own := [("value", 1)]) (N := ["values", "value"]) (sc := defScope s_are_different) (by decide +kernel)) (fun _ _ _ _ _ => (pg_name (i := 1) sc_are_different.nd rfl (Or.inl rfl))) (fun _ _ _ _ _ => pts_nil) (fun _ _ _ _ _ => (pv 1)) (fun _ _ _ _ _ => pe_bl)) pa_nil)) (pe_callB call_len_seq (by rfl) T.z_len (by decide +kernel) (pa_cons (pv 0) pa_nil)) (nomark _)))), ?_⟩
    refine ⟨_, rfl, l, rfl, ⟨_, hS⟩, fun D hD => ?_⟩
    refine dc_mapL (ys := xs) (F := fun x => (Sum.inr x, .bl true)) ((walk_list (K := K) (a := l) (xs := xs.map V.str)).mono (fun _ h => h) (fun i H x H' _ _ y => y) |> fun w => by rw [List.length_map] at w; exact w) hD hz (fun H' s1 => s1.seq hS) ?_ ?_
    · rintro i x y H1 H2 R hx s1 _ ⟨rfl, hy⟩ hR
      rw [List.getElem?_map, hx] at hy
      cases hy
      exact ⟨rfl, _, rfl, hR _ (Same.refl _)⟩
    · intro H' s1 hl
      refine ⟨D, _, rfl, hl, _, rfl, l, _, rfl, .inl (s1.seq hS), rfl, ?_⟩
      have e : decide (V.int ((mergeK [] (xs.map fun x => ((Sum.inr x : Key), V.bl true))).length : Nat) = V.int ((xs.map V.str).length : Nat)) = decide xs.Nodup := by
        have h1 := merge_len_iff (xs.map fun x => ((Sum.inr x : Key), V.bl true)) []
        rw [List.length_nil, Nat.zero_add, List.length_map] at h1
        have h2 : ((xs.map fun x => ((Sum.inr x : Key), V.bl true)).map (·.1)).Nodup ↔ xs.Nodup := by
          rw [List.map_map]
          constructor
          · intro h
            exact (List.pairwise_map.mp h).imp fun hn e => hn (by rw [e])
          · intro h
            exact List.pairwise_map.mpr (h.imp fun hn e => hn (Sum.inr.inj e))
        rw [decide_eq_decide, List.length_map]
        constructor
        · intro e
          injection e with e
          exact h2.mp (h1.mp (by omega)).1
        · intro h
          have := h1.mpr ⟨h2.mpr h, by simp⟩
          rw [this]
      have k1 := k _ s1
      rw [← e] at k1
      exact k1
theorem ok_is_dict_of_marks (T : Txt P K mg a) : FnOk P w K mg base CX0 3 a.f_is_dict_of_marks a.d_is_dict_of_marks ["value"] (spDom K) := by
  refine T.is_dict_of_marks.F.ok sc_is_dict_of_marks (fun vs H Q E h => ?_) (fun cdv A outer s H vs Q E hr h => ?_)
  · obtain ⟨v, t, b, rfl, _⟩ := h
    rfl
  · obtain ⟨v, t, b, rfl, av, db, k⟩ := h
    refine ⟨_, (pss_cons (ps_if (pt_not (pt_val (pe_callB call_isi (by rfl) T.z_isinstance (by decide +kernel) (pa_cons (pv 0) (pa_cons (pe_bltn (v := .ty "dict") (by rfl) T.z_dict (by decide +kernel) rfl) pa_nil))))) (pss_one (ps_ret pe_bl)) pss_nil)
      (pss_one (ps_ret (pe_callB (cr_all rfl) (by rfl) T.z_all (by decide +kernel) (pa_cons (pe_lock (pe_lc (own := [("mark", 1), ("image", 2)]) (g := gTup K 2 (gCons (gName 1) (gCons (gName 2) gNil))) (tt := tYes) (by rfl) sc_is_dict_of_marks.nd (pi_items (pv 0)) (blkOk_by (own := [("mark", 1), ("image", 2)]) (N := ["value", "mark", "image"]) (sc := defScope s_is_dict_of_marks) (by decide +kernel)) (fun _ _ _ _ _ => (pg_tup (by rfl) (pgs_cons (pg_name (i := 1) sc_is_dict_of_marks.nd rfl (Or.inl rfl)) (pgs_cons (pg_name (i := 2) sc_is_dict_of_marks.nd rfl (Or.inl rfl)) pgs_nil)))) (fun _ _ _ _ _ => pts_nil) (fun _ _ _ _ _ => (pe_and (pe_call (ok_is_mark T) (hr.mono (by decide)) (by rfl) T.is_mark.g T.is_mark.k T.is_mark.b .nil pass0 (pa_cons (pv 1) pa_nil)) (pe_one (pe_call (ok_is_mark T) (hr.mono (by decide)) (by rfl) T.is_mark.g T.is_mark.k T.is_mark.b .nil pass0 (pa_cons (pv 2) pa_nil))))))) pa_nil))))), ?_⟩
    refine ⟨_, rfl, _, _, _, _, _, rfl, .ty _, av.ty, av.isi, _, rfl, ?_⟩
    rcases db with ⟨ht, rfl⟩ | ⟨p, kvs, rfl, rfl, hp, hz, ha, rfl⟩
    · have e : isT t "dict" = false := by
        have h1 : ∀ t ∈ kinds, t ≠ "dict" → isT t "dict" = false := by decide
        exact h1 t av.mem ht
      rw [e]
      exact iteT (k _ (Same.refl _))
    · refine ifF (by decide) ?_
      refine ⟨p, .dK kvs, hp, trivial, fun od => ?_⟩
      obtain ⟨H1, e1, f1⟩ : ∃ H1, upd H p (.frz od (.dK kvs)) = H1 ∧ H1 p = some (.frz od (.dK kvs)) := ⟨_, rfl, upd_same⟩
      rw [e1]
      refine ⟨_, rfl, p, od, kvs, rfl, f1, fun D hD => lc_mapL (ys := kvs) (walk_kv (d := p) (o := od) (kvs := kvs)) hD hz (fun H' s1 => s1 _ _ f1) (fun kv => .bl (markV (kV kv.1) && markV kv.2)) ?_ fun H' s1 hl => ?_⟩
      · rintro i kv y H2 H3 R hkv s2 _ ⟨tt, kv', hkv', rfl, ht, rfl⟩ hR
        cases hkv.symm.trans hkv'
        obtain ⟨hk1, hk2, t2, hk3⟩ := ha kv (List.mem_of_getElem? hkv)
        have s3 := same_new (o := .tup [kV kv.1, kv.2]) ht
        have a2 : AnyV K H1 kv.2 t2 := by rw [← e1]; exact hk3.away hk2
        have a1 : ∃ t, AnyV K H1 (kV kv.1) t := by
          cases e : kv.1 with
          | inl i => exact ⟨_, any_int i⟩
          | inr x => exact ⟨_, any_str (hk1 x e)⟩
        obtain ⟨t1, a1⟩ := a1
        refine ⟨tt, _, rfl, SqT.of upd_same, rfl, _, _, rfl, _, _, rfl, rfl, rfl, ?_⟩
        refine ⟨_, rfl, _, t1, rfl, a1.mono (s2.trans s3), fun H4 s4 => ⟨_, rfl, ifB (fun h => ?_) (fun h => ?_)⟩⟩
        · refine ⟨_, rfl, _, t2, rfl, a2.mono (s2.trans (s3.trans s4)), fun H5 s5 => ?_⟩
          have := hR H5 (s3.trans (s4.trans s5))
          rw [h, Bool.true_and] at this
          exact this
        · have := hR H4 (s3.trans s4)
          rw [h, Bool.false_and] at this
          exact this
      · refine ⟨s1 _ _ f1, D, kvs.map fun kv => markV (kV kv.1) && markV kv.2, rfl, SqL.of ?_, ?_⟩
        · rw [upd_ne (ne_of_none f1 hD).symm, hl, List.map_map]
          rfl
        · have e2 : (kvs.map fun kv => markV (kV kv.1) && markV kv.2).all id = kvs.all fun kv => markV (kV kv.1) && markV kv.2 := by
            rw [List.all_map]
            rfl
          rw [e2]
          exact k _ (same_lock hp (by rw [e1]; exact s1))
end
end SB

set_option Elab.async false
set_option linter.all false
set_option maxRecDepth 100000
set_option maxHeartbeats 4000000
namespace SB
open PySem L2
theorem markS_len {x : Str} (h : markS x = true) : x.length ≤ 8 := by
  unfold markS at h
  simp only [Bool.and_eq_true, decide_eq_true_eq] at h
  exact h.2.1
theorem dkv_get {m : List (Str × Str)} {i : Nat} {q : Str × Str} (h : m[i]? = some q) : (dkv m)[i]? = some (Sum.inr q.1, V.str q.2) := by
  unfold dkv
  rw [List.getElem?_map, h]
  rfl
/-- what a dict of marks gives for a key -/
def look (m : List (Str × Str)) (x : Str) : Option Str := (m.find? fun q => decide (q.1 = x)).map (·.2)
theorem valV_dkv (m : List (Str × Str)) (x : Str) : valV (dkv m) (Sum.inr x : Key) = (look m x).map V.str := by
  unfold valV look dkv
  induction m with
  | nil => rfl
  | cons q r ih =>
    rw [List.map_cons, List.find?_cons, List.find?_cons, key_rr]
    cases decide (q.1 = x) with
    | true => rfl
    | false => exact ih
theorem dkv_nodup {m : List (Str × Str)} (h : (m.map (·.1)).Nodup) : ((dkv m).map (·.1)).Nodup := by
  unfold dkv
  rw [List.map_map]
  have h2 := List.pairwise_map.mp h
  exact List.pairwise_map.mpr (h2.imp fun hn e => hn (Sum.inr.inj e))
theorem walk_dkv {d : Addr} {o : Obj} {m : List (Str × Str)} : Walk (Iti d o (dkv m)) m.length (fun H => H d = some (.frz o (.dK (dkv m))))
    (fun i H v H' => ∃ T q, m[i]? = some q ∧ v = .ref T ∧ H T = none ∧ H' = upd H T (.tup [.str q.1, .str q.2])) := by
  have w := walk_kv (d := d) (o := o) (kvs := dkv m)
  rw [dkv_len] at w
  refine w.mono (fun _ h => h) fun i H x H' hi _ y => ?_
  obtain ⟨T, kv, e1, e2, e3, e4⟩ := y
  have hz : m[i]? = some m[i] := List.getElem?_eq_getElem hi
  rw [dkv_get hz] at e1
  cases e1
  exact ⟨T, _, hz, e2, e3, e4⟩
theorem walk_dkvV {d : Addr} {o : Obj} {m : List (Str × Str)} : Walk (Itd d o (dkv m)) m.length (fun H => H d = some (.frz o (.dK (dkv m)))) (fun i H v H' => H' = H ∧ ∃ q, m[i]? = some q ∧ v = .str q.2) := by
  have w := walk_values (d := d) (o := o) (kvs := dkv m)
  rw [dkv_len] at w
  refine w.mono (fun _ h => h) fun i H x H' hi _ y => ?_
  obtain ⟨e1, k, e2⟩ := y
  have hz : m[i]? = some m[i] := List.getElem?_eq_getElem hi
  rw [dkv_get hz] at e2
  cases e2
  exact ⟨e1, _, hz, rfl⟩
/-- whether a value is a one-to-one dict from marks to marks, and which -/
def MapIs (K : PySem.W.Frag) (H : Hp) (v : V) (s : String) (r : Option (List (Str × Str))) : Prop :=
  (r = none ∧ DomIs K H v s false) ∨ ∃ p m, v = .ref p ∧ s = "dict" ∧ H p = some (.dK (dkv m)) ∧ m.length ≤ 1000 ∧ (∀ q ∈ m, markS q.1 = true ∧ markS q.2 = true) ∧ (m.map (·.1)).Nodup ∧ r = if (m.map (·.2)).Nodup then some m else none
theorem DomIs.mono {K : PySem.W.Frag} {H H' : Hp} {v : V} {s : String} {b : Bool} (h : DomIs K H v s b) (e : Same H H') : DomIs K H' v s b := by
  rcases h with h | ⟨p, kvs, h1, h2, h3, h4, h5, h6⟩
  · exact .inl h
  · refine .inr ⟨p, kvs, h1, h2, e _ _ h3, h4, fun kv hk => ?_, h6⟩
    obtain ⟨a, b, t, c⟩ := h5 kv hk
    exact ⟨a, b, t, c.mono e⟩
theorem MapIs.mono {K : PySem.W.Frag} {H H' : Hp} {v : V} {s : String} {r : Option (List (Str × Str))} (h : MapIs K H v s r) (e : Same H H') : MapIs K H' v s r := by
  rcases h with ⟨h1, h2⟩ | ⟨p, m, h1, h2, h3, h4⟩
  · exact .inl ⟨h1, h2.mono e⟩
  · exact .inr ⟨p, m, h1, h2, e _ _ h3, h4⟩
/-- an error of the class C with the value v leaves -/
def Leaves (C : Addr) (E : XK) (H : Hp) (f : Str) (v : V) : Prop := ∀ H' d, Same H H' → H' d = none → E (.ref C) (some d) (upd H' d (.xd [(f, v)]))
def spCheckMap (K : PySem.W.Frag) (C : Addr) : Sp := fun vs H Q E => ∃ v s r, vs = [v] ∧ AnyV K H v s ∧ MapIs K H v s r ∧ (r ≠ none → ∀ H', Same H H' → Q .non H') ∧ (r = none → Leaves C E H "value" v)
/-- a new dict -/
def Gives (Q : VK) (H : Hp) (kvs : List (Key × V)) : Prop := ∀ H' p, H p = none → Same H H' → H' p = some (.dK kvs) → Q (.ref p) H'
def spBack (K : PySem.W.Frag) (C : Addr) : Sp := fun vs H Q E => ∃ v s r, vs = [v] ∧ AnyV K H v s ∧ MapIs K H v s r ∧ (∀ m, r = some m → Gives Q H (dkv (m.map fun q => (q.2, q.1)))) ∧ (r = none → Leaves C E H "value" v)
def fits (m1 m2 : List (Str × Str)) : Bool := m1.all fun q => (look m2 q.2).isSome
def spThen (K : PySem.W.Frag) (C : Addr) : Sp := fun vs H Q E => ∃ v1 s1 r1 v2 s2 r2, vs = [v1, v2] ∧ AnyV K H v1 s1 ∧ MapIs K H v1 s1 r1 ∧ AnyV K H v2 s2 ∧ MapIs K H v2 s2 r2 ∧
  (r1 = none → Leaves C E H "value" v1) ∧ (r1 ≠ none → r2 = none → Leaves C E H "value" v2) ∧
  ∀ m1 m2, r1 = some m1 → r2 = some m2 → (fits m1 m2 = false → Leaves C E H "value" v2) ∧ (fits m1 m2 = true → Gives Q H (dkv (m1.map fun q => (q.1, (look m2 q.2).getD ""))))
theorem MapIs.some {K : PySem.W.Frag} {H : Hp} {v : V} {s : String} {m : List (Str × Str)} (h : MapIs K H v s (some m)) :
    ∃ p, v = .ref p ∧ s = "dict" ∧ H p = some (.dK (dkv m)) ∧ m.length ≤ 1000 ∧ (∀ q ∈ m, markS q.1 = true ∧ markS q.2 = true) ∧ (m.map (·.1)).Nodup ∧ (m.map (·.2)).Nodup := by
  rcases h with ⟨h, _⟩ | ⟨p, m', h1, h2, h3, h4, h5, h6, h7⟩
  · cases h
  · split at h7
    · rename_i hn
      cases h7
      exact ⟨p, h1, h2, h3, h4, h5, h6, hn⟩
    · cases h7
section
variable {P : Program} {w : World} {K : PySem.W.Frag} {mg : Str → Option Value} {base : Heap} {a : Ad}
theorem ok_check_map (T : Txt P K mg a) : FnOk P w K mg base (L2.CX P w) 4 a.f_check_map a.d_check_map ["value"] (spCheckMap K a.C_BadMap) := by
  refine T.check_map.F.okX sc_check_map (fun vs H Q E h => ?_) (fun cdv A outer s H vs Q E hr h => ?_)
  · obtain ⟨v, t, r, rfl, _⟩ := h
    rfl
  · obtain ⟨v, t, r, rfl, av, mv, kQ, kE⟩ := h
    refine ⟨_, (pss_one (ps_if (PW.pt (pw_or (pt_not (pt_val (pe_call (ok_is_dict_of_marks T) (hr.mono (by decide)) (by rfl) T.is_dict_of_marks.g T.is_dict_of_marks.k T.is_dict_of_marks.b .nil pass0 (pa_cons (pv 0) pa_nil)))) (pw_or1 (pt_not (pt_val (pe_call (ok_are_different T) (hr.mono (by decide)) (by rfl) T.are_different.g T.are_different.k T.are_different.b .nil pass0 (pa_cons (pe_listVals (by rfl) (pv 0) (by rfl) T.z_list (by decide +kernel)) pa_nil))))))) (pss_one (ps_raiseErr (by rfl) T.x_BadMap hr (takes_of rfl rfl rfl rfl) (pa_cons (pv 0) pa_nil) (by rfl))) pss_nil)), ?_⟩
    have raise : ∀ H1, Same H H1 → r = none → (∀ d, H1 d = none → E (.ref a.C_BadMap) (some d) (upd H1 d (.xd [(("value" : Str), v)]))) := fun H1 s1 hr d hd => kE hr H1 d s1 hd
    rcases mv with ⟨rfl, dom⟩ | ⟨p, m, rfl, rfl, hp, hl, hm, hk, rfl⟩
    · refine ⟨_, rfl, v, t, false, rfl, av, dom, fun H1 s1 => ⟨_, rfl, iteT (iteT ?_)⟩⟩
      exact ⟨_, rfl, _, rfl, raise H1 s1 rfl⟩
    · have dom : DomIs K H (.ref p) "dict" true := by
        refine .inr ⟨p, dkv m, rfl, rfl, hp, by rw [dkv_len, sizeLine_eq]; omega, fun kv hkv => ?_, ?_⟩
        · obtain ⟨q, hq, rfl⟩ := List.mem_map.mp hkv
          have l1 := markS_len (hm q hq).1
          have l2 := markS_len (hm q hq).2
          refine ⟨fun x e => ?_, (fun z => by cases z), _, any_str (by rw [sizeLine_eq]; omega)⟩
          cases e
          rw [sizeLine_eq]; omega
        · symm
          refine List.all_eq_true.mpr fun kv hkv => ?_
          obtain ⟨q, hq, rfl⟩ := List.mem_map.mp hkv
          show (markS q.1 && markS q.2) = true
          rw [(hm q hq).1, (hm q hq).2]
          rfl
      refine ⟨_, rfl, .ref p, _, true, rfl, av, dom, fun H1 s1 => ⟨_, rfl, iteF ?_⟩⟩
      refine ⟨_, rfl, p, dkv m, rfl, s1 _ _ hp, fun q hq => ?_⟩
      have ev : (dkv m).map (·.2) = (m.map (·.2)).map V.str := by simp [dkv]
      rw [ev]
      obtain ⟨H2, e2, s2, f2⟩ : ∃ H2, upd H1 q (.lst ((m.map (·.2)).map V.str)) = H2 ∧ Same H1 H2 ∧ H2 q = some (.lst ((m.map (·.2)).map V.str)) := ⟨_, rfl, same_new hq, upd_same⟩
      rw [e2]
      refine ⟨q, _, rfl, SqL.of f2, by rw [List.length_map, sizeLine_eq]; omega, fun H3 s3 => ⟨_, rfl, ?_⟩⟩
      have sz : Same H H3 := s1.trans (s2.trans s3)
      by_cases hn : (m.map (·.2)).Nodup
      · rw [if_pos hn] at kQ
        refine ifF (by rw [decide_eq_true hn]; rfl) ?_
        exact kQ (by simp) _ sz
      · refine ifT (by rw [decide_eq_false hn]; rfl) ?_
        exact ⟨_, rfl, _, rfl, raise H3 sz (if_neg hn)⟩
theorem ok_backwards (T : Txt P K mg a) : FnOk P w K mg base (L2.CX P w) 5 a.f_backwards a.d_backwards ["first"] (spBack K a.C_BadMap) := by
  refine T.backwards.F.okX sc_backwards (fun vs H Q E h => ?_) (fun cdv A outer s H vs Q E hr h => ?_)
  · obtain ⟨v, t, r, rfl, _⟩ := h
    rfl
  · obtain ⟨v, t, r, rfl, av, mv, kQ, kE⟩ := h
    refine ⟨_, (pss_cons (ps_expr (pe_call (ok_check_map T) (hr.mono (by decide)) (by rfl) T.check_map.g T.check_map.k T.check_map.b .nil (passes_call (takes_of rfl rfl rfl rfl) (fun _ _ _ _ h => h)) (pa_cons (pv 0) pa_nil)))
      (pss_one (ps_ret (pe_lock (pe_dc (own := [("mark", 1), ("image", 2)]) (g := gTup K 2 (gCons (gName 1) (gCons (gName 2) gNil))) (tt := tYes) (by rfl) sc_backwards.nd (pi_items (pv 0)) (blkOk_by (own := [("mark", 1), ("image", 2)]) (N := ["first", "mark", "image"]) (sc := defScope s_backwards) (by decide +kernel)) (fun _ _ _ _ _ => (pg_tup (by rfl) (pgs_cons (pg_name (i := 1) sc_backwards.nd rfl (Or.inl rfl)) (pgs_cons (pg_name (i := 2) sc_backwards.nd rfl (Or.inl rfl)) pgs_nil)))) (fun _ _ _ _ _ => pts_nil) (fun _ _ _ _ _ => (pv 2)) (fun _ _ _ _ _ => (pv 1))))))), ?_⟩
    refine ⟨_, rfl, v, t, r, rfl, av, mv, fun hr H1 s1 => ?_, fun hr H1 d s1 hd => ?_⟩
    · cases r with
      | none => exact absurd rfl hr
      | some m =>
        obtain ⟨p, rfl, rfl, hp, hl, hm, hk, hv⟩ := mv.some
        refine ⟨p, .dK (dkv m), s1 _ _ hp, trivial, fun od => ?_⟩
        obtain ⟨H2, e2, f2⟩ : ∃ H2, upd H1 p (.frz od (.dK (dkv m))) = H2 ∧ H2 p = some (.frz od (.dK (dkv m))) := ⟨_, rfl, upd_same⟩
        rw [e2]
        refine ⟨_, rfl, p, od, dkv m, rfl, f2, fun D hD => dc_mapL (walk_dkv (d := p) (o := od) (m := m)) hD (by rw [sizeLine_eq]; omega) (fun H' s' => s' _ _ f2) (fun q => (Sum.inr q.2, .str q.1)) ?_ fun H' s' hl' => ?_⟩
        · rintro i q y H3 H4 R hq s3 _ ⟨tt, q', hq', rfl, ht, rfl⟩ hR
          cases hq.symm.trans hq'
          exact ⟨tt, _, rfl, SqT.of upd_same, rfl, _, _, rfl, _, _, rfl, rfl, rfl, _, rfl, _, rfl, hR _ (same_new ht)⟩
        · refine ⟨s' _ _ f2, ?_⟩
          have ne : D ≠ p := (ne_of_none f2 hD).symm
          have hD1 : H D = none := by
            cases q : H D with
            | none => rfl
            | some o =>
              have := s1 _ _ q
              rw [← e2, upd_ne ne] at hD
              rw [hD] at this
              cases this
          refine kQ m rfl _ D hD1 (s1.trans (same_lock (s1 _ _ hp) (by rw [e2]; exact s'))) ?_
          have e3 : mergeK [] (m.map fun q => ((Sum.inr q.2 : Key), V.str q.1)) = dkv (m.map fun q => (q.2, q.1)) := by
            rw [merge_nodup _ [] ?_]
            · simp [dkv]
            · have := dkv_nodup (m := m.map fun q => (q.2, q.1)) (by rw [List.map_map]; exact hv)
              simp only [dkv, List.map_map, List.nil_append] at this ⊢
              exact this
          rw [upd_ne ne, hl', e3]
    · exact kE hr H1 d s1 hd
theorem ok_then_d (T : Txt P K mg a) : FnOk P w K mg base (L2.CX P w) 5 a.f_then_d a.d_then_d ["first", "second"] (spThen K a.C_BadMap) := by
  refine T.then_d.F.okX sc_then_d (fun vs H Q E h => ?_) (fun cdv A outer s H vs Q E hr h => ?_)
  · obtain ⟨v1, t1, r1, v2, t2, r2, rfl, _⟩ := h
    rfl
  · obtain ⟨v1, t1, r1, v2, t2, r2, rfl, av1, mv1, av2, mv2, k1, k2, k3⟩ := h
    have hu := hu_of hr
    refine ⟨_, (pss_cons (ps_expr (pe_call (ok_check_map T) (hr.mono (by decide)) (by rfl) T.check_map.g T.check_map.k T.check_map.b .nil (passes_call (takes_of rfl rfl rfl rfl) (fun _ _ _ _ h => h)) (pa_cons (pv 0) pa_nil)))
      (pss_cons (ps_expr (pe_call (ok_check_map T) (hr.mono (by decide)) (by rfl) T.check_map.g T.check_map.k T.check_map.b .nil (passes_call (takes_of rfl rfl rfl rfl) (fun _ _ _ _ h => h)) (pa_cons (pv 1) pa_nil)))
      (pss_cons (ps_if (pt_not (pt_val (pe_callB (cr_all rfl) (by rfl) T.z_all (by decide +kernel) (pa_cons (pe_lock (pe_lc (own := [("image", 2)]) (g := gName 2) (tt := tYes) (by rfl) sc_then_d.nd (pi_values (pv 0)) (blkOk_by (own := [("image", 2)]) (N := ["first", "second", "image", "mark"]) (sc := defScope s_then_d) (by decide +kernel)) (fun _ _ _ _ _ => (pg_name (i := 2) sc_then_d.nd rfl (Or.inl rfl))) (fun _ _ _ _ _ => pts_nil) (fun _ _ _ _ _ => (pe_cmp (pc_din hu (pv 2) (pv 1)))))) pa_nil)))) (pss_one (ps_raiseErr (by rfl) T.x_BadMap hr (takes_of rfl rfl rfl rfl) (pa_cons (pv 1) pa_nil) (by rfl))) pss_nil)
      (pss_one (ps_ret (pe_lock (pe_dc (own := [("mark", 3), ("image", 2)]) (g := gTup K 2 (gCons (gName 3) (gCons (gName 2) gNil))) (tt := tYes) (by rfl) sc_then_d.nd (pi_items (pv 0)) (blkOk_by (own := [("mark", 3), ("image", 2)]) (N := ["first", "second", "image", "mark"]) (sc := defScope s_then_d) (by decide +kernel)) (fun _ _ _ _ _ => (pg_tup (by rfl) (pgs_cons (pg_name (i := 3) sc_then_d.nd rfl (Or.inl rfl)) (pgs_cons (pg_name (i := 2) sc_then_d.nd rfl (Or.inl rfl)) pgs_nil)))) (fun _ _ _ _ _ => pts_nil) (fun _ _ _ _ _ => (pv 3)) (fun _ _ _ _ _ => (pe_dget hu (pv 1) (pv 2) (fun _ _ => rfl)))))))))), ?_⟩
    refine ⟨_, rfl, v1, t1, r1, rfl, av1, mv1, fun hr1 H1 s1 => ?_, fun hr H1 d s1 hd => k1 hr H1 d s1 hd⟩
    refine ⟨_, rfl, v2, t2, r2, rfl, av2.mono s1, mv2.mono s1, fun hr2 H2 s2 => ?_, fun hr H2 d s2 hd => k2 hr1 hr H2 d (s1.trans s2) hd⟩
    cases r1 with
    | none => exact absurd rfl hr1
    | some m1 =>
    cases r2 with
    | none => exact absurd rfl hr2
    | some m2 =>
    obtain ⟨kF, kG⟩ := k3 m1 m2 rfl rfl
    obtain ⟨p1, rfl, rfl, hp1, hl1, hm1, hk1, hv1⟩ := mv1.some
    obtain ⟨p2, rfl, rfl, hp2, hl2, hm2, hk2, hv2⟩ := mv2.some
    have s12 : Same H H2 := s1.trans s2
    have rd : ∀ (Hb H' : Hp) (od : Obj), Same H Hb → Same (upd Hb p1 (.frz od (.dK (dkv m1)))) H' → Rd H' p2 (.dK (dkv m2)) := by
      intro Hb H' od sb s'
      by_cases e : p2 = p1
      · have em : some (HO.dK (dkv m2)) = some (.dK (dkv m1)) := by rw [← hp1, ← hp2, e]
        have em2 : HO.dK (dkv m2) = .dK (dkv m1) := Option.some.inj em
        rw [em2]
        refine .inr ⟨od, s' _ _ ?_⟩
        rw [e]
        exact upd_same
      · exact .inl (s' _ _ (by rw [upd_ne e]; exact sb _ _ hp2))
    -- are all images keys of the second
    refine ⟨p1, .dK (dkv m1), s12 _ _ hp1, trivial, fun od => ?_⟩
    obtain ⟨H3, e3, f3⟩ : ∃ H3, upd H2 p1 (.frz od (.dK (dkv m1))) = H3 ∧ H3 p1 = some (.frz od (.dK (dkv m1))) := ⟨_, rfl, upd_same⟩
    rw [e3]
    refine ⟨_, rfl, p1, od, dkv m1, rfl, f3, fun D hD => lc_mapL (walk_dkvV (d := p1) (o := od) (m := m1)) hD (by rw [sizeLine_eq]; omega) (fun H' s' => s' _ _ f3) (fun q => .bl (look m2 q.2).isSome) ?_ fun H4 s4 hl4 => ?_⟩
    · rintro i q y H5 H6 R hq s5 _ ⟨rfl, q', hq', rfl⟩ hR
      cases hq.symm.trans hq'
      refine ⟨rfl, _, rfl, _, rfl, p2, _, rfl, .inl ⟨_, Sum.inr q.2, rd H2 _ od s12 (by rw [e3]; exact s5), rfl, rfl⟩, ?_⟩
      rw [valV_dkv, Option.isSome_map]
      exact hR _ (Same.refl _)
    · have ne4 : D ≠ p1 := (ne_of_none f3 hD).symm
      refine ⟨s4 _ _ f3, D, m1.map fun q => (look m2 q.2).isSome, rfl, SqL.of ?_, _, rfl, ?_⟩
      · rw [upd_ne ne4, hl4, List.map_map]
        rfl
      have ea : (m1.map fun q => (look m2 q.2).isSome).all id = fits m1 m2 := by
        rw [List.all_map]
        rfl
      rw [ea]
      have s6 : Same H (upd H4 p1 (.dK (dkv m1))) := s12.trans (same_lock (s12 _ _ hp1) (by rw [e3]; exact s4))
      obtain ⟨H5, e5⟩ : ∃ H5, upd H4 p1 (.dK (dkv m1)) = H5 := ⟨_, rfl⟩
      rw [e5] at s6 ⊢
      refine ifB (fun h => ?_) (fun h => ?_)
      · have hf : fits m1 m2 = false := by simpa using h
        exact ⟨_, rfl, _, rfl, fun d hd => kF hf H5 d s6 hd⟩
      · have hf : fits m1 m2 = true := by simpa using h
        refine ⟨p1, .dK (dkv m1), s6 _ _ hp1, trivial, fun od2 => ?_⟩
        obtain ⟨H7, e7, f7⟩ : ∃ H7, upd H5 p1 (.frz od2 (.dK (dkv m1))) = H7 ∧ H7 p1 = some (.frz od2 (.dK (dkv m1))) := ⟨_, rfl, upd_same⟩
        rw [e7]
        refine ⟨_, rfl, p1, od2, dkv m1, rfl, f7, fun D2 hD2 => dc_mapL (walk_dkv (d := p1) (o := od2) (m := m1)) hD2 (by rw [sizeLine_eq]; omega) (fun H' s' => s' _ _ f7) (fun q => (Sum.inr q.1, .str ((look m2 q.2).getD ""))) ?_ fun H' s' hl' => ?_⟩
        · rintro i q y H8 H9 R hq s8 _ ⟨tt, q', hq', rfl, ht, rfl⟩ hR
          cases hq.symm.trans hq'
          have hs : (look m2 q.2).isSome = true := List.all_eq_true.mp hf q (List.mem_of_getElem? hq)
          obtain ⟨z, hz⟩ := Option.isSome_iff_exists.mp hs
          refine ⟨tt, _, rfl, SqT.of upd_same, rfl, _, _, rfl, _, _, rfl, rfl, rfl, _, rfl, _, rfl, _, rfl, p2, .str z, rfl, .inl ⟨_, Sum.inr q.2, rd H5 _ od2 s6 (by rw [e7]; exact s8.trans (same_new ht)), rfl, ?_⟩, ?_⟩
          · rw [valV_dkv, hz]
            rfl
          · have := hR _ (same_new (o := .tup [.str q.1, .str q.2]) ht)
            rw [hz] at this
            exact this
        · refine ⟨s' _ _ f7, ?_⟩
          have ne : D2 ≠ p1 := (ne_of_none f7 hD2).symm
          have hD1 : H D2 = none := by
            cases q : H D2 with
            | none => rfl
            | some o =>
              have := s6 _ _ q
              rw [← e7, upd_ne ne] at hD2
              rw [hD2] at this
              cases this
          refine kG hf _ D2 hD1 (s6.trans (same_lock (s6 _ _ hp1) (by rw [e7]; exact s'))) ?_
          have e9 : mergeK [] (m1.map fun q => ((Sum.inr q.1 : Key), V.str ((look m2 q.2).getD ""))) = dkv (m1.map fun q => (q.1, (look m2 q.2).getD "")) := by
            rw [merge_nodup _ [] ?_]
            · simp [dkv]
            · have := dkv_nodup (m := m1.map fun q => (q.1, (look m2 q.2).getD "")) (by rw [List.map_map]; exact hk1)
              simp only [dkv, List.map_map, List.nil_append] at this ⊢
              exact this
          rw [upd_ne ne, hl', e9]
end
end SB

set_option Elab.async false
set_option linter.all false
set_option maxRecDepth 100000
set_option maxHeartbeats 4000000
namespace SB
open PySem L2
theorem cut_take {xs : List V} {n : Nat} (h : n ≤ xs.length) : cutV xs none (some (n : Int)) = xs.take n := by
  have e : HT.sIx xs.length xs.length (some (n : Int)) = n := by
    show (if (n : Int) < 0 then ((n : Int) + (xs.length : Int)).toNat else min (n : Int).toNat xs.length) = n
    rw [if_neg (by omega)]
    omega
  unfold cutV
  rw [e]
  show (xs.drop 0).take (n - 0) = _
  simp
theorem cut_drop {xs : List V} {n : Nat} (h : n < xs.length) : cutV xs (some ((n : Int) + 1)) none = xs.drop (n + 1) := by
  have e : HT.sIx xs.length 0 (some ((n : Int) + 1)) = n + 1 := by
    show (if (n : Int) + 1 < 0 then ((n : Int) + 1 + (xs.length : Int)).toNat else min ((n : Int) + 1).toNat xs.length) = n + 1
    rw [if_neg (by omega)]
    omega
  unfold cutV
  rw [e]
  show (xs.drop (n + 1)).take (xs.length - (n + 1)) = _
  rw [List.take_of_length_le (by rw [List.length_drop]; exact Nat.le_refl _)]
theorem pool_ne {H : Hp} {p l : Addr} {xs : List Str} (h : Pool H p) (e : H l = some (.lst (xs.map V.str))) : l ≠ p := by
  obtain ⟨g, m, hp, _⟩ := h
  refine ne_of e hp fun z => ?_
  injection z with z
  cases xs with
  | nil => cases z
  | cons x r =>
    rw [List.map_cons] at z
    injection z with z _
    cases z
/-- the things of a list of texts in a drawn order, as a new list -/
def spMix (K : PySem.W.Frag) : Sp := fun vs H Q _ => ∃ (p l : Addr) (xs : List Str), vs = [.ref p, .ref l] ∧ Pool H p ∧ H l = some (.lst (xs.map V.str)) ∧ xs.length ≤ 100 ∧
  ∀ H' q (ys : List Str), H q = none → ys.Perm xs → SameX p H H' → Pool H' p → H' q = some (.lst (ys.map V.str)) → Q (.ref q) H'
section
variable {P : Program} {w : World} {K : PySem.W.Frag} {mg : Str → Option Value} {base : Heap} {a : Ad}
theorem ok_l_mixed (T : Txt P K mg a) : FnOk P w K mg base CX0 2 a.f_l_mixed a.d_l_mixed ["_law_pool_here", "_law_things"] (spMix K) := by
  refine T.l_mixed.F.ok sc_l_mixed (fun vs H Q E h => ?_) (fun cdv A outer s H vs Q E hr h => ?_)
  · obtain ⟨p, l, xs, rfl, _⟩ := h
    rfl
  · obtain ⟨p, l, xs, rfl, pl, hl, hz, k⟩ := h
    refine ⟨_, (pss_cons (ps_par (i := 2) (j := 3) (by rfl) sc_l_mixed.nd rfl rfl (by decide) rfl rfl (pa_cons (pe_callTy call_list_of (by rfl) T.z_list (by decide +kernel) (pa_cons (pv 1) pa_nil)) (pa_cons (pe_lst pa_nil) pa_nil)) (by rfl))
      (pss_cons (ps_for PassesOwn.never rfl (pi_list (pv 1)) (pg_name (i := 4) sc_l_mixed.nd rfl (Or.inl rfl)) (pss_cons (ps_set (i := 5) sc_l_mixed.nd rfl (Or.inl rfl) (pe_call (ok_l_draw T) (hr.mono (by decide)) (by rfl) T.l_draw.g T.l_draw.k T.l_draw.b .nil pass0 (pa_cons (pv 0) (pa_cons (pe_callB call_len_seq (by rfl) T.z_len (by decide +kernel) (pa_cons (pv 2) pa_nil)) pa_nil))))
      (pss_cons (ps_expr (pe_bm PySem.F.plainAttrs_list PySem.F.slot_list_append PySem.F.type_list_append mt_append (pv 3) (pa_cons (pe_ix ix_list (pv 2) (pv 5) (fun _ _ => rfl)) pa_nil)))
      (pss_one (ps_set (i := 2) sc_l_mixed.nd rfl (Or.inl rfl) (pe_op op_cat (pe_slice sl_list (pv 2) po_none (po_some (pv 5))) (pe_slice sl_list (pv 2) (po_some (pe_op op_add (pv 5) pe_int)) po_none)))))))
      (pss_one (ps_ret (pv 3))))), ?_⟩
    refine ⟨_, rfl, l, _, rfl, .inl (SqL.of hl), fun L hL => ?_⟩
    obtain ⟨H1, e1, s1, f1⟩ : ∃ H1, upd H L (.lst (xs.map V.str)) = H1 ∧ Same H H1 ∧ H1 L = some (.lst (xs.map V.str)) := ⟨_, rfl, same_new hL, upd_same⟩
    rw [e1]
    refine ⟨Nat.zero_le _, fun F hF => ?_⟩
    obtain ⟨H2, e2, s2, f2⟩ : ∃ H2, upd H1 F (.lst []) = H2 ∧ Same H1 H2 ∧ H2 F = some (.lst []) := ⟨_, rfl, same_new hF, upd_same⟩
    rw [e2]
    have s12 : Same H H2 := s1.trans s2
    have hF0 : H F = none := s1.free hF
    have nFp : F ≠ p := fun z => by
      obtain ⟨g, m, hp, _⟩ := pl
      rw [z, hp] at hF0
      cases hF0
    have nlp : l ≠ p := pool_ne pl hl
    have nlF : l ≠ F := ne_of_none hl hF0
    refine ⟨_, _, rfl, _, rfl, l, rfl, ⟨_, SqL.of (s12 _ _ hl)⟩, ?_⟩
    refine for_list (K := K) (a := l) (xs := xs.map V.str) (fun i σ H' => ∃ (left : Addr) (ls fs : List Str) (o4 o5 : Option V), σ = [some (.ref p), some (.ref l), some (.ref left), some (.ref F), o4, o5] ∧
      SameX p H H' ∧ Pool H' p ∧ H' left = some (.lst (ls.map V.str)) ∧ left ≠ F ∧ H' F = some (.lst (fs.map V.str)) ∧ (fs ++ ls).Perm xs ∧ fs.length = i ∧ H' l = some (.lst (xs.map V.str))) ?_ (fun i σ H' _ h => ?_) ?_ ?_
    · exact ⟨L, xs, [], none, none, rfl, Same.x s12, pl.at fun o e => s12 _ _ e, s2 _ _ f1, ne_of_none f1 hF, f2, List.Perm.refl _, rfl, s12 _ _ hl⟩
    · obtain ⟨_, _, _, _, _, _, _, _, _, _, _, _, _, h⟩ := h
      exact SqL.of h
    · rintro i y σ H3 hi ⟨left, ls, fs, o4, o5, rfl, sx, pl3, hL3, nLF, hF3, perm, lf, hl3⟩
      have hi2 : i < xs.length := by
        have := (List.getElem?_eq_some_iff.mp hi).1
        rwa [List.length_map] at this
      have ll : fs.length + ls.length = xs.length := by rw [← List.length_append]; exact perm.length_eq
      have nLp : left ≠ p := pool_ne pl3 hL3
      -- at = draw(pool, len(left))
      refine ⟨_, rfl, _, rfl, left, _, rfl, .inl (SqL.of hL3), p, _, rfl, pl3, by rw [List.length_map]; omega, by rw [List.length_map]; omega, fun n H4 hn x4 pl4 => ?_⟩
      rw [List.length_map] at hn
      have hn2 : n < ls.length := by omega
      have hL4 := x4 _ _ nLp hL3
      have hF4 := x4 _ _ nFp hF3
      -- found.append(left[at])
      refine ⟨_, rfl, .inl ⟨rfl, _, SqL.of hF4⟩, _, rfl, _, rfl, left, _, (n : Int), .str ls[n], rfl, rfl, SqL.of hL4, atI_nat (by rw [List.getElem?_map, List.getElem?_eq_getElem hn2]; rfl), F, _, _, rfl, rfl, hF4, by rw [List.length_map, sizeLine_eq]; omega, ?_⟩
      obtain ⟨H5, e5, x5, f5⟩ : ∃ H5, upd H4 F (.lst (fs.map V.str ++ [.str ls[n]])) = H5 ∧ SameX F H4 H5 ∧ H5 F = some (.lst (fs.map V.str ++ [.str ls[n]])) := ⟨_, rfl, SameX.put, upd_same⟩
      rw [e5]
      have hL5 := x5 _ _ nLF hL4
      have pl5 : Pool H5 p := pl4.at fun o e => x5 _ _ nFp.symm e
      -- left = left[:at] + left[at + 1:]
      refine ⟨_, rfl, _, rfl, (n : Int), rfl, left, _, rfl, SqL.of hL5, fun c1 hc1 => ?_⟩
      rw [cut_take (by rw [List.length_map]; omega), ← List.map_take]
      obtain ⟨H6, e6, s6, f6⟩ : ∃ H6, upd H5 c1 (.lst ((ls.take n).map V.str)) = H6 ∧ Same H5 H6 ∧ H6 c1 = some (.lst ((ls.take n).map V.str)) := ⟨_, rfl, same_new hc1, upd_same⟩
      rw [e6]
      refine ⟨_, rfl, _, rfl, _, _, rfl, rfl, _, rfl, left, _, rfl, SqL.of (s6 _ _ hL5), fun c2 hc2 => ?_⟩
      dsimp only
      rw [cut_drop (by rw [List.length_map]; omega), ← List.map_drop]
      obtain ⟨H7, e7, s7, f7⟩ : ∃ H7, upd H6 c2 (.lst ((ls.drop (n + 1)).map V.str)) = H7 ∧ Same H6 H7 ∧ H7 c2 = some (.lst ((ls.drop (n + 1)).map V.str)) := ⟨_, rfl, same_new hc2, upd_same⟩
      rw [e7]
      refine ⟨c1, c2, _, _, rfl, rfl, s7 _ _ f6, f7, ?_, fun c3 hc3 => ?_⟩
      · rw [List.length_map, List.length_map, List.length_take, List.length_drop, sizeLine_eq]
        omega
      rw [← List.map_append]
      obtain ⟨H8, e8, s8, f8⟩ : ∃ H8, upd H7 c3 (.lst ((ls.take n ++ ls.drop (n + 1)).map V.str)) = H8 ∧ Same H7 H8 ∧ H8 c3 = some (.lst ((ls.take n ++ ls.drop (n + 1)).map V.str)) := ⟨_, rfl, same_new hc3, upd_same⟩
      rw [e8]
      have s58 : Same H5 H8 := s6.trans (s7.trans s8)
      refine ⟨c3, _, fs ++ [ls[n]], _, _, rfl, ?_, pl5.at fun o e => s58 _ _ e, f8, ne_of_none (s7 _ _ (s6 _ _ f5)) hc3 |> Ne.symm, ?_, ?_, ?_, ?_⟩
      · intro b o nb eb
        have nbF : b ≠ F := ne_of_none eb hF0
        exact s58 _ _ (x5 _ _ nbF (x4 _ _ nb (sx _ _ nb eb)))
      · rw [s58 _ _ f5, List.map_append]
        rfl
      · refine List.Perm.trans ?_ perm
        have e : ls = ls.take n ++ ls[n] :: ls.drop (n + 1) := by
          conv => lhs; rw [← List.take_append_drop n ls]
          rw [List.drop_eq_getElem_cons hn2]
        rw [List.append_assoc]
        refine List.Perm.append_left fs ?_
        conv => rhs; rw [e]
        rw [List.singleton_append]
        exact List.perm_middle.symm
      · rw [List.length_append, lf]
        rfl
      · exact s58 _ _ (x5 _ _ nlF (x4 _ _ nlp hl3))
    · rintro σ H3 ⟨left, ls, fs, o4, o5, rfl, sx, pl3, hL3, nLF, hF3, perm, lf, hl3⟩
      refine ⟨_, rfl, ?_⟩
      rw [List.length_map] at lf
      have l0 : ls = [] := by
        have := perm.length_eq
        rw [List.length_append, lf] at this
        exact List.eq_nil_of_length_eq_zero (by omega)
      rw [l0, List.append_nil] at perm
      exact k H3 F fs hF0 perm sx pl3 hF3
end
end SB

set_option Elab.async false
set_option linter.all false
set_option maxRecDepth 100000
set_option maxHeartbeats 4000000
namespace SB
open PySem L2
mutual
theorem dp_mono {K : PySem.W.Frag} {H H' : Hp} (s : Same H H') : ∀ {v : V} {d : PyData}, Dp K H v d → Dp K H' v d
  | _, _, .non => .non
  | _, _, .bl b => .bl b
  | _, _, .int i => .int i
  | _, _, .str x => .str x
  | _, _, .lst q r => .lst (s.seq q) (dpAll_mono s r)
  | _, _, .tup q r => .tup (same_seqT s q) (dpAll_mono s r)
theorem dpAll_mono {K : PySem.W.Frag} {H H' : Hp} (s : Same H H') : ∀ {v : List V} {d : List PyData}, DpAll K H v d → DpAll K H' v d
  | _, _, .nil => .nil
  | _, _, .cons r rs => .cons (dp_mono s r) (dpAll_mono s rs)
end
theorem rp_mono {K : PySem.W.Frag} {H H' : Hp} {v : V} {d : PyData} (s : Same H H') (h : Rp K H v d) : Rp K H' v d := by
  rcases h with h | ⟨a, kvs, ds, h1, h2, h3, h4⟩
  · exact .inl (dp_mono s h)
  · exact .inr ⟨a, kvs, ds, h1, s _ _ h2, dpAll_mono s h3, h4⟩
/-- a value that can be shown, and how -/
structure Shows (K : PySem.W.Frag) (H : Hp) (v : V) (d : PyData) : Prop where
  rp : Rp K H v d
  sh : d.showable = true
  len : d.shown.length ≤ 1000
  dep : d.depth ≤ 60
  ok : PyData.strOk d.shown = true
theorem Shows.mono {K : PySem.W.Frag} {H H' : Hp} {v : V} {d : PyData} (h : Shows K H v d) (s : Same H H') : Shows K H' v d := ⟨rp_mono s h.rp, h.sh, h.len, h.dep, h.ok⟩
/-- ["map", text]: a new list -/
def GivesMap (Q : VK) (H : Hp) (x : Str) : Prop := ∀ H' q, H q = none → Same H H' → H' q = some (.lst [.str "map", .str x]) → Q (.ref q) H'
/-- backwards(one) or its error, then(one, two) or its error -/
def spTold (K : PySem.W.Frag) : Sp := fun vs H Q _ => ∃ (door : Int) (v1 v2 : V), vs = [.int door, v1, v2] ∧ ∃ s1 r1, AnyV K H v1 s1 ∧ MapIs K H v1 s1 r1 ∧
  ((door = 0 ∧ (∀ m, r1 = some m → Gives Q H (dkv (m.map fun q => (q.2, q.1)))) ∧ (r1 = none → ∃ d, Shows K H v1 d ∧ GivesMap Q H d.shown)) ∨
   (door ≠ 0 ∧ ∃ s2 r2, AnyV K H v2 s2 ∧ MapIs K H v2 s2 r2 ∧ (r1 = none → ∃ d, Shows K H v1 d ∧ GivesMap Q H d.shown) ∧ (r1 ≠ none → r2 = none → ∃ d, Shows K H v2 d ∧ GivesMap Q H d.shown) ∧
     ∀ m1 m2, r1 = some m1 → r2 = some m2 → (fits m1 m2 = false → ∃ d, Shows K H v2 d ∧ GivesMap Q H d.shown) ∧ (fits m1 m2 = true → Gives Q H (dkv (m1.map fun q => (q.1, (look m2 q.2).getD ""))))))
section
variable {P : Program} {w : World} {K : PySem.W.Frag} {mg : Str → Option Value} {base : Heap} {a : Ad}
theorem ok_l_told (T : Txt P K mg a) : FnOkG P w K mg base CX0 6 a.f_l_told a.d_l_told ["_law_door", "_law_one", "_law_two"] (spTold K) := by
  refine T.l_told.F.okG sc_l_told (fun vs H Q E h => ?_) (fun cdv A outer s H vs Q E hr hg h => ?_)
  · obtain ⟨d, v1, v2, rfl, _⟩ := h
    rfl
  · have hv : (A.deeper (PyProof.Rows.envOfC "_law_told" (defScope s_l_told) s.heap.objs.size a.f_l_told cdv)).units + 65 < cLine := by have := hr.un; omega
    obtain ⟨door, v1, v2, rfl, t1, r1, av1, mv1, h⟩ := h
    refine ⟨_, (pss_one (ps_try_as (i := 3) rfl rfl sc_l_told.nd rfl rfl ⟨rfl, by decide, .inl T.x_BadMap.gC⟩ takes0 (fun W pn xe tk _ => (pss_one (ps_ret (pe_ifExp (pt_cmpR op_eq (pv 0) pe_int (nomark _)) (pe_callS (ok_backwards T) (hr.mono (by decide)) (by rfl) T.backwards.g T.backwards.k T.backwards.b (fun σ => passAt tk σ) (pa_cons (pv 1) pa_nil)) (pe_callS (ok_then_d T) (hr.mono (by decide)) (by rfl) T.then_d.g T.then_d.k T.then_d.b (fun σ => passAt tk σ) (pa_cons (pv 1) (pa_cons (pv 2) pa_nil)))))))
      (fun ea eoe ecls ed epn hz hf => (pss_one (ps_ret (pe_lst (pa_cons pe_str (pa_cons (pe_callB (r := rRepr K) (id := "repr") (call_reprD hg hv) (by rfl) T.z_repr (by decide +kernel) (pa_cons (pe_errF T.x_BadMap hz hf (pv 3)) pa_nil)) pa_nil)))))))), ?_⟩
    -- the suite, from any heap in which the error's value is v
    have suite : ∀ (v : V) (d : PyData), Shows K H v d → GivesMap Q H d.shown → ∀ (H' : Hp) (dd : Addr), Same H H' → H' dd = none → ∀ ea : Addr,
        tLst (tCons (tC (.str "map")) (tCons (tCB (rRepr K) (tCons (tErrF a.C_BadMap "value" ea (.ref a.C_BadMap) (some dd) (tVar 3)) tNil)) tNil)) [some (.int door), some v1, some v2, some (.ref ea)] (upd H' dd (.xd [(("value" : Str), v)])) Q := by
      intro v d sh gv H' dd s1 hdd ea
      have s2 : Same H (upd H' dd (.xd [(("value" : Str), v)])) := same_new2 s1 hdd
      have sh2 := sh.mono s2
      refine ⟨_, rfl, rfl, rfl, dd, v, rfl, upd_same, v, d, rfl, sh2.rp, sh2.sh, by have := sh2.len; rw [sizeLine_eq]; omega, sh2.dep, ?_⟩
      refine ⟨by show 2 ≤ sizeLine; decide, fun q hq => ?_⟩
      exact gv _ q (s2.free hq) (same_new2 s2 hq) upd_same
    refine ⟨_, rfl, rfl, _, rfl, ?_⟩
    rcases h with ⟨rfl, kQ, kE⟩ | ⟨hd, t2, r2, av2, mv2, k1, k2, k3⟩
    · refine ifT (by decide) ?_
      refine ⟨_, rfl, v1, t1, r1, rfl, av1, mv1, fun m hm => kQ m hm, fun hn H' dd s1 hdd => ?_⟩
      obtain ⟨d, sh, gv⟩ := kE hn
      exact ⟨true, T.x_BadMap.te, fun _ ea _ => suite v1 d sh gv H' dd s1 hdd ea, fun q => Bool.noConfusion q⟩
    · refine ifF (by simpa using hd) ?_
      refine ⟨_, rfl, _, rfl, v1, t1, r1, v2, t2, r2, rfl, av1, mv1, av2, mv2, fun hn H' dd s1 hdd => ?_, fun h1 h2 H' dd s1 hdd => ?_, fun m1 m2 h1 h2 => ⟨fun hf H' dd s1 hdd => ?_, fun hf => (k3 m1 m2 h1 h2).2 hf⟩⟩
      · obtain ⟨d, sh, gv⟩ := k1 hn
        exact ⟨true, T.x_BadMap.te, fun _ ea _ => suite v1 d sh gv H' dd s1 hdd ea, fun q => Bool.noConfusion q⟩
      · obtain ⟨d, sh, gv⟩ := k2 h1 h2
        exact ⟨true, T.x_BadMap.te, fun _ ea _ => suite v2 d sh gv H' dd s1 hdd ea, fun q => Bool.noConfusion q⟩
      · obtain ⟨d, sh, gv⟩ := (k3 m1 m2 h1 h2).1 hf
        exact ⟨true, T.x_BadMap.te, fun _ ea _ => suite v2 d sh gv H' dd s1 hdd ea, fun q => Bool.noConfusion q⟩
end
end SB

set_option Elab.async false
set_option linter.all false
set_option maxRecDepth 100000
set_option maxHeartbeats 4000000
namespace SB
open PySem L2
/-! ### a list of new pairs -/
section
variable {J : It} {n : Nat} {G : Hp → Prop} {Y : Nat → Hp → V → Hp → Prop}
theorem paired_app {α β : Type} {R : α → β → Prop} : ∀ {xs : List α} {ys : List β} {x : α} {y : β}, Paired R xs ys → R x y → Paired R (xs ++ [x]) (ys ++ [y])
  | _, _, _, _, .nil, h => .cons h .nil
  | _, _, _, _, .cons a b, h => .cons a (paired_app b h)
theorem paired_mem {α β : Type} {R S : α → β → Prop} : ∀ {xs : List α} {ys : List β}, Paired R xs ys → (∀ x ∈ xs, ∀ y, R x y → S x y) → Paired S xs ys
  | _, _, .nil, _ => .nil
  | _, _, .cons a b, h => .cons (h _ (by simp) _ a) (paired_mem b fun x hx => h x (List.mem_cons_of_mem _ hx))
theorem lc_pairs {α : Type} {ys : List α} (w : Walk J ys.length G Y) {g : TG} {te : TE} {vs : List Nat} {σ : St} {H1 : Hp} {D : Addr} {Qd : Hp → Prop} (hD : H1 D = none) (hn : ys.length ≤ sizeLine) (hG : ∀ H, Same H1 H → G H) (F : α → V × V)
    (hs : ∀ i y x H H' (R : VK), ys[i]? = some y → Same H1 H → (∃ acc, H D = some (.lst acc)) → Y i H x H' → (∀ H4 t, Same H H4 → H4 t = none → R (.ref t) (upd H4 t (.tup [(F y).1, (F y).2]))) → g x (wipe σ vs) H' fun σ2 H2 => wipe σ2 vs = wipe σ vs ∧ te σ2 H2 R)
    (hd : ∀ H ps, Same H1 H → H D = some (.lst (ps.map V.ref)) → Paired (fun p y => H p = some (.tup [(F y).1, (F y).2])) ps ys → Qd H) :
    ∃ W : Nat → Nat → Hp → Prop, (∃ m, W 0 m (upd H1 D (.lst []))) ∧ ∀ i m H, W i m H →
      (J.stop i H ∧ Qd H) ∨ (J.go i H ∧ ∃ Nx : Hp → Prop, (∀ H', Nx H' → ∃ m', m' < m ∧ W (i + 1) m' H') ∧ ∀ x H', J.yld i H x H' → g x (wipe σ vs) H' fun σ2 H2 => wipe σ2 vs = wipe σ vs ∧ tYes σ2 H2 fun b H3 =>
        if b = true then te σ2 H3 fun y H4 => ∃ acc, H4 D = some (.lst acc) ∧ acc.length < sizeLine ∧ Nx (upd H4 D (.lst (acc ++ [y]))) else Nx H3) := by
  refine lc_it w (fun i H => Same H1 H ∧ ∃ ps : List Addr, H D = some (.lst (ps.map V.ref)) ∧ ps.length = i ∧ (∀ p ∈ ps, p ≠ D) ∧ Paired (fun p y => H p = some (.tup [(F y).1, (F y).2])) ps (ys.take i))
    ⟨same_new hD, [], upd_same, rfl, by simp, by simp; exact .nil⟩ (fun i H _ p => hG H p.1) ?_ (fun H p => ?_)
  · intro i x H H' hi p y
    obtain ⟨s1, ps, hH, hl, hne, hp⟩ := p
    obtain ⟨z, hz⟩ : ∃ z, ys[i]? = some z := ⟨ys[i], List.getElem?_eq_getElem hi⟩
    refine hs i z x H H' _ hz s1 ⟨_, hH⟩ y fun H4 t s4 ht => ?_
    have nt : t ≠ D := fun e => by
      rw [e, s4 _ _ hH] at ht
      cases ht
    refine ⟨ps.map V.ref, ?_, ?_, ?_, ps ++ [t], ?_, ?_, ?_, ?_⟩
    · rw [upd_ne nt.symm]
      exact s4 _ _ hH
    · rw [List.length_map]
      omega
    · intro b o eb
      have nb : b ≠ D := ne_of_none eb hD
      rw [upd_ne nb]
      exact same_new ht _ _ (s4 _ _ (s1 _ _ eb))
    · rw [upd_same, List.map_append]
      rfl
    · rw [List.length_append, hl]
      rfl
    · intro q hq
      rcases List.mem_append.mp hq with h | h
      · exact hne q h
      · rw [List.mem_singleton.mp h]
        exact nt
    · rw [List.take_succ, hz]
      refine paired_app (paired_mem hp fun q hq y hy => ?_) ?_
      · rw [upd_ne (hne q hq)]
        exact same_new ht _ _ (s4 _ _ hy)
      · rw [upd_ne nt]
        exact upd_same
  · obtain ⟨s1, ps, hH, hl, hne, hp⟩ := p
    rw [List.take_length] at hp
    exact hd H ps s1 hH hp
end
/-- a one-to-one dict of marks that stands at p -/
structure IsMap (H : Hp) (p : Addr) (m : List (Str × Str)) : Prop where
  ob : H p = some (.dK (dkv m))
  len : m.length ≤ 1000
  mks : ∀ q ∈ m, markS q.1 = true ∧ markS q.2 = true
  ks : (m.map (·.1)).Nodup
  vs : (m.map (·.2)).Nodup
theorem IsMap.mono {H H' : Hp} {p : Addr} {m : List (Str × Str)} (h : IsMap H p m) (s : Same H H') : IsMap H' p m := ⟨s _ _ h.ob, h.len, h.mks, h.ks, h.vs⟩
theorem IsMap.any {K : PySem.W.Frag} {H : Hp} {p : Addr} {m : List (Str × Str)} (h : IsMap H p m) : AnyV K H (.ref p) "dict" := any_dK h.ob
theorem IsMap.map {K : PySem.W.Frag} {H : Hp} {p : Addr} {m : List (Str × Str)} (h : IsMap H p m) : MapIs K H (.ref p) "dict" (some m) :=
  .inr ⟨p, m, rfl, rfl, h.ob, h.len, h.mks, h.ks, (if_pos h.vs).symm⟩
def swap (m : List (Str × Str)) : List (Str × Str) := m.map fun q => (q.2, q.1)
theorem IsMap.swap {H H' : Hp} {p q : Addr} {m : List (Str × Str)} (h : IsMap H p m) (e : H' q = some (.dK (dkv (swap m)))) : IsMap H' q (swap m) := by
  refine ⟨e, by rw [SB.swap, List.length_map]; exact h.len, fun z hz => ?_, ?_, ?_⟩
  · obtain ⟨y, hy, rfl⟩ := List.mem_map.mp hz
    exact ⟨(h.mks y hy).2, (h.mks y hy).1⟩
  · rw [SB.swap, List.map_map]
    exact h.vs
  · rw [SB.swap, List.map_map]
    exact h.ks
theorem look_mem : ∀ {m : List (Str × Str)} {q : Str × Str}, (m.map (·.1)).Nodup → q ∈ m → look m q.1 = some q.2
  | p :: r, q, hn, hq => by
    rw [List.map_cons, List.nodup_cons] at hn
    unfold look
    rw [List.find?_cons]
    rcases List.mem_cons.mp hq with rfl | hq
    · rw [decide_eq_true rfl]
      rfl
    · have ne : p.1 ≠ q.1 := fun e => hn.1 (by rw [e]; exact List.mem_map.mpr ⟨q, hq, rfl⟩)
      rw [decide_eq_false ne]
      exact look_mem hn.2 hq
theorem same_dkv {m : List (Str × Str)} (h : (m.map (·.1)).Nodup) : ∀ x ∈ dkv m, valV (dkv m) x.1 = some x.2 ∧ flatB x.2 = true := by
  intro x hx
  obtain ⟨q, hq, rfl⟩ := List.mem_map.mp hx
  refine ⟨?_, rfl⟩
  rw [valV_dkv, look_mem h hq]
  rfl
theorem merge_dkv {α : Type} {ys : List α} {F : α → Str × Str} (h : (ys.map fun y => (F y).1).Nodup) : mergeK [] (ys.map fun y => ((Sum.inr (F y).1 : Key), V.str (F y).2)) = dkv (ys.map F) := by
  rw [merge_nodup _ [] ?_]
  · simp [dkv]
  · have := dkv_nodup (m := ys.map F) (by rw [List.map_map]; exact h)
    simp only [dkv, List.map_map, List.nil_append] at this ⊢
    exact this
/-- dict([(k, v) for x in d]) and dict([(k, v) for x in d.values()]) -/
theorem dict_keys {K : PySem.W.Frag} {te : TE} {σ : St} {H : Hp} {Q : VK} {p : Addr} {m : List (Str × Str)} {i j : Nat} (hσ : σ[i]? = some (some (.ref p))) (hm : IsMap H p m) (F : Str × Str → Str × Str) (hF : (m.map fun q => (F q).1).Nodup)
    (hw : ∀ x, wipe ((wipe σ [j]).set j (some x)) [j] = wipe σ [j])
    (hs : ∀ q ∈ m, ∀ (od : Obj) (H' : Hp) (R : VK), Same (upd H p (.frz od (.dK (dkv m)))) H' → (∀ H4 t, Same H' H4 → H4 t = none → R (.ref t) (upd H4 t (.tup [.str (F q).1, .str (F q).2]))) → te ((wipe σ [j]).set j (some (.str q.1))) H' R)
    (hd : ∀ H' D, H D = none → Same H H' → H' D = some (.dK (dkv (m.map F))) → Q (.ref D) H') :
    tCB (fun xs H Q => ∃ (a : Addr) (ps : List Addr) (kvs : List (Key × V)), xs = [.ref a] ∧ SqL K H a (ps.map V.ref) ∧ Paired (fun p kv => SqT K H p [kV kv.1, kv.2]) ps kvs ∧ ∀ p, H p = none → Q (.ref p) (upd H p (.dK (mergeK [] kvs))))
      (tCons (tLockE (tLc (iKeys (tVar i)) (gName j) tYes te [j])) tNil) σ H Q := by
  refine ⟨p, .dK (dkv m), hm.ob, trivial, fun od => ?_⟩
  obtain ⟨H1, e1, f1⟩ : ∃ H1, upd H p (.frz od (.dK (dkv m))) = H1 ∧ H1 p = some (.frz od (.dK (dkv m))) := ⟨_, rfl, upd_same⟩
  rw [e1]
  have wk : Walk (Itk p od (dkv m)) m.length (fun H => H p = some (.frz od (.dK (dkv m)))) (fun i H v H' => H' = H ∧ ∃ q, m[i]? = some q ∧ v = .str q.1) := by
    have w := walk_keys (d := p) (o := od) (kvs := dkv m)
    rw [dkv_len] at w
    refine w.mono (fun _ h => h) fun i H x H' hi _ y => ?_
    obtain ⟨e1, k, v, e2, e3⟩ := y
    have hz : m[i]? = some m[i] := List.getElem?_eq_getElem hi
    rw [dkv_get hz] at e2
    cases e2
    exact ⟨e1, _, hz, e3⟩
  refine ⟨_, hσ, p, od, rfl, .inl ⟨_, f1, fun D hD => lc_pairs wk hD (by have := hm.len; rw [sizeLine_eq]; omega) (fun H' s' => s' _ _ f1) (fun q => (.str (F q).1, .str (F q).2)) ?_ ?_⟩⟩
  · rintro k q x H2 H3 R hq s2 _ ⟨rfl, q', hq', rfl⟩ hR
    cases hq.symm.trans hq'
    exact ⟨hw _, hs q (List.mem_of_getElem? hq) od _ R (by rw [e1]; exact s2) hR⟩
  · intro H2 ps s2 hl hp
    have nDp : D ≠ p := (ne_of_none f1 hD).symm
    refine ⟨s2 _ _ f1, D, ps, (m.map fun q => ((Sum.inr (F q).1 : Key), V.str (F q).2)), rfl, SqL.of (by rw [upd_ne nDp]; exact hl), ?_, fun E hE => ?_⟩
    · clear hl
      have : ∀ {ps : List Addr} {l : List (Str × Str)}, Paired (fun p' y => H2 p' = some (.tup [.str (F y).1, .str (F y).2])) ps l → Paired (fun p' kv => SqT K (upd H2 p (.dK (dkv m))) p' [kV kv.1, kv.2]) ps (l.map fun q => ((Sum.inr (F q).1 : Key), V.str (F q).2)) := by
        intro ps l h
        induction h with
        | nil => exact .nil
        | cons a b ih =>
          refine .cons (SqT.of ?_) ih
          rw [upd_ne (fun z => ?_)]
          · exact a
          · rw [z, s2 _ _ f1] at a
            cases a
      exact this hp
    · rw [merge_dkv hF]
      have s3 : Same H (upd H2 p (.dK (dkv m))) := same_lock hm.ob (by rw [e1]; exact s2)
      exact hd _ E (s3.free hE) (same_new2 s3 hE) upd_same
theorem dict_vals {K : PySem.W.Frag} {te : TE} {σ : St} {H : Hp} {Q : VK} {p : Addr} {m : List (Str × Str)} {i j : Nat} (hσ : σ[i]? = some (some (.ref p))) (hm : IsMap H p m) (F : Str × Str → Str × Str) (hF : (m.map fun q => (F q).1).Nodup)
    (hw : ∀ x, wipe ((wipe σ [j]).set j (some x)) [j] = wipe σ [j])
    (hs : ∀ q ∈ m, ∀ (od : Obj) (H' : Hp) (R : VK), Same (upd H p (.frz od (.dK (dkv m)))) H' → (∀ H4 t, Same H' H4 → H4 t = none → R (.ref t) (upd H4 t (.tup [.str (F q).1, .str (F q).2]))) → te ((wipe σ [j]).set j (some (.str q.2))) H' R)
    (hd : ∀ H' D, H D = none → Same H H' → H' D = some (.dK (dkv (m.map F))) → Q (.ref D) H') :
    tCB (fun xs H Q => ∃ (a : Addr) (ps : List Addr) (kvs : List (Key × V)), xs = [.ref a] ∧ SqL K H a (ps.map V.ref) ∧ Paired (fun p kv => SqT K H p [kV kv.1, kv.2]) ps kvs ∧ ∀ p, H p = none → Q (.ref p) (upd H p (.dK (mergeK [] kvs))))
      (tCons (tLockE (tLc (iVals (tVar i)) (gName j) tYes te [j])) tNil) σ H Q := by
  refine ⟨p, .dK (dkv m), hm.ob, trivial, fun od => ?_⟩
  obtain ⟨H1, e1, f1⟩ : ∃ H1, upd H p (.frz od (.dK (dkv m))) = H1 ∧ H1 p = some (.frz od (.dK (dkv m))) := ⟨_, rfl, upd_same⟩
  rw [e1]
  refine ⟨_, hσ, p, od, _, rfl, f1, fun D hD => lc_pairs (walk_dkvV (d := p) (o := od) (m := m)) hD (by have := hm.len; rw [sizeLine_eq]; omega) (fun H' s' => s' _ _ f1) (fun q => (.str (F q).1, .str (F q).2)) ?_ ?_⟩
  · rintro k q x H2 H3 R hq s2 _ ⟨rfl, q', hq', rfl⟩ hR
    cases hq.symm.trans hq'
    exact ⟨hw _, hs q (List.mem_of_getElem? hq) od _ R (by rw [e1]; exact s2) hR⟩
  · intro H2 ps s2 hl hp
    have nDp : D ≠ p := (ne_of_none f1 hD).symm
    refine ⟨s2 _ _ f1, D, ps, (m.map fun q => ((Sum.inr (F q).1 : Key), V.str (F q).2)), rfl, SqL.of (by rw [upd_ne nDp]; exact hl), ?_, fun E hE => ?_⟩
    · clear hl
      have : ∀ {ps : List Addr} {l : List (Str × Str)}, Paired (fun p' y => H2 p' = some (.tup [.str (F y).1, .str (F y).2])) ps l → Paired (fun p' kv => SqT K (upd H2 p (.dK (dkv m))) p' [kV kv.1, kv.2]) ps (l.map fun q => ((Sum.inr (F q).1 : Key), V.str (F q).2)) := by
        intro ps l h
        induction h with
        | nil => exact .nil
        | cons a b ih =>
          refine .cons (SqT.of ?_) ih
          rw [upd_ne (fun z => ?_)]
          · exact a
          · rw [z, s2 _ _ f1] at a
            cases a
      exact this hp
    · rw [merge_dkv hF]
      have s3 : Same H (upd H2 p (.dK (dkv m))) := same_lock hm.ob (by rw [e1]; exact s2)
      exact hd _ E (s3.free hE) (same_new2 s3 hE) upd_same
end SB

set_option Elab.async false
set_option linter.all false
set_option maxRecDepth 100000
set_option maxHeartbeats 4000000
namespace SB
open PySem L2
section
variable {J : It} {n : Nat} {G : Hp → Prop} {Y : Nat → Hp → V → Hp → Prop}
/-- a list of new objects -/
theorem lc_obs {α : Type} {ys : List α} (w : Walk J ys.length G Y) {g : TG} {te : TE} {vs : List Nat} {σ : St} {H1 : Hp} {D : Addr} {Qd : Hp → Prop} (hD : H1 D = none) (hn : ys.length ≤ sizeLine) (hG : ∀ H, Same H1 H → G H) (F : α → HO)
    (hs : ∀ i y x H H' (R : VK), ys[i]? = some y → Same H1 H → (∃ acc, H D = some (.lst acc)) → Y i H x H' → (∀ H4 t, Same H H4 → H t = none → H4 t = some (F y) → R (.ref t) H4) → g x (wipe σ vs) H' fun σ2 H2 => wipe σ2 vs = wipe σ vs ∧ te σ2 H2 R)
    (hd : ∀ H ps, Same H1 H → H D = some (.lst (ps.map V.ref)) → Paired (fun p y => H p = some (F y)) ps ys → Qd H) :
    ∃ W : Nat → Nat → Hp → Prop, (∃ m, W 0 m (upd H1 D (.lst []))) ∧ ∀ i m H, W i m H →
      (J.stop i H ∧ Qd H) ∨ (J.go i H ∧ ∃ Nx : Hp → Prop, (∀ H', Nx H' → ∃ m', m' < m ∧ W (i + 1) m' H') ∧ ∀ x H', J.yld i H x H' → g x (wipe σ vs) H' fun σ2 H2 => wipe σ2 vs = wipe σ vs ∧ tYes σ2 H2 fun b H3 =>
        if b = true then te σ2 H3 fun y H4 => ∃ acc, H4 D = some (.lst acc) ∧ acc.length < sizeLine ∧ Nx (upd H4 D (.lst (acc ++ [y]))) else Nx H3) := by
  refine lc_it w (fun i H => Same H1 H ∧ ∃ ps : List Addr, H D = some (.lst (ps.map V.ref)) ∧ ps.length = i ∧ (∀ p ∈ ps, p ≠ D) ∧ Paired (fun p y => H p = some (F y)) ps (ys.take i))
    ⟨same_new hD, [], upd_same, rfl, by simp, by simp; exact .nil⟩ (fun i H _ p => hG H p.1) ?_ (fun H p => ?_)
  · intro i x H H' hi p y
    obtain ⟨s1, ps, hH, hl, hne, hp⟩ := p
    obtain ⟨z, hz⟩ : ∃ z, ys[i]? = some z := ⟨ys[i], List.getElem?_eq_getElem hi⟩
    refine hs i z x H H' _ hz s1 ⟨_, hH⟩ y fun H4 t s4 ht f4 => ?_
    have nt : t ≠ D := fun e => by
      rw [e, hH] at ht
      cases ht
    refine ⟨ps.map V.ref, s4 _ _ hH, ?_, ?_, ps ++ [t], ?_, ?_, ?_, ?_⟩
    · rw [List.length_map]
      omega
    · intro b o eb
      have nb : b ≠ D := ne_of_none eb hD
      rw [upd_ne nb]
      exact s4 _ _ (s1 _ _ eb)
    · rw [upd_same, List.map_append]
      rfl
    · rw [List.length_append, hl]
      rfl
    · intro q hq
      rcases List.mem_append.mp hq with h | h
      · exact hne q h
      · rw [List.mem_singleton.mp h]
        exact nt
    · rw [List.take_succ, hz]
      refine paired_app (paired_mem hp fun q hq y hy => ?_) ?_
      · rw [upd_ne (hne q hq)]
        exact s4 _ _ hy
      · rw [upd_ne nt]
        exact f4
  · obtain ⟨s1, ps, hH, hl, hne, hp⟩ := p
    rw [List.take_length] at hp
    exact hd H ps s1 hH hp
end
section
variable {K : PySem.W.Frag} {H : Hp} {Q : VK} {E : XK} {p p1 p2 : Addr} {m m1 m2 : List (Str × Str)} {C : Addr}
def after (m1 m2 : List (Str × Str)) : List (Str × Str) := m1.map fun q => (q.1, (look m2 q.2).getD "")
theorem after_ks (h : (m1.map (·.1)).Nodup) : ((after m1 m2).map (·.1)).Nodup := by
  rw [after, List.map_map]
  exact h
theorem swap_swap : swap (swap m) = m := by
  unfold swap
  rw [List.map_map]
  exact List.map_id' _
theorem ne_same (hp : H p1 = some (.dK (dkv m))) (hq : H p2 = some (.dK (dkv m))) (hk : (m.map (·.1)).Nodup) (k : Q (.bl false) H) : rNeDA (.ref p1) (.ref p2) H Q :=
  ⟨p1, p2, _, _, rfl, rfl, hp, hq, rfl, same_dkv hk, k⟩
theorem told_then (h1 : IsMap H p1 m1) (h2 : IsMap H p2 m2) (f : fits m1 m2 = true) (k : Gives Q H (dkv (after m1 m2))) : spTold K [.int 1, .ref p1, .ref p2] H Q E0 :=
  ⟨1, _, _, rfl, _, _, h1.any, h1.map, .inr ⟨by decide, _, _, h2.any, h2.map, fun h => (by cases h), fun _ h => (by cases h), fun a b ha hb => by
    cases ha
    cases hb
    exact ⟨fun z => (by rw [f] at z; cases z), fun _ => k⟩⟩⟩
theorem then_of (h1 : IsMap H p1 m1) (h2 : IsMap H p2 m2) (f : fits m1 m2 = true) (k : Gives Q H (dkv (after m1 m2))) : spThen K C [.ref p1, .ref p2] H Q E0 :=
  ⟨_, _, _, _, _, _, rfl, h1.any, h1.map, h2.any, h2.map, fun h => (by cases h), fun _ h => (by cases h), fun a b ha hb => by
    cases ha
    cases hb
    exact ⟨fun z => (by rw [f] at z; cases z), fun _ => k⟩⟩
theorem back_of (h : IsMap H p m) (k : Gives Q H (dkv (swap m))) : spBack K C [.ref p] H Q E0 :=
  ⟨_, _, _, rfl, h.any, h.map, fun a ha => by cases ha; exact k, fun h => (by cases h)⟩
/-- what is no map, and how it shows -/
def Odd (K : PySem.W.Frag) (H : Hp) (v : V) : Prop := ∃ s d, AnyV K H v s ∧ MapIs K H v s none ∧ Shows K H v d
theorem Odd.mono {H' : Hp} {v : V} (h : Odd K H v) (s : Same H H') : Odd K H' v := by
  obtain ⟨t, d, a, b, c⟩ := h
  exact ⟨t, d, a.mono s, b.mono s, c.mono s⟩
theorem told_odd1 {v : V} {s : String} {d : PyData} {i : Int} (a : AnyV K H v s) (b : MapIs K H v s none) (c : Shows K H v d) (k : GivesMap Q H d.shown) : spTold K [.int i, v, .non] H Q E0 := by
  refine ⟨i, v, .non, rfl, s, none, a, b, ?_⟩
  by_cases h : i = 0
  · exact .inl ⟨h, fun m e => (by cases e), fun _ => ⟨d, c, k⟩⟩
  · exact .inr ⟨h, _, none, any_non, .inl ⟨rfl, .inl ⟨by decide, rfl⟩⟩, fun _ => ⟨d, c, k⟩, fun h => absurd rfl h, fun _ _ e => (by cases e)⟩
theorem isMap_nil (h : H p = some (.dK [])) : IsMap H p [] := ⟨h, by simp, by simp, by simp, by simp⟩
theorem told_odd2 {v : V} {s : String} {d : PyData} (a : AnyV K H v s) (b : MapIs K H v s none) (c : Shows K H v d) (h : IsMap H p m) (k : GivesMap Q H d.shown) : spTold K [.int 1, .ref p, v] H Q E0 :=
  ⟨1, _, _, rfl, _, _, h.any, h.map, .inr ⟨by decide, _, _, a, b, fun h => (by cases h), fun _ _ => ⟨d, c, k⟩, fun _ _ _ e => (by cases e)⟩⟩
theorem told_unfit {d : PyData} (h1 : IsMap H p1 m1) (h2 : IsMap H p2 m2) (f : fits m1 m2 = false) (c : Shows K H (.ref p2) d) (k : GivesMap Q H d.shown) : spTold K [.int 1, .ref p1, .ref p2] H Q E0 :=
  ⟨1, _, _, rfl, _, _, h1.any, h1.map, .inr ⟨by decide, _, _, h2.any, h2.map, fun h => (by cases h), fun _ h => (by cases h), fun a b ha hb => by
    cases ha
    cases hb
    exact ⟨fun _ => ⟨d, c, k⟩, fun z => (by rw [f] at z; cases z)⟩⟩⟩
theorem look_back (h : IsMap H p m) : ∀ q ∈ m, look (swap m) q.2 = some q.1 := fun q hq =>
  look_mem (q := (q.2, q.1)) (m := swap m) (by rw [swap, List.map_map]; exact h.vs) (List.mem_map.mpr ⟨q, hq, rfl⟩)
theorem after_back (h : IsMap H p m) : fits m (swap m) = true ∧ after m (swap m) = m.map fun q => (q.1, q.1) := by
  refine ⟨List.all_eq_true.mpr fun q hq => by rw [look_back h q hq]; rfl, List.map_congr_left fun q hq => ?_⟩
  rw [look_back h q hq]
  rfl
theorem back_after (h : IsMap H p m) : fits (swap m) m = true ∧ after (swap m) m = m.map fun q => (q.2, q.2) := by
  refine ⟨List.all_eq_true.mpr fun q hq => ?_, ?_⟩
  · obtain ⟨z, hz, rfl⟩ := List.mem_map.mp hq
    show (look m z.1).isSome = true
    rw [look_mem h.ks hz]
    rfl
  · unfold after swap
    rw [List.map_map]
    refine List.map_congr_left fun q hq => ?_
    show (q.2, (look m q.1).getD "") = (q.2, q.2)
    rw [look_mem h.ks hq]
    rfl
theorem odd_non : Odd K H .non := ⟨_, .none, any_non, .inl ⟨rfl, .inl ⟨by decide, rfl⟩⟩, ⟨.inl .non, rfl, by decide +kernel, by decide +kernel, by decide +kernel⟩⟩
theorem odd_int : Odd K H (.int 5) := ⟨_, .int 5, any_int 5, .inl ⟨rfl, .inl ⟨by decide, rfl⟩⟩, ⟨.inl (.int 5), rfl, by decide +kernel, by decide +kernel, by decide +kernel⟩⟩
theorem odd_lst (h : H p = some (.lst [])) : Odd K H (.ref p) := ⟨_, .list [], any_lst h, .inl ⟨rfl, .inl ⟨by decide, rfl⟩⟩, ⟨.inl (.lst (SqL.of h) .nil), rfl, by decide +kernel, by decide +kernel, by decide +kernel⟩⟩
theorem shows_nil (h : H p = some (.dK [])) : Shows K H (.ref p) (.dict []) := ⟨.inr ⟨p, [], [], rfl, h, .nil, rfl, rfl⟩, rfl, by decide +kernel, by decide +kernel, by decide +kernel⟩
theorem odd_d1 (h : H p = some (.dK [(Sum.inr "A", .str "a")])) : Odd K H (.ref p) := by
  refine ⟨_, .dict [(.str "A", .str "a")], any_dK h, .inl ⟨rfl, .inr ⟨p, _, rfl, rfl, h, by decide, ?_, by decide +kernel⟩⟩, ⟨.inr ⟨p, _, [.str "a"], rfl, h, .cons (.str _) .nil, rfl, rfl⟩, by decide +kernel, by decide +kernel, by decide +kernel, by decide +kernel⟩⟩
  intro kv hk
  cases List.mem_singleton.mp hk
  exact ⟨fun x e => by cases e; decide, (fun z => (by cases z)), _, any_str (by decide)⟩
theorem odd_d2 (h : H p = some (.dK [(Sum.inr "a", .non)])) : Odd K H (.ref p) := by
  refine ⟨_, .dict [(.str "a", .none)], any_dK h, .inl ⟨rfl, .inr ⟨p, _, rfl, rfl, h, by decide, ?_, by decide +kernel⟩⟩, ⟨.inr ⟨p, _, [.none], rfl, h, .cons .non .nil, rfl, rfl⟩, by decide +kernel, by decide +kernel, by decide +kernel, by decide +kernel⟩⟩
  intro kv hk
  cases List.mem_singleton.mp hk
  exact ⟨fun x e => by cases e; decide, (fun z => (by cases z)), _, any_non⟩
theorem odd_d3 (h : H p = some (.dK [(Sum.inl 5, .str "a")])) : Odd K H (.ref p) := by
  refine ⟨_, .dict [(.int 5, .str "a")], any_dK h, .inl ⟨rfl, .inr ⟨p, _, rfl, rfl, h, by decide, ?_, by decide +kernel⟩⟩, ⟨.inr ⟨p, _, [.str "a"], rfl, h, .cons (.str _) .nil, rfl, rfl⟩, by decide +kernel, by decide +kernel, by decide +kernel, by decide +kernel⟩⟩
  intro kv hk
  cases List.mem_singleton.mp hk
  exact ⟨fun x e => (by cases e), (fun z => (by cases z)), _, any_str (by decide)⟩
theorem odd_d4 (h : H p = some (.dK [(Sum.inr "a", .str "b"), (Sum.inr "c", .str "b")])) : Odd K H (.ref p) := by
  refine ⟨_, .dict [(.str "a", .str "b"), (.str "c", .str "b")], any_dK h, .inr ⟨p, [("a", "b"), ("c", "b")], rfl, rfl, h, by decide, by decide +kernel, by decide +kernel, by decide +kernel⟩, ⟨.inr ⟨p, _, [.str "b", .str "b"], rfl, h, .cons (.str _) (.cons (.str _) .nil), rfl, rfl⟩, by decide +kernel, by decide +kernel, by decide +kernel, by decide +kernel⟩⟩
theorem odd_d5 {t : Addr} (h : H p = some (.dK [(Sum.inr "a", .ref t)])) (ht : H t = some (.tup [.str "b"])) : Odd K H (.ref p) := by
  refine ⟨_, .dict [(.str "a", .tuple [.str "b"])], any_dK h, .inl ⟨rfl, .inr ⟨p, _, rfl, rfl, h, by show 1 ≤ sizeLine; decide, ?_, rfl⟩⟩, ⟨.inr ⟨p, _, [.tuple [.str "b"]], rfl, h, .cons (.tup (SqT.of ht) (.cons (.str _) .nil)) .nil, rfl, rfl⟩, by decide +kernel, by decide +kernel, by decide +kernel, by decide +kernel⟩⟩
  intro kv hk
  cases List.mem_singleton.mp hk
  refine ⟨fun x e => by cases e; decide, fun z => ?_, _, any_tup ht⟩
  cases z
  rw [h] at ht
  cases ht
end
theorem gn_seq {i : Nat} {x : V} {σ : St} {H : Hp} {te : TE} {g : TG} {b : TS} {D : Ends} (h : te (σ.set i (some x)) H fun y H1 => g y (σ.set i (some x)) H1 fun σ2 H2 => b D σ2 H2) : gName i x σ H (tSeq (tAsg te g) b D) := h
theorem newH2 {H : Hp} {p : Addr} (o o2 : HO) (h : H p = none) : ∃ H', upd (upd H p o) p o2 = H' ∧ Same H H' ∧ H' p = some o2 := ⟨_, rfl, fun b o' e => by
    have n := ne_of_none e h
    rw [upd_ne n, upd_ne n]
    exact e, upd_same⟩
theorem merge_1 (k : Key) (v : V) : mergeK [] [(k, v)] = [(k, v)] := merge_nodup _ [] (by simp)
theorem merge_2 {k k2 : Key} (v v2 : V) (h : k ≠ k2) : mergeK [] [(k, v), (k2, v2)] = [(k, v), (k2, v2)] := merge_nodup _ [] (by simpa using h)
def mapD (x : Str) : PyData := .list [.str "map", .str x]
theorem mapD_ok {x : Str} (h : PyData.strOk x = true) : SeqAt.shaped (mapD x) = true ∧ SeqAt.shaped (.list [mapD x, mapD x]) = true := by
  have e : PyData.strOk ("map" : Str) = true := by decide +kernel
  constructor <;> simp [SeqAt.shaped, mapD, PyData.canLay0, PyData.canLayAll0, PyData.depth, PyData.depthAll, h, e]
theorem mapD_dp {K : PySem.W.Frag} {H : Hp} {q : Addr} {x : Str} (h : H q = some (.lst [.str "map", .str x])) : Dp K H (.ref q) (mapD x) := .lst (SqL.of h) (.cons (.str _) (.cons (.str _) .nil))
theorem dp_strs {K : PySem.W.Frag} {H : Hp} : ∀ xs : List Str, DpAll K H (xs.map V.str) (xs.map PyData.str)
  | [] => .nil
  | x :: r => .cons (.str x) (dp_strs r)
theorem nx_of {σ : St} {H : Hp} {D : Ends} (h : D.nx σ H) : tNext D σ H := h
theorem se_asg {σ : St} {H : Hp} {te : TE} {g : TG} {b : TS} {D : Ends} (h : te σ H fun y H1 => g y σ H1 fun σ2 H2 => b D σ2 H2) : tSeq (tAsg te g) b D σ H := h
theorem rn_second {σ : St} {H : Hp} {r : R2} {x : V} {te : TE} {Q : VK} (h : te σ H fun y H1 => r x y H1 Q) : (fun x H1 => te σ H1 fun y H2 => r x y H2 Q) x H := h
end SB

set_option Elab.async false
set_option linter.all false
set_option maxRecDepth 100000
set_option maxHeartbeats 4000000
namespace SB
open PySem L2
def spLaw (K : PySem.W.Frag) : Sp := fun vs H Q _ => ∃ (a : Addr) (ns : List Int), vs = [.ref a] ∧ SqL K H a (ns.map V.int) ∧ ns.length ≤ 63 ∧ ∀ H', Q (.bl true) H'
theorem same_sx {A B C : Hp} {p : Addr} (s : Same A B) (n : A p = none) (x : SameX p B C) : Same A C := fun b o e => x b o (ne_of_none e n) (s b o e)
theorem newH {H : Hp} {p : Addr} (o : HO) (h : H p = none) : ∃ H', upd H p o = H' ∧ Same H H' ∧ H' p = some o := ⟨_, rfl, same_new h, upd_same⟩
theorem sameX_same {H0 H1 H2 : Hp} {p b : Addr} {o : HO} (h : SameX p H1 H2) (n : b ≠ p) (e : H1 b = some o) : H2 b = some o := h b o n e
def MARKS : List Str := ["a", "b", "c1", "zz", "m", "q", "abcdefgh"]
def VALS : List Str := ["b", "a", "x", "y", "zz", "q", "m"]
def IMGS : List Str := ["r", "s", "t", "a", "b", "zz", "m"]
theorem marks_ok : ∀ x ∈ MARKS, markS x = true := by decide +kernel
theorem vals_ok : ∀ x ∈ VALS, markS x = true := by decide +kernel
theorem imgs_ok : ∀ x ∈ IMGS, markS x = true := by decide +kernel
theorem zip_nodup1 : ∀ {xs ys : List Str}, xs.Nodup → ((xs.zip ys).map (·.1)).Nodup
  | [], _, _ => by simp
  | x :: xs, [], _ => by simp
  | x :: xs, y :: ys, h => by
    rw [List.nodup_cons] at h
    rw [List.zip_cons_cons, List.map_cons, List.nodup_cons]
    refine ⟨fun hm => h.1 ?_, zip_nodup1 h.2⟩
    obtain ⟨q, hq, e⟩ := List.mem_map.mp hm
    have e' : q.1 = x := e
    rw [← e']
    exact (List.of_mem_zip hq).1
theorem zip_nodup2 : ∀ {xs ys : List Str}, ys.Nodup → ((xs.zip ys).map (·.2)).Nodup
  | [], _, _ => by simp
  | x :: xs, [], _ => by simp
  | x :: xs, y :: ys, h => by
    rw [List.nodup_cons] at h
    rw [List.zip_cons_cons, List.map_cons, List.nodup_cons]
    refine ⟨fun hm => h.1 ?_, zip_nodup2 h.2⟩
    obtain ⟨q, hq, e⟩ := List.mem_map.mp hm
    have e' : q.2 = y := e
    rw [← e']
    exact (List.of_mem_zip hq).2
theorem zip_keys {xs ys : List Str} : ((xs.map fun x => (Sum.inr x : Key)).zip (ys.map V.str)) = dkv (xs.zip ys) := by
  unfold dkv
  induction xs generalizing ys with
  | nil => simp
  | cons x r ih =>
    cases ys with
    | nil => simp
    | cons y t => simp [ih]
/-- the dict of two lists of marks -/
theorem zip_map {H : Hp} {p : Addr} {xs ys : List Str} (hx : xs.Nodup) (hy : ys.Nodup) (mx : ∀ x ∈ xs, markS x = true) (my : ∀ y ∈ ys, markS y = true) (hl : xs.length ≤ 1000)
    (e : H p = some (.dK (mergeK [] ((xs.map fun x => (Sum.inr x : Key)).zip (ys.map V.str))))) : IsMap H p (xs.zip ys) := by
  refine ⟨?_, by rw [List.length_zip]; omega, fun q hq => ?_, zip_nodup1 hx, zip_nodup2 hy⟩
  · rw [e, zip_keys, merge_nodup _ [] ?_]
    · rfl
    · rw [List.nil_append]
      exact dkv_nodup (zip_nodup1 hx)
  · exact ⟨mx _ (List.of_mem_zip hq).1, my _ (List.of_mem_zip hq).2⟩
theorem kV_inr (xs : List Str) : (xs.map fun x => (Sum.inr x : Key)).map kV = xs.map V.str := by
  rw [List.map_map]
  rfl
section
variable {P : Program} {w : World} {K : PySem.W.Frag} {mg : Str → Option Value} {base : Heap} {a : Ad}
theorem ok_law (T : Txt P K mg a) : FnOkG P w K mg base CX0 7 a.f_law a.d_law ["_law_script"] (spLaw K) := by
  refine T.law.F.okG sc_law (fun vs H Q E h => ?_) (fun cdv A outer s H vs Q E hr hg h => ?_)
  · obtain ⟨l, ns, rfl, _⟩ := h
    rfl
  · obtain ⟨l, ns, rfl, hS, hlen, k⟩ := h
    have hv : (A.deeper (PyProof.Rows.envOfC "law" (defScope s_law) s.heap.objs.size a.f_law cdv)).units + 65 < cLine := by have := hr.un; omega
    have hl : (A.deeper (PyProof.Rows.envOfC "law" (defScope s_law) s.heap.objs.size a.f_law cdv)).units < cLine := by omega
    have hu := hu_of hr
    refine ⟨_, (pss_cons (ps_for PassesOwn.never rfl (pi_range1 (by rfl) T.z_range (pa_cons (pe_callB (call_max2 rfl) (by rfl) T.z_max (by decide +kernel) (pa_cons pe_int (pa_cons (pe_callB (call_min2 rfl) (by rfl) T.z_min (by decide +kernel) (pa_cons (pe_callB call_len_seq (by rfl) T.z_len (by decide +kernel) (pa_cons (pv 0) pa_nil)) (pa_cons pe_int pa_nil))) pa_nil))) pa_nil)) (pg_name (i := 1) sc_law.nd rfl (Or.inl rfl)) (pss_cons (ps_set (i := 2) sc_law.nd rfl (Or.inl rfl) (pe_call (ok_l_pool T) (hr.mono (by decide)) (by rfl) T.l_pool.g T.l_pool.k T.l_pool.b .nil pass0 (pa_cons (pv 0) (pa_cons (pv 1) pa_nil))))
      (pss_cons (ps_set (i := 3) sc_law.nd rfl (Or.inl rfl) (pe_slice sl_list (pe_lst (pa_cons pe_str (pa_cons pe_str (pa_cons pe_str (pa_cons pe_str (pa_cons pe_str (pa_cons pe_str (pa_cons pe_str pa_nil)))))))) po_none (po_some (pe_call (ok_l_draw T) (hr.mono (by decide)) (by rfl) T.l_draw.g T.l_draw.k T.l_draw.b .nil pass0 (pa_cons (pv 2) (pa_cons pe_int pa_nil))))))
      (pss_cons (ps_set (i := 4) sc_law.nd rfl (Or.inr rfl) (pe_dictZip (by rfl) (pa_cons (pv 3) (pa_cons (pe_call (ok_l_mixed T) (hr.mono (by decide)) (by rfl) T.l_mixed.g T.l_mixed.k T.l_mixed.b .nil pass0 (pa_cons (pv 2) (pa_cons (pe_lst (pa_cons pe_str (pa_cons pe_str (pa_cons pe_str (pa_cons pe_str (pa_cons pe_str (pa_cons pe_str (pa_cons pe_str pa_nil)))))))) pa_nil))) pa_nil)) (by rfl) T.z_dict (by rfl) T.z_zip))
      (pss_cons (ps_set (i := 5) sc_law.nd rfl (Or.inl rfl) (pe_call (ok_l_mixed T) (hr.mono (by decide)) (by rfl) T.l_mixed.g T.l_mixed.k T.l_mixed.b .nil pass0 (pa_cons (pv 2) (pa_cons (pe_lst (pa_cons pe_str (pa_cons pe_str (pa_cons pe_str (pa_cons pe_str (pa_cons pe_str (pa_cons pe_str (pa_cons pe_str pa_nil)))))))) pa_nil))))
      (pss_cons (ps_set (i := 6) sc_law.nd rfl (Or.inr rfl) (pe_dictZip (by rfl) (pa_cons (pe_call (ok_l_mixed T) (hr.mono (by decide)) (by rfl) T.l_mixed.g T.l_mixed.k T.l_mixed.b .nil pass0 (pa_cons (pv 2) (pa_cons (pe_listVals (by rfl) (pv 4) (by rfl) T.z_list (by decide +kernel)) pa_nil))) (pa_cons (pv 5) pa_nil)) (by rfl) T.z_dict (by rfl) T.z_zip))
      (pss_cons (ps_set (i := 7) sc_law.nd rfl (Or.inl rfl) (pe_callTy (call_dictP rfl) (by rfl) T.z_dict (by decide +kernel) (pa_cons (pe_lock (pe_lc (own := [("_law_mark", 10)]) (g := gName 10) (tt := tYes) (by rfl) sc_law.nd (pi_keys (pv 4)) (blkOk_by (own := [("_law_mark", 10)]) (N := ["_law_script", "_law_k", "_law_pool_here", "_law_marks", "_law_one", "_law_images", "_law_two", "_law_due", "_law_same", "_law_odd", "_law_mark", "_law_door"]) (sc := defScope s_law) (by decide +kernel)) (fun _ _ _ _ _ => (pg_name (i := 10) sc_law.nd rfl (Or.inl rfl))) (fun _ _ _ _ _ => pts_nil) (fun _ _ _ _ _ => (pe_tup (pa_cons (pv 10) (pa_cons (pe_dget hu (pv 6) (pe_dget hu (pv 4) (pv 10) (fun _ _ => rfl)) (fun _ _ => rfl)) pa_nil)))))) pa_nil)))
      (pss_cons (ps_if (PW.pt (pw_or (pt_cmpR (op_ne_dictA hl) (pe_callG (ok_l_told T) (hr.mono (by decide)) hg (by rfl) T.l_told.g T.l_told.k T.l_told.b pass0 (pa_cons pe_int (pa_cons (pv 4) (pa_cons (pv 6) pa_nil)))) (pv 7) (nomark _)) (pw_or1 (pt_cmpR (op_ne_dictA hl) (pe_call (ok_backwards T) (hr.mono (by decide)) (by rfl) T.backwards.g T.backwards.k T.backwards.b .nil passX0 (pa_cons (pv 4) pa_nil)) (pe_callTy (call_dictP rfl) (by rfl) T.z_dict (by decide +kernel) (pa_cons (pe_lock (pe_lc (own := [("_law_mark", 10)]) (g := gName 10) (tt := tYes) (by rfl) sc_law.nd (pi_keys (pv 4)) (blkOk_by (own := [("_law_mark", 10)]) (N := ["_law_script", "_law_k", "_law_pool_here", "_law_marks", "_law_one", "_law_images", "_law_two", "_law_due", "_law_same", "_law_odd", "_law_mark", "_law_door"]) (sc := defScope s_law) (by decide +kernel)) (fun _ _ _ _ _ => (pg_name (i := 10) sc_law.nd rfl (Or.inl rfl))) (fun _ _ _ _ _ => pts_nil) (fun _ _ _ _ _ => (pe_tup (pa_cons (pe_dget hu (pv 4) (pv 10) (fun _ _ => rfl)) (pa_cons (pv 10) pa_nil)))))) pa_nil)) (nomark _))))) (pss_one (ps_ret pe_bl)) pss_nil)
      (pss_cons (ps_if (pt_cmpR (op_ne_dictA hl) (pe_call (ok_backwards T) (hr.mono (by decide)) (by rfl) T.backwards.g T.backwards.k T.backwards.b .nil passX0 (pa_cons (pe_call (ok_backwards T) (hr.mono (by decide)) (by rfl) T.backwards.g T.backwards.k T.backwards.b .nil passX0 (pa_cons (pv 6) pa_nil)) pa_nil)) (pv 6) (nomark _)) (pss_one (ps_ret pe_bl)) pss_nil)
      (pss_cons (ps_set (i := 8) sc_law.nd rfl (Or.inl rfl) (pe_callTy (call_dictP rfl) (by rfl) T.z_dict (by decide +kernel) (pa_cons (pe_lock (pe_lc (own := [("_law_mark", 10)]) (g := gName 10) (tt := tYes) (by rfl) sc_law.nd (pi_keys (pv 4)) (blkOk_by (own := [("_law_mark", 10)]) (N := ["_law_script", "_law_k", "_law_pool_here", "_law_marks", "_law_one", "_law_images", "_law_two", "_law_due", "_law_same", "_law_odd", "_law_mark", "_law_door"]) (sc := defScope s_law) (by decide +kernel)) (fun _ _ _ _ _ => (pg_name (i := 10) sc_law.nd rfl (Or.inl rfl))) (fun _ _ _ _ _ => pts_nil) (fun _ _ _ _ _ => (pe_tup (pa_cons (pv 10) (pa_cons (pv 10) pa_nil)))))) pa_nil)))
      (pss_cons (ps_if (pt_cmpR (op_ne_dictA hl) (pe_callG (ok_l_told T) (hr.mono (by decide)) hg (by rfl) T.l_told.g T.l_told.k T.l_told.b pass0 (pa_cons pe_int (pa_cons (pv 4) (pa_cons (pe_call (ok_backwards T) (hr.mono (by decide)) (by rfl) T.backwards.g T.backwards.k T.backwards.b .nil passX0 (pa_cons (pv 4) pa_nil)) pa_nil)))) (pv 8) (nomark _)) (pss_one (ps_ret pe_bl)) pss_nil)
      (pss_cons (ps_if (pt_cmpR (op_ne_dictA hl) (pe_call (ok_then_d T) (hr.mono (by decide)) (by rfl) T.then_d.g T.then_d.k T.then_d.b .nil passX0 (pa_cons (pe_call (ok_backwards T) (hr.mono (by decide)) (by rfl) T.backwards.g T.backwards.k T.backwards.b .nil passX0 (pa_cons (pv 4) pa_nil)) (pa_cons (pv 4) pa_nil))) (pe_callTy (call_dictP rfl) (by rfl) T.z_dict (by decide +kernel) (pa_cons (pe_lock (pe_lc (own := [("_law_mark", 10)]) (g := gName 10) (tt := tYes) (by rfl) sc_law.nd (pi_values (pv 4)) (blkOk_by (own := [("_law_mark", 10)]) (N := ["_law_script", "_law_k", "_law_pool_here", "_law_marks", "_law_one", "_law_images", "_law_two", "_law_due", "_law_same", "_law_odd", "_law_mark", "_law_door"]) (sc := defScope s_law) (by decide +kernel)) (fun _ _ _ _ _ => (pg_name (i := 10) sc_law.nd rfl (Or.inl rfl))) (fun _ _ _ _ _ => pts_nil) (fun _ _ _ _ _ => (pe_tup (pa_cons (pv 10) (pa_cons (pv 10) pa_nil)))))) pa_nil)) (nomark _)) (pss_one (ps_ret pe_bl)) pss_nil)
      (pss_cons (ps_for PassesOwn.never rfl (pi_list (pe_lst (pa_cons pe_non (pa_cons pe_int (pa_cons (pe_lst pa_nil) (pa_cons (pe_disp (pps_cons pe_str pe_str pps_nil) (by rfl) (by rfl) (fun z => by cases z) (by decide)) (pa_cons (pe_disp (pps_cons pe_str pe_non pps_nil) (by rfl) (by rfl) (fun z => by cases z) (by decide)) (pa_cons (pe_disp (pps_cons pe_int pe_str pps_nil) (by rfl) (by rfl) (fun z => by cases z) (by decide)) (pa_cons (pe_disp (pps_cons pe_str pe_str (pps_cons pe_str pe_str pps_nil)) (by rfl) (by rfl) (fun z => by cases z) (by decide)) (pa_cons (pe_disp (pps_cons pe_str (pe_tup (pa_cons pe_str pa_nil)) pps_nil) (by rfl) (by rfl) (fun z => by cases z) (by decide)) pa_nil)))))))))) (pg_name (i := 9) sc_law.nd rfl (Or.inr rfl)) (pss_cons (ps_if (pt_cmpR (op_neD hr.units) (pe_lc (own := [("_law_door", 11)]) (g := gName 11) (tt := tYes) (by rfl) sc_law.nd (pi_tup (pe_tup (pa_cons pe_int (pa_cons pe_int pa_nil)))) (blkOk_by (own := [("_law_door", 11)]) (N := ["_law_script", "_law_k", "_law_pool_here", "_law_marks", "_law_one", "_law_images", "_law_two", "_law_due", "_law_same", "_law_odd", "_law_mark", "_law_door"]) (sc := defScope s_law) (by decide +kernel)) (fun _ _ _ _ _ => (pg_name (i := 11) sc_law.nd rfl (Or.inl rfl))) (fun _ _ _ _ _ => pts_nil) (fun _ _ _ _ _ => (pe_callG (ok_l_told T) (hr.mono (by decide)) hg (by rfl) T.l_told.g T.l_told.k T.l_told.b pass0 (pa_cons (pv 11) (pa_cons (pv 9) (pa_cons pe_non pa_nil)))))) (pe_op op_rep (pe_lst (pa_cons (pe_lst (pa_cons pe_str (pa_cons (pe_callB (r := rRepr K) (id := "repr") (call_reprD hg hv) (by rfl) T.z_repr (by decide +kernel) (pa_cons (pv 9) pa_nil)) pa_nil))) pa_nil)) pe_int) (nomark _)) (pss_one (ps_ret pe_bl)) pss_nil)
      (pss_one (ps_if (pt_cmpR (op_neD hr.units) (pe_callG (ok_l_told T) (hr.mono (by decide)) hg (by rfl) T.l_told.g T.l_told.k T.l_told.b pass0 (pa_cons pe_int (pa_cons pe_dnewK (pa_cons (pv 9) pa_nil)))) (pe_lst (pa_cons pe_str (pa_cons (pe_callB (r := rRepr K) (id := "repr") (call_reprD hg hv) (by rfl) T.z_repr (by decide +kernel) (pa_cons (pv 9) pa_nil)) pa_nil))) (nomark _)) (pss_one (ps_ret pe_bl)) pss_nil))))
      (pss_cons (ps_if (PW.pt (pw_and (pt_cmpR (op_neD hr.units) (pv 3) (pe_lst pa_nil) (nomark _)) (pw_and1 (pt_cmpR (op_neD hr.units) (pe_callG (ok_l_told T) (hr.mono (by decide)) hg (by rfl) T.l_told.g T.l_told.k T.l_told.b pass0 (pa_cons pe_int (pa_cons (pv 4) (pa_cons pe_dnewK pa_nil)))) (pe_lst (pa_cons pe_str (pa_cons pe_str pa_nil))) (nomark _))))) (pss_one (ps_ret pe_bl)) pss_nil)
      (pss_cons (ps_expr (pe_dclear (pv 4)))
      (pss_one (ps_if (pt_cmpR (op_ne_dictA hl) (pe_call (ok_then_d T) (hr.mono (by decide)) (by rfl) T.then_d.g T.then_d.k T.then_d.b .nil passX0 (pa_cons (pv 4) (pa_cons (pv 6) pa_nil))) pe_dnewK (nomark _)) (pss_one (ps_ret pe_bl)) pss_nil)))))))))))))))))
      (pss_one (ps_ret pe_bl))), ?_⟩
    refine ⟨_, rfl, l, _, rfl, .inl hS, _, _, rfl, _, _, rfl, ?_⟩
    generalize hN : (if (if (8 : Int) < (((ns.map V.int).length : Nat) : Int) then (8 : Int) else (((ns.map V.int).length : Nat) : Int)) > 1 then (if (8 : Int) < (((ns.map V.int).length : Nat) : Int) then (8 : Int) else (((ns.map V.int).length : Nat) : Int)) else 1) = N
    have hN1 : N ≤ 8 := by rw [← hN]; split <;> (try split) <;> omega
    have hN0 : 0 ≤ N := by rw [← hN]; split <;> (try split) <;> omega
    refine ⟨N, rfl, by omega, by omega, for_range (lo := 0) (n := N.toNat) (fun i σ H' => Same H H' ∧ ∃ o1 o2 o3 o4 o5 o6 o7 o8 o9 o10 o11, σ = [some (.ref l), o1, o2, o3, o4, o5, o6, o7, o8, o9, o10, o11]) ?_ ?_ ?_⟩
    · exact ⟨Same.refl _, _, _, _, _, _, _, _, _, _, _, _, rfl⟩
    · rintro i σ H0 hi ⟨s0, o1, o2, o3, o4, o5, o6, o7, o8, o9, o10, o11, rfl⟩
      -- the pool
      refine ⟨_, rfl, _, rfl, l, ns, _, rfl, s0.seq hS, by omega, by omega, fun H1 p hp s1 pl1 => ?_⟩
      -- marks
      refine ⟨by show 7 ≤ sizeLine; decide, fun L0 hL0 => ?_⟩
      obtain ⟨H2, e2, s2, f2⟩ := newH (.lst (MARKS.map V.str)) hL0
      rw [show ([V.str "a", V.str "b", V.str "c1", V.str "zz", V.str "m", V.str "q", V.str "abcdefgh"] : List V) = MARKS.map V.str from rfl, e2]
      have pl2 : Pool H2 p := pl1.at fun o e => s2 _ _ e
      refine ⟨_, rfl, p, 8, rfl, pl2, by decide, by decide, fun n H3 hn x3 pl3 => ⟨_, rfl, L0, _, rfl, SqL.of (x3 _ _ (pool_ne pl2 f2) f2), fun M hM => ?_⟩⟩
      rw [cut_take (by show n ≤ 7; omega), ← List.map_take]
      obtain ⟨H4, e4, s4, f4⟩ := newH (.lst ((MARKS.take n).map V.str)) hM
      rw [e4]
      have t4 : Same H0 H4 := (same_sx (s1.trans s2) hp x3).trans s4
      have pl4 : Pool H4 p := pl3.at fun o e => s4 _ _ e
      -- one
      refine ⟨_, rfl, _, rfl, by show 7 ≤ sizeLine; decide, fun L1 hL1 => ?_⟩
      obtain ⟨H5, e5, s5, f5⟩ := newH (.lst (VALS.map V.str)) hL1
      rw [show ([V.str "b", V.str "a", V.str "x", V.str "y", V.str "zz", V.str "q", V.str "m"] : List V) = VALS.map V.str from rfl, e5]
      have pl5 : Pool H5 p := pl4.at fun o e => s5 _ _ e
      refine ⟨p, L1, VALS, rfl, pl5, f5, by decide, fun H6 q6 ys hq6 perm1 x6 pl6 f6 => ?_⟩
      have m6 : H6 M = some (.lst ((MARKS.take n).map V.str)) := x6 _ _ (pool_ne pl4 f4) (s5 _ _ f4)
      refine ⟨M, q6, (MARKS.take n).map fun x => (Sum.inr x : Key), ys.map V.str, rfl, SqL.of (by rw [kV_inr]; exact m6), SqL.of f6, ?_, fun p1 hp1 => ?_⟩
      · rw [List.length_map, List.length_map, List.length_take, perm1.length_eq]
        show min n 7 ≤ 7
        omega
      have nd0 : (MARKS.take n).Nodup := List.Nodup.sublist (List.take_sublist _ _) (by decide +kernel)
      have nd1 : ys.Nodup := perm1.nodup_iff.mpr (by decide +kernel)
      obtain ⟨H7, e7, s7, f7⟩ := newH (.dK (mergeK [] (((MARKS.take n).map fun x => (Sum.inr x : Key)).zip (ys.map V.str)))) hp1
      rw [e7]
      have M1 : IsMap H7 p1 ((MARKS.take n).zip ys) := zip_map nd0 nd1 (fun x hx => marks_ok x (List.mem_of_mem_take hx)) (fun y hy => vals_ok y (perm1.mem_iff.mp hy)) (by rw [List.length_take]; show min n 7 ≤ 1000; omega) f7
      generalize hm1 : (MARKS.take n).zip ys = m1 at M1
      have t7 : Same H0 H7 := (same_sx (t4.trans s5) hp x6).trans s7
      have pl7 : Pool H7 p := pl6.at fun o e => s7 _ _ e
      have hpne : ∀ {H' : Hp} {b : Addr} {kv : List (Key × V)}, Pool H' p → H' b = some (.dK kv) → b ≠ p := fun {H' b kv} pl e => by
        obtain ⟨g, m, e2, _⟩ := pl
        exact ne_of e e2 (fun z => by cases z)
      have l1 : m1.length ≤ 7 := by
        rw [← hm1, List.length_zip, List.length_take]
        show min (min n 7) _ ≤ 7
        omega
      -- images
      refine ⟨_, rfl, by show 7 ≤ sizeLine; decide, fun L2 hL2 => ?_⟩
      obtain ⟨H8, e8, s8, f8⟩ := newH (.lst (IMGS.map V.str)) hL2
      rw [show ([V.str "r", V.str "s", V.str "t", V.str "a", V.str "b", V.str "zz", V.str "m"] : List V) = IMGS.map V.str from rfl, e8]
      have pl8 : Pool H8 p := pl7.at fun o e => s8 _ _ e
      refine ⟨p, L2, IMGS, rfl, pl8, f8, by decide, fun H9 q9 im hq9 perm2 x9 pl9 f9 => ?_⟩
      have M9 : H9 p1 = some (.dK (dkv m1)) := x9 _ _ (hpne pl7 M1.ob) (s8 _ _ M1.ob)
      have t9 : Same H0 H9 := same_sx (t7.trans s8) hp x9
      -- two
      refine ⟨_, rfl, _, rfl, p1, dkv m1, rfl, M9, fun L3 hL3 => ?_⟩
      have evs : (dkv m1).map (·.2) = (m1.map (·.2)).map V.str := by simp [dkv]
      rw [evs]
      obtain ⟨HA, eA, sA, fA⟩ := newH (.lst ((m1.map (·.2)).map V.str)) hL3
      rw [eA]
      have plA : Pool HA p := pl9.at fun o e => sA _ _ e
      refine ⟨p, L3, _, rfl, plA, fA, by rw [List.length_map]; omega, fun HB qB zs hqB perm3 xB plB fB => ?_⟩
      have im9 : HB q9 = some (.lst (im.map V.str)) := xB _ _ (pool_ne pl9 f9) (sA _ _ f9)
      have MB : HB p1 = some (.dK (dkv m1)) := xB _ _ (hpne pl9 M9) (sA _ _ M9)
      have tB : Same H0 HB := same_sx (t9.trans sA) hp xB
      refine ⟨_, rfl, qB, q9, zs.map fun x => (Sum.inr x : Key), im.map V.str, rfl, SqL.of (by rw [kV_inr]; exact fB), SqL.of im9, ?_, fun p2 hp2 => ?_⟩
      · rw [List.length_map, List.length_map, perm3.length_eq, perm2.length_eq, List.length_map]
        show m1.length ≤ 7
        exact l1
      have nz : zs.Nodup := perm3.nodup_iff.mpr M1.vs
      have ni : im.Nodup := perm2.nodup_iff.mpr (by decide +kernel)
      obtain ⟨HC, eC, sC, fC⟩ := newH (.dK (mergeK [] ((zs.map fun x => (Sum.inr x : Key)).zip (im.map V.str)))) hp2
      rw [eC]
      have M2 : IsMap HC p2 (zs.zip im) := zip_map nz ni (fun x hx => by
          obtain ⟨q, hq, e⟩ := List.mem_map.mp (perm3.mem_iff.mp hx)
          rw [← e]
          exact (M1.mks q hq).2) (fun y hy => imgs_ok y (perm2.mem_iff.mp hy)) (by rw [perm3.length_eq, List.length_map]; omega) fC
      have look2 : ∀ q ∈ m1, ∃ z, look (zs.zip im) q.2 = some z := by
        intro q hq
        have h1 : q.2 ∈ zs := perm3.mem_iff.mpr (List.mem_map.mpr ⟨q, hq, rfl⟩)
        obtain ⟨j, hj, ej⟩ := List.getElem_of_mem h1
        have hj2 : j < im.length := by
          have e1 := perm3.length_eq
          have e2 := perm2.length_eq
          rw [List.length_map] at e1
          have e3 : IMGS.length = 7 := rfl
          omega
        have hm : (q.2, im[j]) ∈ zs.zip im := by
          have : (zs.zip im)[j]? = some (q.2, im[j]) := by
            rw [List.getElem?_zip_eq_some]
            exact ⟨by rw [List.getElem?_eq_getElem hj, ej], List.getElem?_eq_getElem hj2⟩
          exact List.mem_of_getElem? this
        exact ⟨_, look_mem (q := (q.2, im[j])) M2.ks hm⟩
      generalize hm2 : zs.zip im = m2 at M2 look2
      have M1C : IsMap HC p1 m1 := ⟨sC _ _ MB, M1.len, M1.mks, M1.ks, M1.vs⟩
      have tC : Same H0 HC := tB.trans sC
      have ne12 : p1 ≠ p2 := ne_of_none MB hp2
      have fit12 : fits m1 m2 = true := List.all_eq_true.mpr fun q hq => by
        obtain ⟨z, hz⟩ := look2 q hq
        rw [hz]
        rfl
      -- due
      have n1 : H0 p1 = none := (same_sx (t4.trans s5) hp x6).free hp1
      dsimp only
      refine gn_seq ?_
      refine dict_keys (i := 4) (j := 10) ?_ M1C (fun q => (q.1, (look m2 q.2).getD "")) M1C.ks ?_ ?_ fun HD pD hpD sD fD => ?_
      · rfl
      · intro x
        rfl
      · intro q hq od H' R sH hR
        obtain ⟨z, hz⟩ := look2 q hq
        have r2 : Rd H' p2 (.dK (dkv m2)) := .inl (sH _ _ (by rw [upd_ne ne12.symm]; exact M2.ob))
        have r1 : Rd H' p1 (.dK (dkv m1)) := .inr ⟨od, sH _ _ upd_same⟩
        refine ⟨_, rfl, _, rfl, _, rfl, _, rfl, p1, .str q.2, rfl, .inl ⟨_, Sum.inr q.1, r1, rfl, ?_⟩, p2, .str z, rfl, .inl ⟨_, Sum.inr q.2, r2, rfl, ?_⟩, ?_⟩
        · rw [valV_dkv, look_mem M1.ks hq]
          rfl
        · rw [valV_dkv, hz]
          rfl
        · refine ⟨by show 2 ≤ sizeLine; decide, fun t ht => ?_⟩
          have := hR H' t (Same.refl _) ht
          rw [hz] at this
          exact this
      have fD' : HD pD = some (.dK (dkv (after m1 m2))) := fD
      -- then(one, two)
      refine ⟨_, rfl, _, rfl, told_then (M1C.mono sD) (M2.mono sD) fit12 fun HE pE hpE sE fE => ⟨_, rfl, ne_same fE (sE _ _ fD') (after_ks M1.ks) ⟨_, rfl, ?_⟩⟩⟩
      refine ifF rfl ?_
      -- backwards(one)
      have M1E : IsMap HE p1 m1 := (M1C.mono sD).mono sE
      have M2E : IsMap HE p2 m2 := (M2.mono sD).mono sE
      refine ⟨_, rfl, back_of M1E fun HF pF hpF sF fF => ?_⟩
      dsimp only
      refine dict_keys (i := 4) (j := 10) ?_ (M1E.mono sF) (fun q => (q.2, q.1)) M1.vs ?_ ?_ fun HG pG hpG sG fG => ?_
      · rfl
      · intro x
        rfl
      · intro q hq od H' R sH hR
        have r1 : Rd H' p1 (.dK (dkv m1)) := .inr ⟨od, sH _ _ upd_same⟩
        refine ⟨_, rfl, _, rfl, p1, .str q.2, rfl, .inl ⟨_, Sum.inr q.1, r1, rfl, ?_⟩, _, rfl, ?_⟩
        · rw [valV_dkv, look_mem M1.ks hq]
          rfl
        · refine ⟨by show 2 ≤ sizeLine; decide, fun t ht => ?_⟩
          exact hR H' t (Same.refl _) ht
      have tG : Same HE HG := sF.trans sG
      refine ne_same (sG _ _ fF) fG (by rw [swap, List.map_map]; exact M1.vs) ⟨_, rfl, ifF rfl ?_⟩
      -- backwards(backwards(two))
      refine ⟨_, rfl, back_of (M2E.mono tG) fun HI pI hpI sI fI => back_of ((M2E.mono tG).swap fI) fun HJ pJ hpJ sJ fJ => ⟨_, rfl, ?_⟩⟩
      rw [swap_swap] at fJ
      have tJ : Same HE HJ := tG.trans (sI.trans sJ)
      refine ne_same fJ (tJ _ _ M2E.ob) M2.ks ⟨_, rfl, ifF rfl ?_⟩
      -- same
      refine nx_of ?_
      dsimp only
      refine se_asg ?_
      refine dict_keys (i := 4) (j := 10) ?_ (M1E.mono tJ) (fun q => (q.1, q.1)) M1.ks ?_ ?_ fun HK pK hpK sK fK => ?_
      · rfl
      · intro x
        rfl
      · intro q hq od H' R sH hR
        refine ⟨_, rfl, _, rfl, by show 2 ≤ sizeLine; decide, fun t ht => ?_⟩
        exact hR H' t (Same.refl _) ht
      have tK : Same HE HK := tJ.trans sK
      have M1K : IsMap HK p1 m1 := M1E.mono tK
      refine ⟨_, rfl, _, rfl, back_of M1K fun HL pL hpL sL fL => ?_⟩
      refine told_then (M1K.mono sL) (M1K.swap fL) (after_back M1K).1 fun HM pM hpM sM fM => ⟨_, rfl, ?_⟩
      rw [(after_back M1K).2] at fM
      refine ne_same fM (sM _ _ (sL _ _ fK)) (by rw [List.map_map]; exact M1.ks) ⟨_, rfl, ifF rfl ?_⟩
      have tM : Same HE HM := tK.trans (sL.trans sM)
      have M1M : IsMap HM p1 m1 := M1E.mono tM
      -- then(backwards(one), one)
      refine ⟨_, rfl, back_of M1M fun HN pN hpN sN fN => ⟨_, rfl, ?_⟩⟩
      refine then_of (M1M.swap fN) (M1M.mono sN) (back_after M1M).1 fun HO pO hpO sO fO => ?_
      rw [(back_after M1M).2] at fO
      have M1O : IsMap HO p1 m1 := M1M.mono (sN.trans sO)
      dsimp only
      refine dict_vals (i := 4) (j := 10) ?_ M1O (fun q => (q.2, q.2)) M1.vs ?_ ?_ fun HP pP hpP sP fP => ?_
      · rfl
      · intro x
        rfl
      · intro q hq od H' R sH hR
        refine ⟨_, rfl, _, rfl, by show 2 ≤ sizeLine; decide, fun t ht => ?_⟩
        exact hR H' t (Same.refl _) ht
      refine ne_same (sP _ _ fO) fP (by rw [List.map_map]; exact M1.vs) ⟨_, rfl, ifF rfl ?_⟩
      have tP : Same HE HP := tM.trans (sN.trans (sO.trans sP))
      -- the odd values
      refine ⟨by decide, fun c0 hc0 => ?_⟩
      obtain ⟨Ha, ea, sa, fa⟩ := newH (.lst []) hc0
      rw [ea]
      refine fun c1 hc1 => ⟨upd_same, [(Sum.inr "A", .str "a")], rfl, by decide, ?_⟩
      rw [merge_1]
      obtain ⟨Hb, eb, sb, fb⟩ := newH2 (.dK []) (.dK [(Sum.inr "A", .str "a")]) hc1
      rw [eb]
      refine fun c2 hc2 => ⟨upd_same, [(Sum.inr "a", .non)], rfl, by decide, ?_⟩
      rw [merge_1]
      obtain ⟨Hc, ec, sc, fc⟩ := newH2 (.dK []) (.dK [(Sum.inr "a", .non)]) hc2
      rw [ec]
      refine fun c3 hc3 => ⟨upd_same, [(Sum.inl 5, .str "a")], rfl, by decide, ?_⟩
      rw [merge_1]
      obtain ⟨Hd, ed, sd, fd⟩ := newH2 (.dK []) (.dK [(Sum.inl 5, .str "a")]) hc3
      rw [ed]
      refine fun c4 hc4 => ⟨upd_same, [(Sum.inr "a", .str "b"), (Sum.inr "c", .str "b")], rfl, by decide, ?_⟩
      rw [merge_2 _ _ (by decide +kernel)]
      obtain ⟨He, ee, se, fe⟩ := newH2 (.dK []) (.dK [(Sum.inr "a", .str "b"), (Sum.inr "c", .str "b")]) hc4
      rw [ee]
      refine fun c5 hc5 => ⟨by decide, fun t5 ht5 => ?_⟩
      have n5 : c5 ≠ t5 := ne_of_none upd_same ht5
      refine ⟨by rw [upd_ne n5]; exact upd_same, [(Sum.inr "a", .ref t5)], rfl, by show 1 ≤ 15; decide, ?_⟩
      rw [merge_1]
      obtain ⟨Hf, ef, sf, ff, gf⟩ : ∃ H', upd (upd (upd He c5 (.dK [])) t5 (.tup [.str "b"])) c5 (.dK [(Sum.inr "a", .ref t5)]) = H' ∧ Same He H' ∧ H' c5 = some (.dK [(Sum.inr "a", .ref t5)]) ∧ H' t5 = some (.tup [.str "b"]) := by
        refine ⟨_, rfl, fun b o e => ?_, upd_same, ?_⟩
        · have n1 := ne_of_none e hc5
          have n2 : b ≠ t5 := ne_of_none (H := upd He c5 (.dK [])) (by rw [upd_ne n1]; exact e) ht5
          rw [upd_ne n1, upd_ne n2, upd_ne n1]
          exact e
        · rw [upd_ne n5.symm]
          exact upd_same
      rw [ef]
      refine ⟨by show 8 ≤ sizeLine; decide, fun LO hLO => ?_⟩
      obtain ⟨HO, eO, sO, fO⟩ := newH (.lst [.non, .int 5, .ref c0, .ref c1, .ref c2, .ref c3, .ref c4, .ref c5]) hLO
      rw [eO]
      have odds : ∀ x ∈ [V.non, .int 5, .ref c0, .ref c1, .ref c2, .ref c3, .ref c4, .ref c5], Odd K HO x := by
        intro x hx
        have z0 := sb.trans (sc.trans (sd.trans (se.trans (sf.trans sO))))
        simp only [List.mem_cons, List.not_mem_nil, or_false] at hx
        rcases hx with rfl | rfl | rfl | rfl | rfl | rfl | rfl | rfl
        · exact odd_non
        · exact odd_int
        · exact odd_lst (z0 _ _ fa)
        · exact odd_d1 ((sc.trans (sd.trans (se.trans (sf.trans sO)))) _ _ fb)
        · exact odd_d2 ((sd.trans (se.trans (sf.trans sO))) _ _ fc)
        · exact odd_d3 ((se.trans (sf.trans sO)) _ _ fd)
        · exact odd_d4 ((sf.trans sO) _ _ fe)
        · exact odd_d5 (sO _ _ ff) (sO _ _ gf)
      have tO : Same HE HO := tP.trans (sa.trans (sb.trans (sc.trans (sd.trans (se.trans (sf.trans sO))))))
      refine ⟨LO, rfl, ⟨_, SqL.of fO⟩, for_list (fun k σ H' => Same HO H' ∧ ∃ o9 o10 o11, σ = [some (.ref l), some (.int (0 + (i : Int))), some (.ref p), some (.ref M), some (.ref p1), some (.ref q9), some (.ref p2), some (.ref pD), some (.ref pK), o9, o10, o11]) ⟨Same.refl _, _, _, _, rfl⟩ (fun k σ H' _ h => SqL.of (h.1 _ _ fO)) ?_ ?_⟩
      · rintro k x σ Hx hx ⟨sx, o9, o10, o11, rfl⟩
        obtain ⟨ty, d, av, mv, sh⟩ := (odds x (List.mem_of_getElem? hx)).mono sx
        -- door 0 and door 1
        refine ⟨by show 2 ≤ sizeLine; decide, fun tt htt => ?_⟩
        obtain ⟨Hy, ey, sy, fy⟩ := newH (.tup [.int 0, .int 1]) htt
        rw [ey]
        refine ⟨tt, rfl, ⟨_, SqT.of fy⟩, fun D hD => lc_obs (ys := ([0, 1] : List Int)) (walk_tup (K := K) (a := tt) (xs := [.int 0, .int 1])) hD (by decide) (fun H' s' => SqT.of (s' _ _ fy)) (fun _ => .lst [.str "map", .str d.shown]) ?_ fun Hz ps sz fz pz => ?_⟩
        · rintro i y x' H2 H3 R hy s2 _ ⟨rfl, hx'⟩ hR
          have ex : x' = .int y := by
            have : ([V.int 0, .int 1] : List V)[i]? = (([0, 1] : List Int).map V.int)[i]? := rfl
            rw [this, List.getElem?_map, hy] at hx'
            exact (Option.some.inj hx').symm
          subst ex
          exact ⟨rfl, _, rfl, _, rfl, told_odd1 (av.mono (sy.trans s2)) (mv.mono (sy.trans s2)) (sh.mono (sy.trans s2)) fun H4 q hq s4 f4 => hR H4 q s4 hq f4⟩
        · have shz := sh.mono (sy.trans sz)
          refine ⟨_, rfl, x, d, rfl, shz.rp, shz.sh, by have := shz.len; rw [sizeLine_eq]; omega, shz.dep, by show 2 ≤ sizeLine; decide, fun q1 hq1 => ?_⟩
          obtain ⟨H10, e10, s10, f10⟩ := newH (.lst [.str "map", .str d.shown]) hq1
          rw [e10]
          refine ⟨by show 1 ≤ sizeLine; decide, fun q2 hq2 => ?_⟩
          obtain ⟨H11, e11, s11, f11⟩ := newH (.lst [.ref q1]) hq2
          rw [e11]
          refine ⟨q2, 2, [.ref q1], rfl, rfl, f11, by decide, by decide, by show 1 * 2 ≤ sizeLine; decide, fun q3 hq3 => ?_⟩
          rw [show (List.replicate (2 : Int).toNat [V.ref q1]).flatten = [.ref q1, .ref q1] from rfl]
          obtain ⟨H12, e12, s12, f12⟩ := newH (.lst [.ref q1, .ref q1]) hq3
          rw [e12]
          obtain ⟨a1, a2, rfl, g1, g2⟩ : ∃ a1 a2, ps = [a1, a2] ∧ Hz a1 = some (.lst [.str "map", .str d.shown]) ∧ Hz a2 = some (.lst [.str "map", .str d.shown]) := by
            cases pz with
            | cons h1 r =>
              cases r with
              | cons h2 r2 =>
                cases r2
                exact ⟨_, _, rfl, h1, h2⟩
          have z12 : Same Hz H12 := s10.trans (s11.trans s12)
          have dl : Dp K H12 (.ref D) (.list [mapD d.shown, mapD d.shown]) := .lst (SqL.of (z12 _ _ fz)) (.cons (mapD_dp (z12 _ _ g1)) (.cons (mapD_dp (z12 _ _ g2)) .nil))
          have m1q : H12 q1 = some (.lst [.str "map", .str d.shown]) := (s11.trans s12) _ _ f10
          have dr : Dp K H12 (.ref q3) (.list [mapD d.shown, mapD d.shown]) := .lst (SqL.of f12) (.cons (mapD_dp m1q) (.cons (mapD_dp m1q) .nil))
          have ok := mapD_ok shz.ok
          refine ⟨_, _, dl, dr, ok.2, ok.2, _, rfl, ?_⟩
          refine ifF (by rw [SeqAt.eqv_refl _ (SeqAt.canLay_of_shaped ok.2)]; rfl) ?_
          -- {} and the odd one
          have y12 : Same Hx H12 := sy.trans (sz.trans z12)
          refine fun b1 hb1 => ?_
          obtain ⟨H13, e13, s13, f13⟩ := newH (.dK []) hb1
          rw [e13]
          have y13 := y12.trans s13
          refine ⟨_, rfl, told_odd2 (av.mono y13) (mv.mono y13) (sh.mono y13) (isMap_nil f13) fun H14 q4 hq4 s14 f14 => ?_⟩
          have sh14 := sh.mono (y13.trans s14)
          refine ⟨_, rfl, x, d, rfl, sh14.rp, sh14.sh, by have := sh14.len; rw [sizeLine_eq]; omega, sh14.dep, by show 2 ≤ sizeLine; decide, fun q5 hq5 => ?_⟩
          obtain ⟨H15, e15, s15, f15⟩ := newH (.lst [.str "map", .str d.shown]) hq5
          rw [e15]
          refine ⟨_, _, mapD_dp (s15 _ _ f14), mapD_dp f15, ok.1, ok.1, _, rfl, ?_⟩
          refine ifF (by rw [SeqAt.eqv_refl _ (SeqAt.canLay_of_shaped ok.1)]; rfl) ?_
          exact ⟨sx.trans (y13.trans (s14.trans s15)), _, _, _, rfl⟩
      · rintro σ Hx ⟨sx, o9, o10, o11, rfl⟩
        have tx : Same HE Hx := tO.trans sx
        have M1x : IsMap Hx p1 m1 := M1E.mono tx
        have M2x : IsMap Hx p2 m2 := M2E.mono tx
        have u0 : Same H0 Hx := (tC.trans (sD.trans sE)).trans tx
        -- marks
        have mx : Hx M = some (.lst ((MARKS.take n).map V.str)) := tx _ _ (sE _ _ (sD _ _ (sC _ _ (xB _ _ (pool_ne pl4 f4) (sA _ _ (x9 _ _ (pool_ne pl4 f4) (s8 _ _ (s7 _ _ m6))))))))
        have shM : ∀ k, k < 8 → SeqAt.shaped (.list ((MARKS.take k).map PyData.str)) = true := by decide +kernel
        have last : ∀ (D : Ends) Hw, Same Hx Hw → (∀ σ' H', (Same H H' ∧ ∃ o1 o2 o3 o4 o5 o6 o7 o8 o9 o10 o11, σ' = [some (.ref l), o1, o2, o3, o4, o5, o6, o7, o8, o9, o10, o11]) → D.nx σ' H') →
            (tSeq (tDrop (tBM0 K "dict" rDClear (tVar 4))) (tIfS (tTest (tOp rNeDA (tCall (spThen K a.C_BadMap) [] E0 (tCons (tVar 4) (tCons (tVar 6) tNil))) tDNewK)) (tRet (_root_.L2.tC (.bl false))) tNext)) D
              [some (.ref l), some (.int (0 + (i : Int))), some (.ref p), some (.ref M), some (.ref p1), some (.ref q9), some (.ref p2), some (.ref pD), some (.ref pK), o9, o10, o11] Hw := by
          intro D Hw sw kD
          have M1w := M1x.mono sw
          have M2w := M2x.mono sw
          refine ⟨_, rfl, .inr (.inr (.inl ⟨rfl, .inl ⟨_, M1w.ob⟩⟩)), p1, dkv m1, rfl, rfl, M1w.ob, ?_⟩
          obtain ⟨Hv, ev, fv, gv⟩ : ∃ H', upd Hw p1 (.dK []) = H' ∧ H' p1 = some (.dK []) ∧ H' p2 = some (.dK (dkv m2)) := ⟨_, rfl, upd_same, by rw [upd_ne ne12.symm]; exact M2w.ob⟩
          have sv : Same H0 Hv := by
            intro b o e
            rw [← ev, upd_ne (ne_of_none e n1)]
            exact sw _ _ (u0 _ _ e)
          rw [ev]
          have M2v : IsMap Hv p2 m2 := ⟨gv, M2.len, M2.mks, M2.ks, M2.vs⟩
          refine ⟨_, rfl, _, rfl, then_of (isMap_nil fv) M2v rfl fun Hu q1 hq1 su fu q2 hq2 => ?_⟩
          refine ne_same (m := []) (same_new hq2 _ _ fu) upd_same (by simp) ⟨_, rfl, ifF rfl ?_⟩
          exact kD _ _ ⟨s0.trans (sv.trans (su.trans (same_new hq2))), _, _, _, _, _, _, _, _, _, _, _, rfl⟩
        refine ⟨_, rfl, by decide, fun z hz => ?_⟩
        obtain ⟨H1z, e1z, s1z, f1z⟩ := newH (.lst []) hz
        rw [e1z]
        refine ⟨_, .list [], .lst (SqL.of (s1z _ _ mx)) (dp_strs _), .lst (SqL.of f1z) .nil, shM n (by omega), by decide +kernel, _, rfl, ifB (fun hc => ?_) (fun _ => ?_)⟩
        · have hm : m1 ≠ [] := by
            intro hm
            rw [← hm1] at hm
            have h7 : ys.length = 7 := perm1.length_eq
            have : MARKS.take n = [] := by
              cases hT : MARKS.take n with
              | nil => rfl
              | cons b r =>
                rw [hT] at hm
                cases ys with
                | nil => cases h7
                | cons c t => cases hm
            rw [this] at hc
            revert hc
            decide +kernel
          have hf : fits m1 [] = false := by
            cases m1 with
            | nil => exact absurd rfl hm
            | cons b r => rfl
          refine ⟨_, rfl, fun b1 hb1 => ?_⟩
          obtain ⟨H2z, e2z, s2z, f2z⟩ := newH (.dK []) hb1
          rw [e2z]
          refine told_unfit (M1x.mono (s1z.trans s2z)) (isMap_nil f2z) hf (shows_nil f2z) fun H3z q3 hq3 s3z f3z => ?_
          refine ⟨by show 2 ≤ sizeLine; decide, fun q4 hq4 => ?_⟩
          obtain ⟨H4z, e4z, s4z, f4z⟩ := newH (.lst [.str "map", .str "{}"]) hq4
          rw [e4z]
          have es : (PyData.dict []).shown = ("{}" : Str) := by decide +kernel
          rw [es] at f3z
          have ok : SeqAt.shaped (mapD "{}") = true := by decide +kernel
          refine ⟨_, _, mapD_dp (s4z _ _ f3z), mapD_dp f4z, ok, ok, _, rfl, ?_⟩
          refine ifF (by rw [SeqAt.eqv_refl _ (SeqAt.canLay_of_shaped ok)]; rfl) ?_
          refine last _ _ (s1z.trans (s2z.trans (s3z.trans s4z))) ?_
          exact fun _ _ h => h
        · refine last _ _ s1z ?_
          exact fun _ _ h => h
    · rintro σ H0 ⟨s0, o1, o2, o3, o4, o5, o6, o7, o8, o9, o10, o11, rfl⟩
      exact k H0
end
end SB

namespace SB
open PySem L2
theorem all_mk {l : PySem.W.OpenLaw} {w : World} {K : PySem.W.Frag} {h : Heap} {mg : Str → Option Value} {fa : Addr} (X : K.In h) (G : h.Ns mainGlobals mg) (hfa : mg "law" = some (.ref fa))
    {oc0 kV0 dc0 pm0 cd0 ct0 : Value} {od0 an0 : Option Addr} {sl0 : Array (Option Value)} {f0 : Addr}
    (a0 : PySem.W.nsIn K mainGlobals "is_made_of" = some (some (.ref f0))) (l0 : K.lookup f0 = some ⟨oc0, od0, .func (PySem.W.fnOf "is_made_of" "is_made_of" (defArgs s_is_made_of) (defBody s_is_made_of) (defScope s_is_made_of) .none kV0 dc0 pm0 an0 cd0 ct0), sl0⟩) (c0 : PySem.W.codeIn K cd0 "is_made_of" = true) (k0 : PySem.W.keepIn K (.ref f0) = true)
    {oc1 kV1 dc1 pm1 cd1 ct1 : Value} {od1 an1 : Option Addr} {sl1 : Array (Option Value)} {f1 : Addr}
    (a1 : PySem.W.nsIn K mainGlobals "is_mark" = some (some (.ref f1))) (l1 : K.lookup f1 = some ⟨oc1, od1, .func (PySem.W.fnOf "is_mark" "is_mark" (defArgs s_is_mark) (defBody s_is_mark) (defScope s_is_mark) .none kV1 dc1 pm1 an1 cd1 ct1), sl1⟩) (c1 : PySem.W.codeIn K cd1 "is_mark" = true) (k1 : PySem.W.keepIn K (.ref f1) = true)
    {oc2 kV2 dc2 pm2 cd2 ct2 : Value} {od2 an2 : Option Addr} {sl2 : Array (Option Value)} {f2 : Addr}
    (a2 : PySem.W.nsIn K mainGlobals "are_different" = some (some (.ref f2))) (l2 : K.lookup f2 = some ⟨oc2, od2, .func (PySem.W.fnOf "are_different" "are_different" (defArgs s_are_different) (defBody s_are_different) (defScope s_are_different) .none kV2 dc2 pm2 an2 cd2 ct2), sl2⟩) (c2 : PySem.W.codeIn K cd2 "are_different" = true) (k2 : PySem.W.keepIn K (.ref f2) = true)
    {oc3 kV3 dc3 pm3 cd3 ct3 : Value} {od3 an3 : Option Addr} {sl3 : Array (Option Value)} {f3 : Addr}
    (a3 : PySem.W.nsIn K mainGlobals "is_dict_of_marks" = some (some (.ref f3))) (l3 : K.lookup f3 = some ⟨oc3, od3, .func (PySem.W.fnOf "is_dict_of_marks" "is_dict_of_marks" (defArgs s_is_dict_of_marks) (defBody s_is_dict_of_marks) (defScope s_is_dict_of_marks) .none kV3 dc3 pm3 an3 cd3 ct3), sl3⟩) (c3 : PySem.W.codeIn K cd3 "is_dict_of_marks" = true) (k3 : PySem.W.keepIn K (.ref f3) = true)
    {oc4 kV4 dc4 pm4 cd4 ct4 : Value} {od4 an4 : Option Addr} {sl4 : Array (Option Value)} {f4 : Addr}
    (a4 : PySem.W.nsIn K mainGlobals "check_map" = some (some (.ref f4))) (l4 : K.lookup f4 = some ⟨oc4, od4, .func (PySem.W.fnOf "check_map" "check_map" (defArgs s_check_map) (defBody s_check_map) (defScope s_check_map) .none kV4 dc4 pm4 an4 cd4 ct4), sl4⟩) (c4 : PySem.W.codeIn K cd4 "check_map" = true) (k4 : PySem.W.keepIn K (.ref f4) = true)
    {oc5 kV5 dc5 pm5 cd5 ct5 : Value} {od5 an5 : Option Addr} {sl5 : Array (Option Value)} {f5 : Addr}
    (a5 : PySem.W.nsIn K mainGlobals "then" = some (some (.ref f5))) (l5 : K.lookup f5 = some ⟨oc5, od5, .func (PySem.W.fnOf "then" "then" (defArgs s_then_d) (defBody s_then_d) (defScope s_then_d) .none kV5 dc5 pm5 an5 cd5 ct5), sl5⟩) (c5 : PySem.W.codeIn K cd5 "then" = true) (k5 : PySem.W.keepIn K (.ref f5) = true)
    {oc6 kV6 dc6 pm6 cd6 ct6 : Value} {od6 an6 : Option Addr} {sl6 : Array (Option Value)} {f6 : Addr}
    (a6 : PySem.W.nsIn K mainGlobals "backwards" = some (some (.ref f6))) (l6 : K.lookup f6 = some ⟨oc6, od6, .func (PySem.W.fnOf "backwards" "backwards" (defArgs s_backwards) (defBody s_backwards) (defScope s_backwards) .none kV6 dc6 pm6 an6 cd6 ct6), sl6⟩) (c6 : PySem.W.codeIn K cd6 "backwards" = true) (k6 : PySem.W.keepIn K (.ref f6) = true)
    {oc7 kV7 dc7 pm7 cd7 ct7 : Value} {od7 an7 : Option Addr} {sl7 : Array (Option Value)} {f7 : Addr}
    (a7 : PySem.W.nsIn K mainGlobals "_law_pool" = some (some (.ref f7))) (l7 : K.lookup f7 = some ⟨oc7, od7, .func (PySem.W.fnOf "_law_pool" "_law_pool" (defArgs s_l_pool) (defBody s_l_pool) (defScope s_l_pool) .none kV7 dc7 pm7 an7 cd7 ct7), sl7⟩) (c7 : PySem.W.codeIn K cd7 "_law_pool" = true) (k7 : PySem.W.keepIn K (.ref f7) = true)
    {oc8 kV8 dc8 pm8 cd8 ct8 : Value} {od8 an8 : Option Addr} {sl8 : Array (Option Value)} {f8 : Addr}
    (a8 : PySem.W.nsIn K mainGlobals "_law_draw" = some (some (.ref f8))) (l8 : K.lookup f8 = some ⟨oc8, od8, .func (PySem.W.fnOf "_law_draw" "_law_draw" (defArgs s_l_draw) (defBody s_l_draw) (defScope s_l_draw) .none kV8 dc8 pm8 an8 cd8 ct8), sl8⟩) (c8 : PySem.W.codeIn K cd8 "_law_draw" = true) (k8 : PySem.W.keepIn K (.ref f8) = true)
    {oc9 kV9 dc9 pm9 cd9 ct9 : Value} {od9 an9 : Option Addr} {sl9 : Array (Option Value)} {f9 : Addr}
    (a9 : PySem.W.nsIn K mainGlobals "_law_mixed" = some (some (.ref f9))) (l9 : K.lookup f9 = some ⟨oc9, od9, .func (PySem.W.fnOf "_law_mixed" "_law_mixed" (defArgs s_l_mixed) (defBody s_l_mixed) (defScope s_l_mixed) .none kV9 dc9 pm9 an9 cd9 ct9), sl9⟩) (c9 : PySem.W.codeIn K cd9 "_law_mixed" = true) (k9 : PySem.W.keepIn K (.ref f9) = true)
    {oc10 kV10 dc10 pm10 cd10 ct10 : Value} {od10 an10 : Option Addr} {sl10 : Array (Option Value)} {f10 : Addr}
    (a10 : PySem.W.nsIn K mainGlobals "_law_told" = some (some (.ref f10))) (l10 : K.lookup f10 = some ⟨oc10, od10, .func (PySem.W.fnOf "_law_told" "_law_told" (defArgs s_l_told) (defBody s_l_told) (defScope s_l_told) .none kV10 dc10 pm10 an10 cd10 ct10), sl10⟩) (c10 : PySem.W.codeIn K cd10 "_law_told" = true) (k10 : PySem.W.keepIn K (.ref f10) = true)
    {oc11 kV11 dc11 pm11 cd11 ct11 : Value} {od11 an11 : Option Addr} {sl11 : Array (Option Value)} {f11 : Addr}
    (a11 : PySem.W.nsIn K mainGlobals "law" = some (some (.ref f11))) (l11 : K.lookup f11 = some ⟨oc11, od11, .func (PySem.W.fnOf "law" "law" (defArgs s_law) (defBody s_law) (defScope s_law) .none kV11 dc11 pm11 an11 cd11 ct11), sl11⟩) (c11 : PySem.W.codeIn K cd11 "law" = true) (k11 : PySem.W.keepIn K (.ref f11) = true)
    {t_LETTERS : Tok} (g_LETTERS : PySem.W.nsIn K mainGlobals "LETTERS" = some (some (.str "abcdefghijklmnopqrstuvwxyz" t_LETTERS)))
    {t_DIGITS : Tok} (g_DIGITS : PySem.W.nsIn K mainGlobals "DIGITS" = some (some (.str "0123456789" t_DIGITS)))
    (z_abs : PySem.W.nsIn K mainGlobals "abs" = some none)
    (z_all : PySem.W.nsIn K mainGlobals "all" = some none)
    (z_dict : PySem.W.nsIn K mainGlobals "dict" = some none)
    (z_int : PySem.W.nsIn K mainGlobals "int" = some none)
    (z_isinstance : PySem.W.nsIn K mainGlobals "isinstance" = some none)
    (z_len : PySem.W.nsIn K mainGlobals "len" = some none)
    (z_list : PySem.W.nsIn K mainGlobals "list" = some none)
    (z_max : PySem.W.nsIn K mainGlobals "max" = some none)
    (z_min : PySem.W.nsIn K mainGlobals "min" = some none)
    (z_range : PySem.W.nsIn K mainGlobals "range" = some none)
    (z_repr : PySem.W.nsIn K mainGlobals "repr" = some none)
    (z_str : PySem.W.nsIn K mainGlobals "str" = some none)
    (z_sum : PySem.W.nsIn K mainGlobals "sum" = some none)
    (z_super : PySem.W.nsIn K mainGlobals "super" = some none)
    (z_zip : PySem.W.nsIn K mainGlobals "zip" = some none)
    {C_GraphError : Addr} (gG : PySem.W.nsIn K mainGlobals "GraphError" = some (some (.ref C_GraphError))) (opq : PySem.W.nsIn K cStatics "thirdparty.any" = some none) (gS : PySem.W.nsIn K mainGlobals "super" = some none) (tops : (l.prog.main.scope.names.lookup ("super" : Str)).isSome = false)
    {nm_BadMap q_BadMap : Str} {N_BadMap : Addr} {bs_BadMap : List Value} {sn_BadMap : List Str} {sub_BadMap : List Value} {ab_BadMap : Bool} {col_BadMap : Option Bool} {dd_BadMap : Option Addr} {m0_BadMap m1_BadMap m2_BadMap m3_BadMap m5_BadMap : Option Value} {C_BadMap i_BadMap cda_BadMap cc_BadMap : Addr} {oc_BadMap doc_BadMap pm_BadMap ct_BadMap ccl_BadMap cl_BadMap : Value} {od_BadMap an_BadMap cdd_BadMap cld_BadMap : Option Addr} {osl_BadMap ccs_BadMap csl_BadMap : Array (Option Value)} {vs_BadMap : Array Value} {file_BadMap : Str} {tf_BadMap : Tok} {p1_BadMap p2_BadMap q1_BadMap q2_BadMap q3_BadMap q4_BadMap q5_BadMap q6_BadMap q7_BadMap q8_BadMap q9_BadMap q10_BadMap : Pos} (gC_BadMap : PySem.W.nsIn K mainGlobals "BadMap" = some (some (.ref C_BadMap))) (xL_BadMap : K.lookup C_BadMap = some (excClassObj nm_BadMap q_BadMap C_BadMap N_BadMap bs_BadMap (.ref C_GraphError :: ErrX.tailE) true sn_BadMap sub_BadMap ab_BadMap col_BadMap dd_BadMap m0_BadMap m1_BadMap m2_BadMap m3_BadMap m5_BadMap "Exception.__new__")) (sa_BadMap : PySem.W.findIn K (.ref C_BadMap) "__setattr__" = some (some (.builtin "object.__setattr__"))) (ga_BadMap : PySem.W.findIn K (.ref C_BadMap) "__getattribute__" = some (some (.builtin "BaseException.__getattribute__"))) (gg_BadMap : PySem.W.findIn K (.ref C_BadMap) "__getattr__" = some none) (nb_BadMap : PySem.W.findIn K (.ref C_BadMap) "value" = some none) (iC_BadMap : PySem.W.findIn K (.ref C_BadMap) "__init__" = some (some (.ref i_BadMap))) (tI_BadMap : PySem.W.typeIn K (.ref i_BadMap) = some (.type "function")) (kC_BadMap : PySem.W.keepIn K (.ref C_BadMap) = true) (eC_BadMap : PySem.W.subIn K (.ref C_BadMap) (.type "BaseException") = some true) (eE_BadMap : PySem.W.subIn K (.ref C_BadMap) (.type "Exception") = some true) (tC_BadMap : PySem.W.typeIn K (.ref C_BadMap) = some (.type "type")) (hC_BadMap : PySem.W.hasDictIn K C_BadMap = true) (isC_BadMap : PySem.W.isClsIn K C_BadMap = true) (sC_BadMap : PySem.W.subIn K (.ref C_BadMap) (.ref C_BadMap) = some true) (mr_BadMap : PySem.W.mroIn K C_BadMap (.ref C_BadMap) = some true) (su_BadMap : PySem.W.ks_superIn K C_BadMap C_BadMap "__init__" = some (some (.builtin "Exception.__init__"))) (l_BadMap : K.lookup i_BadMap = some ⟨oc_BadMap, od_BadMap, .func (PySem.W.ksFn "__init__" "BadMap.__init__" (ErrX.eA "value" p1_BadMap p2_BadMap) (ErrX.eB "value" q1_BadMap q2_BadMap q3_BadMap q4_BadMap q5_BadMap q6_BadMap q7_BadMap q8_BadMap q9_BadMap q10_BadMap) (ErrX.eS "value") .none .none doc_BadMap pm_BadMap an_BadMap (.ref cda_BadMap) ct_BadMap cc_BadMap), osl_BadMap⟩) (hp_BadMap : (q3_BadMap.endLine == q5_BadMap.line) = true) (c_BadMap : PySem.W.codeIn K (.ref cda_BadMap) "BadMap.__init__" = true) (co_BadMap : K.lookup cda_BadMap = some ⟨ccl_BadMap, cdd_BadMap, .fields vs_BadMap, ccs_BadMap⟩) (v2_BadMap : vs_BadMap[2]? = some (.str file_BadMap tf_BadMap)) (hf_BadMap : ((l.prog.main.file : Str) == file_BadMap) = true) (ce_BadMap : K.lookup cc_BadMap = some ⟨cl_BadMap, cld_BadMap, .cell (some (.ref C_BadMap)), csl_BadMap⟩) :
    ∃ fd : FuncData, (∀ (s : Shared) (v : Value), BindsTo s fd ⟨[v], []⟩ [("_law_script", v)]) ∧ ∀ base : Heap, K.In base → base.Ns mainGlobals mg → FnOkG l.prog w K mg base CX0 7 fa fd ["_law_script"] (spLaw K) := by
  have e := hfa.symm.trans (PySem.W.mg_of X G a11)
  cases e
  have F0 := fun_mk (st := s_is_made_of) l0 c0 k0
  have b0 := F0.binds (ps := ["text", "signs"]) fun _ _ _ _ _ _ us hl => match us, hl with | [_, _], _ => rfl
  have F1 := fun_mk (st := s_is_mark) l1 c1 k1
  have b1 := F1.binds (ps := ["value"]) fun _ _ _ _ _ _ us hl => match us, hl with | [_], _ => rfl
  have F2 := fun_mk (st := s_are_different) l2 c2 k2
  have b2 := F2.binds (ps := ["values"]) fun _ _ _ _ _ _ us hl => match us, hl with | [_], _ => rfl
  have F3 := fun_mk (st := s_is_dict_of_marks) l3 c3 k3
  have b3 := F3.binds (ps := ["value"]) fun _ _ _ _ _ _ us hl => match us, hl with | [_], _ => rfl
  have F4 := fun_mk (st := s_check_map) l4 c4 k4
  have b4 := F4.binds (ps := ["value"]) fun _ _ _ _ _ _ us hl => match us, hl with | [_], _ => rfl
  have F5 := fun_mk (st := s_then_d) l5 c5 k5
  have b5 := F5.binds (ps := ["first", "second"]) fun _ _ _ _ _ _ us hl => match us, hl with | [_, _], _ => rfl
  have F6 := fun_mk (st := s_backwards) l6 c6 k6
  have b6 := F6.binds (ps := ["first"]) fun _ _ _ _ _ _ us hl => match us, hl with | [_], _ => rfl
  have F7 := fun_mk (st := s_l_pool) l7 c7 k7
  have b7 := F7.binds (ps := ["_law_script", "_law_k"]) fun _ _ _ _ _ _ us hl => match us, hl with | [_, _], _ => rfl
  have F8 := fun_mk (st := s_l_draw) l8 c8 k8
  have b8 := F8.binds (ps := ["_law_pool_here", "_law_many"]) fun _ _ _ _ _ _ us hl => match us, hl with | [_, _], _ => rfl
  have F9 := fun_mk (st := s_l_mixed) l9 c9 k9
  have b9 := F9.binds (ps := ["_law_pool_here", "_law_things"]) fun _ _ _ _ _ _ us hl => match us, hl with | [_, _], _ => rfl
  have F10 := fun_mk (st := s_l_told) l10 c10 k10
  have b10 := F10.binds (ps := ["_law_door", "_law_one", "_law_two"]) fun _ _ _ _ _ _ us hl => match us, hl with | [_, _, _], _ => rfl
  have F11 := fun_mk (st := s_law) l11 c11 k11
  have b11 := F11.binds (ps := ["_law_script"]) fun _ _ _ _ _ _ us hl => match us, hl with | [_], _ => rfl
  have T : Txt l.prog K mg ⟨_, _, _, _, _, _, _, _, _, _, _, _, _, _, _, _, _, _, _, _, _, _, _, _, t_LETTERS, t_DIGITS, C_GraphError, C_BadMap, i_BadMap⟩ := ⟨⟨F0, PySem.W.mg_of X G a0, k0, b0⟩, ⟨F1, PySem.W.mg_of X G a1, k1, b1⟩, ⟨F2, PySem.W.mg_of X G a2, k2, b2⟩, ⟨F3, PySem.W.mg_of X G a3, k3, b3⟩, ⟨F4, PySem.W.mg_of X G a4, k4, b4⟩, ⟨F5, PySem.W.mg_of X G a5, k5, b5⟩, ⟨F6, PySem.W.mg_of X G a6, k6, b6⟩, ⟨F7, PySem.W.mg_of X G a7, k7, b7⟩, ⟨F8, PySem.W.mg_of X G a8, k8, b8⟩, ⟨F9, PySem.W.mg_of X G a9, k9, b9⟩, ⟨F10, PySem.W.mg_of X G a10, k10, b10⟩, ⟨F11, PySem.W.mg_of X G a11, k11, b11⟩, PySem.W.mg_of X G g_LETTERS, PySem.W.mg_of X G g_DIGITS, PySem.W.mg_none_of X G z_abs, PySem.W.mg_none_of X G z_all, PySem.W.mg_none_of X G z_dict, PySem.W.mg_none_of X G z_int, PySem.W.mg_none_of X G z_isinstance, PySem.W.mg_none_of X G z_len, PySem.W.mg_none_of X G z_list, PySem.W.mg_none_of X G z_max, PySem.W.mg_none_of X G z_min, PySem.W.mg_none_of X G z_range, PySem.W.mg_none_of X G z_repr, PySem.W.mg_none_of X G z_str, PySem.W.mg_none_of X G z_sum, PySem.W.mg_none_of X G z_super, PySem.W.mg_none_of X G z_zip, PySem.W.mg_of X G gG, { gC := PySem.W.mg_of X G gC_BadMap, cls := ⟨_, _, _, _, _, _, _, _, _, _, _, _, _, _, xL_BadMap⟩, sa := sa_BadMap, ga := ga_BadMap, gg := gg_BadMap, noN := nb_BadMap, iC := iC_BadMap, tC := tI_BadMap, kC := kC_BadMap, exC := eC_BadMap, exE := eE_BadMap, tyC := tC_BadMap, hdC := hC_BadMap, te := exm_of eC_BadMap isC_BadMap tC_BadMap sC_BadMap, mro := mr_BadMap, sup := su_BadMap, opq := opq, gS := PySem.W.mg_none_of X G gS, fld := ErrX.fld_value, fn := ⟨_, _, _, _, _, _, _, _, _, _, _, _, _, _, _, _, _, _, _, _, _, hp_BadMap, l_BadMap, c_BadMap, ⟨_, _, _, _, _, _, co_BadMap, v2_BadMap, hf_BadMap⟩, _, _, _, ce_BadMap⟩, top := tops }⟩
  exact ⟨_, fun s v => .of_eq rfl, fun base _ _ => ok_law T⟩
theorem walk {l : PySem.W.OpenLaw} {q : Program} {loose : List Str} {XP : (Str → Option Value) → Heap → Prop} {YP : World → Heap → Prop} {d : DefRec} {K : Params → PySem.W.Frag} (hn : l.most = some 63) (hdf : d.params.defaults = [])
    (hY : ∀ (w : World) (h : Heap), YP w h → (K w.params).In h)
    (F : ∀ (w : World) (mg : Str → Option Value) (fa : Addr) (h : Heap), (K w.params).In h → h.Ns mainGlobals mg → mg d.name = some (.ref fa) →
      ∃ fd : FuncData, (∀ (s : Shared) (u : Value), BindsTo s fd ⟨[u], []⟩ [("_law_script", u)]) ∧ ∀ base : Heap, (K w.params).In base → base.Ns mainGlobals mg → FnOkG l.prog w (K w.params) mg base CX0 7 fa fd ["_law_script"] (spLaw (K w.params))) :
    PySem.W.WalkO q loose XP YP l.row.toRowW d [] (fun f vs => PySem.call f vs) :=
  L2.walk_ofG (n := 63) (k := 7) (x := "_law_script") (CX := fun _ => CX0) (sp := fun w => spLaw (K w.params)) hn (by decide) hdf ⟨rfl, by decide, by decide⟩ hY F (fun _ _ a ns hl _ hS => ⟨a, ns, rfl, hS, hl, fun _ => rfl⟩) fun _ _ _ _ _ z => z
end SB
open PySem PySem.W PyProof.Rows
set_option maxRecDepth 100000 in
set_option maxHeartbeats 0 in
theorem PySem.Challenge.cw_samebytes_k15_maps_one_after_the_other_holds : PySem.Challenge.rw_samebytes_k15_maps_one_after_the_other.Holds := by
  w_on; o_law; k_head; (case hw => w_witness2)
  k_fill
  refine SB.walk (l := PySem.Challenge.rw_samebytes_k15_maps_one_after_the_other) rfl rfl (fun w h Y => PySem.W.kIn_of Y) ?F
  case F =>
    intro w mg fa h KX G hmg
    refine' SB.all_mk KX G hmg ?a0 ?l0 ?c0 ?k0 ?a1 ?l1 ?c1 ?k1 ?a2 ?l2 ?c2 ?k2 ?a3 ?l3 ?c3 ?k3 ?a4 ?l4 ?c4 ?k4 ?a5 ?l5 ?c5 ?k5 ?a6 ?l6 ?c6 ?k6 ?a7 ?l7 ?c7 ?k7 ?a8 ?l8 ?c8 ?k8 ?a9 ?l9 ?c9 ?k9 ?a10 ?l10 ?c10 ?k10 ?a11 ?l11 ?c11 ?k11 ?g_LETTERS ?g_DIGITS ?z_abs ?z_all ?z_dict ?z_int ?z_isinstance ?z_len ?z_list ?z_max ?z_min ?z_range ?z_repr ?z_str ?z_sum ?z_super ?z_zip ?gG ?opq ?gS ?tops ?gC_BadMap ?xL_BadMap ?sa_BadMap ?ga_BadMap ?gg_BadMap ?nb_BadMap ?iC_BadMap ?tI_BadMap ?kC_BadMap ?eC_BadMap ?eE_BadMap ?tC_BadMap ?hC_BadMap ?isC_BadMap ?sC_BadMap ?mr_BadMap ?su_BadMap ?l_BadMap ?hp_BadMap ?c_BadMap ?co_BadMap ?v2_BadMap ?hf_BadMap ?ce_BadMap
    (case a0 => k_is)
    (case l0 => k_is)
    (case c0 => k_is)
    (case k0 => k_is)
    (case a1 => k_is)
    (case l1 => k_is)
    (case c1 => k_is)
    (case k1 => k_is)
    (case a2 => k_is)
    (case l2 => k_is)
    (case c2 => k_is)
    (case k2 => k_is)
    (case a3 => k_is)
    (case l3 => k_is)
    (case c3 => k_is)
    (case k3 => k_is)
    (case a4 => k_is)
    (case l4 => k_is)
    (case c4 => k_is)
    (case k4 => k_is)
    (case a5 => k_is)
    (case l5 => k_is)
    (case c5 => k_is)
    (case k5 => k_is)
    (case a6 => k_is)
    (case l6 => k_is)
    (case c6 => k_is)
    (case k6 => k_is)
    (case a7 => k_is)
    (case l7 => k_is)
    (case c7 => k_is)
    (case k7 => k_is)
    (case a8 => k_is)
    (case l8 => k_is)
    (case c8 => k_is)
    (case k8 => k_is)
    (case a9 => k_is)
    (case l9 => k_is)
    (case c9 => k_is)
    (case k9 => k_is)
    (case a10 => k_is)
    (case l10 => k_is)
    (case c10 => k_is)
    (case k10 => k_is)
    (case a11 => k_is)
    (case l11 => k_is)
    (case c11 => k_is)
    (case k11 => k_is)
    (case g_LETTERS => k_is)
    (case g_DIGITS => k_is)
    (case z_abs => k_is)
    (case z_all => k_is)
    (case z_dict => k_is)
    (case z_int => k_is)
    (case z_isinstance => k_is)
    (case z_len => k_is)
    (case z_list => k_is)
    (case z_max => k_is)
    (case z_min => k_is)
    (case z_range => k_is)
    (case z_repr => k_is)
    (case z_str => k_is)
    (case z_sum => k_is)
    (case z_super => k_is)
    (case z_zip => k_is)
    (case gG => k_is)
    (case opq => k_is)
    (case gS => k_is)
    (case tops => decide +kernel)
    (case gC_BadMap => k_is)
    (case xL_BadMap => k_is)
    (case sa_BadMap => k_is)
    (case ga_BadMap => k_is)
    (case gg_BadMap => k_is)
    (case nb_BadMap => k_is)
    (case iC_BadMap => k_is)
    (case tI_BadMap => k_is)
    (case kC_BadMap => k_is)
    (case eC_BadMap => k_is)
    (case eE_BadMap => k_is)
    (case tC_BadMap => k_is)
    (case hC_BadMap => k_is)
    (case isC_BadMap => k_is)
    (case sC_BadMap => k_is)
    (case mr_BadMap => k_is)
    (case su_BadMap => ks_is)
    (case l_BadMap => k_is)
    (case hp_BadMap => rfl)
    (case c_BadMap => k_is)
    (case co_BadMap => k_is)
    (case v2_BadMap => rfl)
    (case hf_BadMap => decide +kernel)
    (case ce_BadMap => k_is)

