import PyProof.Rows.All
import Wide.All
import OpenK.AllK
import Wide.FinOn
import HandS.ForMost
import HandS.IsInst
import HandS.Style
import HandS.Walk
import HandS.Codes
import KE.KExcSuper
import HandS.ForExc
import HandS.ExcSuper
import HandS.ExcIs
import PyProof.ReprRoads
import HandS.DictComp
import HandS.Finally
import KE.KDictZip
import KE.KeyNested
import HandS.TupLen
import KE.KDictCopyH
import KE.KDictWalk
import KE.KDictList
import KE.SortKeyHeap
import PyProof.TupleOfSeq
import HandS.SortKw
import HandS.ExcValue
import HandS.Iter
import HandS.Lambda
import HandS.EndTab
import KE.KNest
import KE.GoesMore
import KE.GoesZip
import HandS.Wide
import HandS.TupAny
import HandS.TupMul
import HandS.Conv
import PySem.Challenge.RW_samebytes_k02_objects_and_their_order
set_option Elab.async false
set_option linter.all false
set_option maxRecDepth 100000
set_option maxHeartbeats 4000000
namespace SB
open PySem L2

/-! ### heaps that stay but for one place -/
def SameX (D : Addr) (H H' : Hp) : Prop := ∀ b o, b ≠ D → H b = some o → H' b = some o
theorem Same.x {D : Addr} {H H' : Hp} (h : Same H H') : SameX D H H' := fun b o _ e => h b o e
theorem SameX.trans {D : Addr} {A B C : Hp} (a : SameX D A B) (b : SameX D B C) : SameX D A C := fun c o n e => b c o n (a c o n e)
theorem SameX.refl {D : Addr} {A : Hp} : SameX D A A := fun _ _ _ e => e
theorem SameX.put {D : Addr} {H : Hp} {o : HO} : SameX D H (upd H D o) := fun b u n e => by rw [upd_ne n]; exact e
theorem SameX.same {D : Addr} {H H' : Hp} (h : SameX D H H') (n : H D = none) : Same H H' := fun b o e => h b o (ne_of_none e n) e
theorem same_new {H : Hp} {p : Addr} {o : HO} (h : H p = none) : Same H (upd H p o) := fun b u e => by rw [upd_ne (ne_of_none e h)]; exact e
theorem same_new2 {H0 H : Hp} {p : Addr} {o : HO} (s : Same H0 H) (h : H p = none) : Same H0 (upd H p o) := s.trans (same_new h)

/-! ### tests whose answer is told by an equation -/
theorem ifT {c : Bool} {A B : Prop} (e : c = true) (h : A) : if c = true then A else B := by rw [if_pos e]; exact h
theorem ifF {c : Bool} {A B : Prop} (e : c = false) (h : B) : if c = true then A else B := by rw [if_neg (by rw [e]; decide)]; exact h
theorem ifB {c : Bool} {A B : Prop} (h1 : c = true → A) (h2 : c = false → B) : if c = true then A else B := by
  cases e : c with
  | true => exact ifT rfl (h1 e)
  | false => exact ifF rfl (h2 e)

theorem atI_int {α : Type} {xs : List α} {k : Int} {v : α} (h0 : 0 ≤ k) (h : xs[k.toNat]? = some v) : atI xs k = some v := by
  have ek : ((k.toNat : Nat) : Int) = k := by omega
  have e := atI_nat h
  rw [ek] at e
  exact e

/-! ### a def that stands at the module's top -/
structure Defd (K : PySem.W.Frag) (mg : Str → Option Value) (x : Str) (st : Stmt) (ps : List Str) (f : Addr) (fd : FuncData) : Prop where
  F : Fun K x x st f fd
  g : mg x = some (.ref f)
  k : PySem.W.keepIn K (.ref f) = true
  b : Binds K fd ps []

/-! ### a call by names alone -/
section
variable {X : Cx} {CX : CXT} {k : Nat} {f : Addr} {fd : FuncData} {ps ks : List Str} {sp : Sp} {E : XK} {x : Str} {p pos : Pos} {kws : List Keyword} {tk : TA} {g : List Value → List Value → List Value} {gV : List V → List V → List V}
def tCallK0 (sp : Sp) (gV : List V → List V → List V) (E : XK) (tk : TA) : TE := fun σ H Q => tk σ H fun zs H2 => sp (gV [] zs) H2 Q E
theorem pe_callK0 (F : FnOk X.prog X.w X.K X.mg X.base CX k f fd ps sp) (hr : Room k X.A) (hg : Gl X x) (hm : X.mg x = some (.ref f)) (hk : PySem.W.keepIn X.K (.ref f) = true)
    (hb : KBinds X.K fd ps ks g gV) (hx : Passes CX X E) (hkw : PK X kws tk)
    (hall : (backToKw pos (keywordEach kws X.env)).all (·.1.isSome) = true := by rfl)
    (hks : (backToKw pos (keywordEach kws X.env)).filterMap (·.1) = ks := by rfl)
    (hdb : (x == ("__debug__" : Str)) = false := by decide)
    (hpl : ((backTo pos (starEach [] X.env)).any (·.1) || (backToKw pos (keywordEach kws X.env)).any (·.1.isNone)) = false := by rfl) :
    PE X (.Call (.Name x p) [] kws pos) (tCallK0 sp gV E tk) := by
  constructor
  intro pins s σ H Q I h
  refine wpAny_Call_Name_kw (ld_glob I hg hm ?_ hdb)
  refine PySem.W.callWith_KW0 (h₀ := X.base) I.ok.mod.kin hk hall ?_ hpl
  refine thn (hkw.run pos pins s σ H _ I h) fun ws s2 q => ?_
  obtain ⟨zs, H2, I2, rz, q2⟩ := q
  refine ⟨I2.kIn, ?_⟩
  rw [hks]
  exact run_fnk (us := []) (vs := []) F hr hb hx I2 .nil rz q2
end
theorem kbind1 {K : PySem.W.Frag} {x y qual : Str} {st : Stmt} {f : Addr} {fd : FuncData} (F : Fun K x qual st f fd)
    (h : ∀ (kV doc pm : Value) (an : Option Addr) (cdv ct : Value) (u : Value), bindArgs (PySem.W.fnOf x qual (defArgs st) (defBody st) (defScope st) .none kV doc pm an cdv ct) ⟨[], [(y, u)]⟩ = pure [(y, u)])
    (h2 : ∀ (kV doc pm : Value) (an : Option Addr) (cdv ct : Value) (u : Value), bindArgs (PySem.W.fnOf x qual (defArgs st) (defBody st) (defScope st) .none kV doc pm an cdv ct) ⟨[u], []⟩ = pure [(y, u)]) :
    KBinds K fd [y] [y] (fun us ws => us ++ ws) (fun us ws => us ++ ws) := by
  obtain ⟨oc, od, kV, doc, pm, an, cdv, ct, osl, rfl, lk, hcd⟩ := F.ex
  refine ⟨fun s us ws _ hl => ?_, fun a b => a.append b⟩
  match us, ws, hl with
  | [], [w], _ => exact .of_eq (h _ _ _ _ _ _ _)
  | [u], [], _ => exact .of_eq (h2 _ _ _ _ _ _ _)

/-! ### any value of the program's own kinds -/
def kinds : List String := ["NoneType", "bool", "int", "str", "list", "tuple", "dict"]
def asked : List String := ["str", "int", "bool", "tuple", "dict", "list"]
def isT (s T : String) : Bool := s == T || (s == "bool" && T == "int")
theorem kit_all : ∀ s ∈ kinds, ∀ T ∈ asked, kitB s T = some (isT s T) := by decide +kernel
structure AnyV (K : PySem.W.Frag) (H : Hp) (v : V) (s : String) : Prop where
  ty : TyX K H v (.type s)
  mem : s ∈ kinds
  small : ∀ x, v = .str x → x.length ≤ sizeLine
theorem AnyV.isi {K : PySem.W.Frag} {H : Hp} {v : V} {s : String} (a : AnyV K H v s) {T : String} (h : T ∈ asked := by decide) : PySem.W.kitOne K (.type s) (.type T) = some (isT s T) :=
  kit_ty (kit_all s a.mem T h)
theorem any_non {K : PySem.W.Frag} {H : Hp} : AnyV K H .non "NoneType" := ⟨.base .non, by decide, fun _ e => by cases e⟩
theorem any_bl {K : PySem.W.Frag} {H : Hp} (b : Bool) : AnyV K H (.bl b) "bool" := ⟨.base (.bl b), by decide, fun _ e => by cases e⟩
theorem any_int {K : PySem.W.Frag} {H : Hp} (i : Int) : AnyV K H (.int i) "int" := ⟨.base (.int i), by decide, fun _ e => by cases e⟩
theorem any_str {K : PySem.W.Frag} {H : Hp} {x : Str} (h : x.length ≤ sizeLine) : AnyV K H (.str x) "str" := ⟨.base (.str x), by decide, fun _ e => by cases e; exact h⟩
theorem any_lst {K : PySem.W.Frag} {H : Hp} {a : Addr} {xs : List V} (h : H a = some (.lst xs)) : AnyV K H (.ref a) "list" := ⟨.base (.lst h), by decide, fun _ e => by cases e⟩
theorem any_tup {K : PySem.W.Frag} {H : Hp} {a : Addr} {xs : List V} (h : H a = some (.tup xs)) : AnyV K H (.ref a) "tuple" := ⟨.base (.tup h), by decide, fun _ e => by cases e⟩
theorem any_dK {K : PySem.W.Frag} {H : Hp} {a : Addr} {xs : List (Key × V)} (h : H a = some (.dK xs)) : AnyV K H (.ref a) "dict" := ⟨.base (.dK h), by decide, fun _ e => by cases e⟩
theorem AnyV.cases {K : PySem.W.Frag} {H : Hp} {v : V} {s : String} (a : AnyV K H v s) :
    (v = .non ∧ s = "NoneType") ∨ (∃ b, v = .bl b ∧ s = "bool") ∨ (∃ i, v = .int i ∧ s = "int") ∨ (∃ x, v = .str x ∧ s = "str" ∧ x.length ≤ sizeLine) ∨ (∃ p, v = .ref p ∧ (s = "list" ∨ s = "tuple" ∨ s = "dict")) := by
  obtain ⟨ty, mem, sm⟩ := a
  generalize ht : Value.type s = t at ty
  cases ty with
  | base b =>
    cases b with
    | non => cases ht; exact .inl ⟨rfl, rfl⟩
    | bl y => cases ht; exact .inr (.inl ⟨y, rfl, rfl⟩)
    | int i => cases ht; exact .inr (.inr (.inl ⟨i, rfl, rfl⟩))
    | str y => cases ht; exact .inr (.inr (.inr (.inl ⟨y, rfl, rfl, sm y rfl⟩)))
    | flt y => cases ht; exact absurd mem (by decide)
    | lst e => cases ht; exact .inr (.inr (.inr (.inr ⟨_, rfl, .inl rfl⟩)))
    | frz e => cases ht; exact .inr (.inr (.inr (.inr ⟨_, rfl, .inl rfl⟩)))
    | tup e => cases ht; exact .inr (.inr (.inr (.inr ⟨_, rfl, .inr (.inl rfl)⟩)))
    | dK e => cases ht; exact .inr (.inr (.inr (.inr ⟨_, rfl, .inr (.inr rfl)⟩)))
    | dT e => cases ht; exact .inr (.inr (.inr (.inr ⟨_, rfl, .inr (.inr rfl)⟩)))
    | ins e => cases ht
  | byt b => cases ht; exact absurd mem (by decide)
  | set e => cases ht; exact absurd mem (by decide)
  | kList e c => cases ht; exact .inr (.inr (.inr (.inr ⟨_, rfl, .inl rfl⟩)))
  | kTuple e c => cases ht; exact .inr (.inr (.inr (.inr ⟨_, rfl, .inr (.inl rfl)⟩)))
  | kDict e c => cases ht; exact .inr (.inr (.inr (.inr ⟨_, rfl, .inr (.inr rfl)⟩)))
  | fTuple e => cases ht; exact .inr (.inr (.inr (.inr ⟨_, rfl, .inr (.inl rfl)⟩)))
  | fDict e => cases ht; exact .inr (.inr (.inr (.inr ⟨_, rfl, .inr (.inr rfl)⟩)))
/-- such a value stays one while the heap stays -/
theorem AnyV.mono {K : PySem.W.Frag} {H H' : Hp} {v : V} {s : String} (a : AnyV K H v s) (h : Same H H') : AnyV K H' v s := by
  obtain ⟨ty, mem, sm⟩ := a
  refine ⟨?_, mem, sm⟩
  cases ty with
  | base b =>
    cases b with
    | non => exact .base .non
    | bl y => exact .base (.bl y)
    | int i => exact .base (.int i)
    | str y => exact .base (.str y)
    | flt y => exact .base (.flt y)
    | lst e => exact .base (.lst (h _ _ e))
    | frz e => exact .base (.frz (h _ _ e))
    | tup e => exact .base (.tup (h _ _ e))
    | dK e => exact .base (.dK (h _ _ e))
    | dT e => exact .base (.dT (h _ _ e))
  | byt b => exact .byt b
  | set e => exact .set (h _ _ e)
  | kList e c => exact .kList e c
  | kTuple e c => exact .kTuple e c
  | kDict e c => exact .kDict e c
  | fTuple e => exact .fTuple (h _ _ e)
  | fDict e => exact .fDict (h _ _ e)

/-! ### is, is not of a flat value and a bool -/
section
variable {X : Cx}
def flatV : V → Bool
  | .non => true
  | .bl _ => true
  | .int _ => true
  | _ => false
theorem op_notBV : OpR X (compareOp .IsNot) (fun x y H Q => ∃ b : Bool, y = .bl b ∧ (∃ i, x = .int i) ∧ Q (.bl true) H) := by
  intro pins s σ H x y v u Q I rx ry h
  obtain ⟨b, rfl, ⟨i, rfl⟩, q⟩ := h
  obtain ⟨t, rfl⟩ := (show ∃ t, v = Value.int i t from rx)
  cases (show u = Value.bool b from ry)
  exact wpAny_isNot_other rfl (fun z => nomatch z) ⟨.bl true, H, I, rfl, q⟩
def rNotBB : R2 := fun x y H Q => ∃ b : Bool, y = .bl b ∧ ((∃ i, x = .int i) ∧ Q (.bl true) H ∨ ∃ a, x = .bl a ∧ Q (.bl (!decide (a = b))) H)
theorem op_notBB : OpR X (compareOp .IsNot) rNotBB := by
  intro pins s σ H x y v u Q I rx ry h
  obtain ⟨b, rfl, h⟩ := h
  rcases h with ⟨⟨i, rfl⟩, q⟩ | ⟨a, rfl, q⟩
  · exact op_notBV pins s σ H _ _ v u Q I rx ry ⟨b, rfl, ⟨i, rfl⟩, q⟩
  · exact op_notBl pins s σ H _ _ v u Q I rx ry ⟨a, b, rfl, rfl, q⟩
end

/-! ### a comprehension whose element leaves what stands -/
section
variable {J : It} {n : Nat} {G : Hp → Prop} {Y : Nat → Hp → V → Hp → Prop}
theorem lc_map (w : Walk J n G Y) {g : TG} {te : TE} {vs : List Nat} {σ : St} {H1 : Hp} {D : Addr} {Qd : Hp → Prop} (hD : H1 D = none) (hn : n ≤ sizeLine) (hG : ∀ H, Same H1 H → G H) (f : Nat → V)
    (hs : ∀ i x H H' (R : VK), i < n → Same H1 H → (∃ acc, H D = some (.lst acc)) → Y i H x H' → (∀ H4, Same H H4 → R (f i) H4) → g x (wipe σ vs) H' fun σ2 H2 => wipe σ2 vs = wipe σ vs ∧ te σ2 H2 R)
    (hd : ∀ H, Same H1 H → H D = some (.lst ((List.range n).map f)) → Qd H) :
    ∃ W : Nat → Nat → Hp → Prop, (∃ m, W 0 m (upd H1 D (.lst []))) ∧ ∀ i m H, W i m H →
      (J.stop i H ∧ Qd H) ∨ (J.go i H ∧ ∃ Nx : Hp → Prop, (∀ H', Nx H' → ∃ m', m' < m ∧ W (i + 1) m' H') ∧ ∀ x H', J.yld i H x H' → g x (wipe σ vs) H' fun σ2 H2 => wipe σ2 vs = wipe σ vs ∧ tYes σ2 H2 fun b H3 =>
        if b = true then te σ2 H3 fun y H4 => ∃ acc, H4 D = some (.lst acc) ∧ acc.length < sizeLine ∧ Nx (upd H4 D (.lst (acc ++ [y]))) else Nx H3) := by
  refine lc_it w (fun i H => Same H1 H ∧ H D = some (.lst ((List.range i).map f))) ⟨same_new hD, upd_same⟩ (fun i H _ p => hG H p.1) ?_ (fun H p => hd H p.1 p.2)
  intro i x H H' hi p y
  refine hs i x H H' _ hi p.1 ⟨_, p.2⟩ y fun H4 s4 => ?_
  refine ⟨_, s4 _ _ p.2, ?_, ?_, ?_⟩
  · rw [List.length_map, List.length_range]; omega
  · intro b o eb
    rw [upd_ne (ne_of_none eb hD)]
    exact s4 _ _ (p.1 _ _ eb)
  · rw [upd_same, List.range_succ, List.map_append]
    rfl
/-- the same over the items of a list ys: the new list is ys.map F -/
theorem lc_mapL {α : Type} {ys : List α} (w : Walk J ys.length G Y) {g : TG} {te : TE} {vs : List Nat} {σ : St} {H1 : Hp} {D : Addr} {Qd : Hp → Prop} (hD : H1 D = none) (hn : ys.length ≤ sizeLine) (hG : ∀ H, Same H1 H → G H) (F : α → V)
    (hs : ∀ i y x H H' (R : VK), ys[i]? = some y → Same H1 H → (∃ acc, H D = some (.lst acc)) → Y i H x H' → (∀ H4, Same H H4 → R (F y) H4) → g x (wipe σ vs) H' fun σ2 H2 => wipe σ2 vs = wipe σ vs ∧ te σ2 H2 R)
    (hd : ∀ H, Same H1 H → H D = some (.lst (ys.map F)) → Qd H) :
    ∃ W : Nat → Nat → Hp → Prop, (∃ m, W 0 m (upd H1 D (.lst []))) ∧ ∀ i m H, W i m H →
      (J.stop i H ∧ Qd H) ∨ (J.go i H ∧ ∃ Nx : Hp → Prop, (∀ H', Nx H' → ∃ m', m' < m ∧ W (i + 1) m' H') ∧ ∀ x H', J.yld i H x H' → g x (wipe σ vs) H' fun σ2 H2 => wipe σ2 vs = wipe σ vs ∧ tYes σ2 H2 fun b H3 =>
        if b = true then te σ2 H3 fun y H4 => ∃ acc, H4 D = some (.lst acc) ∧ acc.length < sizeLine ∧ Nx (upd H4 D (.lst (acc ++ [y]))) else Nx H3) := by
  refine lc_it w (fun i H => Same H1 H ∧ H D = some (.lst ((ys.take i).map F))) ⟨same_new hD, upd_same⟩ (fun i H _ p => hG H p.1) ?_ (fun H p => hd H p.1 (by rw [p.2, List.take_length]))
  intro i x H H' hi p y
  obtain ⟨z, hz⟩ : ∃ z, ys[i]? = some z := ⟨ys[i], List.getElem?_eq_getElem hi⟩
  refine hs i z x H H' _ hz p.1 ⟨_, p.2⟩ y fun H4 s4 => ?_
  refine ⟨_, s4 _ _ p.2, ?_, ?_, ?_⟩
  · rw [List.length_map, List.length_take]; omega
  · intro b o eb
    rw [upd_ne (ne_of_none eb hD)]
    exact s4 _ _ (p.1 _ _ eb)
  · rw [upd_same, List.take_succ, hz, List.map_append]
    rfl
/-- .. with a test: the new list is (ys.filter B).map F -/
theorem lc_filL {α : Type} {ys : List α} (w : Walk J ys.length G Y) {g : TG} {tt : TT} {te : TE} {vs : List Nat} {σ : St} {H1 : Hp} {D : Addr} {Qd : Hp → Prop} (hD : H1 D = none) (hn : ys.length ≤ sizeLine) (hG : ∀ H, Same H1 H → G H) (B : α → Bool) (F : α → V)
    (hs : ∀ i y x H H' (R : VK) (N : Hp → Prop), ys[i]? = some y → Same H1 H → (∃ acc, H D = some (.lst acc)) → Y i H x H' → (∀ H4, Same H H4 → B y = true → R (F y) H4) → (∀ H4, Same H H4 → B y = false → N H4) →
      g x (wipe σ vs) H' fun σ2 H2 => wipe σ2 vs = wipe σ vs ∧ tt σ2 H2 fun b H3 => if b = true then te σ2 H3 R else N H3)
    (hd : ∀ H, Same H1 H → H D = some (.lst ((ys.filter B).map F)) → Qd H) :
    ∃ W : Nat → Nat → Hp → Prop, (∃ m, W 0 m (upd H1 D (.lst []))) ∧ ∀ i m H, W i m H →
      (J.stop i H ∧ Qd H) ∨ (J.go i H ∧ ∃ Nx : Hp → Prop, (∀ H', Nx H' → ∃ m', m' < m ∧ W (i + 1) m' H') ∧ ∀ x H', J.yld i H x H' → g x (wipe σ vs) H' fun σ2 H2 => wipe σ2 vs = wipe σ vs ∧ tt σ2 H2 fun b H3 =>
        if b = true then te σ2 H3 fun y H4 => ∃ acc, H4 D = some (.lst acc) ∧ acc.length < sizeLine ∧ Nx (upd H4 D (.lst (acc ++ [y]))) else Nx H3) := by
  refine lc_it w (fun i H => Same H1 H ∧ H D = some (.lst (((ys.take i).filter B).map F))) ⟨same_new hD, upd_same⟩ (fun i H _ p => hG H p.1) ?_ (fun H p => hd H p.1 (by rw [p.2, List.take_length]))
  intro i x H H' hi p y
  obtain ⟨z, hz⟩ : ∃ z, ys[i]? = some z := ⟨ys[i], List.getElem?_eq_getElem hi⟩
  have et : ys.take (i + 1) = ys.take i ++ [z] := by rw [List.take_succ, hz]; rfl
  refine hs i z x H H' _ _ hz p.1 ⟨_, p.2⟩ y (fun H4 s4 hb => ?_) (fun H4 s4 hb => ?_)
  · refine ⟨_, s4 _ _ p.2, ?_, ?_, ?_⟩
    · rw [List.length_map]
      have h1 := List.length_filter_le B (ys.take i)
      rw [List.length_take] at h1
      omega
    · intro b o eb
      rw [upd_ne (ne_of_none eb hD)]
      exact s4 _ _ (p.1 _ _ eb)
    · rw [upd_same, et, List.filter_append, List.map_append, List.filter_cons_of_pos hb]
      rfl
  · refine ⟨p.1.trans s4, ?_⟩
    rw [et, List.filter_append, List.map_append, List.filter_cons_of_neg (by rw [hb]; decide)]
    simpa using s4 _ _ p.2
/-- the signs of a text, as a walk of its list of codes -/
theorem walk_signs {z : Str} : Walk (Its z) z.cps.toList.length (fun _ => True) (fun i H v H' => H' = H ∧ ∃ c, z.cps.toList[i]? = some c ∧ v = .str ⟨#[c]⟩) := by
  have h := walk_str (z := z)
  rw [← Array.length_toList] at h
  refine h.mono (fun _ _ => trivial) fun i H x H' _ _ y => ?_
  obtain ⟨e, c, hc, ev⟩ := y
  exact ⟨e, c, by rw [Array.getElem?_toList]; exact hc, ev⟩
end
end SB

set_option Elab.async false
set_option linter.all false
set_option maxRecDepth 100000
set_option maxHeartbeats 4000000
/-! errors of the program's own: class E(GraphError) with __init__(self, f): super().__init__(f); self.f = f -/
namespace PySem
namespace ErrX
open PySem.W PySem.Calls PyProof.Rows PySem.HandSPX
abbrev tailE : List Value := [.type "Exception", .type "BaseException", .type "object"]
/-! ### the text of __init__ -/
def eA (f : Str) (p1 p2 : Pos) : Arguments := { posonlyargs := [], args := [{ arg := "self", annotation := none, pos := p1 }, { arg := f, annotation := none, pos := p2 }], vararg := none, kwonlyargs := [], kw_defaults := [], kwarg := none, defaults := [] }
def eB (f : Str) (q1 q2 q3 q4 q5 q6 q7 q8 q9 q10 : Pos) : List Stmt :=
  [.Expr (.Call (.Attribute (.Call (.Name "super" q1) [] [] q2) "__init__" q3) [.Name f q4] [] q5) q6, .Assign [.Attribute (.Name "self" q7) f q8] (.Name f q9) q10]
def eS (f : Str) : Scope := { kind := .function, names := [(PySem.Str.ofString "self", .local), (f, .local), (PySem.Str.ofString "__class__", .free), (PySem.Str.ofString "super", .globalImplicit)], isGenerator := false, isCoroutine := false, more := [] }
/-- the names that a field may have -/
structure FldOk (f : Str) : Prop where
  self : (f == ("self" : Str)) = false
  cls : (f == ("__class__" : Str)) = false
  sup : (f == ("super" : Str)) = false
  dbg : (f == ("__debug__" : Str)) = false
  bnd : ∀ (qual : Str) (p1 p2 : Pos) (body : List Stmt) (doc pm : Value) (an : Option Addr) (cdv ct : Value) (cc : Addr) (u v : Value), bindArgs (ksFn "__init__" qual (eA f p1 p2) body (eS f) .none .none doc pm an cdv ct cc) ⟨[u, v], []⟩ = pure [(("self" : Str), u), (f, v)]
  bndK : ∀ (qual : Str) (p1 p2 : Pos) (body : List Stmt) (doc pm : Value) (an : Option Addr) (cdv ct : Value) (cc : Addr) (u v : Value), bindArgs (ksFn "__init__" qual (eA f p1 p2) body (eS f) .none .none doc pm an cdv ct cc) ⟨[u], [(f, v)]⟩ = pure [(("self" : Str), u), (f, v)]
theorem fld_value : FldOk "value" := ⟨by decide +kernel, by decide +kernel, by decide +kernel, by decide +kernel, fun _ _ _ _ _ _ _ _ _ _ _ _ => rfl, fun _ _ _ _ _ _ _ _ _ _ _ _ => rfl⟩
theorem fld_mark : FldOk "mark" := ⟨by decide +kernel, by decide +kernel, by decide +kernel, by decide +kernel, fun _ _ _ _ _ _ _ _ _ _ _ _ => rfl, fun _ _ _ _ _ _ _ _ _ _ _ _ => rfl⟩
theorem fld_number : FldOk "number" := ⟨by decide +kernel, by decide +kernel, by decide +kernel, by decide +kernel, fun _ _ _ _ _ _ _ _ _ _ _ _ => rfl, fun _ _ _ _ _ _ _ _ _ _ _ _ => rfl⟩
theorem fld_name : FldOk "name" := ⟨by decide +kernel, by decide +kernel, by decide +kernel, by decide +kernel, fun _ _ _ _ _ _ _ _ _ _ _ _ => rfl, fun _ _ _ _ _ _ _ _ _ _ _ _ => rfl⟩
theorem fld_line : FldOk "line" := ⟨by decide +kernel, by decide +kernel, by decide +kernel, by decide +kernel, fun _ _ _ _ _ _ _ _ _ _ _ _ => rfl, fun _ _ _ _ _ _ _ _ _ _ _ _ => rfl⟩
theorem fld_index : FldOk "index" := ⟨by decide +kernel, by decide +kernel, by decide +kernel, by decide +kernel, fun _ _ _ _ _ _ _ _ _ _ _ _ => rfl, fun _ _ _ _ _ _ _ _ _ _ _ _ => rfl⟩
theorem fld_clashes : FldOk "clashes" := ⟨by decide +kernel, by decide +kernel, by decide +kernel, by decide +kernel, fun _ _ _ _ _ _ _ _ _ _ _ _ => rfl, fun _ _ _ _ _ _ _ _ _ _ _ _ => rfl⟩
/-- what the written part says of the error's class, at C, and of its __init__, at fI; G: GraphError -/
structure ErrTxt (P : Program) (K : Frag) (mg : Str → Option Value) (x f qual : Str) (C G fI : Addr) : Prop where
  gC : mg x = some (.ref C)
  cls : ∃ nm q N bs sn sub ab col dd k0 k1 k2 k3 k5, K.lookup C = some (excClassObj nm q C N bs (.ref G :: tailE) true sn sub ab col dd k0 k1 k2 k3 k5 "Exception.__new__")
  sa : findIn K (.ref C) "__setattr__" = some (some (.builtin "object.__setattr__"))
  ga : findIn K (.ref C) "__getattribute__" = some (some (.builtin "BaseException.__getattribute__"))
  gg : findIn K (.ref C) "__getattr__" = some none
  noN : findIn K (.ref C) f = some none
  iC : findIn K (.ref C) "__init__" = some (some (.ref fI))
  tC : typeIn K (.ref fI) = some (.type "function")
  kC : keepIn K (.ref C) = true
  exC : subIn K (.ref C) (.type "BaseException") = some true
  exE : subIn K (.ref C) (.type "Exception") = some true
  tyC : typeIn K (.ref C) = some (.type "type")
  hdC : hasDictIn K C = true
  te : exmOne K (.ref C) (.ref C) = some true
  mro : mroIn K C (.ref C) = some true
  sup : ks_superIn K C C "__init__" = some (some (.builtin "Exception.__init__"))
  opq : nsIn K cStatics "thirdparty.any" = some none
  gS : mg "super" = none
  fld : FldOk f
  fn : ∃ (oc : Value) (od : Option Addr) (doc pm : Value) (an : Option Addr) (cda : Addr) (ct : Value) (osl : Array (Option Value)) (cc : Addr) (p1 p2 q1 q2 q3 q4 q5 q6 q7 q8 q9 q10 : Pos), (q3.endLine == q5.line) = true ∧
    K.lookup fI = some ⟨oc, od, .func (ksFn "__init__" qual (eA f p1 p2) (eB f q1 q2 q3 q4 q5 q6 q7 q8 q9 q10) (eS f) .none .none doc pm an (.ref cda) ct cc), osl⟩ ∧ codeIn K (.ref cda) qual = true ∧
    (∃ ccl cdd vs ccs file tf, K.lookup cda = some ⟨ccl, cdd, .fields vs, ccs⟩ ∧ vs[2]? = some (.str file tf) ∧ ((P.main.file : Str) == file) = true) ∧ ∃ cl cld csl, K.lookup cc = some ⟨cl, cld, .cell (some (.ref C)), csl⟩
  top : (P.main.scope.names.lookup ("super" : Str)).isSome = false
/-! ### the first field that is stored -/
section
open Builtin Builtin.ObjectAttr
variable {prog : Program} {w : World} {A : Around} {R : Result → Shared → Prop} {hp : Heap} {g : Array GenState} {d : Drawn} {t : Nat} {os : OsState}
theorem store_first {K : Frag} {name : Str} {tk : Tok} {v : Value} {x C G : Addr} {fv : Array Value} {cd : ClassData} (X : K.In hp) (hx : hp.get? x = some { cls := .ref C, data := .fields fv })
    (hcd : clsIn K C = some cd) (hm : cd.mro = .ref C :: .ref G :: tailE) (hh : cd.hasDict = true) (ha : findIn K (.ref C) name = some none)
    (hq : ∀ h' tk' dx, (∀ b o, b ≠ x → hp.get? b = some o → h'.get? b = some o) → hp.objs.size ≤ dx → dx ≠ x → h'.get? x = some { cls := .ref C, dict := some dx, data := .fields fv } →
      h'.Ns1 dx (fun y => if y = name then some v else none) → R (.ok (.ret .none)) ⟨h', g, d, tk', os⟩) :
    codeAny (model prog w) A (.call (.builtin "object.__setattr__") ⟨[.ref x, .str name tk, v], []⟩) R ⟨hp, g, d, t, os⟩ := by
  have inst : InstAt hp x { cls := .ref C, data := .fields fv } C none := ⟨hx, rfl, rfl, trivial⟩
  have SO := F.store_object
  have apart : x ≠ hp.objs.size := Nat.ne_of_lt (Heap.lt_size hx)
  have cont : (Value.ref C :: .ref G :: tailE).contains (.type "object") = true := by
    rw [List.contains_cons, List.contains_cons, show tailE.contains (.type "object") = true by decide +kernel]
    simp
  have sub : Looks (model prog w) hp (isInstance (.ref x) (.type "object")) true := by
    refine inst.type.andThen (looks_mroIn X ?_)
    unfold mroIn
    rw [hcd, Option.bind_some, hm, if_neg (by simp), cont]
  refine codeAny_call_builtin SO.slot.plain SO.entry ?_
  refine @check_slot (model prog w) _ _ ⟨hp, g, d, t, os⟩ "object.__setattr__" "object" "__setattr__" (.ref x) [.str name tk, v] [] _ SO.kind SO.split sub (SO.args (.ref x) (.str name tk) v) ?_
  have seeM : Looks (model prog w) hp (mroOf (.ref C)) cd.mro := (looks_clsIn X hcd).andThen .now
  have seeT : Looks (model prog w) hp (storeTaker? none) none := .now
  have seeC : Looks (model prog w) hp (classData C) cd := looks_clsIn X hcd
  rw [osa_eq, refuse_eq]
  refine wpAny_bind (wpAny_bind (inst.type.at (wpAny_bind (seeM.at ?_))))
  rw [hm, refuseLoop_ref, refuseLoop_ref, show refuseLoop (.ref x) "__setattr__" tailE = pure () from F.store_Exception.passes _]
  refine wpAny_pure (wpAny_bind (inst.type.at (wpAny_bind ((looks_findIn X ha).at (wpAny_bind (seeT.at ?_))))))
  show wpAny _ _ (storeInOwnDict (.ref x) (.ref C) (.str name tk) name v false) _ _ _
  obtain ⟨nm, bs, mro, ns, qn, hd, sn, sb, ab, col, del⟩ := cd
  dsimp only at hh
  subst hh
  unfold storeInOwnDict ownDictForStores
  repeat (first | with_reducible refine store_in_new ?_ ?_ | with_reducible refine wpAny_loadPart_at hx ?_ | with_reducible refine seeC.at ?_ | wp_step)
  · refine ⟨_, #[], _, (Heap.get?_update_ne _ _ _ _ apart.symm).trans (Heap.get?_push_at rfl rfl), rfl, fun e he => absurd he (by simp), fun _ => rfl⟩
  · intro h' tk' hn' hs
    have old : (hp.push { cls := .type "dict", data := .dict #[] }).get? x = some { cls := .ref C, data := .fields fv } := Heap.get?_push_of_some _ hx
    refine hq h' tk' hp.objs.size (fun b o hb ho => ?_) (Nat.le_refl _) apart.symm ((hs.2 x apart).trans (Heap.get?_update_self _ old rfl)) hn'
    have far : b ≠ hp.objs.size := Nat.ne_of_lt (Heap.lt_size ho)
    exact (hs.2 b far).trans ((Heap.get?_update_ne _ _ _ _ hb).trans (Heap.get?_push_of_some _ ho))
end
end ErrX
end PySem

set_option Elab.async false
set_option linter.all false
set_option maxRecDepth 100000
set_option maxHeartbeats 4000000
namespace PySem
namespace ErrX
open PySem.W PySem.Calls PyProof.Rows PySem.HandSPX
theorem look_self (f : Str) : (eS f).names.lookup ("self" : Str) = some .local := by
  show List.lookup ("self" : Str) ((PySem.Str.ofString "self", NameKind.local) :: _) = _
  simp [List.lookup]
theorem look_fld {f : Str} (h : FldOk f) : (eS f).names.lookup f = some .local := by
  have h1 : (f == PySem.Str.ofString "self") = false := h.self
  simp [eS, List.lookup, h1]
theorem look_cls {f : Str} (h : FldOk f) : (eS f).names.lookup ("__class__" : Str) = some .free := by
  have h1 : (("__class__" : Str) == f) = false := by
    have := h.cls
    rw [beq_eq_false_iff_ne] at this ⊢
    exact this.symm
  have h2 : (("__class__" : Str) == PySem.Str.ofString "self") = false := by decide +kernel
  simp [eS, List.lookup, h1, h2]
theorem look_sup {f : Str} (h : FldOk f) : (eS f).names.lookup ("super" : Str) = some .globalImplicit := by
  have h1 : (("super" : Str) == f) = false := by
    have := h.sup
    rw [beq_eq_false_iff_ne] at this ⊢
    exact this.symm
  have h2 : (("super" : Str) == PySem.Str.ofString "self") = false := by decide +kernel
  have h3 : (("super" : Str) == PySem.Str.ofString "__class__") = false := by decide +kernel
  simp [eS, List.lookup, h1, h2, h3]
/-- a method's call, where the name's end and the call's begin stand in one line -/
theorem mcall_eq {o : Expr} {name : Str} {apos pos : Pos} {args : List Expr} {env : Env} (hp : (apos.endLine == pos.line) = true) (hs : methodCallForm (args.length + 0) (backTo pos (starEach args env)) [] = true) :
    eval (.Call (.Attribute o name apos) args [] pos) env = (do
      let ov ← attributeBase o name env (eval o env)
      standAt apos.atName
      let (f, first) ← holding [ov] (getMethod ov name (do return (← importBound o env).getD true))
      callWith pos f first (backTo pos (starEach args env)) []) := by
  show (do
      let ov ← attributeBase o name env (eval o env)
      standAt apos.atName
      methodCall o name apos pos env ov (args.length + 0) (backTo pos (starEach args env)) []) = _
  have e : ∀ ov, methodCall o name apos pos env ov (args.length + 0) (backTo pos (starEach args env)) [] = (do
      let (f, first) ← holding [ov] (getMethod ov name (do return (← importBound o env).getD true))
      callWith pos f first (backTo pos (starEach args env)) []) := by
    intro ov
    unfold methodCall methodCallPos calleeOf
    simp only [hs, hp, Bool.or_true, if_true, pure_bind]
  simp only [e]
/-- what __init__ leaves of the new error at x -/
structure Began (h h' : Heap) (x C dx t1 : Addr) (f : Str) (v : Value) : Prop where
  keep : ∀ b o, b ≠ x → h.get? b = some o → h'.get? b = some o
  obj : h'.get? x = some { cls := .ref C, dict := some dx, data := .fields #[.ref t1, .none, .none, .none, .bool false, .none] }
  dbig : h.objs.size ≤ dx
  dne : dx ≠ x
  ns : h'.Ns1 dx (fun y => if y = f then some v else none)
section
variable {prog : Program} {w : World} {A : Around} {R : Result → Shared → Prop} {s : Shared} {K : Frag} {mg : Str → Option Value} {x0 f qual : Str} {C G fI : Addr}
theorem err_init (T : ErrTxt prog K mg x0 f qual C G fI) {x t0 : Addr} {v : Value} (X : K.In s.heap) (Gm : s.heap.Ns mainGlobals mg) (Bm : ∃ mb, s.heap.Ns builtinsNs mb ∧ ∀ y : Str, y ≠ "__name__" → mb y = bootBuiltins y)
    (hlim : s.heap.NoLimit) (hx : s.heap.get? x = some (excO C t0)) (hnx : K.lookup x = none) (hroom : A.depth < recursionLimit)
    (hq : ∀ h' tk dx t1, Began s.heap h' x C dx t1 f v → R (.ok (.ret .none)) { s with heap := h', toks := tk }) :
    codeAny (model prog w) A (.call (.ref fI) ⟨[.ref x, v], []⟩) R s := by
  obtain ⟨oc, od, doc, pm, an, cda, ct, osl, cc, p1, p2, q1, q2, q3, q4, q5, q6, q7, q8, q9, q10, hp, ho, hcd, ⟨ccl, cdd, vs, ccs, file, tf, hcode, hvs, hfile⟩, cl, cld, csl, hcell⟩ := T.fn
  obtain ⟨nm, q, N, bs, sn, sub, ab, col, dd, k0, k1, k2, k3, k5, hC⟩ := T.cls
  have hcl : clsIn K C = some { name := nm, bases := bs, mro := .ref C :: .ref G :: tailE, ns := N, qualname := q, hasDict := true, slotNames := sn, subclasses := sub, abstract := ab, collection := col, hasDel := false } := by unfold clsIn; rw [hC] <;> rfl
  refine ks_codeAny_call_defAt (fd := ksFn "__init__" qual (eA f p1 p2) (eB f q1 q2 q3 q4 q5 q6 q7 q8 q9 q10) (eS f) .none .none doc pm an (.ref cda) ct cc) (body := eB f q1 q2 q3 q4 q5 q6 q7 q8 q9 q10)
    (binds := [("self", .ref x), (f, v)]) hroom (X _ _ ho) rfl hlim (codeRec_of X hcd) rfl (BindsTo.of_eq (T.fld.bnd _ _ _ _ _ _ _ _ _ _ _ _)) ?_ ?_ (fun h₁ hn k => ?_) rfl rfl rfl
  · intro y hy
    simp [eS] at hy
    rcases hy with rfl | rfl | rfl | rfl <;> simp
  · intro y hy
    simp at hy
    rcases hy with rfl | rfl
    · exact look_self f
    · exact look_fld T.fld
  · have X1 : K.In h₁ := X.keeps k
    have x1 := k _ _ hx
    have G1 := Gm.keeps k
    obtain ⟨mb, B0, hmb⟩ := Bm
    have B1 := B0.keeps k
    obtain ⟨oD, hD1, hD2⟩ : ∃ oD, h₁.get? C = some oD ∧ oD.data = .cls { name := nm, bases := bs, mro := .ref C :: .ref G :: tailE, ns := N, qualname := q, hasDict := true, slotNames := sn, subclasses := sub, abstract := ab, collection := col, hasDel := false } := ⟨_, X1 _ _ hC, rfl⟩
    have inst : InstAt h₁ x (excO C t0) C none := ⟨x1, rfl, rfl, trivial⟩
    have lookS : (fun y => List.lookup y [(f, v), (("self" : Str), Value.ref x)]) ("self" : Str) = some (.ref x) := by
      have e : (("self" : Str) == f) = false := by
        have := T.fld.self
        rw [beq_eq_false_iff_ne] at this ⊢
        exact this.symm
      simp [List.lookup, e]
    have lookF : (fun y => List.lookup y [(f, v), (("self" : Str), Value.ref x)]) f = some v := by simp [List.lookup]
    refine ks_wpAt_execs_cons (ks_wpAt_Expr_any ?_ rfl rfl)
    refine' ks_wpAt_MethodCall ?m1 ?m2
    case m2 => exact mcall_eq hp rfl
    case m1 =>
      refine ks_wpAt_super_base (look_sup T.fld) (look_cls T.fld) (by decide +kernel) rfl (X1 _ _ ho) rfl rfl rfl (X1 _ _ hcode) rfl hvs hfile T.top ?_
      refine ks_loadName_global rfl (look_sup T.fld) (loadGlobal_builtin G1 T.gS B1 ((hmb _ (by decide +kernel)).trans (by decide +kernel)) ⟨rfl, ?_⟩)
      refine wpAny_loadName_free rfl (look_cls T.fld) rfl ⟨_, X1 _ _ hcell, rfl⟩ ?_
      refine wpAny_loadName_local rfl (look_self f) hn lookS ?_
      refine ks_wpAny_isType_cls hD1 hD2 ⟨rfl, ?_⟩
      refine ks_wpAny_call_super hD1 hD2 x1 rfl (fun c e => by cases e) (looks_mroIn X1 T.mro) (fun h2 e2 k2 => ?_)
      have X2 : K.In h2 := X1.keeps k2
      have x2 := k2 _ _ x1
      have inst2 : InstAt h2 x (excO C t0) C none := ⟨x2, rfl, rfl, trivial⟩
      have xC : x ≠ C := ks_ne X2 inst2 hcl
      have hsup : alongIn K "__init__" (((Value.ref C :: .ref G :: tailE).dropWhile (· != .ref C)).drop 1) = some (some (.builtin "Exception.__init__")) := by
        have := T.sup
        unfold ks_superIn at this
        rw [hcl] at this
        exact this
      refine ESX.getMethod_super e2 (looks_opaque X2 T.opq) (l₀ := .ref C :: .ref G :: tailE) ((looks_clsIn X2 hcl).andThen .now) rfl X2 hsup xC (by decide +kernel) (inst2.type.andThen (looks_subIn X2 T.exE)) ?_
      have k3 : ∀ b o, h2.get? b = some o → (h2.push (ESX.bw x)).get? b = some o := fun b o e => Heap.get?_push_of_some _ e
      have hn3 := (hn.keeps k2).keeps k3
      have u3 : (h2.push (ESX.bw x)).get? h2.objs.size = some (ESX.bw x) := Heap.get?_push_at rfl rfl
      refine ESX.callWith_bound (x := x) ?_ rfl rfl
      show wpAny _ _ (spliced ((false, eval (.Name f q4) _) :: backTo q5 (starEach [] _))) _ _ _
      refine Calls.spliced_cons (wpAny_Name ?_ T.fld.dbg)
      refine wpAny_loadName_local rfl (look_fld T.fld) hn3 lookF ?_
      refine Calls.spliced_nil ⟨u3, ?_⟩
      have x3 := k3 _ _ x2
      have kC : ∀ b o, h₁.get? b = some o → (h2.push (ESX.bw x)).get? b = some o := fun b o e => k3 b o (k2 b o e)
      refine ESX.call_bw (X1.keeps kC _ _ hC) x3 u3 (by rw [sizeLine_eq]; show 1 ≤ 16777216; decide) fun h4 t1 k4 x4 => ?_
      -- self.f = f
      have nL : s.heap.objs.size ≠ x := Nat.ne_of_gt (Heap.lt_size hx)
      have hn4 : h4.Ns s.heap.objs.size (fun y => List.lookup y [(f, v), (("self" : Str), Value.ref x)]) := by
        obtain ⟨o, es, ep, e1, r⟩ := hn3
        exact ⟨o, es, ep, k4 _ _ nL e1, r⟩
      have X4 : K.In h4 := fun b o e => by
        refine k4 b o (fun z => ?_) (X1.keeps kC b o e)
        rw [z, hnx] at e
        cases e
      refine wpAt_of_wpAny (wpAny_execs_cons (plainObj_wpAny_Assign_Attribute ?_ rfl))
      refine wpAny_Name (wpAny_loadName_local rfl (look_fld T.fld) hn4 lookF ?_) T.fld.dbg
      refine wpAny_Name (wpAny_loadName_local rfl (look_self f) hn4 lookS ?_) (by decide +kernel)
      refine set_plain X4 (ox := excO C t1) (od := none) ⟨x4, rfl, rfl, trivial⟩ T.sa ?_
      refine store_first X4 x4 hcl rfl rfl T.noN fun h5 tk5 dx k5 dn dne x5 n5 => ?_
      refine wpAny_execs_nil (hq h5 tk5 dx t1 ⟨fun b o hb e => k5 b o hb (k4 b o hb (kC b o (k b o e))), x5, ?_, dne, n5⟩)
      have z1 : s.heap.objs.size < h4.objs.size := hn4.lt
      exact Nat.le_of_lt (Nat.lt_of_lt_of_le z1 dn)
/-- a made error -/
structure Made (h h' : Heap) (e C d : Addr) (f : Str) (v : Value) : Prop where
  keep : ∀ b o, h.get? b = some o → h'.get? b = some o
  new : h.objs.size ≤ e
  obj : ∃ t1, h'.get? e = some { cls := .ref C, dict := some d, data := .fields #[.ref t1, .none, .none, .none, .bool false, .none] }
  dbig : h.objs.size ≤ d
  dne : d ≠ e
  ns : h'.Ns1 d (fun y => if y = f then some v else none)
theorem tail_same (G : Addr) (X : String) : (Value.ref G :: tailE).contains (.type X) = tailE.contains (.type X) := by
  rw [List.contains_cons]
  rfl
theorem err_made (T : ErrTxt prog K mg x0 f qual C G fI) {v : Value} (X : K.In s.heap) (Gm : s.heap.Ns mainGlobals mg) (Bm : ∃ mb, s.heap.Ns builtinsNs mb ∧ ∀ y : Str, y ≠ "__name__" → mb y = bootBuiltins y)
    (hlim : s.heap.NoLimit) (hroom : A.depth + 1 < recursionLimit) (hq : ∀ h' tk e d, Made s.heap h' e C d f v → R (.ok (.ret (.ref e))) { s with heap := h', toks := tk }) :
    codeAny (model prog w) A (.call (.ref C) ⟨[v], []⟩) R s := by
  obtain ⟨nm, q, N, bs, sn, sub, ab, col, dd, k0, k1, k2, k3, k5, hC⟩ := T.cls
  obtain ⟨hp, g, dr, tk, os⟩ := s
  have up : ∀ b o, hp.get? b = some o → ((hp.push (kdv_tup [v])).push (excO C hp.objs.size)).get? b = some o := fun b o e => Heap.get?_push_of_some _ (Heap.get?_push_of_some _ e)
  have at1 : ((hp.push (kdv_tup [v])).push (excO C hp.objs.size)).get? (hp.objs.size + 1) = some (excO C hp.objs.size) := by heap_get
  have free : K.lookup (hp.objs.size + 1) = none := by
    cases e : K.lookup (hp.objs.size + 1) with
    | none => rfl
    | some o =>
      have z : hp.get? (hp.objs.size + 1) = some o := X _ _ e
      exact absurd (Nat.lt_of_succ_lt (Heap.lt_size z)) (Nat.lt_irrefl _)
  obtain ⟨mb, B0, hmb⟩ := Bm
  refine call_own F.excBase_Exception (tail_same G) (X _ _ hC) (looks_findIn X T.iC) (fun self => bind_fn X self T.tC) (by rw [sizeLine_eq]; show 1 ≤ 16777216; decide) ?_
  refine err_init (s := ⟨(hp.push (kdv_tup [v])).push (excO C hp.objs.size), g, dr, tk, os⟩) T (X.keeps up) (Gm.keeps up) ⟨mb, B0.keeps up, hmb⟩ (hlim.keeps up) at1 free ?_ fun h' tk' dx t1 Z => ?_
  · show A.depth + 1 < recursionLimit
    exact hroom
  · have z : hp.objs.size + 1 + 1 ≤ dx := by
      have b := Z.dbig
      first
        | exact b
        | (simp only [Heap.size_push] at b; exact b)
    refine ⟨rfl, hq h' tk' (hp.objs.size + 1) dx ⟨fun b o e => Z.keep b o (Nat.ne_of_lt (Nat.lt_succ_of_lt (Heap.lt_size e))) (up b o e), Nat.le_succ _, ⟨_, Z.obj⟩, by show hp.objs.size ≤ dx; omega, Z.dne, Z.ns⟩⟩
end
end ErrX
end PySem
namespace L2
open PySem PySem.Spec PyProof.Rows PySem.ErrX
theorem relO_one {f : Str} {v : V} {u : Value} (r : RelV v u) (y : Str) : RelO (List.lookup y [(f, v)]) (if y = f then some u else none) := by
  by_cases h : y = f
  · rw [if_pos h, h]
    have q : List.lookup f [(f, v)] = some v := by simp [List.lookup]
    rw [q]
    exact r
  · rw [if_neg h]
    have q : (y == f) = false := by simpa using h
    have q2 : List.lookup y [(f, v)] = none := by simp [List.lookup, q]
    rw [q2]
    trivial
section
variable {X : Cx} {C G fI : Addr} {x f qual : Str}
/-- E(e), to be raised: its own dict d, new, holds the field -/
def tMkErr (C : Addr) (f : Str) (ta : TA) : St → Hp → XK → Prop := fun σ H Q => ta σ H fun vs H1 => ∃ v, vs = [v] ∧ ∀ d, H1 d = none → Q (.ref C) (some d) (upd H1 d (.xd [(f, v)]))
theorem pmk_err {a : Expr} {ta : TA} {p pos : Pos} {k : Nat} (T : ErrTxt X.prog X.K X.mg x f qual C G fI) (hr : Room k X.A) (ha : PA X [a] ta) (hg : Gl X x) (hdb : (x == ("__debug__" : Str)) = false)
    (he : starEach (a :: []) X.env = (false, eval a X.env) :: starEach [] X.env := by rfl) (hpl : (backTo pos (starEach [] X.env)).any (·.1) = false := by rfl) :
    PMk X (.Call (.Name x p) [a] [] pos) (tMkErr C f ta) := by
  intro pins s σ H Q I h
  refine wpAny_Call_Name_kw (ld_glob I hg T.gC ?_ hdb)
  refine PySem.W.callWith_K (h₀ := X.base) I.ok.mod.kin T.kC (thn (ha.run pos pins s σ H _ I h) fun us s1 hh => ?_) he hpl
  obtain ⟨vs, H1, I1, r1, v, ev, q1⟩ := hh
  subst ev
  refine ⟨I1.kIn, ?_⟩
  cases r1 with
  | cons rv rn =>
    rename_i v' us'
    cases rn
    show wpAny _ _ (call (.ref C) [v']) _ _ _
    have hlim := I1.nolimit
    have hgl : s1.heap.Ns mainGlobals X.mg := I1.mod.glob.keeps I1.bk
    have hbl : ∃ mb, s1.heap.Ns builtinsNs mb ∧ ∀ y : Str, y ≠ "__name__" → mb y = bootBuiltins y := by
      obtain ⟨mb, b1, b2⟩ := I1.mod.blt
      exact ⟨mb, b1.keeps I1.bk, b2⟩
    obtain ⟨hp, g, dr, tk, os⟩ := s1
    refine wpAny_call (err_made T I1.kIn hgl hbl hlim (by have := hr.dp; omega) fun h' tk' e d M => ?_)
    show MkP X pins σ Q (.ref e) ⟨h', g, dr, tk', os⟩
    obtain ⟨t1, hoe⟩ := M.obj
    have hns := M.ns
    obtain ⟨G', g1, g2⟩ := restrict h' fun b => decide (b ≠ e)
    have gk : ∀ b, b ≠ e → G'.get? b = h'.get? b := fun b hb => g1 b (decide_eq_true hb)
    have ge : G'.get? e = none := g2 e (by simp)
    have old : ∀ b o, hp.get? b = some o → G'.get? b = some o := fun b o q => (gk b (Nat.ne_of_lt (Nat.lt_of_lt_of_le (Heap.lt_size q) M.new))).trans (M.keep b o q)
    have ob : ObjOk X.prog X.w (upd H1 d (.xd [(f, v)])) G' d (.xd [(f, v)]) := ⟨_, hns.at (fun o q => (gk d M.dne).trans q), fun y => relO_one rv y⟩
    have J : Inv X pins σ (upd H1 d (.xd [(f, v)])) ⟨G', g, dr, tk', os⟩ := I1.laid (t' := tk') old M.dbig ob
    refine ⟨e, _, _, ⟨G', g, dr, tk', os⟩, _, .ref C, some d, rfl, J, fun b o q => ?_, ge, hoe, ⟨rfl, rfl⟩, rfl, rfl, ?_, rfl, I1.bare, raises_own T.exC T.tyC, q1 d (I1.hok.fresh M.dbig)⟩
    · by_cases hb : b = e
      · have q' : G'.get? b = some o := q
        rw [hb, ge] at q'; cases q'
      · exact (gk b hb).symm.trans q
    · rw [upd_ne (Ne.symm M.dne)]
      exact I1.hok.fresh M.new
/-- raise E(e) -/
def tRaiseErr (C : Addr) (f : Str) (W : WX) (ta : TA) : TS := fun _ σ H => tMkErr C f ta σ H fun cls d H' => W cls d σ H'
theorem ps_raiseErr {a : Expr} {ta : TA} {W : WX} {p pos pos2 : Pos} {k : Nat} (hc : X.calm = true) (T : ErrTxt X.prog X.K X.mg x f qual C G fI) (hr : Room k X.A) (tk : Takes X W) (ha : PA X [a] ta) (hg : Gl X x) (hdb : (x == ("__debug__" : Str)) = false := by decide)
    (he : starEach (a :: []) X.env = (false, eval a X.env) :: starEach [] X.env := by rfl) (hpl : (backTo pos (starEach [] X.env)).any (·.1) = false := by rfl) :
    PS X (.Raise (some (.Call (.Name x p) [a] [] pos)) none pos2) (tRaiseErr C f W ta) := ps_raise hc tk (pmk_err T hr ha hg hdb he hpl)
/-- e.f, e the error that the suite holds (at a; its class cls, its dict d) -/
def tErrF (C : Addr) (f : Str) (a : Addr) (cls : Value) (d : Option Addr) (te : TE) : TE := fun σ H Q => te σ H fun x H1 => x = .ref a ∧ cls = .ref C ∧ ∃ (dd : Addr) (v : V), d = some dd ∧ H1 dd = some (.xd [(f, v)]) ∧ Q v H1
theorem pe_errF {a : Addr} {oe : Obj} {cls : Value} {d : Option Addr} {pn : List (Addr × Obj)} {e : Expr} {te : TE} {pos : Pos} (T : ErrTxt X.prog X.K X.mg x f qual C G fI) (hz : Zc cls d oe) (hf : ∃ vs, oe.data = .fields vs) (he : PE (X.suite a ((a, oe) :: pn)) e te)
    (hb : attributeBase e f X.env (eval e X.env) = eval e X.env := by rfl) :
    PE (X.suite a ((a, oe) :: pn)) (.Attribute e f pos) (tErrF C f a cls d te) := by
  refine ⟨fun pins s σ H Q I h => ?_⟩
  refine attr_of hb (thn (he.run pins s σ H _ I h) fun u s1 hh => ?_)
  obtain ⟨x, H1, I1, rx, ex, ec, dd, v, ed, ea, q⟩ := hh
  subst ex
  obtain rfl : u = Value.ref a := rx
  subst ec
  subst ed
  obtain ⟨ha, _⟩ := I1.pin (a, oe) (List.mem_append_left _ List.mem_cons_self)
  obtain ⟨vs, hd⟩ := hf
  have hx : ObjOk X.prog X.w H1 s1.heap dd (.xd [(f, v)]) := I1.hok dd _ ea
  obtain ⟨mA, hns, hr⟩ := hx
  obtain ⟨od, ho, hl⟩ := lookIn_ns hns
  have l : List.lookup f [(f, v)] = some v := by simp [List.lookup]
  obtain ⟨u, hu, ru⟩ := RelO.some_of (v := v) (o := mA f) (by rw [← l]; exact hr f)
  have J : PySem.W.InstAt s1.heap a oe C (some od) := ⟨ha, hz.1, by unfold PySem.W.notCls; rw [hd] <;> rfl, by rw [hz.2]; exact ho⟩
  exact HandSPX.exc_get I1.kIn J T.ga T.gg T.exC (PySem.W.findObj_own T.hdC T.noN rfl (by rw [hl, hu])) (handed_of ru) ⟨v, H1, I1.tok _, ru, q⟩
theorem passX0 {X : Cx} : Passes (L2.CX X.prog X.w) X E0 := fun _ _ _ _ _ _ _ h => by
  obtain ⟨_, _, _, _, _, _, _, _, _, _, _, _, h⟩ := h
  exact h.elim
theorem exm_of {K : PySem.W.Frag} {S : Addr} (h1 : PySem.W.subIn K (.ref S) (.type "BaseException") = some true) (h2 : PySem.W.isClsIn K S = true) (h3 : PySem.W.typeIn K (.ref S) = some (.type "type")) (h4 : PySem.W.subIn K (.ref S) (.ref S) = some true) :
    PySem.W.exmOne K (.ref S) (.ref S) = some true := by
  have e1 : (PySem.W.subIn K (.ref S) (.type "BaseException") == some true) = true := by rw [h1] <;> rfl
  have h2' : (PySem.W.clsIn K S).isSome = true := h2
  have e2 : ((PySem.W.clsIn K S).isSome && PySem.W.typeIn K (.ref S) == some (.type "type")) = true := by rw [h2', h3] <;> rfl
  show (if (PySem.W.subIn K (.ref S) (.type "BaseException") == some true) = true then (if ((PySem.W.clsIn K S).isSome && PySem.W.typeIn K (.ref S) == some (.type "type")) = true then PySem.W.subIn K (.ref S) (.ref S) else none) else none) = some true
  rw [if_pos e1, if_pos e2, h4]
end
end L2

set_option Elab.async false
set_option linter.all false
set_option maxRecDepth 100000
set_option maxHeartbeats 4000000
/-! defs whose promise wants that no repr is under way (guards = some []): the layer's call rules once more, with that beside -/
namespace L2
open PySem PySem.Spec PyProof.Rows
structure FnOkG (P : Program) (w : World) (K : PySem.W.Frag) (mg : Str → Option Value) (base : Heap) (CX : CXT) (k : Nat) (f : Addr) (fd : FuncData) (ps : List Str) (sp : Sp) : Prop where
  len : ∀ vs H Q E, sp vs H Q E → vs.length = ps.length
  run : ∀ (A : Around) (outer : List Env) (s : Shared) (H : Hp) (args : Args) (us : List Value) (vs : List V) (Q : VK) (E : XK), Room k A → A.guards = some [] → Env0 P w K mg base A outer s H →
    BindsTo s fd args (ps.zip us) → Vals vs us → sp vs H Q E → codeAny (model P w) A (.call (.ref f) args) (CR CX outer P w H s Q E) s
section
variable {P : Program} {w : World} {K : PySem.W.Frag} {mg : Str → Option Value} {base : Heap} {CX : CXT} {k : Nat} {f : Addr} {fd : FuncData} {ps : List Str} {sp : Sp}
theorem fnG_of {name qual : Str} {params : Arguments} {body : List Stmt} {scope : Scope} {dV kV doc pm cdv ct oc : Value} {an od : Option Addr} {osl : Array (Option Value)} {N : List Str}
    (lk : K.lookup f = some ⟨oc, od, .func (PySem.W.fnOf name qual params body scope dV kV doc pm an cdv ct), osl⟩) (hcd : PySem.W.codeIn K cdv qual = true) (S : FnScope N ps scope) (len : ∀ vs H Q E, sp vs H Q E → vs.length = ps.length)
    (hbody : ∀ (A : Around) (outer : List Env) (s : Shared) (H : Hp) (vs : List V) (Q : VK) (E : XK), Room k (A.deeper (envOfC qual scope s.heap.objs.size f cdv)) → (A.deeper (envOfC qual scope s.heap.objs.size f cdv)).guards = some [] → sp vs H Q E →
      ∃ t, PSs (cxOf CX P w K mg base N qual scope f cdv A outer s H E) body t ∧ t { nx := fun _ H' => Q .non H', rt := Q } (start N vs) H) :
    FnOkG P w K mg base CX (k + 1) f (PySem.W.fnOf name qual params body scope dV kV doc pm an cdv ct) ps sp := by
  constructor
  · exact len
  intro A outer s H args us vs Q E room gds env0 bnd rel want
  have keep : ∀ b o, base.get? b = some o → s.heap.get? b = some o := fun b o e => (env0.bs b o e).1
  have KX := env0.mod.kin.keeps keep
  have lim := env0.mod.nolimit.keeps keep
  have kinds : ∀ y ∈ ps.zip us, scope.names.lookup y.1 = some .local ∨ (scope.names.lookup y.1 = some .cell ∧ ((cellsFrom (s.heap.objs.size + 1) scope.names []).lookup y.1).isSome = true) := by
    rintro ⟨n, v⟩ hy
    have hp := S.par n (List.of_mem_zip hy).1
    exact hp.imp id fun q => ⟨q, PySem.W.cellsFrom_some _ _ _ (.inl q)⟩
  refine codeAny_call_function room.depth (KX _ _ lk) rfl S.co S.gen rfl (PySem.W.codeRec_of KX hcd) (bnd _ _ _ _ ?_)
  refine wpAny_newFunctionEnv_cells S.kind kinds fun env he s1 x => ?_
  subst he
  refine ⟨lim.keeps x.toInCall.keep, codeAny_func ?_⟩
  obtain ⟨t, ht, hq⟩ := hbody A outer s H vs Q E (room.deeper _) gds want
  have I := inv_start (CX := CX) (E := E) S room.hd env0 (len _ _ _ _ want) rel x
  refine wpAny_mono (ht.run [] s1 (start N vs) H _ I hq) (fun fl s' hs => ?_) fun e s' hs => hs
  cases fl with
  | ret u =>
    obtain ⟨v, σ', H', J, rv, q⟩ := hs
    exact ⟨v, H', J.os, J.bare, J.base, J.hok, rv, q⟩
  | next =>
    obtain ⟨σ', H', J, q⟩ := hs
    exact ⟨.non, H', J.os, J.bare, J.base, J.hok, rfl, q⟩
  | brk => exact hs.elim fun _ h => h.elim fun _ h => h.2.elim
  | cont => exact hs.elim fun _ h => h.elim fun _ h => h.2.elim
theorem Fun.okG {x qual : Str} {st : Stmt} {N : List Str} (F : Fun K x qual st f fd) (S : FnScope N ps (defScope st)) (len : ∀ vs H Q E, sp vs H Q E → vs.length = ps.length)
    (hbody : ∀ (cdv : Value) (A : Around) (outer : List Env) (s : Shared) (H : Hp) (vs : List V) (Q : VK) (E : XK), Room k (A.deeper (envOfC qual (defScope st) s.heap.objs.size f cdv)) → (A.deeper (envOfC qual (defScope st) s.heap.objs.size f cdv)).guards = some [] → sp vs H Q E →
      ∃ t, PSs (cxOf CX0 P w K mg base N qual (defScope st) f cdv A outer s H E).nox (defBody st) t ∧ t { nx := fun _ H' => Q .non H', rt := Q } (start N vs) H) : FnOkG P w K mg base CX0 (k + 1) f fd ps sp := by
  obtain ⟨oc, od, kV, doc, pm, an, cdv, ct, osl, rfl, lk, hcd⟩ := F.ex
  refine fnG_of lk hcd S len fun A outer s H vs Q E hr hg hsp => ?_
  obtain ⟨t, h, q⟩ := hbody cdv A outer s H vs Q E hr hg hsp
  exact ⟨t, h.nox, q⟩
theorem Fun.okXG {x qual : Str} {st : Stmt} {N : List Str} (F : Fun K x qual st f fd) (S : FnScope N ps (defScope st)) (len : ∀ vs H Q E, sp vs H Q E → vs.length = ps.length)
    (hbody : ∀ (cdv : Value) (A : Around) (outer : List Env) (s : Shared) (H : Hp) (vs : List V) (Q : VK) (E : XK), Room k (A.deeper (envOfC qual (defScope st) s.heap.objs.size f cdv)) → (A.deeper (envOfC qual (defScope st) s.heap.objs.size f cdv)).guards = some [] → sp vs H Q E →
      ∃ t, PSs (cxOf (L2.CX P w) P w K mg base N qual (defScope st) f cdv A outer s H E) (defBody st) t ∧ t { nx := fun _ H' => Q .non H', rt := Q } (start N vs) H) : FnOkG P w K mg base (L2.CX P w) (k + 1) f fd ps sp := by
  obtain ⟨oc, od, kV, doc, pm, an, cdv, ct, osl, rfl, lk, hcd⟩ := F.ex
  exact fnG_of lk hcd S len fun A outer s H vs Q E hr hg hsp => hbody cdv A outer s H vs Q E hr hg hsp
end
section
variable {X : Cx} {CX : CXT} {k : Nat} {f : Addr} {fd : FuncData} {ps : List Str} {sp : Sp} {x : Str} {p pos : Pos} {e : Expr} {es : List Expr} {t : TA}
theorem run_fnG {E : XK} {pins : List (Addr × Obj)} {σ : St} {H : Hp} {s : Shared} {Q : VK} {us : List Value} {vs : List V} (F : FnOkG X.prog X.w X.K X.mg X.base CX k f fd ps sp) (hr : Room k X.A) (hgd : X.A.guards = some []) (hb : Binds X.K fd ps []) (hx : Passes CX X E)
    (I : Inv X pins σ H s) (r : Vals vs us) (h : sp vs H Q E) : wpAny (model X.prog X.w) X.A (call (.ref f) us) (EP X pins σ Q) X.xe s := by
  have hl : us.length = ps.length := r.length.symm.trans (F.len _ _ _ _ h)
  have b := hb s us I.kIn (by rw [List.append_nil]; exact hl)
  rw [List.append_nil] at b
  refine wpAny_call (codeAny_mono (F.run X.A X.stack s H ⟨us, []⟩ us vs Q E hr hgd I.env0 b r h) fun rr s' hq => ?_)
  match rr, hq with
  | .error e, hq => exact hx pins σ H s e s' I hq
  | .ok (.ret u), hq => exact I.after hq
  | .ok .next, hq => exact False.elim hq
  | .ok .brk, hq => exact False.elim hq
  | .ok .cont, hq => exact False.elim hq
theorem pe_callG {E : XK} (F : FnOkG X.prog X.w X.K X.mg X.base CX k f fd ps sp) (hr : Room k X.A) (hgd : X.A.guards = some []) (hg : Gl X x) (hm : X.mg x = some (.ref f)) (hk : PySem.W.keepIn X.K (.ref f) = true) (hb : Binds X.K fd ps []) (hx : Passes CX X E) (ha : PA X (e :: es) t)
    (hdb : (x == ("__debug__" : Str)) = false := by decide) (he : starEach (e :: es) X.env = (false, eval e X.env) :: starEach es X.env := by rfl) (hpl : (backTo pos (starEach es X.env)).any (·.1) = false := by rfl) :
    PE X (.Call (.Name x p) (e :: es) [] pos) (tCall sp [] E t) := by
  constructor
  intro pins s σ H Q I h
  refine wpAny_Call_Name_kw (ld_glob I hg hm ?_ hdb)
  refine PySem.W.callWith_K (h₀ := X.base) I.ok.mod.kin hk (thn (ha.run pos pins s σ H _ I h) fun us s1 hh => ?_) he hpl
  obtain ⟨vs, H1, I1, r, q⟩ := hh
  have q' : sp (vs ++ []) H1 Q E := q
  rw [List.append_nil] at q'
  exact ⟨I1.kIn, run_fnG F hr hgd hb hx I1 r q'⟩
end
/-! ### the law's own end -/
theorem law_callG {P : Program} {w : World} {K : PySem.W.Frag} {mg mb : Str → Option Value} {CX : CXT} {k : Nat} {fa a : Addr} {fd : FuncData} {x : Str} {sp : Sp} {s₁ : Shared} {vs : List Value} {ns : List Int} (KX : K.In s₁.heap) (hns : s₁.heap.Ns mainGlobals mg)
    (hb : s₁.heap.Ns builtinsNs mb) (hbb : ∀ x : Str, x ≠ "__name__" → mb x = bootBuiltins x) (hlim : s₁.heap.NoLimit) (hg : s₁.gens = #[]) (ha : s₁.heap.get? a = some { cls := .type "list", data := .seq vs.toArray }) (hi : IntsAre vs ns) (hl : ns.length ≤ sizeLine) (hr : Room k callerA)
    (F : ∀ base : Heap, K.In base → base.Ns mainGlobals mg → FnOkG P w K mg base CX k fa fd [x] sp) (hbind : ∀ (s : Shared) (u : Value), BindsTo s fd ⟨[u], []⟩ [(x, u)])
    (hsp : ∀ H : Hp, Only H → SqL K H a (ns.map V.int) → sp [.ref a] H (fun v _ => v = .bl true) fun _ _ _ => False) (hCX : ∀ H e s', CX [] H s₁ (fun _ _ _ => False) e s' → False) :
    codeAny (model P w) callerA (.call (.ref fa) ⟨[.ref a], []⟩) (fun r s' => r = .ok (.ret (.bool true)) ∧ OldK s₁.heap s'.heap ∧ s'.os = s₁.os ∧ AllBare s'.gens) s₁ := by
  have rv := vals_ints hi
  have nil_no : ∀ b : Addr, b ∉ ([] : List Addr) := fun b => by simp
  -- from an abstract heap in which the script alone may be tracked
  have core : ∀ H : Hp, Only H → SqL K H a (ns.map V.int) → HOk P w H s₁.heap → (∀ b, H b ≠ none → b = a) → (H a ≠ none → K.lookup a = none) →
      codeAny (model P w) callerA (.call (.ref fa) ⟨[.ref a], []⟩) (fun r s' => r = .ok (.ret (.bool true)) ∧ OldK s₁.heap s'.heap ∧ s'.os = s₁.os ∧ AllBare s'.gens) s₁ := by
    intro H only sq hok alone unk
    have free : ∀ {b : Addr} {o : Obj} {es : Array DictEntry} {ep : Nat}, s₁.heap.get? b = some o → o.data = .dict es ep → H b = none := by
      intro b o es ep e d
      cases q : H b with
      | none => rfl
      | some u =>
        have eb : b = a := alone b (by rw [q]; simp)
        rw [eb, ha] at e
        cases e
        cases (show Data.seq vs.toArray _ = Data.dict es ep from d)
    have nsK : ∀ {b : Addr} {m : Str → Option Value}, s₁.heap.Ns b m → (hidT s₁.heap H).Ns b m := by
      rintro b m ⟨o, es, ep, e, d, r⟩
      exact ⟨o, es, ep, hidT_get e (free e d), d, r⟩
    have hKb : K.In (hidT s₁.heap H) := by
      intro b o e
      refine hidT_get (KX b o e) ?_
      cases q : H b with
      | none => rfl
      | some u =>
        have eb : b = a := alone b (by rw [q]; simp)
        rw [eb] at q e
        rw [unk (by rw [q]; simp)] at e
        cases e
    have hM : Mod K mg (hidT s₁.heap H) := by
      obtain ⟨mc, h1, h2⟩ := hlim
      exact ⟨hKb, nsK hns, ⟨mb, nsK hb, hbb⟩, mc, nsK h1, h2⟩
    have e0 : Env0 P w K mg (hidT s₁.heap H) callerA [] s₁ H := ⟨rfl, hM, fun b o e => of_hidT e, Nat.le_of_eq (hidT_size _ _), trivial, fun b hb => (nil_no b hb).elim, hok, .of_eq hg⟩
    have run := (F _ hKb (nsK hns)).run callerA [] s₁ H ⟨[.ref a], []⟩ [.ref a] [.ref a] _ _ hr rfl e0 (hbind s₁ (.ref a)) (.cons rfl .nil) (hsp H only sq)
    refine codeAny_mono run fun r s' h => ?_
    match r, h with
    | .error e, h => exact (hCX H e s' h).elim
    | .ok .next, h => exact False.elim h
    | .ok .brk, h => exact False.elim h
    | .ok .cont, h => exact False.elim h
    | .ok (.ret u), h =>
      obtain ⟨v, H', os, bare, un, hok', r', rfl⟩ := h
      obtain rfl : u = Value.bool true := r'
      refine ⟨rfl, OldK.of_keep fun b o e => ?_, os, bare⟩
      rcases only b with z | ⟨ob, xs, z⟩
      · exact un.keep b o e z (nil_no b) (by simp)
      · obtain ⟨e1, _⟩ := hok b _ z
        obtain ⟨e2, _⟩ := hok' b _ (un.frzs b ob _ z)
        rw [e] at e1
        cases e1
        exact e2
  cases hk : K.lookup a with
  | some o =>
    have e := KX a o hk
    rw [ha] at e
    cases e
    refine core (fun _ => none) (fun _ => .inl rfl) ?_ (fun b u z => nomatch z) (fun b z => absurd rfl z) fun z => absurd rfl z
    exact .inr ⟨_, vs.toArray, _, hk, rfl, rfl, rfl, by rw [List.size_toArray, hi.length]; exact hl, by simpa using rv⟩
  | none =>
    refine core (fun b => if b = a then some (.frz { cls := .type "list", data := .seq vs.toArray } (.lst (ns.map V.int))) else none) (fun b => ?_) (.inl (.inr ⟨_, if_pos rfl⟩)) (fun b u z => ?_) (fun b z => ?_) fun _ => hk
    all_goals by_cases hb : b = a
    · exact .inr ⟨_, _, if_pos hb⟩
    · exact .inl (if_neg hb)
    · cases (if_pos hb).symm.trans z
      subst hb
      exact ⟨ha, by rw [List.length_map]; exact hl, vs, _, rv, ha⟩
    · cases (if_neg hb).symm.trans z
    · exact hb
    · exact absurd (if_neg hb) z
theorem walk_ofG {l : PySem.W.OpenLaw} {n k : Nat} {q : Program} {loose : List Str} {XP : (Str → Option Value) → Heap → Prop} {YP : World → Heap → Prop} {d : DefRec} {K : Params → PySem.W.Frag} {CX : World → CXT} {sp : World → Sp} {x : Str} (hn : l.most = some n) (hn2 : n ≤ sizeLine)
    (hdf : d.params.defaults = []) (hr : Room k callerA) (hY : ∀ (w : World) (h : Heap), YP w h → (K w.params).In h)
    (F : ∀ (w : World) (mg : Str → Option Value) (fa : Addr) (h : Heap), (K w.params).In h → h.Ns mainGlobals mg → mg d.name = some (.ref fa) → ∃ fd : FuncData, (∀ (s : Shared) (u : Value), BindsTo s fd ⟨[u], []⟩ [(x, u)]) ∧
        ∀ base : Heap, (K w.params).In base → base.Ns mainGlobals mg → FnOkG l.prog w (K w.params) mg base (CX w) k fa fd [x] (sp w))
    (hsp : ∀ (w : World) (H : Hp) (a : Addr) (ns : List Int), ns.length ≤ n → Only H → SqL (K w.params) H a (ns.map V.int) → sp w [.ref a] H (fun v _ => v = .bl true) fun _ _ _ => False)
    (hCX : ∀ (w : World) (H : Hp) (s : Shared) (e : Value) (s' : Shared), CX w [] H s (fun _ _ _ => False) e s' → False) : PySem.W.WalkO q loose XP YP l.row.toRowW d [] (fun f vs => PySem.call f vs) := by
  refine Att.attach_call hn hdf fun w s₀ s₁ mg mb fa o pm cd doc a vs ns G Y ho hd hcd hmg hobj hints hlen hg => ?_
  obtain ⟨fd, bnd, ok⟩ := F w mg fa _ (hY w _ Y) G.T.g hmg
  exact law_callG (hY w _ Y) G.T.g G.T.b G.T.builtins G.T.nolimit hg hobj hints (Nat.le_trans hlen hn2) hr ok bnd (fun H hO hS => hsp w H a ns hlen hO hS) fun H e s' => hCX w H s₁ e s'
end L2

set_option Elab.async false
set_option linter.all false
set_option maxRecDepth 100000
set_option maxHeartbeats 4000000
/-! repr of data -/
namespace L2
open PySem PySem.Spec PyProof.Rows
/-! data without lists and dicts -/
mutual
def plainD : PyData → Bool
  | .none => true
  | .bool _ => true
  | .int _ => true
  | .str _ => true
  | .tuple xs => plainDs xs
  | .list _ => false
  | .dict _ => false
def plainDs : List PyData → Bool
  | [] => true
  | x :: xs => plainD x && plainDs xs
end
mutual
theorem plain_reads {h : Heap} : ∀ {v : Value} {d : PyData} {as : List Addr}, Reads h v d as → plainD d = true → as = []
  | _, _, _, .none, _ => rfl
  | _, _, _, .bool _, _ => rfl
  | _, _, _, .int _ _, _ => rfl
  | _, _, _, .str _ _, _ => rfl
  | _, _, _, .tuple _ _ _ r, e => plain_readsAll r (by simpa [plainD] using e)
  | _, _, _, .list _ _ _ _, e => by simp [plainD] at e
  | _, _, _, .dict _ _ _ _ _, e => by simp [plainD] at e
theorem plain_readsAll {h : Heap} : ∀ {v : List Value} {d : List PyData} {as : List Addr}, ReadsAll h v d as → plainDs d = true → as = []
  | _, _, _, .nil, _ => rfl
  | _, _, _, .cons r rs, e => by
    simp [plainDs] at e
    rw [plain_reads r e.1, plain_readsAll rs e.2]
    rfl
end
mutual
theorem dp_nodict {K : PySem.W.Frag} {H : Hp} : ∀ {v : V} {d : PyData}, Dp K H v d → d.hasDict = false
  | _, _, .non => rfl
  | _, _, .bl _ => rfl
  | _, _, .int _ => rfl
  | _, _, .str _ => rfl
  | _, _, .lst _ r => by simpa [PyData.hasDict] using dpAll_nodict r
  | _, _, .tup _ r => by simpa [PyData.hasDict] using dpAll_nodict r
theorem dpAll_nodict {K : PySem.W.Frag} {H : Hp} : ∀ {v : List V} {d : List PyData}, DpAll K H v d → PyData.hasDictAll d = false
  | _, _, .nil => rfl
  | _, _, .cons r rs => by simp [PyData.hasDictAll, dp_nodict r, dpAll_nodict rs]
end
/-- a key, as data -/
def keyD : Key → PyData
  | .inl i => .int i
  | .inr x => .str x
/-- a value that repr is asked of: data without dicts, or a dict of plain data -/
def Rp (K : PySem.W.Frag) (H : Hp) (v : V) (d : PyData) : Prop :=
  Dp K H v d ∨ ∃ (a : Addr) (kvs : List (Key × V)) (ds : List PyData), v = .ref a ∧ H a = some (.dK kvs) ∧ DpAll K H (kvs.map (·.2)) ds ∧ plainDs ds = true ∧ d = .dict ((kvs.map fun kv => keyD kv.1).zip ds)
section
variable {X : Cx}
theorem zip_fst {α β : Type} : ∀ {xs : List α} {ys : List β}, xs.length = ys.length → (xs.zip ys).map (·.1) = xs ∧ (xs.zip ys).map (·.2) = ys
  | [], [], _ => ⟨rfl, rfl⟩
  | x :: xs, y :: ys, h => by
    obtain ⟨a, b⟩ := zip_fst (xs := xs) (ys := ys) (by simpa using h)
    simp [a, b]
theorem DpAll.len {K : PySem.W.Frag} {H : Hp} : ∀ {vs : List V} {ds : List PyData}, DpAll K H vs ds → vs.length = ds.length
  | _, _, .nil => rfl
  | _, _, .cons _ r => by simp [DpAll.len r]
theorem keys_read {h : Heap} {P : Program} {w : World} {es : List DictEntry} {vs : List (Key × Value)} (r : Pairs (mixKind P w) es vs) : ReadsAll h (es.map (·.key)) (vs.map fun kv => keyD kv.1) [] ∧ es.map (·.val) = vs.map (·.2) := by
  induction r with
  | nil => exact ⟨.nil, rfl⟩
  | cons hk hv r ih =>
    refine ⟨?_, by simp [ih.2, hv]⟩
    rcases keyIs_shape hk with ⟨i, t, e1, e2⟩ | ⟨x, t, e1, e2⟩
    · simp only [List.map_cons, e1, e2]
      exact .cons (.int i t) ih.1
    · simp only [List.map_cons, e1, e2]
      exact .cons (.str x t) ih.1
theorem KV.fst {kvs : List (Key × V)} {vs : List (Key × Value)} (r : KV kvs vs) : kvs.map (·.1) = vs.map (·.1) ∧ Vals (kvs.map (·.2)) (vs.map (·.2)) := by
  induction r with
  | nil => exact ⟨rfl, .nil⟩
  | cons p r ih =>
    refine ⟨?_, .cons p.2 ih.2⟩
    simp only [List.map_cons, p.1, ih.1]
/-- repr(v) -/
def rRepr (K : PySem.W.Frag) : List V → Hp → VK → Prop := fun xs H Q => ∃ v d, xs = [v] ∧ Rp K H v d ∧ d.showable = true ∧ d.shown.length ≤ sizeLine ∧ d.depth ≤ 60 ∧ Q (.str d.shown) H
theorem call_reprD (hg : X.A.guards = some []) (hu : X.A.units + 65 < cLine) : CallR X (.builtin "repr") (rRepr X.K) := by
  intro pins s σ H xs us Q I r h
  obtain ⟨v, d, rfl, hv, hs, hz, hd, q⟩ := h
  obtain ⟨u, rfl, ru⟩ := vals1 r
  have end0 : ∀ (h' : Heap) (t : Tok) (tk : Nat), (∀ b o, s.heap.get? b = some o → h'.get? b = some o) → EP X pins σ Q (.str d.shown t) { s with heap := h', toks := tk } := fun h' t tk k => ⟨.str _, H, I.kept k, ⟨_, rfl⟩, q⟩
  have byRef : ∀ a as, u = .ref a → Reads s.heap u d as → (d.hasDict = true → sysModules ∉ as) → wpAny (model X.prog X.w) X.A (call (.builtin "repr") [u]) (EP X pins σ Q) X.xe s := by
    rintro a as rfl rd nm
    exact repr_of_reads' rd hs nm hg (by omega) (fun _ _ e => e) (fun h' t tk k => end0 h' t tk k) hz
  rcases hv with hv | ⟨a, kvs, ds, rfl, ha, hds, hp, rfl⟩
  · obtain ⟨as, rd⟩ := Dp.reads I d v u hv ru
    have nd := dp_nodict hv
    cases hv with
    | non => cases (show u = Value.none from ru); exact PySem.P.repr_of_none (end0 _ _ _ fun _ _ e => e)
    | bl b => cases (show u = Value.bool b from ru); exact PySem.P.repr_of_bool (end0 _ _ _ fun _ _ e => e)
    | int i =>
      obtain ⟨t, rfl⟩ := (show ∃ t, u = Value.int i t from ru)
      exact PySem.P.repr_of_int (of_decide_eq_true hs) (end0 _ _ _ fun _ _ e => e)
    | str x =>
      obtain ⟨t, rfl⟩ := (show ∃ t, u = Value.str x t from ru)
      exact PySem.P.repr_of_str (end0 _ _ _ fun _ _ e => e) hz
    | lst sq al => exact byRef _ as ru rd (fun e => by rw [nd] at e; cases e)
    | tup sq al => exact byRef _ as ru rd (fun e => by rw [nd] at e; cases e)
  · obtain rfl : u = Value.ref a := ru
    obtain ⟨_, hsys, vs, rkv, o, es, ep, ho, hex, hdat, _, hpr, _⟩ := (show ObjOk X.prog X.w H s.heap a (.dK kvs) from I.hok a _ ha)
    obtain ⟨e1, rv⟩ := KV.fst rkv
    obtain ⟨rk, ev⟩ := keys_read (h := s.heap) hpr
    obtain ⟨bs, rb⟩ := Dp.readsAll I ds _ _ hds rv
    have eb := plain_readsAll rb hp
    subst eb
    have el : (kvs.map fun kv => keyD kv.1).length = ds.length := by
      have := hds.len
      rw [List.length_map] at this ⊢
      exact this
    obtain ⟨z1, z2⟩ := zip_fst el
    have e2 : (kvs.map fun kv => keyD kv.1) = vs.map fun kv => keyD kv.1 := by
      have := congrArg (List.map keyD) e1
      simpa [List.map_map, Function.comp_def] using this
    have rd : Reads s.heap (.ref a) (.dict ((kvs.map fun kv => keyD kv.1).zip ds)) (a :: [] ++ []) := by
      refine .dict ho hex.1 hdat ?_ ?_
      · rw [z1, e2]; exact rk
      · rw [z2, ev]; exact rb
    refine byRef a _ rfl rd fun _ hm => ?_
    have : sysModules = a := by simpa using hm
    rw [← this] at hsys
    simp at hsys
end
end L2

set_option Elab.async false
set_option linter.all false
set_option maxRecDepth 100000
set_option maxHeartbeats 4000000
/-! dicts made by comprehensions; locks -/
namespace SB
open PySem L2
theorem valV_none {kvs : List (Key × V)} {k : Key} : valV kvs k = none ↔ k ∉ kvs.map (·.1) := by
  unfold valV
  rw [Option.map_eq_none_iff, List.find?_eq_none]
  constructor
  · intro h hm
    obtain ⟨kv, h1, h2⟩ := List.mem_map.mp hm
    exact h kv h1 (decide_eq_true h2)
  · intro h kv hm hd
    exact h (List.mem_map.mpr ⟨kv, hm, of_decide_eq_true hd⟩)
theorem putK_len (kvs : List (Key × V)) (k : Key) (v : V) : (putK kvs k v).length ≤ kvs.length + 1 := by
  unfold putK
  split
  · simp
  · simp
theorem putK_old {kvs : List (Key × V)} {k : Key} (v : V) (h : k ∈ kvs.map (·.1)) : (putK kvs k v).length = kvs.length ∧ (putK kvs k v).map (·.1) = kvs.map (·.1) := by
  have h1 : (kvs.any fun kv => decide (kv.1 = k)) = true := by
    obtain ⟨kv, a, b⟩ := List.mem_map.mp h
    exact List.any_eq_true.mpr ⟨kv, a, decide_eq_true b⟩
  unfold putK
  rw [if_pos h1]
  refine ⟨by simp, ?_⟩
  rw [List.map_map]
  refine List.map_congr_left fun kv _ => ?_
  show (if kv.1 = k then (kv.1, v) else kv).1 = kv.1
  split <;> rfl
theorem merge_len : ∀ (more kvs : List (Key × V)), (mergeK kvs more).length ≤ kvs.length + more.length
  | [], kvs => by simp [mergeK]
  | p :: r, kvs => by
    have h := merge_len r (putK kvs p.1 p.2)
    have h2 := putK_len kvs p.1 p.2
    show (mergeK (putK kvs p.1 p.2) r).length ≤ _
    rw [List.length_cons]
    omega
theorem merge_nodup : ∀ (more kvs : List (Key × V)), ((kvs ++ more).map (·.1)).Nodup → mergeK kvs more = kvs ++ more
  | [], kvs, _ => by simp [mergeK]
  | p :: r, kvs, h => by
    have e : kvs ++ p :: r = (kvs ++ [p]) ++ r := by simp
    have hn : valV kvs p.1 = none := by
      refine valV_none.mpr fun hm => ?_
      rw [List.map_append, List.nodup_append] at h
      exact h.2.2 _ hm p.1 (by simp) rfl
    show mergeK (putK kvs p.1 p.2) r = _
    rw [putK_new _ hn, merge_nodup r _ (by rw [e] at h; exact h), e]
theorem merge_len_iff : ∀ (more kvs : List (Key × V)), (mergeK kvs more).length = kvs.length + more.length ↔ (more.map (·.1)).Nodup ∧ ∀ p ∈ more, p.1 ∉ kvs.map (·.1)
  | [], kvs => by simp [mergeK]
  | p :: r, kvs => by
    by_cases hp : p.1 ∈ kvs.map (·.1)
    · have h1 := putK_old p.2 hp
      have h2 := merge_len r (putK kvs p.1 p.2)
      constructor
      · intro e
        have e' : (mergeK (putK kvs p.1 p.2) r).length = kvs.length + (p :: r).length := e
        rw [List.length_cons] at e'
        omega
      · intro h
        exact absurd hp (h.2 p (by simp))
    · have h1 := putK_new (kvs := kvs) p.2 (valV_none.mpr hp)
      have ih := merge_len_iff r (kvs ++ [p])
      have e0 : mergeK kvs (p :: r) = mergeK (kvs ++ [p]) r := by
        show mergeK (putK kvs p.1 p.2) r = _
        rw [h1]
      rw [e0, List.length_cons]
      have e1 : kvs.length + (r.length + 1) = (kvs ++ [p]).length + r.length := by simp; omega
      rw [e1, ih]
      constructor
      · rintro ⟨n, d⟩
        refine ⟨?_, ?_⟩
        · rw [List.map_cons, List.nodup_cons]
          refine ⟨fun hm => ?_, n⟩
          obtain ⟨q, q1, q2⟩ := List.mem_map.mp hm
          exact d q q1 (by rw [q2]; simp)
        · intro q hq
          rcases List.mem_cons.mp hq with rfl | hq
          · exact hp
          · intro hm
            exact d q hq (by rw [List.map_append]; exact List.mem_append_left _ hm)
      · rintro ⟨n, d⟩
        rw [List.map_cons, List.nodup_cons] at n
        refine ⟨n.2, fun q hq hm => ?_⟩
        rw [List.map_append] at hm
        rcases List.mem_append.mp hm with hm | hm
        · exact d q (List.mem_cons_of_mem _ hq) hm
        · have : q.1 = p.1 := by simpa using hm
          exact n.1 (List.mem_map.mpr ⟨q, hq, this⟩)
/-- what stood stands again behind a lock -/
theorem same_lock {H H' : Hp} {d : Addr} {f u : HO} (hd : H d = some u) (s : Same (upd H d f) H') : Same H (upd H' d u) := fun b o e => by
  by_cases hb : b = d
  · subst hb
    rw [hd] at e
    cases e
    exact upd_same
  · rw [upd_ne hb]
    exact s b o (by rw [upd_ne hb]; exact e)
theorem lock_same {H : Hp} {d b : Addr} {f o : HO} (hb : b ≠ d) (e : H b = some o) : upd H d f b = some o := by rw [upd_ne hb]; exact e
section
variable {J : It} {n : Nat} {G : Hp → Prop} {Y : Nat → Hp → V → Hp → Prop}
/-- a dict comprehension over the items of a list ys -/
theorem dc_mapL {α : Type} {ys : List α} (w : Walk J ys.length G Y) {g : TG} {tk tv : TE} {vs : List Nat} {σ : St} {H1 : Hp} {D : Addr} {Qd : Hp → Prop} (hD : H1 D = none) (hn : ys.length ≤ sizeLine) (hG : ∀ H, Same H1 H → G H) (F : α → Key × V)
    (hs : ∀ i y x H H' (R : V → V → Hp → Prop), ys[i]? = some y → Same H1 H → (∃ acc, H D = some (.dK acc)) → Y i H x H' → (∀ H5, Same H H5 → R (kV (F y).1) (F y).2 H5) →
      g x (wipe σ vs) H' fun σ2 H2 => wipe σ2 vs = wipe σ vs ∧ tk σ2 H2 fun y H4 => tv σ2 H4 fun z H5 => R y z H5)
    (hd : ∀ H, Same H1 H → H D = some (.dK (mergeK [] (ys.map F))) → Qd H) :
    ∃ W : Nat → Nat → Hp → Prop, (∃ m, W 0 m (upd H1 D (.dK []))) ∧ ∀ i m H, W i m H →
      (J.stop i H ∧ Qd H) ∨ (J.go i H ∧ ∃ Nx : Hp → Prop, (∀ H', Nx H' → ∃ m', m' < m ∧ W (i + 1) m' H') ∧ ∀ x H', J.yld i H x H' → g x (wipe σ vs) H' fun σ2 H2 => wipe σ2 vs = wipe σ vs ∧ tYes σ2 H2 fun b H3 =>
        if b = true then tk σ2 H3 fun y H4 => tv σ2 H4 fun z H5 => ∃ kvs k, y = kV k ∧ H5 D = some (.dK kvs) ∧ kvs.length < sizeLine ∧ Nx (upd H5 D (.dK (putK kvs k z))) else Nx H3) := by
  refine ⟨fun i m H => m = ys.length - i ∧ i ≤ ys.length ∧ Same H1 H ∧ H D = some (.dK (mergeK [] ((ys.take i).map F))), ⟨ys.length, by simp, Nat.zero_le _, same_new hD, upd_same⟩, ?_⟩
  rintro i m H ⟨rfl, hi, s1, hH⟩
  by_cases hlt : i < ys.length
  · refine .inr ⟨w.goes i H hlt (hG H s1), fun H' => Same H1 H' ∧ H' D = some (.dK (mergeK [] ((ys.take (i + 1)).map F))), fun H' p => ⟨ys.length - (i + 1), by omega, rfl, hlt, p.1, p.2⟩, fun x H' y => ?_⟩
    have hz : ys[i]? = some ys[i] := List.getElem?_eq_getElem hlt
    refine hs i ys[i] x H H' _ hz s1 ⟨_, hH⟩ (w.yields i H x H' hlt (hG H s1) y) fun H5 s5 => ?_
    refine ⟨_, _, rfl, s5 _ _ hH, ?_, ?_, ?_⟩
    · have := merge_len ((ys.take i).map F) []
      rw [List.length_map, List.length_take, show ([] : List (Key × V)).length = 0 from rfl] at this
      omega
    · intro b o eb
      rw [upd_ne (ne_of_none eb hD)]
      exact s5 _ _ (s1 _ _ eb)
    · rw [upd_same, List.take_succ, hz, List.map_append]
      show _ = some (HO.dK (List.foldl _ [] (_ ++ _)))
      rw [List.foldl_append]
      rfl
  · have e : i = ys.length := by omega
    subst e
    exact .inl ⟨w.stops H (hG H s1), hd H s1 (by rw [hH, List.take_length])⟩
/-- the items of a dict, one by one -/
theorem walk_kv {d : Addr} {o : Obj} {kvs : List (Key × V)} : Walk (Iti d o kvs) kvs.length (fun H => H d = some (.frz o (.dK kvs)))
    (fun i H v H' => ∃ T kv, kvs[i]? = some kv ∧ v = .ref T ∧ H T = none ∧ H' = upd H T (.tup [kV kv.1, kv.2])) := by
  refine (walk_items (d := d) (o := o) (kvs := kvs)).mono (fun _ h => h) fun i H x H' hi _ y => ?_
  obtain ⟨T, a, b, e1, e2, e3, e4, e5⟩ := y
  have hz : kvs[i]? = some kvs[i] := List.getElem?_eq_getElem hi
  dsimp only at e4 e5
  rw [hz] at e4 e5
  cases e4
  cases e5
  exact ⟨T, _, hz, e1, e2, e3⟩
end
end SB

set_option Elab.async false
set_option linter.all false
set_option maxRecDepth 100000
set_option maxHeartbeats 4000000
/-! list(d.values()), dict(zip(xs, ys)) -/
namespace L2
open PySem PySem.Spec PyProof.Rows
section
variable {X : Cx} {e e2 : Expr} {te : TE} {ta : TA} {p p2 pos pos2 apos cpos : Pos}
def tListVals (te : TE) : TE := fun σ H Q => te σ H fun x H1 => ∃ (d : Addr) (kvs : List (Key × V)), x = .ref d ∧ H1 d = some (.dK kvs) ∧ ∀ q, H1 q = none → Q (.ref q) (upd H1 q (.lst (kvs.map (·.2))))
theorem pe_listVals (hc : X.calm = true) (he : PE X e te) (hg : Gl X "list") (hm : X.mg "list" = none) (hv : bootBuiltins "list" = some (.type "list")) (hbase : attributeBase e "values" X.env (eval e X.env) = eval e X.env := by rfl) (hline : (apos.endLine == cpos.line) = true := by rfl)
    (hs : starEach [.Call (.Attribute e "values" apos) [] [] cpos] X.env = (false, eval (.Call (.Attribute e "values" apos) [] [] cpos) X.env) :: starEach [] X.env := by rfl) :
    PE X (.Call (.Name "list" p) [.Call (.Attribute e "values" apos) [] [] cpos] [] pos) (tListVals te) := by
  constructor
  intro pins s σ H Q I hq
  refine wpAny_Call_Name_kw (ld_blt I hg hm hv (PyProof.Rows.callWith_type1 ?_ hs rfl))
  rw [hs]
  show wpAny _ _ (spliced ((false, eval (.Call (.Attribute e "values" apos) [] [] cpos) X.env) :: backTo pos (starEach [] X.env))) _ _ s
  refine Calls.spliced_cons (wpAny_Call_method (T := "dict") (id := "dict.values") hbase rfl hline F.plainAttrs_dict F.slot_dict_values F.type_dict_values (thn (he.run pins s σ H _ I hq) fun u s1 hh => ?_))
  obtain ⟨x, H1, I1, rx, d, kvs, ex, hd, q⟩ := hh
  subst ex
  obtain rfl : u = Value.ref d := rx
  obtain ⟨hz, hs0, vs, kv, hdo⟩ := (show ObjOk X.prog X.w H1 s1.heap d (.dK kvs) from I1.hok d _ hd)
  obtain ⟨ep, hat⟩ := hdo.dictAt
  have lk : kvs.length = vs.length := Paired.length kv
  have up : ∀ b ob, s1.heap.get? b = some ob → (s1.heap.push { cls := .type "dict_values", data := .fields #[.ref d] }).get? b = some ob := fun b ob q => Heap.get?_push_of_some _ q
  refine ⟨hdo.typeIs, hdo.mapOf.noDict, ?_⟩
  show wpAny _ _ (callWith cpos (.builtin "dict.values") [.ref d] [] []) _ X.xe s1
  refine method_meetsIn F.slot_dict_values F.entry_dict_values rfl (PySem.evalArgs_none ⟨rfl, hdo.typeIs, F.args_dict_values_1 _, _, meets_dict_values (mixKind X.prog X.w) d hs0, ⟨vs, hdo⟩, ?_⟩)
  refine Calls.spliced_nil (PySem.W.kdl_call (PySem.W.kdl_values (knd := mixKind X.prog X.w) (r := s1.heap.objs.size) (d := d) (kvs := vs) (ep := ep)) (I1.ok.hd hc) ⟨⟨_, Heap.get?_push_size _ rfl, rfl, rfl⟩, hat.push _⟩ (by omega) fun h' tk acc c hk hS hi => ?_)
  have e1 : acc.toList = vs.map (·.2) := PySem.W.kdl_vals_eq acc.toList (by rw [Array.length_toList]; exact hi.1) fun j v hj => by
    rw [Array.getElem?_toList] at hj
    exact hi.2 j v hj
  have rv : Vals (kvs.map (·.2)) acc.toList := by rw [e1]; exact (KV.fst kv).2
  have lz : (s1.heap.push { cls := .type "dict_values", data := .fields #[.ref d] }).objs.size = s1.heap.objs.size + 1 := Heap.size_push ..
  have big : s1.heap.objs.size ≤ (s1.heap.push { cls := .type "dict_values", data := .fields #[.ref d] }).objs.size := by rw [lz]; exact Nat.le_succ _
  refine ⟨.ref _, _, I1.laid (t' := tk) (o := .lst (kvs.map (·.2))) (fun b ob z => hk b ob (up b ob z)) big ?_, rfl, q _ (I1.hok.fresh big)⟩
  exact ⟨by rw [List.length_map]; exact hz, acc.toList, c, rv, by rw [hS]⟩
/-- dict(zip(xs, ys)): the keys xs are ints and texts, ys is not shorter -/
def tDictZip (K : PySem.W.Frag) (ta : TA) : TE := fun σ H Q => ta σ H fun vs H1 => ∃ (a b : Addr) (ks : List Key) (ys : List V), vs = [.ref a, .ref b] ∧ SqL K H1 a (ks.map kV) ∧ SqL K H1 b ys ∧ ks.length ≤ ys.length ∧
  ∀ q, H1 q = none → Q (.ref q) (upd H1 q (.dK (mergeK [] (ks.zip ys))))
theorem zip_pairs {ks : List Key} {ys : List V} {us ws : List Value} (ru : Vals (ks.map kV) us) (rw' : Vals ys ws) : KV (ks.zip ys) (ks.zip ws) ∧ ∀ (i : Nat) (key v : Value), us[i]? = some key → ws[i]? = some v → ∃ k, (ks.zip ws)[i]? = some (k, v) ∧ keyIs k key = true := by
  induction ks generalizing ys us ws with
  | nil =>
    cases ru
    exact ⟨.nil, fun i key v h _ => by simp at h⟩
  | cons k r ih =>
    cases ru with
    | cons r1 r2 =>
      cases rw' with
      | nil => exact ⟨.nil, fun i key v _ h => by simp at h⟩
      | cons q1 q2 =>
        obtain ⟨a, b⟩ := ih r2 q2
        refine ⟨.cons ⟨rfl, q1⟩ a, fun i key v h1 h2 => ?_⟩
        cases i with
        | zero =>
          simp at h1 h2
          subst h1 h2
          refine ⟨k, by simp, ?_⟩
          cases k with
          | inl i => obtain ⟨t, rfl⟩ := (show ∃ t, _ = Value.int i t from r1); exact keyIs_int i t
          | inr x => obtain ⟨t, rfl⟩ := (show ∃ t, _ = Value.str x t from r1); exact keyIs_str x t
        | succ i => exact b i key v (by simpa using h1) (by simpa using h2)
theorem pe_dictZip (hc : X.calm = true) (ha : PA X [e, e2] ta) (hg : Gl X "dict") (hm : X.mg "dict" = none) (hgz : Gl X "zip") (hmz : X.mg "zip" = none)
    (hs : starEach [.Call (.Name "zip" p2) [e, e2] [] pos2] X.env = (false, eval (.Call (.Name "zip" p2) [e, e2] [] pos2) X.env) :: starEach [] X.env := by rfl)
    (hs2 : starEach [e, e2] X.env = (false, eval e X.env) :: starEach [e2] X.env := by rfl) (hpl : (backTo pos2 (starEach [e2] X.env)).any (·.1) = false := by rfl) :
    PE X (.Call (.Name "dict" p) [.Call (.Name "zip" p2) [e, e2] [] pos2] [] pos) (tDictZip X.K ta) := by
  constructor
  intro pins s σ H Q I hq
  have bd : bootBuiltins "dict" = some (.type "dict") := by decide +kernel
  refine wpAny_Call_Name_kw (ld_blt I hg hm bd (PyProof.Rows.callWith_type1 ?_ hs rfl))
  rw [hs]
  show wpAny _ _ (spliced ((false, eval (.Call (.Name "zip" p2) [e, e2] [] pos2) X.env) :: backTo pos (starEach [] X.env))) _ _ s
  refine Calls.spliced_cons (Call_ (ld_blt I hgz hmz PyProof.Rows.boot_zip (PyProof.Rows.callWith_type1 (thn (ha.run pos2 pins s σ H _ I hq) fun us s1 hh => ?_) hs2 hpl)))
  obtain ⟨vs, H1, I1, r1, a, b, ks, ys, ex, sa, sb, hle, q⟩ := hh
  subst ex
  obtain ⟨u1, u2, rfl, ra, rb⟩ := vals2 r1
  cases (show u1 = Value.ref a from ra)
  cases (show u2 = Value.ref b from rb)
  obtain ⟨its, rv, pl1, z1⟩ := I1.list sa
  obtain ⟨its2, rv2, pl2, z2⟩ := I1.list sb
  refine call_zip_2 pl1.isList pl2.isList fun h' hz hTI hTO i1 i2 hsz hk => ?_
  obtain ⟨kvR, kvG⟩ := zip_pairs rv rv2
  have l1 : its.length = ks.length := by rw [← rv.length, List.length_map]
  have l2 : its2.length = ys.length := rv2.length.symm
  have mn : min its.toArray.size its2.toArray.size = ks.length := by
    simp only [List.size_toArray]
    omega
  have P := PairArg.zip (prog := X.prog) (w := X.w) _ _ _ _ _ a b (PySem.W.ktu_apart s1.heap.objs.size a b pl1.lt pl2.lt) its.toArray its2.toArray
  have keepL : ∀ {l : Addr} {xs : Array Value}, s1.heap.IsList l xs → h'.IsList l xs := fun {l xs} hl => by
    obtain ⟨o, e1, r⟩ := hl
    exact ⟨o, hk _ _ e1, r⟩
  have have1 : PairsHave (mixKind X.prog X.w) (min its.toArray.size its2.toArray.size) (fun i k v => its.toArray[i]? = some k ∧ its2.toArray[i]? = some v) (ks.zip its2) := by
    refine ⟨?_, fun i key v hr => ?_⟩
    · rw [mn, List.length_zip]
      omega
    · simp only [List.getElem?_toArray] at hr
      exact kvG i key v hr.1 hr.2
  refine Calls.spliced_nil (PySem.call_dict_pairs (knd := mixKind X.prog X.w) (s := { s1 with heap := h' }) P (I1.ok.hd hc) ⟨hz, hTI, ⟨_, _, hTO⟩, i1, i2, keepL pl1.isList, keepL pl2.isList⟩ have1 (by rw [mn]; rw [List.length_map] at z1; exact z1) fun h2 tk hd2 k2 => ?_)
  have big : s1.heap.objs.size ≤ h'.objs.size := by rw [hsz]; omega
  have all : ∀ c o, s1.heap.get? c = some o → h2.get? c = some o := fun c o ec => by
    refine k2 c o (fun hm => ?_) (hk c o ec)
    have lt := Heap.lt_size ec
    simp only [List.mem_cons, List.not_mem_nil, or_false] at hm
    rcases hm with rfl | rfl | rfl | rfl
    · exact absurd lt (Nat.not_lt.mpr (Nat.le_add_right _ _))
    · exact absurd lt (Nat.not_lt.mpr (Nat.le_add_right _ _))
    · exact absurd lt (Nat.lt_irrefl _)
    · exact absurd lt (Nat.not_lt.mpr (Nat.le_add_right _ _))
  have nsys : (h'.objs.size == sysModules) = false := beq_eq_false_iff_ne.mpr (Nat.ne_of_gt (Nat.lt_of_lt_of_le I1.big big))
  have hlen : (mergeK [] (ks.zip ys)).length ≤ sizeLine := by
    refine Nat.le_trans (length_mergeK _ _) ?_
    rw [List.length_nil, Nat.zero_add, List.length_zip]
    rw [List.length_map] at z1
    omega
  exact ⟨.ref h'.objs.size, _, I1.laid (t' := tk) (o := .dK (mergeK [] (ks.zip ys))) all big (show ObjOk X.prog X.w _ _ _ (.dK (mergeK [] (ks.zip ys))) from ⟨hlen, nsys, merged [] (ks.zip its2), KV.merge kvR .nil, hd2⟩), rfl, q _ (I1.hok.fresh big)⟩
end
end L2

set_option Elab.async false
set_option linter.all false
set_option maxRecDepth 100000
set_option maxHeartbeats 4000000
/-! dicts whose keys are ints, texts and tuples of such, mixed -/
namespace PySem
namespace MixD
section
variable {prog : Program} {w : World} {A : Around} {E : Value → Shared → Prop} {s : Shared}
/-- the entries es have the keys ks -/
structure KeysAre (w : World) (h : Heap) (es : Array DictEntry) (ks : List NestedKey) : Prop where
  len : es.size = ks.length
  at_ : ∀ (j : Nat) (e : DictEntry) (k : NestedKey), es[j]? = some e → ks[j]? = some k → NestedIs h k e.key ∧ e.hash = k.hash w ∧ k.depth ≤ 8
  nd : ks.Nodup
theorem nd_idx {ks : List NestedKey} (hn : ks.Nodup) {i j : Nat} {k : NestedKey} (hi : ks[i]? = some k) (hj : ks[j]? = some k) : i = j := by
  obtain ⟨h1, e1⟩ := List.getElem?_eq_some_iff.mp hi
  obtain ⟨h2, e2⟩ := List.getElem?_eq_some_iff.mp hj
  have hp := List.pairwise_iff_getElem.mp hn
  rcases Nat.lt_trichotomy i j with h | h | h
  · exact absurd (e1.trans e2.symm) (hp i j h1 h2 h)
  · exact h
  · exact absurd (e2.trans e1.symm) (hp j i h2 h1 h)
theorem ask_eq {x y : NestedKey} {a b : Value} {Q : Bool → Shared → Prop} (hu : A.units + 8 < cLine) (hx : NestedIs s.heap x a) (hy : NestedIs s.heap y b) (dx : x.depth ≤ 8) (h : Q (decide (x = y)) s) : wpAny (model prog w) A (eqBool a b) Q E s :=
  eqAt_key x y A s a b hx hy (by have := Nat.min_le_left x.depth y.depth; omega) prog w E Q (by rw [← NestedKey.decide_eq]; exact h)
theorem quiet_all {key : Value} {k : NestedKey} {stored : List Value} {Q : Bool → Shared → Prop} (hk : NestedIs s.heap k key) (hd : k.depth ≤ 8) (hst : ∀ v ∈ stored, ∃ k', NestedIs s.heap k' v ∧ k'.depth ≤ 8) (h : Q false s) :
    wpAny (model prog w) A (tableMayTell key stored) Q E s := by
  unfold tableMayTell
  split
  · exact wpAny_pure h
  · refine wpAny_bind (quiet_key k key 8 s hk hd A E _ ?_)
    rw [if_neg (show ¬ (!true) = true by decide)]
    refine wpAny_bind (wpAny_forIn_list _ (fun more r s' => s' = s ∧ r = (none, ()) ∧ ∀ v ∈ more, ∃ k', NestedIs s.heap k' v ∧ k'.depth ≤ 8) _ ?_ ?_ _ _ ⟨rfl, rfl, hst⟩)
    · rintro v more r s' ⟨rfl, rfl, hm⟩
      obtain ⟨k', n', d'⟩ := hm v List.mem_cons_self
      refine wpAny_bind (quiet_key k' v 8 _ n' d' A E _ ?_)
      rw [if_neg (show ¬ (!true) = true by decide)]
      exact wpAny_pure ⟨rfl, rfl, fun u hu => hm u (List.mem_cons_of_mem _ hu)⟩
    · rintro r s' ⟨rfl, rfl, _⟩
      exact wpAny_pure h
/-- places with the hash of k, from i on -/
def from_ (es : Array DictEntry) (h : Int) (i : Nat) : List Nat := (List.range' i (es.size - i)).filter (fun j => (es[j]?.map (·.hash)) == some h)
theorem from_zero (es : Array DictEntry) (h : Int) : placesWithHash es.size (fun i => es[i]?.map (·.hash)) h = from_ es h 0 := by
  unfold placesWithHash from_
  rw [List.range_eq_range', Nat.sub_zero]
theorem from_cons {es : Array DictEntry} {h : Int} {i x : Nat} {more : List Nat} (e : x :: more = from_ es h i) : i ≤ x ∧ x < es.size ∧ (∀ j, i ≤ j → j < x → ((es[j]?.map (·.hash)) == some h) = false) ∧ more = from_ es h (x + 1) := by
  obtain ⟨h1, h2, _, h4, h5⟩ := filter_range'_cons _ _ _ _ _ e.symm
  refine ⟨h1, by omega, h4, ?_⟩
  rw [h5, from_]
  congr 2
  omega
theorem from_nil {es : Array DictEntry} {h : Int} {i : Nat} (e : [] = from_ es h i) : ∀ j, i ≤ j → j < es.size → ((es[j]?.map (·.hash)) == some h) = false := by
  intro j h1 h2
  have := List.filter_eq_nil_iff.mp e.symm j (List.mem_range'_1.mpr ⟨h1, by omega⟩)
  simpa using this
theorem find_mix {d : Addr} {o : Obj} {es : Array DictEntry} {ep : Nat} {ks : List NestedKey} {k : NestedKey} {key : Value} {Q : Option Nat → Shared → Prop} (hu : A.units + 8 < cLine) (hk : NestedIs s.heap k key) (hd8 : k.depth ≤ 8)
    (ho : s.heap.get? d = some o) (hd : o.data = .dict es ep) (K : KeysAre w s.heap es ks) (hnone : k ∉ ks → Q none s) (hsome : ∀ j, ks[j]? = some k → Q (some j) s) :
    wpAny (model prog w) A (dictFind d key (k.hash w)) Q E s := by
  have both : ∀ j, j < es.size → ∃ e k', es[j]? = some e ∧ ks[j]? = some k' ∧ NestedIs s.heap k' e.key ∧ e.hash = k'.hash w ∧ k'.depth ≤ 8 := by
    intro j hj
    have hj2 : j < ks.length := by rw [← K.len]; exact hj
    exact ⟨es[j], ks[j], Array.getElem?_eq_getElem hj, List.getElem?_eq_getElem hj2, K.at_ j _ _ (Array.getElem?_eq_getElem hj) (List.getElem?_eq_getElem hj2)⟩
  -- a place that is skipped has another key
  have other : ∀ j : Nat, ((es[j]?.map (·.hash)) == some (k.hash w)) = false → ks[j]? ≠ some k := by
    intro j hf hj
    have hj1 : j < es.size := by
      rw [K.len]
      exact (List.getElem?_eq_some_iff.mp hj).1
    obtain ⟨e, k', e1, e2, _, e3, _⟩ := both j hj1
    rw [hj] at e2
    cases e2
    rw [e1, Option.map_some, e3] at hf
    simp at hf
  have gone : ∀ i, (∀ j, j < i → ks[j]? ≠ some k) → (∀ j : Nat, i ≤ j → j < es.size → ((es[j]?.map (·.hash)) == some (k.hash w)) = false) → k ∉ ks := by
    intro i h1 h2 hm
    obtain ⟨j, hj, ej⟩ := List.getElem_of_mem hm
    have hj' : ks[j]? = some k := by rw [List.getElem?_eq_getElem hj, ej]
    rcases Nat.lt_or_ge j i with h | h
    · exact h1 j h hj'
    · exact other j (h2 j h (by rw [K.len]; exact hj)) hj'
  unfold dictFind
  try with_reducible refine wpAny_holding ?_
  refine wpAny_bind (wpAny_dictEntries ho hd ?_)
  dsimp only
  rw [from_zero]
  have hst : ∀ v ∈ (from_ es (k.hash w) 0).filterMap (fun i => es[i]?.map (·.key)), ∃ k', NestedIs s.heap k' v ∧ k'.depth ≤ 8 := by
    intro v hv
    obtain ⟨i, hi1, hi⟩ := List.mem_filterMap.mp hv
    have hi2 : i < es.size := by
      cases he : es[i]? with
      | none =>
        rw [he] at hi
        cases hi
      | some e => exact (Array.getElem?_eq_some_iff.mp he).1
    obtain ⟨e, k', e1, _, e3, _, e5⟩ := both i hi2
    rw [e1] at hi
    cases hi
    exact ⟨k', e3, e5⟩
  have walk : wpAny (model prog w) A (dictWalkPlain d key (k.hash w) es (from_ es (k.hash w) 0)) Q E s := by
    unfold dictWalkPlain
    refine wpAny_bind (wpAny_forIn_list _ (fun more b s' => s' = s ∧ b = (none, ()) ∧ ∃ i, more = from_ es (k.hash w) i ∧ ∀ j, j < i → ks[j]? ≠ some k) _ ?_ ?_ _ _ ⟨rfl, rfl, 0, rfl, fun j h => absurd h (Nat.not_lt_zero _)⟩)
    · rintro x more b s' ⟨rfl, rfl, i, hm, hno⟩
      obtain ⟨h1, h2, h3, h4⟩ := from_cons hm
      obtain ⟨e, k', e1, e2, e3, e4, e5⟩ := both x h2
      have upto : k' ≠ k → ∃ i, more = from_ es (k.hash w) i ∧ ∀ j, j < i → ks[j]? ≠ some k := fun hne => ⟨x + 1, h4, fun j hj => by
        rcases Nat.lt_or_ge j i with h | h
        · exact hno j h
        · rcases Nat.lt_or_ge j x with h' | h'
          · exact other j (h3 j h h')
          · obtain rfl : j = x := by omega
            rw [e2]
            exact fun z => hne (Option.some.inj z)⟩
      simp only [e1]
      by_cases hh : (e.hash == k.hash w) = true
      · rw [if_pos hh]
        refine wpAny_bind (wpAny_dictEpoch ho hd (wpAny_bind (ask_eq (x := k') (y := k) hu e3 hk e5 (wpAny_bind (wpAny_dictEpoch ho hd ?_)))))
        rw [if_neg (show ¬ (ep != ep) = true by simp)]
        by_cases hkk : k' = k
        · rw [decide_eq_true hkk, if_pos rfl]
          refine wpAny_bind (wpAny_rule (wpAny_pure (wpAny_pure (hsome x ?_))))
          rw [e2, hkk]
        · rw [decide_eq_false hkk, if_neg Bool.false_ne_true]
          exact wpAny_bind (wpAny_rule (wpAny_pure ⟨rfl, rfl, upto hkk⟩))
      · rw [if_neg hh]
        refine wpAny_pure ⟨rfl, rfl, upto fun hkk => hh ?_⟩
        rw [e4, hkk]
        simp
    · rintro b s' ⟨rfl, rfl, i, hm, hno⟩
      exact wpAny_pure (hnone (gone i hno (from_nil hm)))
  have byText : ∀ x t, key = .str x t → (es.all fun e => isExactStrKey e.key) = true → wpAny (model prog w) A (foundByValue d key es x) Q E s := by
    rintro x t rfl hs
    obtain rfl : k = .text x := by
      cases hk
      rfl
    unfold foundByValue
    have same : ∀ (j : Nat) (e : DictEntry) (k' : NestedKey), es[j]? = some e → ks[j]? = some k' → (e.key.isStr x = true ↔ k' = .text x) := by
      intro j e k' h1 h2
      obtain ⟨n, _, _⟩ := K.at_ j e k' h1 h2
      have hx : isExactStrKey e.key = true := Array.all_eq_true_iff_forall_mem.mp hs e (Array.mem_of_getElem? h1)
      cases hkey : e.key with
      | str y u =>
        rw [hkey] at n
        cases n
        simp [Value.isStr]
      | _ =>
        rw [hkey] at hx
        cases hx
    cases hf : es.findIdx? (fun e => e.key.isStr x) with
    | none =>
      refine wpAny_pure (hnone fun hm => ?_)
      obtain ⟨j, hj, ej⟩ := List.getElem_of_mem hm
      have hj2 : j < es.size := by rw [K.len]; exact hj
      obtain ⟨e, k', e1, e2, _⟩ := both j hj2
      have ek : k' = .text x := by
        rw [List.getElem?_eq_getElem hj] at e2
        exact (Option.some.inj e2).symm.trans ej
      have := Array.findIdx?_eq_none_iff.mp hf e (Array.mem_of_getElem? e1)
      rw [(same j e k' e1 e2).mpr ek] at this
      cases this
    | some i =>
      obtain ⟨hlt, hi, _⟩ := Array.findIdx?_eq_some_iff_getElem.mp hf
      obtain ⟨e, k', e1, e2, e3, _, e5⟩ := both i hlt
      have ee : es[i] = e := by
        rw [Array.getElem?_eq_getElem hlt] at e1
        exact Option.some.inj e1
      have ek : k' = .text x := (same i e k' e1 e2).mp (by rw [← ee]; exact hi)
      simp only [e1]
      refine wpAny_bind (wpAny_dictEpoch ho hd (wpAny_bind (ask_eq (x := k') (y := .text x) hu e3 hk e5 (wpAny_bind (wpAny_dictEpoch ho hd ?_)))))
      rw [if_neg (show ¬ (ep != ep) = true by simp), decide_eq_true ek]
      refine wpAny_bind (wpAny_rule (wpAny_pure (hsome i ?_)))
      rw [e2, ek]
  have hany : ∀ a, key = .ref a → ¬ (es.any fun e => e.key == Value.ref a && e.hash != k.hash w) = true := by
    rintro a rfl hb
    obtain ⟨j, hj, hc⟩ := Array.any_eq_true.mp hb
    obtain ⟨e, k', e1, e2, e3, e4, _⟩ := both j hj
    have ee : es[j] = e := by
      rw [Array.getElem?_eq_getElem hj] at e1
      exact Option.some.inj e1
    rw [ee] at hc
    simp only [Bool.and_eq_true, beq_iff_eq, bne_iff_ne, ne_eq] at hc
    obtain ⟨c1, c2⟩ := hc
    rw [c1] at e3
    exact c2 (by rw [e4, NestedIs.inj _ _ _ e3 hk])
  generalize hS : (from_ es (k.hash w) 0).filterMap (fun i => es[i]?.map (·.key)) = stored at hst ⊢
  generalize (key :: stored).all carriedByValue = cb
  generalize (stored == [key]) = one
  cases key <;> dsimp only
  case' str x t =>
    by_cases hs : (es.all fun e => isExactStrKey e.key) = true
    · rw [if_pos hs]
      exact byText _ _ rfl hs
    rw [if_neg hs]
  all_goals cases cb
  all_goals try (rw [if_pos (rfl : true = true)]; exact walk)
  all_goals rw [if_neg Bool.false_ne_true]
  case' ref a => rw [if_neg (hany a rfl)]
  all_goals (
    cases one
    all_goals first | rw [if_neg Bool.false_ne_true] | rw [if_pos (rfl : true = true)]
    all_goals first | refine wpAny_bind (wpAny_pure ?_) | refine wpAny_bind (quiet_all hk hd8 hst ?_))
  all_goals rw [if_neg (show ¬ (false && _) = true from Bool.false_ne_true)]
  all_goals
    refine wpAny_bind (wpAny_forIn_list _ (fun more b s' => s' = s ∧ ∃ i hit, b = (none, hit) ∧ more = from_ es (k.hash w) i ∧ ((hit = none ∧ ∀ j, j < i → ks[j]? ≠ some k) ∨ ∃ j, hit = some j ∧ j < i ∧ ks[j]? = some k)) _ ?_ ?_ _ _
      ⟨rfl, 0, none, rfl, rfl, .inl ⟨rfl, fun j h => absurd h (Nat.not_lt_zero _)⟩⟩)
    · rintro x more b s' ⟨rfl, i, hit, rfl, hm, hH⟩
      obtain ⟨h1, h2, h3, h4⟩ := from_cons hm
      obtain ⟨e, k', e1, e2, e3, e4, e5⟩ := both x h2
      have hX : (hit = none ∧ ∀ j, j < x → ks[j]? ≠ some k) ∨ ∃ j, hit = some j ∧ j < x ∧ ks[j]? = some k := by
        rcases hH with ⟨h0, hno⟩ | ⟨j, hj1, hj2, hj3⟩
        · refine .inl ⟨h0, fun j hj => ?_⟩
          rcases Nat.lt_or_ge j i with h | h
          · exact hno j h
          · exact other j (h3 j h hj)
        · exact .inr ⟨j, hj1, by omega, hj3⟩
      have stay : k' ≠ k → (hit = none ∧ ∀ j, j < x + 1 → ks[j]? ≠ some k) ∨ ∃ j, hit = some j ∧ j < x + 1 ∧ ks[j]? = some k := fun hne => by
        rcases hX with ⟨h0, hno⟩ | ⟨j, hj1, hj2, hj3⟩
        · refine .inl ⟨h0, fun j hj => ?_⟩
          rcases Nat.lt_or_ge j x with h | h
          · exact hno j h
          · obtain rfl : j = x := by omega
            rw [e2]
            exact fun z => hne (Option.some.inj z)
        · exact .inr ⟨j, hj1, by omega, hj3⟩
      rw [e1]
      dsimp only
      by_cases hh : (e.hash == k.hash w) = true
      · rw [if_pos hh]
        refine wpAny_bind (wpAny_dictEpoch ho hd (wpAny_bind (ask_eq (x := k') (y := k) hu e3 hk e5 (wpAny_bind (wpAny_dictEpoch ho hd ?_)))))
        rw [if_neg (show ¬ (ep != ep) = true by simp)]
        by_cases hkk : k' = k
        · rw [decide_eq_true hkk, if_pos rfl]
          rw [hkk] at e2
          rcases hX with ⟨rfl, _⟩ | ⟨j, _, hj2, hj3⟩
          · rw [if_neg (show ¬ (none : Option Nat).isSome = true from Bool.false_ne_true)]
            refine wpAny_bind (wpAny_rule ?_)
            split
            · exact wpAny_pure (wpAny_pure (hsome x e2))
            · exact wpAny_pure ⟨rfl, x + 1, some x, rfl, h4, .inr ⟨x, rfl, Nat.lt_succ_self x, e2⟩⟩
          · have := nd_idx K.nd hj3 e2
            omega
        · rw [decide_eq_false hkk, if_neg Bool.false_ne_true]
          refine wpAny_bind (wpAny_rule ?_)
          rw [if_neg (show ¬ (false && _) = true from Bool.false_ne_true)]
          exact wpAny_pure ⟨rfl, x + 1, hit, rfl, h4, stay hkk⟩
      · rw [if_neg hh]
        refine wpAny_pure ⟨rfl, x + 1, hit, rfl, h4, stay fun hkk => hh ?_⟩
        rw [e4, hkk]
        simp
    · rintro b s' ⟨rfl, i, hit, rfl, hm, hH⟩
      rcases hH with ⟨rfl, hno⟩ | ⟨j, rfl, _, hj⟩
      · exact wpAny_pure (hnone (gone i hno (from_nil hm)))
      · exact wpAny_pure (hsome j hj)
def entM (w : World) (x : NestedKey × Value × Value) : DictEntry := ⟨x.1.hash w, x.2.1, x.2.2⟩
def DictM (w : World) (h : Heap) (d : Addr) (xs : List (NestedKey × Value × Value)) : Prop := ∃ o es ep, h.get? d = some o ∧ o.ExactDict ∧ o.data = .dict es ep ∧ es.toList = xs.map (entM w)
/-- the keys are keys -/
def KeysM (h : Heap) (xs : List (NestedKey × Value × Value)) : Prop := (∀ x ∈ xs, NestedIs h x.1 x.2.1 ∧ x.1.depth ≤ 8) ∧ (xs.map (·.1)).Nodup
def putM {α β : Type} (xs : List (NestedKey × α × β)) (k : NestedKey) (u : α) (v : β) : List (NestedKey × α × β) := if k ∈ xs.map (·.1) then xs.map (fun x => if x.1 = k then (x.1, x.2.1, v) else x) else xs ++ [(k, u, v)]
theorem DictM.typeIs {d : Addr} {xs : List (NestedKey × Value × Value)} (hm : DictM w s.heap d xs) : s.TypeIs (.ref d) "dict" := by
  obtain ⟨o, _, _, ho, hc, _⟩ := hm
  exact ⟨o, ho, hc.1⟩
theorem DictM.keep {h h' : Heap} {d : Addr} {xs : List (NestedKey × Value × Value)} (hm : DictM w h d xs) (k : ∀ o, h.get? d = some o → h'.get? d = some o) : DictM w h' d xs := by
  obtain ⟨o, es, ep, ho, r⟩ := hm
  exact ⟨o, es, ep, k o ho, r⟩
theorem keysAre_of {h : Heap} {es : Array DictEntry} {xs : List (NestedKey × Value × Value)} (he : es.toList = xs.map (entM w)) (hk : KeysM h xs) : KeysAre w h es (xs.map (·.1)) := by
  refine ⟨by rw [← Array.length_toList, he, List.length_map, List.length_map], fun j e k h1 h2 => ?_, hk.2⟩
  rw [← Array.getElem?_toList, he, List.getElem?_map] at h1
  rw [List.getElem?_map] at h2
  cases hx : xs[j]? with
  | none =>
    rw [hx] at h1
    cases h1
  | some x =>
    rw [hx] at h1 h2
    cases h1
    cases h2
    obtain ⟨a, b⟩ := hk.1 x (List.mem_of_getElem? hx)
    exact ⟨a, rfl, b⟩
theorem get_mix {d : Addr} {xs : List (NestedKey × Value × Value)} {k : NestedKey} {key : Value} {Q : Option Value → Shared → Prop} (hu : A.units + 8 < cLine) (hk : NestedIs s.heap k key) (hd8 : k.depth ≤ 8) (hm : DictM w s.heap d xs) (hK : KeysM s.heap xs)
    (h : Q ((xs.find? fun x => decide (x.1 = k)).map (·.2.2)) { s with toks := s.toks + k.draws }) : wpAny (model prog w) A (dictGet d key) Q E s := by
  obtain ⟨o, es, ep, ho, _, hd, he⟩ := hm
  have KA := keysAre_of he hK
  unfold dictGet
  try with_reducible refine wpAny_holding ?_
  refine wpAny_bind (pyHash_key k key A s _ hk (by omega) (wpAny_bind (find_mix (s := { s with toks := s.toks + k.draws }) hu hk hd8 ho hd KA ?_ ?_)))
  · intro hno
    have : (xs.find? fun x => decide (x.1 = k)) = none := List.find?_eq_none.mpr fun x hx hp => hno (List.mem_map.mpr ⟨x, hx, of_decide_eq_true hp⟩)
    rw [this] at h
    exact wpAny_pure h
  · intro j hj
    rw [List.getElem?_map] at hj
    obtain ⟨x, hx, ek⟩ := Option.map_eq_some_iff.mp hj
    have : (xs.find? fun x => decide (x.1 = k)) = some x := by
      cases hf : xs.find? (fun x => decide (x.1 = k)) with
      | none => exact absurd (decide_eq_true ek) (List.find?_eq_none.mp hf x (List.mem_of_getElem? hx))
      | some y =>
        have h1 := List.mem_of_find?_eq_some hf
        have h2 := List.find?_some hf
        obtain ⟨i, hi, ei⟩ := List.getElem_of_mem h1
        have e1 : (xs.map (·.1))[i]? = some k := by
          rw [List.getElem?_map, List.getElem?_eq_getElem hi, ei, Option.map_some, of_decide_eq_true h2]
        have e2 : (xs.map (·.1))[j]? = some k := by rw [List.getElem?_map, hx, Option.map_some, ek]
        have := nd_idx hK.2 e1 e2
        subst this
        rw [List.getElem?_eq_getElem hi, ei] at hx
        exact hx
    rw [this] at h
    refine wpAny_bind (wpAny_dictEntries (s := { s with toks := s.toks + k.draws }) ho hd ?_)
    rw [show es[j]? = some (entM w x) by rw [← Array.getElem?_toList, he, List.getElem?_map, hx]; rfl]
    exact wpAny_pure h
theorem modify_put {v : Value} {k : NestedKey} : ∀ (xs : List (NestedKey × Value × Value)) (j : Nat) (x : NestedKey × Value × Value), xs[j]? = some x → x.1 = k → (xs.map (·.1)).Nodup →
    (xs.map (entM w)).modify j (fun e => { e with val := v }) = (xs.map (fun y => if y.1 = k then (y.1, y.2.1, v) else y)).map (entM w)
  | [], j, x, h, _, _ => by cases h
  | y :: r, 0, x, h, e, hn => by
    cases h
    rw [List.map_cons, List.nodup_cons] at hn
    have hr : r.map (fun z => if z.1 = k then (z.1, z.2.1, v) else z) = r := by
      refine (List.map_congr_left fun z hz => ?_).trans (List.map_id' r)
      rw [if_neg fun q => hn.1 (by rw [e, ← q]; exact List.mem_map.mpr ⟨z, hz, rfl⟩)]
    rw [List.map_cons, List.map_cons, List.map_cons, hr, List.modify_zero_cons, if_pos e]
    rfl
  | y :: r, j + 1, x, h, e, hn => by
    rw [List.getElem?_cons_succ] at h
    rw [List.map_cons, List.nodup_cons] at hn
    have hy : y.1 ≠ k := fun q => hn.1 (by rw [q, ← e]; exact List.mem_map.mpr ⟨x, List.mem_of_getElem? h, rfl⟩)
    rw [List.map_cons, List.map_cons, List.map_cons, List.modify_succ_cons, if_neg hy, modify_put r j x h e hn.2]
theorem set_mix {d : Addr} {xs : List (NestedKey × Value × Value)} {k : NestedKey} {key v : Value} {Q : Unit → Shared → Prop} (hu : A.units + 8 < cLine) (hk : NestedIs s.heap k key) (hd8 : k.depth ≤ 8) (hm : DictM w s.heap d xs) (hK : KeysM s.heap xs) (hsz : xs.length ≤ sizeLine)
    (hQ : ∀ h', DictM w h' d (putM xs k key v) → Heap.SameBut d s.heap h' → Q () { s with heap := h', toks := s.toks + k.draws }) : wpAny (model prog w) A (dictSet d key v) Q E s := by
  obtain ⟨o, es, ep, ho, hc, hd, he⟩ := hm
  have KA := keysAre_of he hK
  have hes : es.size = xs.length := by rw [KA.len, List.length_map]
  unfold dictSet
  try with_reducible refine wpAny_holding ?_
  refine wpAny_bind (pyHash_key k key A s _ hk (by omega) ?_)
  unfold dictSetHashed
  try with_reducible refine wpAny_holding ?_
  refine wpAny_bind (find_mix (s := { s with toks := s.toks + k.draws }) hu hk hd8 ho hd KA ?_ ?_)
  · intro hno
    refine wpAny_bind (wpAny_rule (wpAny_updateDictKeys (hz := by omega) (s := { s with toks := s.toks + k.draws }) ho hd (hQ _ ⟨_, _, ep + 1, Heap.get?_update_self _ ho (Obj.isFreed_of_dict (Obj.data_mapDictKeys hd _)), hc.mapDictKeys _, Obj.data_mapDictKeys hd _, ?_⟩ (Heap.SameBut.update ..))))
    rw [putM, if_neg hno, Array.toList_push, he, List.map_append]
    rfl
  · intro j hj
    have hmem : k ∈ xs.map (·.1) := List.mem_of_getElem? hj
    refine wpAny_bind (wpAny_rule (wpAny_bind (wpAny_updateDict (s := { s with toks := s.toks + k.draws }) ho hd (wpAny_point (hQ _ ⟨_, _, ep, Heap.get?_update_self _ ho (Obj.isFreed_of_dict (Obj.data_mapDict hd _)), hc.mapDict _, Obj.data_mapDict hd _, ?_⟩ (Heap.SameBut.update ..))))))
    rw [putM, if_pos hmem, Array.toList_modify, he]
    have hj' := hj
    rw [List.getElem?_map] at hj'
    obtain ⟨x, hx, ek⟩ := Option.map_eq_some_iff.mp hj'
    exact modify_put xs j x hx ek hK.2
end
end MixD
end PySem

set_option Elab.async false
set_option linter.all false
set_option maxRecDepth 100000
set_option maxHeartbeats 4000000
/-! dicts with mixed keys, as objects of the hand layer -/
namespace L2
open PySem PySem.Spec PyProof.Rows MixD
mutual
/-- a value as a key -/
def keyOf : PyData → Option NestedKey
  | .none => some .none
  | .bool b => some (.num (if b = true then 1 else 0))
  | .int i => some (.num i)
  | .str x => some (.text x)
  | .tuple xs => (keysOf xs).map .tup
  | .list _ => none
  | .dict _ => none
def keysOf : List PyData → Option (List NestedKey)
  | [] => some []
  | x :: xs => (keyOf x).bind fun k => (keysOf xs).map (k :: ·)
end
mutual
theorem nested_of {h : Heap} : ∀ {v : Value} {d : PyData} {as : List Addr} {k : NestedKey}, Reads h v d as → keyOf d = some k → NestedIs h k v
  | _, _, _, _, .none, e => by
    cases e
    exact .none
  | _, _, _, _, .bool b, e => by
    cases e
    exact .bool rfl
  | _, _, _, _, .int i t, e => by
    cases e
    exact .int i t
  | _, _, _, _, .str x t, e => by
    cases e
    exact .text x t
  | _, _, _, _, .tuple h1 h2 h3 r, e => by
    rw [keyOf] at e
    obtain ⟨ks, e1, rfl⟩ := Option.map_eq_some_iff.mp e
    exact .tup h1 h2 h3 (nesteds_of r e1)
  | _, _, _, _, .list _ _ _ _, e => by
    rw [keyOf] at e
    cases e
  | _, _, _, _, .dict _ _ _ _ _, e => by
    rw [keyOf] at e
    cases e
theorem nesteds_of {h : Heap} : ∀ {vs : List Value} {ds : List PyData} {as : List Addr} {ks : List NestedKey}, ReadsAll h vs ds as → keysOf ds = some ks → NestedAll h ks vs
  | _, _, _, _, .nil, e => by
    cases e
    exact .nil
  | _, _, _, _, .cons r rs, e => by
    rw [keysOf] at e
    obtain ⟨k, e1, e2⟩ := Option.bind_eq_some_iff.mp e
    obtain ⟨ks, e3, rfl⟩ := Option.map_eq_some_iff.mp e2
    exact .cons (nested_of r e1) (nesteds_of rs e3)
end
def RelM (xs : List (NestedKey × V × V)) (ys : List (NestedKey × Value × Value)) : Prop := Paired (fun x y => x.1 = y.1 ∧ RelV x.2.1 y.2.1 ∧ RelV x.2.2 y.2.2) xs ys
def mixO (w : World) (a : Addr) (xs : List (NestedKey × V × V)) : HO := .ext fun h => xs.length ≤ sizeLine ∧ (a == sysModules) = false ∧ ∃ ys, RelM xs ys ∧ DictM w h a ys
theorem mixO_ok {P : Program} {w : World} {H : Hp} {h : Heap} {a : Addr} {xs : List (NestedKey × V × V)} {ys : List (NestedKey × Value × Value)} (z : xs.length ≤ sizeLine) (hd : (a == sysModules) = false) (r : RelM xs ys) (dd : DictM w h a ys) : ObjOk P w H h a (mixO w a xs) := by
  refine ⟨⟨z, hd, ys, r, dd⟩, ?_, fun h1 h2 q k => ?_⟩
  · obtain ⟨o, _, _, ho, _⟩ := dd
    exact ⟨o, ho⟩
  · obtain ⟨z, hd, ys, r, dd⟩ := q
    exact ⟨z, hd, ys, r, dd.keep k⟩
theorem mixO_at {P : Program} {w : World} {H : Hp} {h : Heap} {a : Addr} {xs : List (NestedKey × V × V)} (hok : HOk P w H h) (e : H a = some (mixO w a xs)) : xs.length ≤ sizeLine ∧ (a == sysModules) = false ∧ ∃ ys, RelM xs ys ∧ DictM w h a ys := (hok a _ e).1
theorem mixO_new {P : Program} {w : World} {H : Hp} (h : Heap) (hb : (h.objs.size == sysModules) = false) : ObjOk P w H (h.push { cls := .type "dict", data := .dict #[] }) h.objs.size (mixO w h.objs.size []) :=
  mixO_ok (Nat.zero_le _) hb .nil ⟨_, #[], 0, Heap.get?_push_size _ rfl, ⟨rfl, rfl, rfl⟩, rfl, rfl⟩
/-- the keys of such a dict are keys -/
def KeysAt (K : PySem.W.Frag) (H : Hp) (xs : List (NestedKey × V × V)) : Prop := (∀ x ∈ xs, ∃ d, Dp K H x.2.1 d ∧ keyOf d = some x.1 ∧ x.1.depth ≤ 8) ∧ (xs.map (·.1)).Nodup
theorem relM_keys {xs : List (NestedKey × V × V)} {ys : List (NestedKey × Value × Value)} (r : RelM xs ys) : xs.map (·.1) = ys.map (·.1) := by
  induction r with
  | nil => rfl
  | cons h _ ih => rw [List.map_cons, List.map_cons, h.1, ih]
theorem relM_len {xs : List (NestedKey × V × V)} {ys : List (NestedKey × Value × Value)} (r : RelM xs ys) : xs.length = ys.length := by
  have := congrArg List.length (relM_keys r)
  rwa [List.length_map, List.length_map] at this
theorem relM_old {k : NestedKey} {v : V} {r' : Value} (rv : RelV v r') {xs : List (NestedKey × V × V)} {ys : List (NestedKey × Value × Value)} (r : RelM xs ys) : RelM (xs.map fun x => if x.1 = k then (x.1, x.2.1, v) else x) (ys.map fun x => if x.1 = k then (x.1, x.2.1, r') else x) := by
  induction r with
  | nil => exact .nil
  | @cons a b as bs h t ih =>
    rw [List.map_cons, List.map_cons]
    refine .cons ?_ ih
    rw [← h.1]
    split
    · exact ⟨rfl, h.2.1, rv⟩
    · exact h
theorem relM_new {k : NestedKey} {y v : V} {u r' : Value} (ry : RelV y u) (rv : RelV v r') {xs : List (NestedKey × V × V)} {ys : List (NestedKey × Value × Value)} (r : RelM xs ys) : RelM (xs ++ [(k, y, v)]) (ys ++ [(k, u, r')]) := by
  induction r with
  | nil => exact .cons ⟨rfl, ry, rv⟩ .nil
  | cons h _ ih => exact .cons h ih
theorem relM_put {k : NestedKey} {y v : V} {u r' : Value} (ry : RelV y u) (rv : RelV v r') {xs : List (NestedKey × V × V)} {ys : List (NestedKey × Value × Value)} (r : RelM xs ys) : RelM (putM xs k y v) (putM ys k u r') := by
  unfold putM
  rw [relM_keys r]
  split
  · exact relM_old rv r
  · exact relM_new ry rv r
section
variable {X : Cx} {pins : List (Addr × Obj)} {σ : St} {H : Hp} {s : Shared}
theorem keysM_of (I : Inv X pins σ H s) {xs : List (NestedKey × V × V)} {ys : List (NestedKey × Value × Value)} (hk : KeysAt X.K H xs) (r : RelM xs ys) : KeysM s.heap ys := by
  refine ⟨?_, by rw [← relM_keys r]; exact hk.2⟩
  have h1 := hk.1
  clear hk
  induction r with
  | nil => simp
  | @cons a b as bs h t ih =>
    intro y hy
    rcases List.mem_cons.mp hy with rfl | hy
    · obtain ⟨d, dp, e, dd⟩ := h1 a List.mem_cons_self
      obtain ⟨as', rd⟩ := Dp.reads I d _ _ dp h.2.1
      rw [← h.1]
      exact ⟨nested_of rd e, dd⟩
    · exact ih (fun x hx => h1 x (List.mem_cons_of_mem _ hx)) y hy
/-- d[y] = v by a comprehension -/
theorem d_setM {E : Value → Shared → Prop} {D : Addr} {xs : List (NestedKey × V × V)} {k : NestedKey} {d : PyData} {y v : V} {u r : Value} {Q : Unit → Shared → Prop} (hu : X.A.units + 8 < cLine) (I : Inv X pins σ H s) (hD : H D = some (mixO X.w D xs)) (hK : KeysAt X.K H xs)
    (hz : xs.length < sizeLine) (dk : Dp X.K H y d) (ek : keyOf d = some k) (d8 : k.depth ≤ 8) (ry : RelV y u) (rv : RelV v r) (h : ∀ s', Inv X pins σ (upd H D (mixO X.w D (putM xs k y v))) s' → Q () s') : wpAny (model X.prog X.w) X.A (dictSet D u r) Q E s := by
  obtain ⟨z, hd, ys, rel, dd⟩ := mixO_at I.hok hD
  obtain ⟨as, rd⟩ := Dp.reads I d _ _ dk ry
  refine set_mix hu (nested_of rd ek) d8 dd (keysM_of I hK rel) (by rw [← relM_len rel]; exact z) fun h' dd' hs => h _ ?_
  have he : ∃ q, h'.get? D = some q := by
    obtain ⟨q, _, _, hq, _⟩ := dd'
    exact ⟨q, hq⟩
  refine d_write I (by rw [hD]; exact True.intro) hs he (mixO_ok ?_ hd (relM_put ry rv rel) dd')
  unfold putM
  split
  · rw [List.length_map]
    exact z
  · rw [List.length_append]
    exact hz
/-- len(d) -/
def rLenM (w : World) : List V → Hp → VK → Prop := fun xs H Q => ∃ (p : Addr) (kvs : List (NestedKey × V × V)), xs = [.ref p] ∧ H p = some (mixO w p kvs) ∧ Q (.int ((kvs.length : Nat) : Int)) H
theorem len_body {prog : Program} {w : World} {A : Around} {E : Value → Shared → Prop} {s : Shared} {d : Addr} {es : Array DictEntry} {ep : Nat} {Q : Value → Shared → Prop} (hd : (d == sysModules) = false) (hm : s.heap.DictRaw d es ep) (hfit : (es.size : Int) < 2 ^ 63)
    (h : Q (.int es.size (s.toks + 1)) { s with toks := s.toks + 1 + 1 }) : wpAny (model prog w) A (Builtin.«len» ⟨[.ref d], []⟩) (fun fin s' => ∃ r, fin = .done (.ret r) ∧ Q r s') E s := by
  unfold Builtin.«len»
  refine wpAny_bind (m := oneArg "len" _) (wpAny_pure (wpAny_bind (m := callSpecial? (.ref d) (Str.ofString "__len__")) (wpAny_callSpecial?_slot (name := Str.ofString "__len__") hm.typeIs F.slot_dict_len (call_len_raw hd hm ?_))))
  refine wpAny_bind (wpAny_holding (wpAny_pure (wpAny_bind (wpAny_letGo ?_))))
  show wpAny _ _ (if ((es.size : Nat) : Int) < 0 then _ else _) _ _ _
  rw [if_neg (by omega)]
  show wpAny _ _ (if ((es.size : Nat) : Int) ≥ 2 ^ 63 then _ else _) _ _ _
  rw [if_neg (by omega)]
  exact wpAny_bind (wpAny_mkInt (wpAny_pure ⟨_, rfl, h⟩))
theorem call_lenM : CallR X (.builtin "len") (rLenM X.w) := by
  intro pins s σ H xs us Q I r h
  obtain ⟨p, kvs, rfl, hp, q⟩ := h
  obtain ⟨u, rfl, rx⟩ := vals1 r
  obtain rfl : u = .ref p := rx
  obtain ⟨z, hd, ys, rel, o, es, ep, ho, hc, hdat, he⟩ := mixO_at I.hok hp
  have hl : es.size = kvs.length := by rw [relM_len rel, ← Array.length_toList, he, List.length_map]
  have hr : s.heap.DictRaw p es ep := ⟨o, ho, hc, hdat⟩
  refine Calls.call_function_entry kind_len plain_len entry_len (args_len1 _) (len_body hd hr (by rw [hl]; rw [sizeLine_eq] at z; omega) ?_)
  rw [hl]
  exact ⟨.int kvs.length, H, I.tok _, ⟨_, rfl⟩, q⟩
end
end L2

set_option Elab.async false
set_option linter.all false
set_option maxRecDepth 100000
set_option maxHeartbeats 4000000
/-! {k: v for ..}: the new dict of a kind of one's own -/
namespace L2
open PySem PySem.Spec PyProof.Rows MixD
/-- how a kind of dict begins, and what d[y] = z does to it -/
structure DKind where
  o0 : Addr → HO
  put : Cx → Addr → V → V → Hp → (Hp → Prop) → Prop
structure DKind.Ok (k : DKind) (Y : Cx) : Prop where
  new : ∀ (H : Hp) (h : Heap), (h.objs.size == sysModules) = false → ObjOk Y.prog Y.w H (h.push { cls := .type "dict", data := .dict #[] }) h.objs.size (k.o0 h.objs.size)
  set : ∀ {pins : List (Addr × Obj)} {σ : St} {H : Hp} {s : Shared} {D : Addr} {y z : V} {u r : Value} {N : Hp → Prop} {E : Value → Shared → Prop} {Q : Unit → Shared → Prop}, Inv Y pins σ H s → k.put Y D y z H N → RelV y u → RelV z r → (∀ H' s', N H' → Inv Y pins σ H' s' → Q () s') →
    wpAny (model Y.prog Y.w) Y.A (dictSet D u r) Q E s
section
variable {X : Cx}
def tDcG (k : DKind) (X : Cx) (wi : TI) (g : TG) (tt : TT) (tk tv : TE) (vs : List Nat) : TE := fun σ H Q => wi σ H fun J H1 => ∀ D, H1 D = none → ∃ W : Nat → Nat → Hp → Prop, (∃ m, W 0 m (upd H1 D (k.o0 D))) ∧ ∀ i m H, W i m H →
  (J.stop i H ∧ Q (.ref D) H) ∨ (J.go i H ∧ ∃ Nx : Hp → Prop, (∀ H', Nx H' → ∃ m', m' < m ∧ W (i + 1) m' H') ∧ ∀ x H', J.yld i H x H' → g x (wipe σ vs) H' fun σ2 H2 => wipe σ2 vs = wipe σ vs ∧ tt σ2 H2 fun b H3 =>
    if b = true then tk σ2 H3 fun y H4 => tv σ2 H4 fun z H5 => k.put X D y z H5 Nx else Nx H3)
theorem dcG_core {kd : DKind} {pins : List (Addr × Obj)} {s : Shared} {σ : St} {H : Hp} {Q : VK} {kx vx tg iter : Expr} {ifs : List Expr} {scope : Scope} {own : List (Str × Nat)} {pos pos' : Pos} {wi : TI} {g : TG} {tt : TT} {tk tv : TE} {use : Option (Value → Sem Unit)} {Qf : Value → Shared → Prop}
    (hkd : ∀ (s : Shared) (H : Hp) (ce : Env) (fp : List Addr), kd.Ok (X.blk s H scope ce fp)) (hk0 : kd.Ok X) (hput : ∀ (s : Shared) (H : Hp) (ce : Env) (fp : List Addr) (D : Addr) (y z : V) (H' : Hp) (N : Hp → Prop), kd.put X D y z H' N → kd.put (X.blk s H scope ce fp) D y z H' N)
    (hc : X.calm = true) (hN : X.N.Nodup) (I : Inv X pins σ H s) (hi : PI X tg iter wi) (ok : BlkOk X.N X.env.scope scope own)
    (hg : ∀ (s : Shared) (H : Hp) (C : Addr) (cl : List (Str × Addr)) (fp : List Addr), PG (X.blk s H scope (compEnvC scope cl C X.env) fp) tg g) (ht : ∀ (s : Shared) (H : Hp) (C : Addr) (cl : List (Str × Addr)) (fp : List Addr), PTs (X.blk s H scope (compEnvC scope cl C X.env) fp) ifs tt)
    (hkx : ∀ (s : Shared) (H : Hp) (C : Addr) (cl : List (Str × Addr)) (fp : List Addr), PE (X.blk s H scope (compEnvC scope cl C X.env) fp) kx tk) (hvx : ∀ (s : Shared) (H : Hp) (C : Addr) (cl : List (Str × Addr)) (fp : List Addr), PE (X.blk s H scope (compEnvC scope cl C X.env) fp) vx tv)
    (hs : ∀ x, foldedSetIterable iter X.env x = pure x) (h : tDcG kd X wi g tt tk tv (own.map (·.2)) σ H Q)
    (hRR : ∀ D C s' m H', Inv X pins σ H' s' → Q (.ref D) H' → s'.heap.Ns C m → FpOk X pins H' C → compPost (model X.prog X.w) X.A X.xe use Qf (.ref D) C (.ok .next) s') :
    wpAny (model X.prog X.w) X.A (comprehension (.DictComp kx vx [⟨tg, iter, ifs, 0⟩] scope pos) scope X.env pos' newDict false (eval iter X.env) use) Qf X.xe s := by
  have frees : ∀ y ∈ scope.names, y.2 = .free → ∃ c, X.env.cells.lookup y.1 = some c := by
    intro y hy e
    rcases ok.free y hy e with q | q
    · exact I.ok.has _ (.inl q)
    · exact I.ok.has _ (.inr q)
  refine wpAny_comprehension_free (use := use) rfl hs (closure_ok frees) ok.kind (fun y hy e => by rw [ok.uniq y hy, e]) (thn (hi.run pins s σ H _ I h) fun xv sa ha => thn ha fun itv sb hb => ?_)
  obtain ⟨it, fp, tn, J, Hb, rfl, Ib, T, stb, fb, q⟩ := hb
  refine wpAny_newObj_type (newEnv_comp ?_)
  obtain ⟨D, eD⟩ : ∃ D, sb.heap.objs.size = D := ⟨_, rfl⟩
  obtain ⟨W, ⟨m0, w0⟩, turn⟩ := q D (Ib.hok.fresh (Nat.le_of_eq eD))
  have big : (sb.heap.objs.size == sysModules) = false := beq_eq_false_iff_ne.mpr (Nat.ne_of_gt Ib.big)
  obtain ⟨sc, esc⟩ : ∃ sc : Shared, ({ sb with heap := sb.heap.push { cls := .type "dict", data := .dict #[] } } : Shared) = sc := ⟨_, rfl⟩
  have hsc : sc.heap = sb.heap.push { cls := .type "dict", data := .dict #[] } := by rw [← esc]
  have Ic : Inv X pins σ (upd Hb D (kd.o0 D)) sc := by
    rw [← esc]
    refine Ib.laid (t' := sb.toks) (fun b o e => Heap.get?_push_of_some _ e) (Nat.le_of_eq eD) ?_
    rw [← eD]
    exact hk0.new _ _ big
  have fc : ∀ b ∈ fp, FpOk X pins (upd Hb D (kd.o0 D)) b ∧ b < sc.heap.objs.size := by
    intro b hb
    obtain ⟨o, e, _⟩ := T.obj _ _ stb b hb
    have lt := Heap.lt_size e
    refine ⟨⟨?_, (fb b hb).2⟩, by rw [hsc, Heap.size_push]; exact Nat.lt_succ_of_lt lt⟩
    rw [upd_ne (by rw [← eD]; exact Nat.ne_of_lt lt)]
    exact (fb b hb).1
  have stc : tn 0 sc.heap := T.keep _ _ _ stb fun b _ o e => by
    rw [hsc]
    exact Heap.get?_push_of_some _ e
  obtain ⟨cl, ecl⟩ : ∃ cl, cellsFrom (sc.heap.objs.size + 1) scope.names (cloFrom X.env.cells scope.names []) = cl := ⟨_, rfl⟩
  have Id := block_start Ic ok hN fc
  rw [ecl] at Id
  show codeAny _ _ (.compStart (.DictComp kx vx [⟨tg, iter, ifs, 0⟩] scope pos) 0 (.ref it) (.ref sb.heap.objs.size) (compEnvC scope (cellsFrom (({ sb with heap := sb.heap.push { cls := .type "dict", data := .dict #[] } } : Shared).heap.objs.size + 1) scope.names (cloFrom X.env.cells scope.names [])) ({ sb with heap := sb.heap.push { cls := .type "dict", data := .dict #[] } } : Shared).heap.objs.size X.env)) (compPost (model X.prog X.w) X.A X.xe use Qf (.ref sb.heap.objs.size) ({ sb with heap := sb.heap.push { cls := .type "dict", data := .dict #[] } } : Shared).heap.objs.size) { ({ sb with heap := sb.heap.push { cls := .type "dict", data := .dict #[] } } : Shared) with heap := pushCells (({ sb with heap := sb.heap.push { cls := .type "dict", data := .dict #[] } } : Shared).heap.push { cls := .type "dict", data := .dict #[] }) scope.names }
  rw [esc, eD, ecl]
  have pg := hg sc (upd Hb D (kd.o0 D)) sc.heap.objs.size cl fp
  have pt := ht sc (upd Hb D (kd.o0 D)) sc.heap.objs.size cl fp
  have pk := hkx sc (upd Hb D (kd.o0 D)) sc.heap.objs.size cl fp
  have pv := hvx sc (upd Hb D (kd.o0 D)) sc.heap.objs.size cl fp
  obtain ⟨ce, ece⟩ : ∃ ce, compEnvC scope cl sc.heap.objs.size X.env = ce := ⟨_, rfl⟩
  rw [ece] at Id pg pt pk pv ⊢
  have locs : ce.locals = sc.heap.objs.size := by
    rw [← ece]
    rfl
  obtain ⟨Hc, eHc⟩ : ∃ Hc, upd Hb D (kd.o0 D) = Hc := ⟨_, rfl⟩
  rw [eHc] at Ic Id pg pt pk pv w0 fc
  have nfp : ∀ b ∈ fp, Hc b = none := fun b hb => (fc b hb).1.1
  obtain ⟨sd, esd⟩ : ∃ sd : Shared, ({ sc with heap := pushCells (sc.heap.push { cls := .type "dict", data := .dict #[] }) scope.names } : Shared) = sd := ⟨_, rfl⟩
  rw [esd] at Id ⊢
  have std : tn 0 sd.heap := T.keep _ _ _ stc fun b _ o e => by
    rw [← esd]
    exact pushCells_keeps _ _ _ _ (Heap.get?_push_of_some _ e)
  have fpb : ∀ {σ' : St} {H' : Hp} {s' : Shared}, Inv (X.blk sc Hc scope ce fp) [] σ' H' s' → (∀ b ∈ fp, H' b = none) → ∀ b ∈ fp, FpOk (X.blk sc Hc scope ce fp) [] H' b := by
    intro σ' H' s' I' hn b hb
    exact ⟨hn b hb, (I'.ok.exf b hb).1, I'.ok.exfs b hb, .inl hb, fun x c e => (I'.ok.exf b hb).2 x c e, fun p hp => absurd (show p ∈ ([] : List (Addr × Obj)) ++ [] from hp) (by simp)⟩
  have loop : codeAny (model X.prog X.w) X.A (.compLoop (.DictComp kx vx [⟨tg, iter, ifs, 0⟩] scope pos) 0 (.ref it) (.ref D) ce) (compPost (model X.prog X.w) X.A X.xe use Qf (.ref D) sc.heap.objs.size) sd := by
    refine compLoop_anyD (fun n s' => ∃ i H', Inv (X.blk sc Hc scope ce fp) [] (wipe σ (own.map (·.2))) H' s' ∧ tn i s'.heap ∧ (∀ b ∈ fp, H' b = none) ∧ W i n H') ?_ m0 ⟨0, Hc, Id, std, nfp, w0⟩
    rintro n se ⟨i, He, Ie, ste, ne, we⟩
    rcases turn i n He we with ⟨stop, fin⟩ | ⟨go, Nx, hNx, step⟩
    · refine thnF (T.done (X.blk sc Hc scope ce fp) rfl rfl rfl hc i [] se _ He (fun _ _ => False) Ie (fpb Ie ne) ste stop) fun r sf hf => ?_
      obtain ⟨rfl, If⟩ := hf
      have Ig : Inv X pins σ He sf := Ic.call' (ch := fp) If.os If.base If.hok If.bare fun b hb => ⟨(fc b hb).1.2.2.2.1, (fc b hb).1.2.1, (fc b hb).1.2.2.2.2.1, (fc b hb).1.2.2.2.2.2⟩
      have nC : He sc.heap.objs.size = none := by
        rw [← locs]
        exact If.free
      obtain ⟨m, hn, _⟩ := If.loc
      have hn' : sf.heap.Ns ce.locals m := hn
      rw [locs] at hn'
      exact hRR D sc.heap.objs.size sf m He Ig fin hn' (Ic.fpOk (Nat.le_refl _) nC)
    · refine thnF (T.item (X.blk sc Hc scope ce fp) rfl rfl rfl hc i [] se _ He (fun _ _ => False) Ie (fpb Ie ne) ste go) fun r sf hf => ?_
      obtain ⟨u, rfl, hf⟩ := hf
      refine thnF hf fun _ sg hg' => ?_
      obtain ⟨x, Hg, Ig, rg, yg, stg, ng⟩ := hg'
      have Ip := Ig.pinned (fpb Ig ng) (T.obj _ _ stg)
      refine thnF (pg.run _ sg _ Hg x u _ Ip rg (step x Hg yg)) fun _ sh hh => ?_
      obtain ⟨σh, Hh, Ih, hw, qh⟩ := hh
      refine thnF (pt.run _ sh σh Hh _ Ih qh) fun b si hb => ?_
      obtain ⟨Hi, Ii, qi⟩ := hb
      have back : ∀ {s' : Shared} {H' : Hp}, Inv (X.blk sc Hc scope ce fp) ([] ++ pinsAt fp sg.heap) σh H' s' → Nx H' → ∃ m, m < n ∧ ∃ i H', Inv (X.blk sc Hc scope ce fp) [] (wipe σ (own.map (·.2))) H' s' ∧ tn i s'.heap ∧ (∀ b ∈ fp, H' b = none) ∧ W i m H' := by
        intro s' H' I' nx
        obtain ⟨m', hm, w'⟩ := hNx H' nx
        have held : ∀ b ∈ fp, ∀ o, sg.heap.get? b = some o → s'.heap.get? b = some o ∧ H' b = none := by
          intro b hb o e
          have z := I'.pin (b, o) (List.mem_append_right _ (List.mem_append_right _ (mem_pinsAt hb e)))
          exact ⟨z.1, z.2.1⟩
        have hl : (wipe σ (own.map (·.2))).length = σh.length := by rw [← hw, wipe_length]
        refine ⟨m', hm, i + 1, H', (I'.unpinned (pins := [])).weak hl (fun j v e => ?_), T.keep _ _ _ stg fun b hb o e => (held b hb o e).1, fun b hb => ?_, w'⟩
        · rw [← hw] at e
          exact (wipe_some e).1
        · obtain ⟨o, e, _⟩ := T.obj _ _ stg b hb
          exact (held b hb o e).2
      cases b with
      | false =>
        rw [if_neg Bool.false_ne_true] at qi ⊢
        exact back Ii qi
      | true =>
        rw [if_pos (rfl : true = true)] at qi ⊢
        refine thnF (pk.run _ si σh Hi _ Ii qi) fun ku sj hj => ?_
        obtain ⟨yk, Hj, Ij, rj, qj⟩ := hj
        refine thnF (pv.run _ sj σh Hj _ Ij qj) fun vu sk hk => ?_
        obtain ⟨yv, Hk, Ik, rk, qk⟩ := hk
        exact (hkd sc Hc ce fp).set Ik (hput sc Hc ce fp D yk yv Hk Nx qk) rj rk fun H' s' nx J' => back J' nx
  exact codeAny_compStart_dict loop (T.self X.A 0 _ _ _ std loop)
theorem pe_dcG {kd : DKind} {kx vx tg iter : Expr} {ifs : List Expr} {scope : Scope} {own : List (Str × Nat)} {pos : Pos} {wi : TI} {g : TG} {tt : TT} {tk tv : TE}
    (hkd : ∀ (s : Shared) (H : Hp) (ce : Env) (fp : List Addr), kd.Ok (X.blk s H scope ce fp)) (hk0 : kd.Ok X) (hput : ∀ (s : Shared) (H : Hp) (ce : Env) (fp : List Addr) (D : Addr) (y z : V) (H' : Hp) (N : Hp → Prop), kd.put X D y z H' N → kd.put (X.blk s H scope ce fp) D y z H' N)
    (hc : X.calm = true) (hN : X.N.Nodup) (hi : PI X tg iter wi) (ok : BlkOk X.N X.env.scope scope own)
    (hg : ∀ (s : Shared) (H : Hp) (C : Addr) (cl : List (Str × Addr)) (fp : List Addr), PG (X.blk s H scope (compEnvC scope cl C X.env) fp) tg g) (ht : ∀ (s : Shared) (H : Hp) (C : Addr) (cl : List (Str × Addr)) (fp : List Addr), PTs (X.blk s H scope (compEnvC scope cl C X.env) fp) ifs tt)
    (hkx : ∀ (s : Shared) (H : Hp) (C : Addr) (cl : List (Str × Addr)) (fp : List Addr), PE (X.blk s H scope (compEnvC scope cl C X.env) fp) kx tk) (hvx : ∀ (s : Shared) (H : Hp) (C : Addr) (cl : List (Str × Addr)) (fp : List Addr), PE (X.blk s H scope (compEnvC scope cl C X.env) fp) vx tv)
    (hs : ∀ x, foldedSetIterable iter X.env x = pure x := by intro _; rfl) : PE X (.DictComp kx vx [⟨tg, iter, ifs, 0⟩] scope pos) (tDcG kd X wi g tt tk tv (own.map (·.2))) := by
  refine ⟨fun pins s σ H Q I h => ?_⟩
  rw [arm_eval_DictComp]
  refine dcG_core hkd hk0 hput hc hN I hi ok hg ht hkx hvx hs h fun D C s' m H' I' q hn f => ⟨m, hn, fun h'' sb => ?_⟩
  obtain ⟨f0, f1, f2, f3, f4, f5⟩ := f
  exact ⟨.ref D, H', I'.turned (t' := s'.toks) (fun b o hb e => (sb.2 b hb).trans e) f0 f1 f3 f4 f5, rfl, q⟩
/-- keys of any depth, mixed -/
def mixK (w : World) : DKind where
  o0 := fun D => mixO w D []
  put := fun Y D y z H N => ∃ (xs : List (NestedKey × V × V)) (k : NestedKey) (d : PyData), H D = some (mixO w D xs) ∧ KeysAt Y.K H xs ∧ xs.length < sizeLine ∧ Dp Y.K H y d ∧ keyOf d = some k ∧ k.depth ≤ 8 ∧ N (upd H D (mixO w D (putM xs k y z)))
theorem mixK_ok {Y : Cx} (hu : Y.A.units + 8 < cLine) : (mixK Y.w).Ok Y where
  new := fun H h hb => mixO_new h hb
  set := fun {pins σ H s D y z u r N E Q} I q ry rz k => by
    obtain ⟨xs, key, d, h1, h2, h3, h4, h5, h6, h7⟩ := q
    exact d_setM hu I h1 h2 h3 h4 h5 h6 ry rz fun s' I' => k _ _ h7 I'
/-- {k: v for ..} with keys of any depth -/
theorem pe_dcM {kx vx tg iter : Expr} {ifs : List Expr} {scope : Scope} {own : List (Str × Nat)} {pos : Pos} {wi : TI} {g : TG} {tt : TT} {tk tv : TE} (hu : X.A.units + 8 < cLine) (hc : X.calm = true) (hN : X.N.Nodup) (hi : PI X tg iter wi) (ok : BlkOk X.N X.env.scope scope own)
    (hg : ∀ (s : Shared) (H : Hp) (C : Addr) (cl : List (Str × Addr)) (fp : List Addr), PG (X.blk s H scope (compEnvC scope cl C X.env) fp) tg g) (ht : ∀ (s : Shared) (H : Hp) (C : Addr) (cl : List (Str × Addr)) (fp : List Addr), PTs (X.blk s H scope (compEnvC scope cl C X.env) fp) ifs tt)
    (hkx : ∀ (s : Shared) (H : Hp) (C : Addr) (cl : List (Str × Addr)) (fp : List Addr), PE (X.blk s H scope (compEnvC scope cl C X.env) fp) kx tk) (hvx : ∀ (s : Shared) (H : Hp) (C : Addr) (cl : List (Str × Addr)) (fp : List Addr), PE (X.blk s H scope (compEnvC scope cl C X.env) fp) vx tv)
    (hs : ∀ x, foldedSetIterable iter X.env x = pure x := by intro _; rfl) : PE X (.DictComp kx vx [⟨tg, iter, ifs, 0⟩] scope pos) (tDcG (mixK X.w) X wi g tt tk tv (own.map (·.2))) :=
  pe_dcG (kd := mixK X.w) (fun s H ce fp => mixK_ok (Y := X.blk s H scope ce fp) hu) (mixK_ok hu) (fun _ _ _ _ _ _ _ _ _ q => q) hc hN hi ok hg ht hkx hvx hs
end
end L2

set_option Elab.async false
set_option linter.all false
set_option maxRecDepth 100000
set_option maxHeartbeats 4000000
/-! dict(pairs) and list(d), keys mixed -/
namespace L2
open PySem PySem.Spec PyProof.Rows MixD
theorem mix_kdl_raw {prog : Program} {w : World} {d : Addr} {es : Array DictEntry} {ep : Nat} (lo : (d == sysModules) = false) : PySem.W.KdlSrc prog w "dict" d d es.size (fun i v => ∃ hi : i < es.size, v = es[i].key) (fun h => h.DictRaw d es ep) where
  type := fun _ hm => hm.typeIs
  there := fun _ hm => by
    obtain ⟨o, ho, _⟩ := hm
    exact ⟨Heap.lt_size ho, Heap.lt_size ho⟩
  keep := fun _ _ hm hk => hm.at fun o e => hk d (.inl rfl) o e
  notList := by decide
  notTuple := by decide
  hint := fun _ _ _ _ hm hq => PySem.W.kdl_hint_dict hm.typeIs hq
  iter := fun _ s hh hm => by
    have lt : d < s.heap.objs.size := by
      obtain ⟨o, ho, _⟩ := hm
      exact Heap.lt_size ho
    exact ⟨_, _, (fun _ _ hq => wpAny_pyIter_dict_raw lo hm hq), Walks.rawKeys hh _ d (Nat.ne_of_lt lt) es ep, ⟨⟨_, Heap.get?_push_size _ rfl, rfl, rfl⟩, hm.at fun o e => Heap.get?_push_of_some _ e⟩⟩
section
variable {X : Cx}
def rListM (w : World) : List V → Hp → VK → Prop := fun xs H Q => ∃ (p : Addr) (kvs : List (NestedKey × V × V)), xs = [.ref p] ∧ H p = some (mixO w p kvs) ∧ ∀ q, H q = none → Q (.ref q) (upd H q (.lst (kvs.map (·.2.1))))
theorem relM_vals {xs : List (NestedKey × V × V)} {ys : List (NestedKey × Value × Value)} (r : RelM xs ys) : Vals (xs.map (·.2.1)) (ys.map (·.2.1)) := by
  induction r with
  | nil => exact .nil
  | cons h _ ih => exact .cons h.2.1 ih
theorem call_listM (hcalm : X.calm = true) : CallR X (.type "list") (rListM X.w) := by
  intro pins s σ H xs us Q I r h
  obtain ⟨p, kvs, rfl, hp, q⟩ := h
  obtain ⟨u, rfl, rx⟩ := vals1 r
  obtain rfl : u = .ref p := rx
  obtain ⟨z, hd, ys, rel, o, es, ep, ho, hc, hdat, he⟩ := mixO_at I.hok hp
  have hl : es.size = kvs.length := by rw [relM_len rel, ← Array.length_toList, he, List.length_map]
  have hr : s.heap.DictRaw p es ep := ⟨o, ho, hc, hdat⟩
  refine PySem.W.kdl_call (mix_kdl_raw hd) (I.ok.hd hcalm) hr (by rw [hl]; exact z) fun h' tk acc c' hk hD hacc => ?_
  have ev : acc.toList = ys.map (·.2.1) := by
    refine List.ext_getElem? fun j => ?_
    rw [Array.getElem?_toList, List.getElem?_map]
    by_cases hj : j < es.size
    · have h1 : j < acc.size := by rw [hacc.1]; exact hj
      obtain ⟨hi, e1⟩ := hacc.2 j acc[j] (Array.getElem?_eq_getElem h1)
      have h2 : es.toList[j]? = some es[j] := by rw [Array.getElem?_toList, Array.getElem?_eq_getElem hj]
      rw [he, List.getElem?_map] at h2
      obtain ⟨y, hy, ey⟩ := Option.map_eq_some_iff.mp h2
      rw [Array.getElem?_eq_getElem h1, e1, hy, Option.map_some, ← ey]
      rfl
    · rw [Array.getElem?_eq_none (by rw [hacc.1]; omega), List.getElem?_eq_none (by rw [← relM_len rel, ← hl]; omega)]
      rfl
  refine ⟨.ref s.heap.objs.size, upd H s.heap.objs.size (.lst (kvs.map (·.2.1))), I.laid (t' := tk) hk (Nat.le_refl _) ?_, rfl, q _ (I.hok.fresh (Nat.le_refl _))⟩
  exact (show ObjOk X.prog X.w _ _ _ (.lst (kvs.map (·.2.1))) from ⟨by rw [List.length_map]; exact z, acc.toList, c', by rw [ev]; exact relM_vals rel, by rw [Array.toArray_toList]; exact hD⟩)
end
def mergeM {α β : Type} (acc rest : List (NestedKey × α × β)) : List (NestedKey × α × β) := rest.foldl (fun a q => putM a q.1 q.2.1 q.2.2) acc
theorem putM_len {α β : Type} (xs : List (NestedKey × α × β)) (k : NestedKey) (u : α) (v : β) : (putM xs k u v).length ≤ xs.length + 1 := by
  unfold putM
  split
  · rw [List.length_map]
    omega
  · rw [List.length_append]
    exact Nat.le_refl _
theorem putM_keys {α β : Type} {xs : List (NestedKey × α × β)} {k : NestedKey} {u : α} {v : β} : (putM xs k u v).map (·.1) = if k ∈ xs.map (·.1) then xs.map (·.1) else xs.map (·.1) ++ [k] := by
  unfold putM
  split
  · rw [List.map_map]
    refine List.map_congr_left fun x hx => ?_
    show (if x.1 = k then (x.1, x.2.1, v) else x).1 = x.1
    split <;> rfl
  · rw [List.map_append]
    rfl
theorem putM_nodup {α β : Type} {xs : List (NestedKey × α × β)} {k : NestedKey} {u : α} {v : β} (h : (xs.map (·.1)).Nodup) : ((putM xs k u v).map (·.1)).Nodup := by
  rw [putM_keys]
  split
  · exact h
  · rename_i hn
    rw [List.nodup_append]
    refine ⟨h, by simp, fun a ha b hb => ?_⟩
    rw [List.mem_singleton.mp hb]
    exact fun e => hn (e ▸ ha)
theorem putM_mem {α β : Type} {xs : List (NestedKey × α × β)} {k : NestedKey} {u : α} {v : β} {x : NestedKey × α × β} (h : x ∈ putM xs k u v) : (x.1 = k ∧ x.2.1 = u) ∨ ∃ y ∈ xs, y.1 = x.1 ∧ y.2.1 = x.2.1 := by
  unfold putM at h
  split at h
  · obtain ⟨y, hy, rfl⟩ := List.mem_map.mp h
    refine .inr ⟨y, hy, ?_⟩
    split <;> exact ⟨rfl, rfl⟩
  · rcases List.mem_append.mp h with h | h
    · exact .inr ⟨x, h, rfl, rfl⟩
    · rw [List.mem_singleton.mp h]
      exact .inl ⟨rfl, rfl⟩
theorem KeysM.put {h : Heap} {xs : List (NestedKey × Value × Value)} {k : NestedKey} {u v : Value} (hK : KeysM h xs) (hk : NestedIs h k u) (d8 : k.depth ≤ 8) : KeysM h (putM xs k u v) := by
  refine ⟨fun x hx => ?_, putM_nodup hK.2⟩
  rcases putM_mem hx with ⟨e1, e2⟩ | ⟨y, hy, e1, e2⟩
  · rw [e1, e2]
    exact ⟨hk, d8⟩
  · rw [← e1, ← e2]
    exact hK.1 y hy
theorem KeysM.keep {h h' : Heap} {xs : List (NestedKey × Value × Value)} (hK : KeysM h xs) (hk : ∀ a o vs n, h.get? a = some o → o.data = .seq vs n → h'.get? a = some o) : KeysM h' xs :=
  ⟨fun x hx => ⟨NestedIs.at hk _ _ (hK.1 x hx).1, (hK.1 x hx).2⟩, hK.2⟩
section
variable {prog : Program} {w : World} {A : Around} {E : Value → Shared → Prop}
theorem loopM {R : Result → Shared → Prop} {S I l : Addr} {items : Array Value} {res : Value} (hu : A.units + 10 < cLine) (hh : A.handled = none) (hlI : l ≠ I) (hSI : S ≠ I) (hSl : S ≠ l) :
    ∀ (more : List (NestedKey × Value × Value)) (i : Nat) (acc : List (NestedKey × Value × Value)) (ix : Int) (t : Tok) (s : Shared), items.size = i + more.length → acc.length + more.length ≤ sizeLine →
      (∀ (j : Nat) (q : NestedKey × Value × Value), more[j]? = some q → q.1.depth ≤ 8 ∧ NestedIs s.heap q.1 q.2.1 ∧ ∃ b : Addr, items[i + j]? = some (.ref b) ∧ b ≠ S ∧ b ≠ I ∧ IsTup s.heap b #[q.2.1, q.2.2]) →
      s.heap.IsListIter I l i → s.heap.IsList l items → DictM w s.heap S acc → KeysM s.heap acc →
      (∀ h' tk, DictM w h' S (mergeM acc more) → (∀ b o, b ≠ S → b ≠ I → s.heap.get? b = some o → h'.get? b = some o) → R (.ok (.ret res)) { s with heap := h', toks := tk }) →
      codeAny (model prog w) A (.builtin "dict.update.loop" ⟨[.ref S, .ref I, .int ix t, res], []⟩) R s
  | [], i, acc, ix, t, s, hsz, hln, ht, hit, hl, hm, hK, hR => by
    refine codeAny_builtin ud_entry ?_
    rw [Around.under_plainId ud_plain _]
    show wpAny _ A.in1 (pyNext (.ref I) >>= _) _ _ s
    have he : items[i]? = none := Array.getElem?_eq_none (by rw [hsz]; exact Nat.le_refl _)
    refine wpAny_bind (wpAny_pyNext_list_end (A := A.in1) hh hit hl he fun h' ex => ?_)
    show wpAny _ A.in1 (Builtin.Dict.addKeywords S [] >>= _) _ _ _
    refine wpAny_bind (wpAny_pure (wpAny_pure (hR h' s.toks (hm.keep fun o e => ex S o hSI e) fun b o _ hb e => ex b o hb e)))
  | q :: more, i, acc, ix, t, s, hsz, hln, ht, hit, hl, hm, hK, hR => by
    obtain ⟨d8, hq, b, hb, hbS, hbI, htup⟩ := ht 0 q rfl
    rw [List.length_cons] at hsz hln
    refine codeAny_builtin ud_entry ?_
    rw [Around.under_plainId ud_plain _]
    show wpAny _ A.in1 (pyNext (.ref I) >>= _) _ _ s
    refine wpAny_bind (wpAny_pyNext_list_item (x := .ref b) hit hl hb fun h1 hit1 hs1 => ?_)
    obtain ⟨oI, hoI, _, hdI⟩ := id hit
    have seq1 : ∀ a o vs n, s.heap.get? a = some o → o.data = .seq vs n → h1.get? a = some o := by
      intro a o vs n e ed
      refine hs1.extBut a o (fun ea => ?_) e
      rw [ea, hoI] at e
      cases e
      rw [hdI] at ed
      cases ed
    have ht1 : IsTup h1 b #[q.2.1, q.2.2] := htup.extBut hs1.extBut hbI
    have hm1 : DictM w h1 S acc := hm.keep fun o e => hs1.extBut S o hSI e
    obtain ⟨o, ho, hc, n, hd⟩ := id ht1
    show wpAny _ A.in1 (holding [Value.ref b] _ >>= _) _ _ _
    refine wpAny_bind (wpAny_holding (wpAny_bind (wpAny_tryCatch ?_)))
    unfold Builtin.Dict.pairItems
    refine wpAny_bind (wpAny_typeOf (T := "tuple") ⟨o, ho, hc⟩ ?_)
    rw [if_pos (by first | decide | rfl | simp)]
    refine wpAny_bind (wpAny_seqItems ho hd (wpAny_pure ?_))
    show wpAny _ A.in1 (holding [q.2.1, q.2.2] (dictSet S q.2.1 q.2.2)) _ _ _
    obtain ⟨oS, esS, epS, hoS, _, hdS, _⟩ := id hm1
    refine wpAny_holding (set_mix (s := { s with heap := h1 }) (k := q.1) (show A.in1.units + 8 < cLine by have : A.in1.units = A.units + 1 := rfl; omega) (NestedIs.at seq1 _ _ hq) d8 hm1 (KeysM.keep hK seq1) (by omega) fun h2 hm2 hs2 => ?_)
    have seq2 : ∀ a o vs n, h1.get? a = some o → o.data = .seq vs n → h2.get? a = some o := by
      intro a o vs n e ed
      refine hs2.extBut a o (fun ea => ?_) e
      rw [ea, hoS] at e
      cases e
      rw [hdS] at ed
      cases ed
    refine wpAny_pure ⟨plainId_quiet ud_plain _, loopM (items := items) hu hh hlI hSI hSl more (i + 1) (putM acc q.1 q.2.1 q.2.2) (ix + 1) 0 _ (show items.size = i + 1 + more.length by omega) ?_ (fun j q' e => ?_) ?_ ?_ hm2 (KeysM.put (KeysM.keep (KeysM.keep hK seq1) seq2) (NestedIs.at seq2 _ _ (NestedIs.at seq1 _ _ hq)) d8) fun h' tk hd' k => ?_⟩
    · have z := putM_len acc q.1 q.2.1 q.2.2
      omega
    · obtain ⟨e8, eq, b', hb', hbS', hbI', htup'⟩ := ht (j + 1) q' (by rw [List.getElem?_cons_succ]; exact e)
      refine ⟨e8, NestedIs.at seq2 _ _ (NestedIs.at seq1 _ _ eq), b', ?_, hbS', hbI', (htup'.extBut hs1.extBut hbI').extBut hs2.extBut hbS'⟩
      rw [show i + 1 + j = i + (j + 1) by omega]
      exact hb'
    · exact hit1.at fun o' e => hs2.extBut I o' (Ne.symm hSI) e
    · exact (hl.extBut hs1.extBut hlI).extBut hs2.extBut (Ne.symm hSl)
    · exact hR h' tk hd' fun c oc h3 h4 e => k c oc h3 h4 (hs2.extBut c oc h3 (hs1.extBut c oc h4 e))
theorem dict_pairsM {s : Shared} {l : Addr} {ol : Obj} {items : Array Value} {n : Nat} {prs : List (NestedKey × Value × Value)} {Q : Value → Shared → Prop} (hu : A.units + 12 < cLine) (hh : A.handled = none) (hl : s.heap.get? l = some ol) (hc : ol.cls = .type "list") (hd : ol.dict = none)
    (hdat : ol.data = .seq items n) (hsz : items.size = prs.length) (hln : prs.length ≤ sizeLine)
    (ht : ∀ (j : Nat) (q : NestedKey × Value × Value), prs[j]? = some q → q.1.depth ≤ 8 ∧ NestedIs s.heap q.1 q.2.1 ∧ ∃ b : Addr, items[j]? = some (.ref b) ∧ IsTup s.heap b #[q.2.1, q.2.2])
    (h : ∀ h' tk, DictM w h' s.heap.objs.size (mergeM [] prs) → (∀ b o, s.heap.get? b = some o → h'.get? b = some o) → Q (.ref s.heap.objs.size) { s with heap := h', toks := tk }) : wpAny (model prog w) A (call (.type "dict") [.ref l]) Q E s := by
  refine callType_codes (Q₁ := fun obj s₁ => obj = .ref s.heap.objs.size ∧ s₁ = { s with heap := s.heap.push { cls := .type "dict", data := .dict #[] } }) PySem.F.kt_called_dict (PySem.F.kt_typeCall_dict_1 _) PySem.F.entry_dict_init (kt_code_dict_new _ ⟨rfl, rfl⟩) fun obj s₁ hobj => ?_
  obtain ⟨rfl, rfl⟩ := hobj
  have new : DictM w (s.heap.push { cls := .type "dict", data := .dict #[] }) s.heap.objs.size [] := ⟨_, #[], 0, Heap.get?_push_size _ rfl, ⟨rfl, rfl, rfl⟩, rfl, rfl⟩
  have k0 : ∀ b o, s.heap.get? b = some o → (s.heap.push { cls := .type "dict", data := .dict #[] }).get? b = some o := fun b o e => Heap.get?_push_of_some _ e
  have ty : ({ s with heap := s.heap.push { cls := .type "dict", data := .dict #[] } } : Shared).TypeIs (.ref s.heap.objs.size) "dict" := ⟨_, Heap.get?_push_size _ rfl, rfl⟩
  refine ⟨ty, PySem.F.args_dict_init_2 _ _, ?_⟩
  unfold Builtin.«dict.__init__»
  refine wpAny_bind ?_
  unfold Builtin.Dict.selfAndRest
  refine wpAny_bind (wpAny_notOrdered_dict ty ?_)
  show wpAny _ _ (pure (s.heap.objs.size, [Value.ref l])) _ _ _
  refine wpAny_pure ?_
  show wpAny _ _ (Builtin.Dict.updateFrom "dict.__init__" s.heap.objs.size (.ref l) [] .none) _ _ _
  unfold Builtin.Dict.updateFrom
  refine wpAny_bind (wpAny_typeOf (T := "list") ⟨ol, k0 _ _ hl, hc⟩ ?_)
  rw [if_pos (by first | decide | rfl | simp)]
  refine wpAny_bind (miss_list (k0 _ _ hl) hc hdat hd hh fun h1 tk1 hk1 => ?_)
  rw [if_pos (show (none : Option Value).isNone = true from rfl)]
  refine wpAny_bind (wpAny_rule ?_)
  have hl1 : h1.IsList l items := ⟨ol, hk1 _ _ (k0 _ _ hl), hc, n, hdat⟩
  have hS1 : s.heap.objs.size < h1.objs.size := Heap.lt_size (hk1 _ _ (Heap.get?_push_size (o := { cls := .type "dict", data := .dict #[] }) s.heap rfl))
  refine wpAny_bind (wpAny_pyIter_list hl1 ?_)
  have k2 : ∀ b o, h1.get? b = some o → (h1.push { cls := .type "list_iterator", data := .fields #[.ref l, .int 0 0] }).get? b = some o := fun b o e => Heap.get?_push_of_some _ e
  have k3 : ∀ b o, s.heap.get? b = some o → (h1.push { cls := .type "list_iterator", data := .fields #[.ref l, .int 0 0] }).get? b = some o := fun b o e => k2 _ _ (hk1 _ _ (k0 _ _ e))
  have hlt : l < s.heap.objs.size := Heap.lt_size hl
  have key := loopM (prog := prog) (w := w) (A := A.in1) (R := wants (fun r s₂ => r = .none ∧ Q (.ref s.heap.objs.size) s₂) E) (S := s.heap.objs.size) (I := h1.objs.size) (l := l) (items := items) (res := Value.none) (show A.units + 1 + 10 < cLine by omega) hh
    (Nat.ne_of_lt (Nat.lt_trans hlt hS1)) (Nat.ne_of_lt hS1) (Nat.ne_of_gt hlt) prs 0 [] 0 0
    { s with heap := h1.push { cls := .type "list_iterator", data := .fields #[.ref l, .int 0 0] }, toks := tk1 } (by rw [hsz, Nat.zero_add]) (by rw [List.length_nil, Nat.zero_add]; exact hln)
    (fun j q e => by
      obtain ⟨e8, eq, b, e1, e2⟩ := ht j q e
      have hb : b < s.heap.objs.size := e2.lt
      exact ⟨e8, NestedIs.at (fun a o _ _ z _ => k3 a o z) _ _ eq, b, by rw [Nat.zero_add]; exact e1, Nat.ne_of_lt hb, Nat.ne_of_lt (Nat.lt_trans hb hS1), e2.keeps fun c o z => k3 _ _ z⟩)
    ⟨_, Heap.get?_push_size _ rfl, rfl, rfl⟩ (hl1.at fun o e => k2 _ _ e) ((new.keep fun o e => hk1 _ _ e).keep fun o e => k2 _ _ e) ⟨by simp, by simp⟩
    (fun h' tk hd' k => ⟨rfl, h h' tk hd' fun b o e => k b o (Nat.ne_of_lt (Heap.lt_size e)) (Nat.ne_of_lt (Nat.lt_trans (Heap.lt_size e) hS1)) (k3 _ _ e)⟩)
  first
    | exact wpAny_pure ⟨plainId_quiet ud_plain _, key⟩
    | exact wpAny_bind (wpAny_pure (wpAny_pure ⟨plainId_quiet ud_plain _, key⟩))
end
section
variable {X : Cx}
/-- dict(xs) of a list of pairs -/
def rDictM (w : World) (K : PySem.W.Frag) : List V → Hp → VK → Prop := fun xs H Q => ∃ (a : Addr) (ps : List Addr) (kvs : List (NestedKey × V × V)), xs = [.ref a] ∧ SqL K H a (ps.map V.ref) ∧ Paired (fun p kv => SqT K H p [kv.2.1, kv.2.2]) ps kvs ∧
  (∀ x ∈ kvs, ∃ d, Dp K H x.2.1 d ∧ keyOf d = some x.1 ∧ x.1.depth ≤ 8) ∧ ∀ p, H p = none → Q (.ref p) (upd H p (mixO w p (mergeM [] kvs)))
theorem pairs_ofM {pins : List (Addr × Obj)} {σ : St} {H : Hp} {s : Shared} (I : Inv X pins σ H s) : ∀ {ps : List Addr} {kvs : List (NestedKey × V × V)}, Paired (fun p kv => SqT X.K H p [kv.2.1, kv.2.2]) ps kvs → (∀ x ∈ kvs, ∃ d, Dp X.K H x.2.1 d ∧ keyOf d = some x.1 ∧ x.1.depth ≤ 8) →
    ∃ prs : List (NestedKey × Value × Value), RelM kvs prs ∧ prs.length = ps.length ∧ ∀ (j : Nat) (q : NestedKey × Value × Value), prs[j]? = some q → q.1.depth ≤ 8 ∧ NestedIs s.heap q.1 q.2.1 ∧ ∃ b : Addr, ps[j]? = some b ∧ IsTup s.heap b #[q.2.1, q.2.2]
  | _, _, .nil, _ => ⟨[], .nil, rfl, fun j q e => by simp at e⟩
  | _, _, .cons (a := p) (b := kv) h t, hk => by
    obtain ⟨prs, r, hl, hp⟩ := pairs_ofM I t fun x hx => hk x (List.mem_cons_of_mem _ hx)
    obtain ⟨d, dp, e, d8⟩ := hk kv List.mem_cons_self
    obtain ⟨its, rv, ht, _⟩ := I.tuple h
    obtain ⟨u, y, ei, ru, ry⟩ := vals2 rv
    subst ei
    obtain ⟨as, rd⟩ := Dp.reads I d _ _ dp ru
    refine ⟨(kv.1, u, y) :: prs, .cons ⟨rfl, ru, ry⟩ r, by rw [List.length_cons, List.length_cons, hl], fun j q e' => ?_⟩
    cases j with
    | zero =>
      cases e'
      exact ⟨d8, nested_of rd e, p, rfl, ht⟩
    | succ j =>
      rw [List.getElem?_cons_succ] at e' ⊢
      exact hp j q e'
theorem relM_merge : ∀ {xs : List (NestedKey × V × V)} {ys : List (NestedKey × Value × Value)} {as : List (NestedKey × V × V)} {bs : List (NestedKey × Value × Value)}, RelM xs ys → RelM as bs → RelM (mergeM as xs) (mergeM bs ys)
  | _, _, _, _, .nil, h => h
  | _, _, _, _, .cons (a := x) (b := y) h t, r => by
    show RelM (mergeM (putM _ x.1 x.2.1 x.2.2) _) (mergeM (putM _ y.1 y.2.1 y.2.2) _)
    rw [← h.1]
    exact relM_merge t (relM_put h.2.1 h.2.2 r)
theorem mergeM_len {α β : Type} : ∀ (xs acc : List (NestedKey × α × β)), (mergeM acc xs).length ≤ acc.length + xs.length
  | [], acc => Nat.le_refl _
  | x :: r, acc => by
    have h1 := mergeM_len r (putM acc x.1 x.2.1 x.2.2)
    have h2 := putM_len acc x.1 x.2.1 x.2.2
    show (mergeM (putM acc x.1 x.2.1 x.2.2) r).length ≤ _
    rw [List.length_cons]
    omega
theorem call_dictM (hu : X.A.units + 12 < cLine) (hcalm : X.calm = true) : CallR X (.type "dict") (rDictM X.w X.K) := by
  intro pins s σ H xs us Q I r q
  obtain ⟨a, ps, kvs, rfl, hq, hp, hk, q⟩ := q
  obtain ⟨u, rfl, rx⟩ := vals1 r
  obtain rfl : u = .ref a := rx
  obtain ⟨its, rv, pl, hz⟩ := I.list hq
  have ei := refs_at rv
  subst ei
  rw [List.length_map] at hz
  obtain ⟨prs, rel, hl, hpr⟩ := pairs_ofM I hp hk
  obtain ⟨o, n, ho, hc, hd, hdat⟩ := pl
  refine dict_pairsM (prs := prs) hu (I.ok.hd hcalm) ho hc hd hdat (by simp [hl]) (by rw [hl]; exact hz) (fun j q' e => ?_) fun h' tk hd' k => ?_
  · obtain ⟨e1, e2, b, e3, e4⟩ := hpr j q' e
    exact ⟨e1, e2, b, by simp [e3], e4⟩
  · have hm : (s.heap.objs.size == sysModules) = false := beq_eq_false_iff_ne.mpr (Nat.ne_of_gt I.big)
    have hlen : (mergeM [] kvs).length ≤ sizeLine := by
      have h1 := mergeM_len kvs []
      rw [List.length_nil, Nat.zero_add, relM_len rel, hl] at h1
      exact Nat.le_trans h1 hz
    exact ⟨.ref s.heap.objs.size, upd H s.heap.objs.size (mixO X.w s.heap.objs.size (mergeM [] kvs)), I.laid (t' := tk) k (Nat.le_refl _) (mixO_ok hlen hm (relM_merge rel .nil) hd'), rfl, q _ (I.hok.fresh (Nat.le_refl _))⟩
end
end L2

set_option Elab.async false
set_option linter.all false
set_option maxRecDepth 100000
set_option maxHeartbeats 4000000
/-! match of a text against texts -/
namespace L2
open PySem PySem.Spec PyProof.Rows
section
variable {X : Cx}
/-- the cases of a match statement, the subject a text -/
structure PMc (X : Cx) (cs : List MatchCase) (t : Str → TS) : Prop where
  run : ∀ (pins : List (Addr × Obj)) (s : Shared) (σ : St) (H : Hp) (D : Ends) (x : Str) (u : Value) (b : Bool), RelV (.str x) u → Inv X pins σ H s → t x D σ H → wpAny (model X.prog X.w) X.A (matchCases cs X.env u b) (SP X pins D) X.xe s
theorem pm_nil : PMc X [] (fun _ => tNext) := by
  refine ⟨fun pins s σ H D x u b r I h => ?_⟩
  unfold matchCases
  exact wpAny_pure ⟨σ, H, I, h⟩
theorem pm_wild {body : List Stmt} {tb : TS} {p : Pos} (hb : PSs X body tb) : PMc X [⟨.MatchAs none none p, none, body⟩] (fun _ => tb) := by
  refine ⟨fun pins s σ H D x u b r I h => ?_⟩
  unfold matchCases matchPattern
  refine wpAny_bind (wpAny_holding (wpAny_pure ?_))
  refine wpAny_bind (wpAny_holding (wpAny_pure ?_))
  refine wpAny_bind (wpAny_pure ?_)
  show wpAny _ _ (execs body X.env) _ _ _
  exact hb.run pins s σ H D I h
theorem pm_text {y : Str} {j : Nat} {body : List Stmt} {rest : List MatchCase} {tb : TS} {tr : Str → TS} {p q : Pos} (hb : PSs X body tb) (hr : PMc X rest tr) :
    PMc X (⟨.MatchValue (.Constant (.str y) j p) q, none, body⟩ :: rest) (fun x D σ H => if x = y then tb D σ H else tr x D σ H) := by
  refine ⟨fun pins s σ H D x u b r I h => ?_⟩
  unfold matchCases matchPattern
  refine wpAny_bind (wpAny_holding (wpAny_bind (Calls.Constant_str (wpAny_bind (wpAny_standAt (wpAny_bind ?_))))))
  have I1 := I.tok (s.toks + 1)
  have op : OpR X (compareOp .Eq) rEq := op_eq
  refine thn (op pins _ σ H (.str x) (.str y) u (.str y s.toks) (fun v H' => v = .bl (decide (x = y)) ∧ H' = H) I1 r ⟨_, rfl⟩ ⟨rfl, by simp, rfl⟩) fun c s2 hc => ?_
  obtain ⟨z, H2, I2, rz, rfl, rfl⟩ := hc
  cases rz
  refine wpAny_bind (wpAny_truthy_bool ?_)
  by_cases hxy : x = y
  · rw [if_pos hxy] at h
    rw [decide_eq_true hxy, if_pos (rfl : true = true)]
    refine wpAny_pure (wpAny_bind (wpAny_holding (wpAny_pure (wpAny_bind (wpAny_pure ?_)))))
    show wpAny _ _ (execs body X.env) _ _ _
    exact hb.run pins _ σ _ D I2 h
  · rw [if_neg hxy] at h
    rw [decide_eq_false hxy, if_neg Bool.false_ne_true]
    exact wpAny_pure (hr.run pins _ σ _ D x u false r I2 h)
def tMatch (te : TE) (t : Str → TS) : TS := fun D σ H => te σ H fun v H1 => ∃ x, v = .str x ∧ t x D σ H1
theorem ps_match {e : Expr} {cs : List MatchCase} {te : TE} {t : Str → TS} {pos : Pos} (he : PE X e te) (hc : PMc X cs t) : PS X (.Match e cs pos) (tMatch te t) := by
  refine ⟨fun pins s σ H D I h => ?_⟩
  unfold exec
  refine wpAny_bind (wpAny_standAt (wpAny_bind (thn (he.run pins s σ H _ I h) fun u s1 hu => ?_)))
  obtain ⟨v, H1, I1, r1, x, rfl, q⟩ := hu
  exact hc.run pins s1 σ H1 D x u true r1 I1 q
end
end L2

set_option Elab.async false
set_option linter.all false
set_option maxRecDepth 100000
set_option maxHeartbeats 4000000
/-! sorting by keys that are tuples, alike up to the first place where they differ -/
namespace PySem.W
open PySem PySem.Calls PyProof.Rows
def nearAll : List PyData → List PyData → Bool
  | x :: xs, y :: ys => alike x y && (!PyData.eqv x y || nearAll xs ys)
  | [], _ => true
  | _ :: _, [] => true
mutual
theorem reads_one {h : Heap} : ∀ {d d' : PyData} {v : Value} {as as' : List Addr}, Reads h v d as → Reads h v d' as' → d.hasDict = false → d = d'
  | _, _, _, _, _, .none, r, _ => by
    cases r
    rfl
  | _, _, _, _, _, .bool b, r, _ => by
    cases r
    rfl
  | _, _, _, _, _, .int i t, r, _ => by
    cases r
    rfl
  | _, _, _, _, _, .str x t, r, _ => by
    cases r
    rfl
  | _, _, _, _, _, .list h1 h2 h3 h4, r, hn => by
    cases r with
    | list k1 k2 k3 k4 =>
      rw [h1] at k1
      cases k1
      rw [h3] at k3
      cases k3
      rw [readsAll_one h4 k4 (by simpa [PyData.hasDict] using hn)]
    | tuple k1 k2 k3 k4 =>
      rw [h1] at k1
      cases k1
      rw [h2] at k2
      exact absurd k2 (by decide)
    | dict k1 k2 _ _ _ =>
      rw [h1] at k1
      cases k1
      rw [h2] at k2
      exact absurd k2 (by decide)
  | _, _, _, _, _, .tuple h1 h2 h3 h4, r, hn => by
    cases r with
    | tuple k1 k2 k3 k4 =>
      rw [h1] at k1
      cases k1
      rw [h3] at k3
      cases k3
      rw [readsAll_one h4 k4 (by simpa [PyData.hasDict] using hn)]
    | list k1 k2 k3 k4 =>
      rw [h1] at k1
      cases k1
      rw [h2] at k2
      exact absurd k2 (by decide)
    | dict k1 k2 _ _ _ =>
      rw [h1] at k1
      cases k1
      rw [h2] at k2
      exact absurd k2 (by decide)
  | _, _, _, _, _, .dict _ _ _ _ _, r, hn => by
    simp [PyData.hasDict] at hn
theorem readsAll_one {h : Heap} : ∀ {ds ds' : List PyData} {vs : List Value} {as as' : List Addr}, ReadsAll h vs ds as → ReadsAll h vs ds' as' → PyData.hasDictAll ds = false → ds = ds'
  | _, _, _, _, _, .nil, r, _ => by
    cases r
    rfl
  | _, _, _, _, _, .cons r1 r2, r, hn => by
    cases r with
    | cons k1 k2 =>
      rw [PyData.hasDictAll, Bool.or_eq_false_iff] at hn
      rw [reads_one r1 k1 hn.1, readsAll_one r2 k2 hn.2]
end
theorem kind_some {h : Heap} {ds : List PyData} (hno : ∀ d ∈ ds, d.hasDict = false) {v : Value} {d : PyData} {as : List Addr} (hd : d ∈ ds) (r : Reads h v d as) : (dataKind h ds).keyOf v = some (keyToks d) := by
  have q : ∃ d, d ∈ ds ∧ ∃ as, Reads h v d as := ⟨d, hd, as, r⟩
  have e : (dataKind h ds).keyOf v = some (keyToks q.choose) := by
    unfold dataKind
    dsimp only
    rw [dif_pos q]
  obtain ⟨h1, as', h2⟩ := q.choose_spec
  rw [e, reads_one h2 r (hno _ h1)]
section
variable {prog : Program} {w : World} {A : Around} {E : Value → Shared → Prop} {s : Shared}
theorem katLex_near {b fin : Bool} {Q : Bool → Shared → Prop} : ∀ (xs ys : List PyData) (i : Nat) (vs ws : List Value) (as bs : List Addr), ReadsAll s.heap vs xs as → ReadsAll s.heap ws ys bs → nearAll xs ys = true →
    A.units + min (PyData.depthAll xs) (PyData.depthAll ys) < cLine → (b = true → i = 0 → ∀ x r t, xs = x :: r → x ≠ .tuple t) → fin = decide (xs.length < ys.length) → Q (PyProof.Rows.lexLt itemOrd (keyToksAll xs) (keyToksAll ys)) s → KatLex prog w A b fin Q (vs.zip ws) i s
  | [], ys, i, _, _, _, _, ra, rb, _, hu, hb, hf, hq => katLex_alike [] ys i _ _ _ _ ra rb (by simp [alikeAll]) hu hb hf hq
  | x :: xs, [], i, _, _, _, _, ra, rb, _, hu, hb, hf, hq => katLex_alike (x :: xs) [] i _ _ _ _ ra rb (by simp [alikeAll]) hu hb hf hq
  | x :: xs, y :: ys, i, _, _, _, _, ra, rb, h, hu, hb, hf, hq => by
    rw [nearAll, Bool.and_eq_true] at h
    obtain ⟨h1, h2⟩ := h
    have hf' : fin = decide (xs.length < ys.length) := by
      rw [hf, List.length_cons, List.length_cons]
      exact decide_eq_decide.mpr (by omega)
    cases ra with
    | cons r rs =>
      cases rb with
      | cons r' rs' =>
        rw [List.zip_cons_cons]
        refine kat_cons (eqAt_alike x y A s _ _ _ _ r r' h1 (SeqAt.room_head hu) prog w _ _ ?_)
        cases hx : PyData.eqv x y with
        | true =>
          rw [hx] at h2
          rw [dataLt_all_yes h1 hx] at hq
          exact kat_yes (katLex_near xs ys (i + 1) _ _ _ _ rs rs' h2 (SeqAt.room_tail hu) (fun _ hi => absurd hi (Nat.succ_ne_zero i)) hf' hq)
        | false =>
          rw [dataLt_all_no h1 hx] at hq
          refine kat_no (oneLt_alike (fun hbi t => ?_) r r' h1 (ne_none_of h1 hx) (SeqAt.room_head hu) hq)
          rw [Bool.and_eq_true] at hbi
          exact hb hbi.1 (by simpa using hbi.2) x xs t rfl
/-- keys that can be sorted: alike ones, or tuples that are near to one another, with alike first items -/
def Ranks (ds : List PyData) : Prop := (∀ d ∈ ds, d.hasDict = false) ∧ ((AllAlike ds ∧ Sortable ds) ∨
  ∃ x₀, (∀ d ∈ ds, ∃ x r, d = .tuple (x :: r) ∧ alike x x₀ = true) ∧ ∀ d ∈ ds, ∀ d' ∈ ds, ∀ xs ys, d = .tuple xs → d' = .tuple ys → nearAll xs ys = true)
theorem SortsAt.ranks {vs : List Value} {ds : List PyData} (e : EachIs (fun v d => ∃ as, Reads s.heap v d as) vs ds) (hr : Ranks ds) (hu : ∀ d, d ∈ ds → A.units + d.depth < cLine) : SortsAt prog w A s (dataKind s.heap ds) vs := by
  obtain ⟨hno, hr⟩ := hr
  rcases hr with ⟨hal, hs⟩ | ⟨x₀, ht, hn⟩
  · exact SortsAt.data e hal hs hu
  refine ⟨fun v hv => ?_, tuples' (dataType x₀ != Value.type "tuple"), ?_, fun h2 E Q hq => ?_⟩
  · obtain ⟨d, hd, as, r⟩ := e.left v hv
    exact ⟨_, kind_some hno hd r⟩
  · intro E x y a b Q ha hb hq
    obtain ⟨d, as, hd, ra, rfl⟩ := dataKind_inv ha
    obtain ⟨d', as', hd', rb, rfl⟩ := dataKind_inv hb
    obtain ⟨x1, r1, rfl, a1⟩ := ht d hd
    obtain ⟨x2, r2, rfl, a2⟩ := ht d' hd'
    have near := hn _ hd _ hd' _ _ rfl rfl
    have room : A.units + min (PyData.tuple (x1 :: r1)).depth (PyData.tuple (x2 :: r2)).depth < cLine := Nat.lt_of_le_of_lt (Nat.add_le_add_left (Nat.min_le_left _ _) _) (hu _ hd)
    have hq' : Q (dataLt (.tuple (x1 :: r1)) (.tuple (x2 :: r2))) s := hq
    rw [dataLt_tuple] at hq'
    cases ra with
    | @tuple l o xs n _ _ h1 h2 h3 h4 =>
      cases rb with
      | @tuple l' o' xs' n' _ _ k1 k2 k3 k4 =>
        have n1 : xs.size = (x1 :: r1).length := by simpa using SeqAt.ReadsAll.length _ _ _ h4
        have n2 : xs'.size = (x2 :: r2).length := by simpa using SeqAt.ReadsAll.length _ _ _ k4
        refine kat_lt h1 h3 k1 k3 (katLex_near (x1 :: r1) (x2 :: r2) 0 _ _ _ _ h4 k4 near (by have q := SeqAt.room_in room; omega) (fun hb _ x r t ex => ?_) (by rw [n1, n2]) hq')
        obtain ⟨rfl, rfl⟩ := List.cons.inj ex
        rw [← dataType_alike a1] at hb
        exact dataType_tuple hb t
  · obtain ⟨fs, t1, t2, t3⟩ := each_katTups e fun d hd => by
      obtain ⟨x, r, h1, _⟩ := ht d hd
      exact ⟨x, r, h1⟩
    refine kat_kind (T := dataType x₀) t1 (by omega) (fun f hf => ?_) (beq_self_eq_true _) hq
    obtain ⟨x, r, as, m1, m2⟩ := t3 f hf
    obtain ⟨x', r', h1, h2⟩ := ht _ m1
    cases h1
    rw [← dataType_alike h2]
    exact looks_reads m2
end
end PySem.W

set_option Elab.async false
set_option linter.all false
set_option maxRecDepth 100000
set_option maxHeartbeats 4000000
/-! sorted(xs, key=f): what f's calls must keep is said by G -/
namespace PySem.W
open PySem PySem.Calls PyProof.Rows
section
variable {prog : Program} {w : World} {A : Around} {E : Value → Shared → Prop} {s : Shared} {a kS : Addr} {b : Bool} {vs : List Value} {e1 : Nat} {P : PySem.Fin → Shared → Prop} {f : Value}
theorem keyG_rest (G : List Value → Shared → Prop) (g0 : G [] s) (nk : s.heap.get? kS = some (seqObj "list" #[] 0)) (na : s.heap.get? a = some (seqObj "list" #[] e1)) (hka : kS ≠ a) (hZ : vs.length ≤ sizeLine)
    (turn : ∀ (v : Value) (ks : List Value) (s1 : Shared), vs[ks.length]? = some v → G ks s1 → (∃ e, s1.heap.get? kS = some (seqObj "list" ks.toArray e)) → s1.heap.get? a = some (seqObj "list" #[] e1) →
      wpAny (model prog w) A (call f [v]) (fun u s2 => G (ks ++ [u]) s2 ∧ s2.heap.get? kS = s1.heap.get? kS ∧ s2.heap.get? a = s1.heap.get? a) (fun _ _ => False) s1)
    (put : ∀ (ks : List Value) (s1 : Shared) (h' : Heap) (tk : Nat), G ks s1 → Heap.SameBut kS s1.heap h' → G ks { s1 with heap := h', toks := tk })
    (fin : ∀ (ks : List Value) (s1 : Shared), ks.length = vs.length → G ks s1 → ∃ κ, SortsAt prog w A s1 κ ks ∧ ∀ h' tk c, (∀ b o, b ≠ a → b ≠ kS → s1.heap.get? b = some o → h'.get? b = some o) → h'.get? a = some (seqObj "list" (sortVals κ b ks vs).toArray c) → P (.done (.ret .none)) { s1 with heap := h', toks := tk }) :
    wpAny (model prog w) A (ksk_rest a f b vs.toArray e1 (.ref kS)) P E s := by
  unfold ksk_rest
  refine wpAny_bind (wpAny_rule ?_)
  rw [List.forIn_toArray]
  refine wpAny_bind (ksk_fold (fun i s1 => ∃ ks e, ks.length = i ∧ G ks s1 ∧ s1.heap.get? kS = some (seqObj "list" ks.toArray e) ∧ s1.heap.get? a = some (seqObj "list" #[] e1)) vs 0 s ⟨[], 0, rfl, g0, nk, na⟩ ?_ ?_)
  · rintro j x s1 hx ⟨ks, e, hl, g, nk1, na1⟩
    rw [Nat.zero_add] at hl ⊢
    have hj : j < vs.length := (List.getElem?_eq_some_iff.mp hx).1
    refine wpAny_bind (wpAny_attempt (wpAny_mono (turn x ks s1 (by rw [hl]; exact hx) g ⟨e, nk1⟩ na1) (fun u s2 hu => ?_) fun _ _ hF => hF.elim))
    obtain ⟨g2, k2, a2⟩ := hu
    dsimp only
    have nk2 : s2.heap.get? kS = some (seqObj "list" ks.toArray e) := k2.trans nk1
    have na2 : s2.heap.get? a = some (seqObj "list" #[] e1) := a2.trans na1
    have sb := Heap.SameBut.update s2.heap kS (Obj.mapSeq (·.push u))
    obtain ⟨c2, hc2⟩ : ∃ c2, (s2.heap.update kS (Obj.mapSeq (·.push u))).get? kS = some (seqObj "list" (ks.toArray.push u) c2) := ⟨_, get?_update_seq nk2 (·.push u)⟩
    refine wpAny_bind (listUpdate_at nk2 rfl ?_ (by rw [List.size_toArray]; omega) (by show (ks.toArray.push u).size ≤ _; rw [Array.size_push, List.size_toArray]; omega))
    refine wpAny_pure ⟨rfl, ks ++ [u], c2, by rw [List.length_append, hl]; rfl, put _ s2 _ _ g2 sb, ?_, (sb.2 a hka.symm).trans na2⟩
    rw [hc2]
    simp
  · rintro s1 ⟨ks, e, hl, g, nk1, na1⟩
    rw [Nat.zero_add] at hl
    obtain ⟨κ, S, q⟩ := fin ks s1 hl g
    refine wpAny_bind (listItems_at nk1 rfl ?_)
    obtain ⟨h0, r1, r2⟩ := L2.restrict s1.heap fun b => decide (b ≠ kS)
    refine keyH_end (κ := κ) (h₁ := h0) (keys := ks.toArray) (fun b o hb e => ?_) (r2 kS (by simp)) nk1 na1 hka S (by rw [List.size_toArray]; exact hl) hZ fun h3 tk3 c k3 n3 => q h3 tk3 c (fun b o h1 h2 e => k3 b o h1 ((r1 b (by simpa using h2)).trans e)) n3
    by_cases hk : b = kS
    · rw [hk, r2 kS (by simp)] at e
      cases e
    · exact (r1 b (by simpa using hk)).symm.trans e
theorem keyG_sorted {T : String} {l : Addr} {o : Obj} {items : Array Value} {n : Nat} {Q : Value → Shared → Prop} {q : Addr} (hT : T = "list" ∨ T = "tuple") (ho : s.heap.get? l = some o) (hc : o.cls = .type T) (hd : o.data = .seq items n) (hZ : items.size ≤ sizeLine)
    (main : ∀ h1 : Heap, (∀ b ob, s.heap.get? b = some ob → h1.get? b = some ob) → ∀ (h2 : Heap) (a kS : Addr) (e1 : Nat), (∀ b ob, h1.get? b = some ob → h2.get? b = some ob) → h1.objs.size ≤ a → h1.objs.size ≤ kS → kS ≠ a → h2.get? kS = some (seqObj "list" #[] 0) → h2.get? a = some (seqObj "list" #[] e1) →
      ∀ E' : Value → Shared → Prop, wpAny (model prog w) A.in1.in1 (ksk_rest a (.ref q) false items.toList.toArray e1 (.ref kS)) (fun r s' => r = .done (.ret .none) ∧ Q (.ref a) s') E' { s with heap := h2 }) :
    wpAny (model prog w) A (call (.builtin "sorted") [.ref l] [(Str.ofString "key", .ref q)]) Q E s := by
  refine call_function_entry_kw kind_sorted plain_sorted entry_sorted (ksk_s1 _ _) ?_
  unfold Builtin.«sorted»
  refine wpAny_bind (m := checkCount "sorted" 1 1 _) (wpAny_pure (wpAny_bind (wpAny_collect_seq l hT ho hc hd (fun h1 k1 => ?_) hZ)))
  have hz2 : items.toList.length ≤ sizeLine := by rw [Array.length_toList]; exact hZ
  refine wpAny_bind (wpAny_newList ?_ hz2)
  have nw : (h1.push (seqObj "list" items.toList.toArray 0)).get? h1.objs.size = some (seqObj "list" items.toList.toArray 0) := Heap.get?_push_size _ rfl
  refine wpAny_bind (wpAny_holding (wpAny_call_entry_kw slot_list_sort ⟨_, nw, rfl⟩ entry_list_sort ?_ (ksk_l1 _ _)))
  show wpAny (model prog w) A.in1.in1 (Builtin.«list.sort» ⟨[.ref h1.objs.size], [(Str.ofString "key", .ref q)]⟩) _ _ { s with heap := h1.push (seqObj "list" items.toList.toArray 0) }
  rw [ksk_t1]
  obtain ⟨e1, ho1⟩ : ∃ e1, ((h1.push (seqObj "list" items.toList.toArray 0)).update h1.objs.size (Obj.mapSeq fun _ => (#[] : Array Value))).get? h1.objs.size = some (seqObj "list" #[] e1) := ⟨_, get?_update_seq nw fun _ => #[]⟩
  obtain ⟨h2, eh2⟩ : ∃ h2, (h1.push (seqObj "list" items.toList.toArray 0)).update h1.objs.size (Obj.mapSeq fun _ => (#[] : Array Value)) = h2 := ⟨_, rfl⟩
  have sb := Heap.SameBut.update (h1.push (seqObj "list" items.toList.toArray 0)) h1.objs.size (Obj.mapSeq fun _ => (#[] : Array Value))
  have k2 : ∀ b ob, h1.get? b = some ob → h2.get? b = some ob := fun b ob e => by
    rw [← eh2]
    exact (sb.2 b (Nat.ne_of_lt (Heap.lt_size e))).trans (Heap.get?_push_of_some _ e)
  have s2 : h2.objs.size = h1.objs.size + 1 := by rw [← eh2, Heap.size_update, size_push']
  unfold ksk_tree
  refine wpAny_bind (listItems_at nw rfl (wpAny_bind (listUpdate_at nw rfl ?_ (by rw [List.size_toArray]; exact hz2) (Nat.zero_le _))))
  rw [eh2] at ho1 ⊢
  refine wpAny_bind (seqEpoch_at ho1 rfl (wpAny_bind (wpAny_newTuple ?_ (by show items.toList.length ≤ _; exact hz2))))
  refine wpAny_bind (wpAny_newList (wpAny_holding ?_) (Nat.zero_le _))
  have s3 : (h2.push (seqObj "tuple" items.toList.toArray 0)).objs.size = h1.objs.size + 2 := by rw [size_push', s2]
  refine wpAny_mono (main h1 k1 ((h2.push (seqObj "tuple" items.toList.toArray 0)).push (seqObj "list" #[] 0)) h1.objs.size (h2.push (seqObj "tuple" items.toList.toArray 0)).objs.size e1 (fun b ob e => Heap.get?_push_of_some _ (Heap.get?_push_of_some _ (k2 b ob e))) (Nat.le_refl _) (by rw [s3]; exact Nat.le_add_right _ 2) (by rw [s3]; exact Nat.ne_of_gt (Nat.lt_add_of_pos_right (by decide)))
    (Heap.get?_push_size _ rfl) (Heap.get?_push_of_some _ (Heap.get?_push_of_some _ ho1)) _) (fun r s' hr => ?_) fun _ _ e => e
  obtain ⟨rfl, hq⟩ := hr
  exact ⟨_, rfl, wpAny_pure ⟨_, rfl, hq⟩⟩
end
end PySem.W

set_option Elab.async false
set_option linter.all false
set_option maxRecDepth 100000
set_option maxHeartbeats 4000000
/-! sorted(xs, key=f) over the hand layer -/
namespace L2
open PySem PySem.Spec PyProof.Rows
/-- what a key function f does where it is called from sorted -/
structure KeyFn (X : Cx) (f : Addr) (ok : Hp → Heap → Prop) (sp : Sp) : Prop where
  stay : ∀ (H H' : Hp) (h h' : Heap), Un (frs X.stack) [] H H' h h' → (∀ b o, H b = some o → H' b = some o) → ok H h → ok H' h'
  run : ∀ (s : Shared) (H : Hp) (u : Value) (v : V) (Q : VK), Env0 X.prog X.w X.K X.mg X.base X.A.in1.in1 X.stack s H → ok H s.heap → RelV v u → sp [v] H Q E0 → codeAny (model X.prog X.w) X.A.in1.in1 (.call (.ref f) ⟨[u], []⟩) (CR CX0 X.stack X.prog X.w H s Q E0) s
theorem keyFn_def {X : Cx} {k : Nat} {f : Addr} {fd : FuncData} {y : Str} {sp : Sp} (F : FnOk X.prog X.w X.K X.mg X.base CX0 k f fd [y] sp) (hr : Room (k + 2) X.A) (hb : Binds X.K fd [y] []) : KeyFn X f (fun _ _ => True) sp where
  stay := fun _ _ _ _ _ _ h => h
  run := fun s H u v Q e0 _ rv h => by
    have KX : X.K.In s.heap := e0.mod.kin.keeps fun b o e => (e0.bs b o e).1
    have b := hb s [u] KX rfl
    rw [List.append_nil] at b
    exact F.run X.A.in1.in1 X.stack s H ⟨[u], []⟩ [u] [v] Q E0 hr.in1.in1 e0 b (.cons rv .nil) h
theorem each_vals {f : V → V} : ∀ {vs : List Value} {xs : List V}, PySem.W.EachIs (fun u x => RelV x u) vs xs → Vals xs vs
  | _, _, .nil => .nil
  | _, _, .cons h t => .cons h (each_vals (f := f) t)
theorem vals_each : ∀ {xs : List V} {vs : List Value}, Vals xs vs → PySem.W.EachIs (fun u x => RelV x u) vs xs
  | _, _, .nil => .nil
  | _, _, .cons h t => .cons h (vals_each t)
theorem vals_eachF {α : Type} {f : α → V} : ∀ {xs : List α} {vs : List Value}, Vals (xs.map f) vs → PySem.W.EachIs (fun u x => RelV (f x) u) vs xs
  | [], _, .nil => .nil
  | _ :: _, _, .cons h t => .cons h (vals_eachF t)
theorem each_valsF {α : Type} {f : α → V} : ∀ {vs : List Value} {xs : List α}, PySem.W.EachIs (fun u x => RelV (f x) u) vs xs → Vals (xs.map f) vs
  | _, _, .nil => .nil
  | _, _, .cons h t => .cons h (each_valsF t)
theorem each_app {α β : Type} {R : α → β → Prop} : ∀ {as : List α} {bs : List β} {a : α} {b : β}, PySem.W.EachIs R as bs → R a b → PySem.W.EachIs R (as ++ [a]) (bs ++ [b])
  | _, _, _, _, .nil, h => .cons h .nil
  | _, _, _, _, .cons h t, q => .cons h (each_app t q)
/-- what is asked of the items xs, of the keys k, and of what follows -/
structure SortAsk {α : Type} (K : PySem.W.Frag) (sp : Sp) (H : Hp) (a : Addr) (xs : List α) (it : α → V) (k : α → PyData) (Q : VK) : Prop where
  seq : SqL K H a (xs.map it) ∨ SqT K H a (xs.map it)
  rks : PySem.W.Ranks (xs.map k)
  dep : ∀ x ∈ xs, (k x).depth ≤ 60
  key : ∀ x ∈ xs, ∀ H', (∀ b o, H b = some o → H' b = some o) → sp [it x] H' (fun v H'' => (∀ b o, H' b = some o → H'' b = some o) ∧ Dp K H'' v (k x)) E0
  fin : ∀ H' p, (∀ b o, H b = some o → H' b = some o) → H p = none → H' p = none → Q (.ref p) (upd H' p (.lst ((xs.mergeSort (PySem.W.dataLe false k)).map it)))
def rSortKey (K : PySem.W.Frag) (f : Addr) (sp : Sp) : List V → List V → Hp → VK → Prop := fun vs zs H Q => ∃ (α : Type) (a : Addr) (xs : List α) (it : α → V) (k : α → PyData), vs = [.ref a] ∧ zs = [.ref f] ∧ SortAsk K sp H a xs it k Q
section
variable {X : Cx} {f : Addr} {ok : Hp → Heap → Prop} {sp : Sp}
theorem sql_stay {K : PySem.W.Frag} {H H' : Hp} {a : Addr} {xs : List V} (e : ∀ b o, H b = some o → H' b = some o) (h : SqL K H a xs) : SqL K H' a xs := by
  rcases h with (h | ⟨o, h⟩) | h
  · exact .inl (.inl (e _ _ h))
  · exact .inl (.inr ⟨o, e _ _ h⟩)
  · exact .inr h
theorem sqt_stay {K : PySem.W.Frag} {H H' : Hp} {a : Addr} {xs : List V} (e : ∀ b o, H b = some o → H' b = some o) (h : SqT K H a xs) : SqT K H' a xs := by
  rcases h with (h | ⟨o, h⟩) | h
  · exact .inl (.inl (e _ _ h))
  · exact .inl (.inr ⟨o, e _ _ h⟩)
  · exact .inr h
mutual
theorem dp_stay {K : PySem.W.Frag} {H H' : Hp} (s : ∀ b o, H b = some o → H' b = some o) : ∀ {v : V} {d : PyData}, Dp K H v d → Dp K H' v d
  | _, _, .non => .non
  | _, _, .bl b => .bl b
  | _, _, .int i => .int i
  | _, _, .str x => .str x
  | _, _, .lst h r => .lst (sql_stay s h) (dpAll_stay s r)
  | _, _, .tup h r => .tup (sqt_stay s h) (dpAll_stay s r)
theorem dpAll_stay {K : PySem.W.Frag} {H H' : Hp} (s : ∀ b o, H b = some o → H' b = some o) : ∀ {v : List V} {d : List PyData}, DpAll K H v d → DpAll K H' v d
  | _, _, .nil => .nil
  | _, _, .cons r t => .cons (dp_stay s r) (dpAll_stay s t)
end
theorem each_get {α β : Type} {R : α → β → Prop} : ∀ {as : List α} {bs : List β} {i : Nat} {b : β}, PySem.W.EachIs R as bs → bs[i]? = some b → ∃ a, as[i]? = some a ∧ R a b
  | _, _, _, _, .nil, h => by simp at h
  | _, _, 0, _, .cons h t, e => by
    simp at e
    subst e
    exact ⟨_, rfl, h⟩
  | _, _, i + 1, b, .cons h t, e => each_get (i := i) t (by simpa using e)
theorem each_imp {α β : Type} {R S : α → β → Prop} (f : ∀ a b, R a b → S a b) : ∀ {as : List α} {bs : List β}, PySem.W.EachIs R as bs → PySem.W.EachIs S as bs
  | _, _, .nil => .nil
  | _, _, .cons h t => .cons (f _ _ h) (each_imp f t)
/-- what keys were found, read in the heap -/
theorem each_reads {α : Type} {X : Cx} {pins : List (Addr × Obj)} {σ : St} {H : Hp} {s : Shared} (I : Inv X pins σ H s) {k : α → PyData} : ∀ {kv : List V} {ks : List Value} {xs : List α}, Vals kv ks → PySem.W.EachIs (fun y x => Dp X.K H y (k x)) kv xs →
    PySem.W.EachIs (fun v x => ∃ as, Reads s.heap v (k x) as) ks xs
  | _, _, _, .nil, .nil => .nil
  | _, _, _, .cons r t, .cons h q => .cons (Dp.reads I _ _ _ h r) (each_reads I t q)
theorem sortKey_run (F : KeyFn X f ok sp) (hu : X.A.units + 64 < cLine) {pins : List (Addr × Obj)} {s : Shared} {σ : St} {H : Hp} {Q : VK} (I : Inv X pins σ H s) (hok : ok H s.heap) {α : Type} {a0 : Addr} {xs : List α} {it : α → V} {k : α → PyData} (h : SortAsk X.K sp H a0 xs it k Q) :
    wpAny (model X.prog X.w) X.A (call (.builtin "sorted") [.ref a0] [(Str.ofString "key", .ref f)]) (EP X pins σ Q) X.xe s := by
  obtain ⟨hsq, hrk, hdp, hsp, q⟩ := h
  obtain ⟨T, o, its, n, hT, ho, hc, hd, hz, rv⟩ : ∃ (T : String) (o : Obj) (its : List Value) (n : Nat), (T = "list" ∨ T = "tuple") ∧ s.heap.get? a0 = some o ∧ o.cls = .type T ∧ o.data = .seq its.toArray n ∧ xs.length ≤ sizeLine ∧ Vals (xs.map it) its := by
    rcases hsq with hs | hs
    · obtain ⟨its, rv, ⟨o, n, ho, hc, _, hd⟩, hz⟩ := I.list hs
      exact ⟨"list", o, its, n, .inl rfl, ho, hc, hd, by rw [List.length_map] at hz; exact hz, rv⟩
    · obtain ⟨its, rv, ⟨o, ho, hc, n, hd⟩, hz⟩ := I.tuple hs
      exact ⟨"tuple", o, its, n, .inr rfl, ho, hc, hd, by rw [List.length_map] at hz; exact hz, rv⟩
  have rvl : xs.length = its.length := by rw [← rv.length, List.length_map]
  have hzi : its.length ≤ sizeLine := by rw [← rvl]; exact hz
  refine PySem.W.keyG_sorted hT ho hc hd (by rw [List.size_toArray]; exact hzi) fun h1 k1 h2 a kS e1 k2 ha hkS hka nk na E' => ?_
  have I1 : Inv X pins σ H { s with heap := h1 } := I.kept (t' := s.toks) k1
  have fa : ∀ Hn : Hp, Hn a = none → FpOk X pins Hn a := fun Hn hn => I1.fpOk ha hn
  have fk : ∀ Hn : Hp, Hn kS = none → FpOk X pins Hn kS := fun Hn hn => I1.fpOk hkS hn
  have nfr : ∀ {b : Addr}, FpOk X pins H b → b ∉ frs X.stack := fun {b} fb z => by
    rcases List.mem_cons.mp (I1.stkSub b z) with e | e
    · exact fb.2.1 e
    · exact fb.2.2.1 e
  have Ha : H a = none := I1.hok.fresh ha
  have Hk : H kS = none := I1.hok.fresh hkS
  have lt1 : ∀ {b : Addr} {ob : Obj}, h1.get? b = some ob → b ≠ a ∧ b ≠ kS := fun {b ob} e => ⟨Nat.ne_of_lt (Nat.lt_of_lt_of_le (Heap.lt_size e) ha), Nat.ne_of_lt (Nat.lt_of_lt_of_le (Heap.lt_size e) hkS)⟩
  have back : ∀ {Hn : Hp} {s1 : Shared}, s1.os = s.os → AllBare s1.gens → Un (frs X.stack) [] H Hn h1 s1.heap → HOk X.prog X.w Hn s1.heap → Inv X pins σ Hn s1 := fun {Hn s1} e1 e2 e3 e4 => I1.call' (ch := []) e1 e3 e4 e2 (fun b z => absurd z (by simp))
  refine PySem.W.keyG_rest (fun ks s1 => ∃ (Hn : Hp) (kv : List V), s1.os = s.os ∧ AllBare s1.gens ∧ Un (frs X.stack) [] H Hn h1 s1.heap ∧ HOk X.prog X.w Hn s1.heap ∧ (∀ b ob, H b = some ob → Hn b = some ob) ∧ Hn kS = none ∧ Hn a = none ∧ Vals kv ks ∧ PySem.W.EachIs (fun y x => Dp X.K Hn y (k x)) kv (xs.take ks.length))
    ⟨H, [], rfl, I1.bare, Un.kept k2, I1.hok.kept k2, fun _ _ e => e, Hk, Ha, .nil, by simp; exact .nil⟩ nk na hka (by rw [Array.length_toList, List.size_toArray]; exact hzi) ?_ ?_ ?_
  · rintro v ks s1 hv ⟨Hn, kv, e1', e2, un, hokn, sn, nkS, nA, rk, ek⟩ ⟨e, nk1⟩ na1
    have J := back e1' e2 un hokn
    have hlt : ks.length < xs.length := by
      have := (List.getElem?_eq_some_iff.mp hv).1
      simp at this
      rw [rvl]
      exact this
    have hx : xs[ks.length]? = some xs[ks.length] := List.getElem?_eq_getElem hlt
    have hx' : (xs.map it)[ks.length]? = some (it xs[ks.length]) := by rw [List.getElem?_map, hx]; rfl
    obtain ⟨u, hu1, ru⟩ := rv.get hx'
    have euv : u = v := by
      rw [List.toList_toArray] at hv
      exact Option.some.inj (hu1.symm.trans hv)
    subst euv
    have lk : kv.length = ks.length := rk.length
    refine wpAny_call (codeAny_mono (F.run s1 Hn u (it xs[ks.length]) _ J.env0.in1.in1 (F.stay _ _ _ _ ((Un.kept k1).trans un) sn hok) ru (hsp _ (List.getElem_mem hlt) Hn sn)) fun r s2 hr => ?_)
    match r, hr with
    | .error e, hr => exact (show False from hr).elim
    | .ok .next, hr => exact hr.elim
    | .ok .brk, hr => exact hr.elim
    | .ok .cont, hr => exact hr.elim
    | .ok (.ret uk), hr =>
      obtain ⟨yv, H', os, bare, un2, hok2, ry, s2', dp2⟩ := hr
      have sn2 : ∀ b ob, H b = some ob → H' b = some ob := fun b ob e => s2' b ob (sn b ob e)
      refine ⟨⟨H', kv ++ [yv], os.trans e1', bare, un.trans un2, hok2, sn2, un2.free _ _ nk1 nkS (by simp), un2.free _ _ na1 nA (by simp), rk.append (.cons ry .nil), ?_⟩, ?_, ?_⟩
      · rw [List.length_append, List.length_singleton, List.take_succ, hx]
        exact each_app (each_imp (fun _ _ q => dp_stay s2' q) ek) dp2
      · rw [nk1]
        exact un2.keep _ _ nk1 nkS (nfr (fk H Hk)) (by simp)
      · rw [na1]
        exact un2.keep _ _ na1 nA (nfr (fa H Ha)) (by simp)
  · rintro ks s1 h' tk ⟨Hn, kv, e1', e2, un, hokn, sn, nkS, nA, rk, ek⟩ sb
    have J := (back e1' e2 un hokn).turned (t' := tk) (it := kS) (h' := h') (fun b o hb e => (sb.2 b hb).trans e) nkS (fk Hn nkS).2.1 (fk Hn nkS).2.2.2.1 (fk Hn nkS).2.2.2.2.1 (fk Hn nkS).2.2.2.2.2
    refine ⟨Hn, kv, e1', e2, ?_, J.hok, sn, nkS, nA, rk, ek⟩
    exact ⟨fun b ob q n hb hx => (sb.2 b (lt1 q).2).trans (un.keep b ob q n hb hx), fun b ob q n hb hx => by
      obtain ⟨sl, e⟩ := un.slot b ob q n hb hx
      exact ⟨sl, (sb.2 b (lt1 q).2).trans e⟩, un.free, fun b ob q hx => by
      obtain ⟨o', e⟩ := un.there b ob q hx
      exact ⟨o', (sb.2 b (lt1 q).2).trans e⟩, un.tups, un.frzs, un.tbls⟩
  · rintro ks s1 hl ⟨Hn, kv, e1', e2, un, hokn, sn, nkS, nA, rk, ek⟩
    have J := back e1' e2 un hokn
    rw [List.toList_toArray] at hl ⊢
    have ek' : PySem.W.EachIs (fun y x => Dp X.K Hn y (k x)) kv xs := by
      rw [hl, ← rvl, List.take_length] at ek
      exact ek
    have er := each_reads J rk ek'
    have er' : PySem.W.EachIs (fun v d => ∃ as, Reads s1.heap v d as) ks (xs.map k) := PySem.W.each_map (R := fun v d => ∃ as, Reads s1.heap v d as) k er
    refine ⟨PySem.W.dataKind s1.heap (xs.map k), PySem.W.SortsAt.ranks er' hrk (fun d hd => ?_), fun h' tk c kp na' => ⟨rfl, ?_⟩⟩
    · obtain ⟨x, hx, rfl⟩ := List.mem_map.mp hd
      have := hdp x hx
      show X.A.units + 1 + 1 + _ < cLine
      omega
    · have hkk : PySem.W.EachIs (fun v x => (PySem.W.dataKind s1.heap (xs.map k)).keyOf v = some (PySem.W.keyToks (k x))) ks xs := by
        have hno := hrk.1
        have aux : ∀ {ks : List Value} {ys : List α}, PySem.W.EachIs (fun v x => ∃ as, Reads s1.heap v (k x) as) ks ys → (∀ y ∈ ys, y ∈ xs) → PySem.W.EachIs (fun v x => (PySem.W.dataKind s1.heap (xs.map k)).keyOf v = some (PySem.W.keyToks (k x))) ks ys := by
          intro ks ys h
          induction h with
          | nil => exact fun _ => .nil
          | cons h t ih =>
            intro hm
            obtain ⟨as, r⟩ := h
            exact .cons (PySem.W.kind_some hno (List.mem_map.mpr ⟨_, hm _ List.mem_cons_self, rfl⟩) r) (ih fun y hy => hm y (List.mem_cons_of_mem _ hy))
        exact aux er fun y hy => hy
      have hs : PySem.W.EachIs (fun u x => RelV (it x) u) (PySem.W.sortVals (PySem.W.dataKind s1.heap (xs.map k)) false ks its) (xs.mergeSort (PySem.W.dataLe false k)) :=
        PySem.W.sortVals_each (κ := PySem.W.dataKind s1.heap (xs.map k)) (fun x => PySem.W.keyToks (k x)) (vals_eachF rv) hkk
      have hv := each_valsF hs
      have hlen : ((xs.mergeSort (PySem.W.dataLe false k)).map it).length ≤ sizeLine := by rw [List.length_map, List.length_mergeSort]; exact hz
      obtain ⟨G', g1, g2⟩ := restrict s1.heap fun b => decide (b ≠ a ∧ b ≠ kS)
      have gk : ∀ b, b ≠ a → b ≠ kS → G'.get? b = s1.heap.get? b := fun b h1 h2 => g1 b (decide_eq_true ⟨h1, h2⟩)
      have gs : ∀ b ob, G'.get? b = some ob → h'.get? b = some ob := fun b ob q => by
        by_cases ha' : b = a
        · rw [ha', g2 a (by simp)] at q
          cases q
        by_cases hk' : b = kS
        · rw [hk', g2 kS (by simp)] at q
          cases q
        exact kp b ob ha' hk' ((gk b ha' hk').symm.trans q)
      have tne : ∀ b ob, Hn b = some ob → b ≠ a ∧ b ≠ kS := fun b ob q => ⟨ne_of_none q nA, ne_of_none q nkS⟩
      have hokG : HOk X.prog X.w Hn G' := fun b ob q => (hokn b ob q).stay (fun c v hc z => by
        have hcc : c ≠ a ∧ c ≠ kS := by
          rcases hc with rfl | hc
          · exact tne _ _ q
          · exact tne _ _ hc
        exact (gk c hcc.1 hcc.2).trans z) (fun _ z => z) fun _ _ z => z
      have new : ObjOk X.prog X.w (upd Hn a (.lst ((xs.mergeSort (PySem.W.dataLe false k)).map it))) h' a (.lst ((xs.mergeSort (PySem.W.dataLe false k)).map it)) := ⟨hlen, _, c, hv, na'⟩
      refine ⟨.ref a, upd Hn a (.lst ((xs.mergeSort (PySem.W.dataLe false k)).map it)), I1.call' (s' := { s1 with heap := h', toks := tk }) (ch := []) e1' ?_ (HOk.laidN hokG gs nA new) e2 (fun b z => absurd z (by simp)), rfl, q Hn a sn Ha nA⟩
      refine ⟨fun b ob q n hb hx => kp b ob (lt1 q).1 (lt1 q).2 (un.keep b ob q n hb hx), fun b ob q n hb hx => ?_, fun b ob q n hx => ?_, fun b ob q hx => ?_, fun b ys q => ?_, fun b ob w q => ?_, fun b ps q => ?_⟩
      · obtain ⟨sl, e⟩ := un.slot b ob q n hb hx
        exact ⟨sl, kp _ _ (lt1 q).1 (lt1 q).2 e⟩
      · rw [upd_ne (lt1 q).1]
        exact un.free b ob q n hx
      · obtain ⟨o', e⟩ := un.there b ob q hx
        exact ⟨o', kp _ _ (lt1 q).1 (lt1 q).2 e⟩
      · rw [upd_ne (ne_of_none q Ha)]
        exact un.tups b ys q
      · rw [upd_ne (ne_of_none q Ha)]
        exact un.frzs b ob w q
      · obtain ⟨m, e⟩ := un.tbls b ps q
        exact ⟨m, by rw [upd_ne (ne_of_none q Ha)]; exact e⟩
theorem cr_sortKey (F : KeyFn X f (fun _ _ => True) sp) (hu : X.A.units + 64 < cLine) : CallRK X (.builtin "sorted") [Str.ofString "key"] (rSortKey X.K f sp) := by
  intro pins s σ H vs zs us ws Q I ru rw_ h
  obtain ⟨α, a0, xs, it, k, rfl, rfl, h⟩ := h
  obtain ⟨u, rfl, rx⟩ := vals1 ru
  obtain rfl : u = .ref a0 := rx
  obtain ⟨u2, rfl, rf⟩ := vals1 rw_
  obtain rfl : u2 = .ref f := rf
  exact sortKey_run F hu I True.intro h
end
end L2

set_option Elab.async false
set_option linter.all false
set_option maxRecDepth 100000
set_option maxHeartbeats 4000000
/-! a lambda with one parameter, as sorted's key -/
namespace LamX
open PySem PySem.Spec PyProof.Rows L2
structure Lam1 (sc scope : Scope) (y : Str) : Prop where
  kind : scope.kind = .function
  co : scope.isCoroutine = false
  gen : scope.isGenerator = false
  cel : ∀ z ∈ scope.names, z.2 ≠ .cell
  loc : ∀ z, scope.names.lookup z = some .local → z = y
  par : scope.names.lookup y = some .local
  free : ∀ z ∈ scope.names, z.2 = .free → sc.names.lookup z.1 = some .cell ∨ sc.names.lookup z.1 = some .free
def lam1B (sc scope : Scope) (y : Str) : Bool :=
  decide (scope.kind = .function) && !scope.isCoroutine && !scope.isGenerator && decide (scope.names.lookup y = some .local) &&
    scope.names.all fun z => !decide (z.2 = .cell) && (!decide (z.2 = .local) || decide (z.1 = y)) && (!decide (z.2 = .free) || decide (sc.names.lookup z.1 = some .cell) || decide (sc.names.lookup z.1 = some .free))
theorem lam1_by {sc scope : Scope} {y : Str} (h : lam1B sc scope y = true) : Lam1 sc scope y := by
  unfold lam1B at h
  simp only [Bool.and_eq_true, Bool.or_eq_true, Bool.not_eq_true', decide_eq_true_eq, decide_eq_false_iff_not, List.all_eq_true] at h
  obtain ⟨⟨⟨⟨h1, h2⟩, h3⟩, h4⟩, h5⟩ := h
  refine ⟨h1, h2, h3, fun z hz => (h5 z hz).1.1, fun z hz => ?_, h4, fun z hz e => ?_⟩
  · rcases (h5 _ (PySem.mem_of_lookup hz)).1.2 with q | q
    · exact absurd rfl q
    · exact q
  · rcases (h5 z hz).2 with (q | q) | q
    · exact absurd e q
    · exact .inl q
    · exact .inr q
theorem Lam1.has {X : Cx} {scope : Scope} {y : Str} (L : Lam1 X.env.scope scope y) (ok : X.Ok) : ∀ z ∈ scope.names, z.2 = .free → ∃ c, X.env.cells.lookup z.1 = some c := fun z hz e => by
  rcases L.free z hz e with k | k
  · exact ok.has _ (.inl k)
  · exact ok.has _ (.inr k)
/-- the context of the lambda's body: its parameter first, then the def's names -/
def lamCx1 (X : Cx) (y : Str) (A : Around) (outer : List Env) (s : Shared) (H : Hp) (scope : Scope) (f c' : Addr) : Cx where
  prog := X.prog
  w := X.w
  K := X.K
  mg := X.mg
  base := X.base
  A := A.deeper (lamEnv X scope s.heap.objs.size f c')
  N := y :: X.N
  s_0 := s
  H_0 := H
  env := lamEnv X scope s.heap.objs.size f c'
  outer := outer
  stack := lamEnv X scope s.heap.objs.size f c' :: outer
  ex := []
  fn := fun _ => false
  calm := true
  pn := []
  xe := fun _ _ => False
/-- the def's slots as the lambda sees them: not the one of its parameter's name -/
def Seen (N : List Str) (y : Str) (σ σ' : L2.St) : Prop := σ'.length = σ.length ∧ ∀ (i : Nat) (v : V), σ'[i]? = some (some v) → σ[i]? = some (some v) ∧ N[i]? ≠ some y
theorem seen_none {N : List Str} {y : Str} {σ : L2.St} : Seen N y σ (List.replicate σ.length none) := ⟨List.length_replicate, fun i v e => by
  rw [List.getElem?_replicate] at e
  split at e
  · cases e
  · cases e⟩
section
variable {X : Cx} {pins : List (Addr × Obj)} {σ : L2.St} {H HZ : Hp} {s s1 : Shared}
theorem lam_start1 {A : Around} {outer : List Env} {scope : Scope} {f c' : Addr} {h₁ : Heap} {tk : Nat} {y : Str} {v : V} {u : Value} {σ' : L2.St} (I : Inv X pins σ H s) (L : Lam1 X.env.scope scope y) (hs : Seen X.N y σ σ') (rv : RelV v u) (e0 : Env0 X.prog X.w X.K X.mg X.base A outer s1 HZ) (hd : A.handled = none)
    (un : Un (frs X.stack) [] H HZ s.heap s1.heap) (hns : h₁.Ns s1.heap.objs.size fun z => ([(y, u)] : List (Str × Value)).reverse.lookup z) (kp : ∀ b o, s1.heap.get? b = some o → h₁.get? b = some o) :
    Inv (lamCx1 X y A outer s1 HZ scope f c') [] (some v :: σ') HZ { s1 with heap := h₁, toks := tk } := by
  have hfree := L.has I.ok
  have cm : ∀ {z c}, (cloFrom X.env.cells scope.names []).lookup z = some c → X.env.cells.lookup z = some c := fun {z c} e => by
    rcases cloFrom_mem (PySem.mem_of_lookup e) with hm | ⟨h1, h2⟩
    · cases hm
    · obtain ⟨c1, hc⟩ := hfree _ h1 rfl
      have hc : X.env.cells.lookup z = some c1 := hc
      have e2 : c = c1 := by
        rw [h2, hc] <;> rfl
      rw [e2]
      exact hc
  have look : ∀ {z}, scope.names.lookup z = some .free → ∃ c, (cloFrom X.env.cells scope.names []).lookup z = some c := fun {z} hl => by
    have hz : (z, NameKind.free) ∈ scope.names := PySem.mem_of_lookup hl
    exact mem_lookup (cloFrom_has (cells := X.env.cells) (acc := []) hz)
  have cellK : ∀ {c : Addr} {v : Option Value}, H c = none → s.heap.IsCell c v → h₁.IsCell c v := fun {c v} n ⟨o, ho, hd⟩ => by
    obtain ⟨sl, q⟩ := un.any ho n (by simp)
    exact ⟨_, kp _ _ q, hd⟩
  have noA : ∀ b : Addr, b ∉ (lamCx1 X y A outer s1 HZ scope f c').ex := fun b z => absurd (show b ∈ ([] : List Addr) from z) (by simp)
  refine ⟨⟨e0.mod, L.kind, rfl, rfl, Nat.le_refl _, fun y z c e1 e2 => I.ok.inj y z c (cm e1) (cm e2), fun z hz => ?_, fun y c z _ => ?_, fun _ => hd, Around.frames_deeper e0.frames, .inr ⟨rfl, rfl⟩, fun b z => absurd z (noA b), e0.bs, e0.bsz, fun b _ _ => noA b,
      fun b z => absurd z (noA b), e0.funs, e0.frf⟩,
    rfl, e0.bare, Un.kept kp, ⟨_, hns, fun i z v' e1 e2 e3 => ?_⟩, fun y c e => ?_, e0.hok.fresh (Nat.le_refl _), fun y c e => ?_, fun q hq => absurd (show q ∈ ([] : List (Addr × Obj)) ++ [] from hq) (by simp), e0.hok.kept kp, ?_⟩
  · have hz : scope.names.lookup z = some .cell ∨ scope.names.lookup z = some .free := hz
    rcases hz with hz | hz
    · exact absurd rfl (L.cel _ (PySem.mem_of_lookup hz))
    · exact look hz
  · have z : false = true := z
    cases z
  · have e3 : Vis scope z := e3
    have e1 : (y :: X.N)[i]? = some z := e1
    cases i with
    | zero =>
      simp at e1 e2
      subst e1 e2
      refine ⟨u, rv, .inl ⟨L.par, ?_⟩⟩
      simp [List.lookup]
    | succ i =>
      rw [List.getElem?_cons_succ] at e1 e2
      obtain ⟨e2', hne⟩ := hs.2 i v' e2
      have hzy : z ≠ y := fun q => hne (by rw [e1, q])
      rcases e3 with k | k | k
      · exact absurd (L.loc _ k) hzy
      · exact absurd rfl (L.cel _ (PySem.mem_of_lookup k))
      · obtain ⟨m, hn, hl⟩ := I.loc
        have hvis : Vis X.env.scope z := (L.free _ (PySem.mem_of_lookup k) rfl).elim (fun k => .inr (.inl k)) (fun k => .inr (.inr k))
        obtain ⟨w', r, q⟩ := hl i z v' e1 e2' hvis
        obtain ⟨c2, h2⟩ := look k
        refine ⟨w', r, .inr ⟨.inr k, c2, h2, ?_⟩⟩
        have c1 := cm h2
        rcases q with ⟨k', _⟩ | ⟨_, c3, e', z'⟩
        · have k' : X.env.scope.names.lookup z = some .local := k'
          rcases L.free _ (PySem.mem_of_lookup k) rfl with k2 | k2 <;> rw [show X.env.scope.names.lookup z = _ from k2] at k' <;> cases k'
        · rw [c1] at e'
          cases e'
          exact cellK (I.freeC z _ c1) z'
  · obtain ⟨w', z⟩ := I.cell y c (cm e)
    exact ⟨w', cellK (I.freeC y c (cm e)) z⟩
  · obtain ⟨v, o, ho, hd⟩ := I.cell y c (cm e)
    exact un.free c o ho (I.freeC y c (cm e)) (by simp)
  · show σ'.length + 1 = X.N.length + 1
    rw [hs.1, I.len]
/-- the lambda at f, made at s: what it gives where sorted calls it -/
theorem keyFn_lam {params : Arguments} {body : Expr} {scope : Scope} {f c' : Addr} {pm ctv : Value} {k : Nat} {y : Str} {tb : TE} {σ' : L2.St} (I : Inv X pins σ H s) (L : Lam1 X.env.scope scope y) (hs : Seen X.N y σ σ')
    (hf : s.heap.get? f = some (PySem.W.kla_obj "<lambda>" (X.env.qual ++ "<lambda>") params body scope (cloFrom X.env.cells scope.names []) pm c' ctv)) (hfn : H f = none) (hfr : f ∉ frs X.stack)
    (hbind : ∀ u : Value, bindArgs (PySem.W.kla_fn "<lambda>" (X.env.qual ++ "<lambda>") params body scope (cloFrom X.env.cells scope.names []) pm (.ref c') ctv) ⟨[u], []⟩ = pure [(y, u)]) (hr : Room (k + 3) X.A)
    (hbody : ∀ (A : Around) (outer : List Env) (s : Shared) (H : Hp), Room k (A.deeper (lamEnv X scope s.heap.objs.size f c')) → PE (lamCx1 X y A outer s H scope f c') body tb) :
    KeyFn X f (fun H' h' => Un (frs X.stack) [] H H' s.heap h' ∧ H' c' = some (CodeO c' (X.env.qual ++ "<lambda>"))) (fun vs H' Q _ => ∃ v, vs = [v] ∧ tb (some v :: σ') H' Q) where
  stay := fun H1 H2 h1 h2 un st ⟨a, b⟩ => ⟨a.trans un, st _ _ b⟩
  run := fun s1 HZ u v Q e0 ok rv h => by
    obtain ⟨un, hc⟩ := ok
    obtain ⟨v', ev, ht⟩ := h
    cases ev
    have hr2 := hr.in1.in1
    have of1 : s1.heap.get? f = some (PySem.W.kla_obj "<lambda>" (X.env.qual ++ "<lambda>") params body scope (cloFrom X.env.cells scope.names []) pm c' ctv) := un.keep f _ hf hfn hfr (by simp)
    obtain ⟨⟨oc, vs, t, hoc, hdc, hvc⟩, _, _⟩ := e0.hok c' _ hc
    have lim : s1.heap.NoLimit := e0.mod.nolimit.keeps fun b o e => (e0.bs b o e).1
    refine PySem.W.kla_callFunE hr2.depth of1 rfl L.co L.gen rfl ⟨c', oc, vs, t, rfl, hoc, hdc, hvc⟩ ?_
    rw [hbind]
    refine wpAny_pure (wpAny_newFunctionEnv L.cel (fun z hz => ?_) (fun h₁ hns hsb => ⟨lim.fresh _ hsb, ?_⟩) L.kind)
    · rw [List.mem_singleton.mp hz]
      exact L.par
    show codeAny _ _ (.expr body (lamEnv X scope s1.heap.objs.size f c')) _ _
    have kp : ∀ b o, s1.heap.get? b = some o → h₁.get? b = some o := fun b o e => hsb.extBut b o (Nat.ne_of_lt (Heap.lt_size e)) (Heap.get?_push_of_some _ e)
    have J : Inv (lamCx1 X y X.A.in1.in1 X.stack s1 HZ scope f c') [] (some v :: σ') HZ { s1 with heap := h₁, toks := s1.toks + ([(y, u)] : List (Str × Value)).length } := lam_start1 I L hs rv e0 hr2.hd un hns kp
    refine PySem.W.kla_codeExpr (wpAny_mono ((hbody _ _ s1 HZ (hr2.deeper _)).run [] _ _ HZ Q J ht) (fun v s' hq => ?_) fun e s' hq => (show False from hq).elim)
    obtain ⟨w', H', J', rv, q⟩ := hq
    exact ⟨w', H', J'.os, J'.bare, J'.base, J'.hok, rv, q⟩
end
/-- sorted(e, key=lambda y: body) -/
def tSortLam (K : PySem.W.Frag) (T : List (Addr × Str)) (N : List Str) (y : Str) (ta : TA) (tb : TE) : TE := fun σ H Q => ta σ H fun vs H1 => Tabs T H1 ∧ ∃ (α : Type) (a : Addr) (xs : List α) (it : α → V) (k : α → PyData) (σ' : L2.St), vs = [.ref a] ∧ Seen N y σ σ' ∧
  ∀ H2, ExtN H1 H2 → Tabs T H2 → SortAsk K (fun vs H' Q _ => ∃ v, vs = [v] ∧ tb (some v :: σ') H' Q) H2 a xs it k Q
section
variable {X : Cx}
theorem pe_sortLam {T : List (Addr × Str)} {c P : Addr} {k : Nat} {e : Expr} {ta : TA} {params : Arguments} {body : Expr} {scope : Scope} {tb : TE} {y : Str} {p lpos kpos pos : Pos} (hu : X.A.units + 64 < cLine) (hg : Gl X "sorted") (hm : X.mg "sorted" = none) (ha : PA X [e] ta)
    (TB : TabB X.base X.mg c P) (hcode : X.env.code = .ref c) (hmT : (P, X.env.qual ++ "<lambda>") ∈ T) (huT : ∀ p ∈ T, p.1 = P → p.2 = X.env.qual ++ "<lambda>") (hr : Room (k + 3) X.A) (L : Lam1 X.env.scope scope y) (hdef : defaultsOf params X.env = ([], []))
    (hbind : ∀ (q : Str) (cl : List (Str × Addr)) (pm cv ctv u : Value), bindArgs (PySem.W.kla_fn "<lambda>" q params body scope cl pm cv ctv) ⟨[u], []⟩ = pure [(y, u)])
    (hbody : ∀ (A : Around) (outer : List Env) (s : Shared) (H : Hp) (f c' : Addr), Room k (A.deeper (lamEnv X scope s.heap.objs.size f c')) → PE (lamCx1 X y A outer s H scope f c') body tb)
    (he : backTo pos (starEach (e :: []) X.env) = (false, eval e X.env) :: backTo pos (starEach [] X.env) := by rfl) (hpl : (backTo pos (starEach (e :: []) X.env)).any (·.1) = false := by rfl) :
    PE X (.Call (.Name "sorted" p) [e] [⟨some "key", .Lambda params body scope lpos, kpos⟩] pos) (tSortLam X.K T X.N y ta tb) := by
  refine ⟨fun pins s σ H Q I h => ?_⟩
  refine wpAny_Call_Name_kw (ld_blt I hg hm (show bootBuiltins "sorted" = some (.builtin "sorted") by decide +kernel) ?_)
  refine PyProof.Rows.callWith_kw (thn (ha.run pos pins s σ H _ I h) fun us s1 ⟨vs, H1, I1, r1, q1⟩ => ?_) he hpl (by rfl) (by rfl)
  obtain ⟨hT, α, a, xs, it, kf, σ', rfl, hs, q⟩ := q1
  obtain ⟨u, rfl, rx⟩ := vals1 r1
  obtain rfl : u = .ref a := rx
  show wpAny _ _ (evalAll [(do let v ← eval (.Lambda params body scope lpos) X.env; standAt pos; pure v)]) _ _ s1
  refine wpAny_evalAll_cons (wpAny_bind (lam_make2 I1 TB hcode hmT huT hT hdef (L.has I1.ok) fun f c' pm' ctv H2 s' I2 eN T2 hf hfn hfr hco => wpAny_bind (wpAny_standAt (wpAny_pure (wpAny_evalAll_nil ?_)))))
  show wpAny _ _ (call (.builtin "sorted") [.ref a] [(Str.ofString "key", .ref f)]) _ _ _
  exact sortKey_run (keyFn_lam I2 L hs hf hfn hfr (hbind _ _ _ _ _) hr fun A outer s H hr2 => hbody A outer s H f c' hr2) hu I2 ⟨Un.refl, hco⟩ (q H2 eN T2)
end
end LamX

set_option Elab.async false
set_option linter.all false
set_option maxRecDepth 100000
set_option maxHeartbeats 4000000
/-! the law's own end, with tables of code objects, guards known -/
namespace L2
open PySem PySem.Spec PyProof.Rows LamX
/-- what may be tracked at the law's entry: the script, and empty tables of code objects -/
def AtEntry (h : Heap) (H : Hp) : Prop := ∀ b u, H b = some u → (∃ o xs, u = .frz o (.lst xs)) ∨ (u = .tbl #[] ∧ ∃ c, PySem.W.CodeHd h c b)
theorem oldK_entry {P : Program} {w : World} {H H' : Hp} {h h' : Heap} (un : Un [] [] H H' h h') (a : HOk P w H h) (b : HOk P w H' h') (form : AtEntry h H) : OldK h h' := by
  have was : ∀ c o, h.get? c = some o → h'.get? c = some o ∨ (isCodeTable h c ∧ o.cls = .none ∧ ∃ vs more, o.data = .fields vs ∧ h'.get? c = some { o with data := .fields (vs ++ more) }) := by
    intro c o e
    cases q : H c with
    | none => exact .inl (un.keep c o e q (by simp) (by simp))
    | some u =>
      rcases form c u q with ⟨ob, xs, rfl⟩ | ⟨rfl, k, hd⟩
      · obtain ⟨e1, _⟩ := a c _ q
        obtain ⟨e2, _⟩ := b c _ (un.frzs c ob _ q)
        rw [e] at e1
        cases e1
        exact .inl e2
      · have e1 : h.get? c = some { cls := .none, data := .fields #[] } := a c _ q
        obtain ⟨more, q'⟩ := un.tbls c _ q
        have e2 : h'.get? c = some { cls := .none, data := .fields (#[] ++ more) } := b c _ q'
        have e3 := e1
        rw [e] at e3
        cases e3
        exact .inr ⟨(hd.tab e1).isCodeTable, rfl, #[], more, rfl, e2⟩
  refine ⟨fun c o e => ?_, fun c o e => ?_⟩
  · rcases was c o e with q | q
    · exact .inl q
    · exact .inr (.inl q)
  · rcases was c o e with q | ⟨_, _, _, _, _, q⟩ <;> exact ⟨_, q⟩
section
variable {P : Program} {w : World} {K : PySem.W.Frag} {mg mb : Str → Option Value} {CX : CXT} {k : Nat} {fa a : Addr} {fd : FuncData} {x : Str} {sp : Sp} {s₁ : Shared}
/-- from an abstract heap of that form -/
theorem law_coreG {H : Hp} (KX : K.In s₁.heap) (hns : s₁.heap.Ns mainGlobals mg) (hb : s₁.heap.Ns builtinsNs mb) (hbb : ∀ x : Str, x ≠ "__name__" → mb x = bootBuiltins x) (hlim : s₁.heap.NoLimit) (hg : s₁.gens = #[]) (hr : Room k callerA)
    (ok : HOk P w H s₁.heap) (form : AtEntry s₁.heap H) (unk : ∀ b o, K.lookup b = some o → H b = none) (hbind : ∀ (s : Shared) (u : Value), BindsTo s fd ⟨[u], []⟩ [(x, u)])
    (F : K.In (hidT s₁.heap H) → (hidT s₁.heap H).Ns mainGlobals mg → FnOkG P w K mg (hidT s₁.heap H) CX k fa fd [x] sp) (hsp : sp [.ref a] H (fun v _ => v = .bl true) fun _ _ _ => False) (hCX : ∀ H e s', CX [] H s₁ (fun _ _ _ => False) e s' → False) :
    codeAny (model P w) callerA (.call (.ref fa) ⟨[.ref a], []⟩) (fun r s' => r = .ok (.ret (.bool true)) ∧ OldK s₁.heap s'.heap ∧ s'.os = s₁.os ∧ AllBare s'.gens) s₁ := by
  have free : ∀ {b : Addr} {o : Obj} {es : Array DictEntry} {ep : Nat}, s₁.heap.get? b = some o → o.data = .dict es ep → H b = none := by
    intro b o es ep e d
    cases q : H b with
    | none => rfl
    | some u =>
      rcases form b u q with ⟨ob, xs, rfl⟩ | ⟨rfl, _⟩
      · obtain ⟨e1, _, its, n, _, e2⟩ := (show ObjOk P w H s₁.heap b (.frz ob (.lst xs)) from ok b _ q)
        rw [e] at e2
        cases e2
        cases d
      · have e2 : s₁.heap.get? b = some { cls := .none, data := .fields #[] } := ok b _ q
        rw [e] at e2
        cases e2
        cases d
  have nsB : ∀ {b : Addr} {m : Str → Option Value}, s₁.heap.Ns b m → (hidT s₁.heap H).Ns b m := by
    rintro b m ⟨o, es, ep, e, d, r⟩
    exact ⟨o, es, ep, hidT_get e (free e d), d, r⟩
  have kB : K.In (hidT s₁.heap H) := fun b o e => hidT_get (KX b o e) (unk b o e)
  have modB : Mod K mg (hidT s₁.heap H) := by
    obtain ⟨mc, h1, h2⟩ := hlim
    exact ⟨kB, nsB hns, ⟨mb, nsB hb, hbb⟩, mc, nsB h1, h2⟩
  have none0 : ∀ b : Addr, b ∉ frs [] := fun b => by simp [frs]
  have env0 : Env0 P w K mg (hidT s₁.heap H) callerA [] s₁ H := ⟨rfl, modB, fun b o e => of_hidT e, Nat.le_of_eq (hidT_size _ _), trivial, fun b z => absurd z (none0 b), ok, .of_eq hg⟩
  refine codeAny_mono ((F kB (nsB hns)).run callerA [] s₁ H ⟨[.ref a], []⟩ [.ref a] [.ref a] _ _ hr rfl env0 (hbind s₁ (.ref a)) (.cons rfl .nil) hsp) fun r s' h => ?_
  match r, h with
  | .error e, h => exact (hCX H e s' h).elim
  | .ok .next, h => exact False.elim h
  | .ok .brk, h => exact False.elim h
  | .ok .cont, h => exact False.elim h
  | .ok (.ret u), h =>
    obtain ⟨v, H', os, bare, un, ok', r', rfl⟩ := h
    obtain rfl : u = Value.bool true := r'
    exact ⟨rfl, oldK_entry un ok ok' form, os, bare⟩
/-- .. the script at a, the tables cs (a code object and its table, each) -/
theorem law_callTG {cs : List (Addr × Addr)} {vs : List Value} {ns : List Int} (KX : K.In s₁.heap) (hns : s₁.heap.Ns mainGlobals mg) (hb : s₁.heap.Ns builtinsNs mb) (hbb : ∀ x : Str, x ≠ "__name__" → mb x = bootBuiltins x) (hlim : s₁.heap.NoLimit) (hg : s₁.gens = #[])
    (tabs : ∀ p ∈ cs, PySem.W.CodeHd s₁.heap p.1 p.2 ∧ s₁.heap.get? p.2 = some (PySem.W.tabObj #[])) (notK : PySem.W.noTabs K = true)
    (hbm : ∃ (bm : Addr) (ob : Obj), mg "__builtins__" = some (.ref bm) ∧ bm ≠ builtinsNs ∧ s₁.heap.get? bm = some ob ∧ ob.cls = .type "module" ∧ ob.dict = some builtinsNs ∧ ob.data = .plain)
    (ha : s₁.heap.get? a = some { cls := .type "list", data := .seq vs.toArray }) (hi : IntsAre vs ns) (hl : ns.length ≤ sizeLine) (hr : Room k callerA) (hbind : ∀ (s : Shared) (u : Value), BindsTo s fd ⟨[u], []⟩ [(x, u)])
    (F : ∀ base : Heap, K.In base → base.Ns mainGlobals mg → (∀ p ∈ cs, TabB base mg p.1 p.2) → FnOkG P w K mg base CX k fa fd [x] sp)
    (hsp : ∀ H : Hp, (∀ p ∈ cs, H p.2 = some (.tbl #[])) → SqL K H a (ns.map V.int) → sp [.ref a] H (fun v _ => v = .bl true) fun _ _ _ => False) (hCX : ∀ H e s', CX [] H s₁ (fun _ _ _ => False) e s' → False) :
    codeAny (model P w) callerA (.call (.ref fa) ⟨[.ref a], []⟩) (fun r s' => r = .ok (.ret (.bool true)) ∧ OldK s₁.heap s'.heap ∧ s'.os = s₁.os ∧ AllBare s'.gens) s₁ := by
  have rv := vals_ints hi
  have tabK : ∀ p ∈ cs, K.lookup p.2 = none := fun p hp => by
    cases q : K.lookup p.2 with
    | none => rfl
    | some o =>
      have e := KX _ _ q
      rw [(tabs p hp).2] at e
      cases e
      exact absurd (show false = true from List.all_eq_true.mp notK _ (PySem.W.mem_of_lookupK q)) Bool.false_ne_true
  have nota : ∀ p ∈ cs, p.2 ≠ a := fun p hp z => by
    have e := (tabs p hp).2
    rw [z, ha] at e
    cases e
  -- the tables alone, or the script too
  have isTab : ∀ b, b ∈ cs.map (·.2) → s₁.heap.get? b = some (PySem.W.tabObj #[]) ∧ (∃ c, PySem.W.CodeHd s₁.heap c b) ∧ K.lookup b = none := fun b z => by
    obtain ⟨p, hp, rfl⟩ := List.mem_map.mp z
    exact ⟨(tabs p hp).2, ⟨_, (tabs p hp).1⟩, tabK p hp⟩
  have baseTab : ∀ H : Hp, HOk P w H s₁.heap → AtEntry s₁.heap H → ∀ p ∈ cs, TabB (hidT s₁.heap H) mg p.1 p.2 := by
    intro H ok form p hp
    have un : ∀ {b : Addr} {o : Obj}, s₁.heap.get? b = some o → (∀ vs n, o.data ≠ .seq vs n) → o.data ≠ .fields #[] → H b = none := by
      intro b o e h1 h2
      cases q : H b with
      | none => rfl
      | some u =>
        rcases form b u q with ⟨ob, xs, rfl⟩ | ⟨rfl, _⟩
        · obtain ⟨e1, _, its, n, _, e2⟩ := (show ObjOk P w H s₁.heap b (.frz ob (.lst xs)) from ok b _ q)
          rw [e] at e2
          cases e2
          exact absurd rfl (h1 _ _)
        · have e2 : s₁.heap.get? b = some { cls := .none, data := .fields #[] } := ok b _ q
          rw [e] at e2
          cases e2
          exact absurd rfl h2
    obtain ⟨hc, hp2⟩ := tabs p hp
    refine ⟨?_, ?_, fun z => ?_⟩
    · obtain ⟨o, us, file, tf, flags, tg, inF, text, tt, e1, r1, r2, r3, rr⟩ := hc
      refine ⟨o, us, file, tf, flags, tg, inF, text, tt, hidT_get e1 (un e1 (fun vs n z => ?_) fun z => ?_), r1, r2, r3, rr⟩
      · rw [r2] at z
        cases z
      · rw [r2] at z
        cases z
        simp at r3
    · obtain ⟨bm, ob, b1, b2, b3, b4, b5, b6⟩ := hbm
      refine ⟨bm, ob, b1, b2, fun q => ?_, fun q => ?_, hidT_get b3 (un b3 (fun vs n z => ?_) fun z => ?_), b4, b5, b6⟩
      · obtain ⟨o, es, ep, e, hd, _⟩ := hns
        rw [q, e] at b3
        cases b3
        rw [hd] at b6
        cases b6
      · rw [q, hp2] at b3
        cases b3
        cases b6
      · rw [b6] at z
        cases z
      · rw [b6] at z
        cases z
    · obtain ⟨o, es, ep, e, hd, _⟩ := hns
      rw [z, hp2] at e
      cases e
      cases hd
  cases hk : K.lookup a with
  | some o =>
    have e := KX a o hk
    rw [ha] at e
    cases e
    have key : ∀ b u, (if b ∈ cs.map (·.2) then some (HO.tbl #[]) else none) = some u → b ∈ cs.map (·.2) ∧ u = .tbl #[] := fun b u z => by
      split at z
      · cases z
        exact ⟨by assumption, rfl⟩
      · cases z
    have ok : HOk P w (fun b => if b ∈ cs.map (·.2) then some (.tbl #[]) else none) s₁.heap := fun b u z => by
      obtain ⟨h1, rfl⟩ := key b u z
      exact (isTab b h1).1
    have form : AtEntry s₁.heap (fun b => if b ∈ cs.map (·.2) then some (.tbl #[]) else none) := fun b u z => by
      obtain ⟨h1, rfl⟩ := key b u z
      exact .inr ⟨rfl, (isTab b h1).2.1⟩
    refine law_coreG KX hns hb hbb hlim hg hr ok form (fun b o q => ?_) hbind (fun kb nb => F _ kb nb (baseTab _ ok form)) (hsp _ (fun p hp => if_pos (List.mem_map.mpr ⟨p, hp, rfl⟩)) (.inr ⟨_, vs.toArray, _, hk, rfl, rfl, rfl, by rw [List.size_toArray, hi.length]; exact hl, by simpa using rv⟩)) hCX
    refine if_neg fun z => ?_
    rw [(isTab b z).2.2] at q
    cases q
  | none =>
    have key : ∀ b u, (if b = a then some (HO.frz { cls := .type "list", data := .seq vs.toArray } (.lst (ns.map V.int))) else if b ∈ cs.map (·.2) then some (HO.tbl #[]) else none) = some u →
        (b = a ∧ u = .frz { cls := .type "list", data := .seq vs.toArray } (.lst (ns.map V.int))) ∨ (b ∈ cs.map (·.2) ∧ u = .tbl #[]) := fun b u z => by
      split at z
      · cases z
        exact .inl ⟨by assumption, rfl⟩
      · split at z
        · cases z
          exact .inr ⟨by assumption, rfl⟩
        · cases z
    have ok : HOk P w (fun b => if b = a then some (.frz { cls := .type "list", data := .seq vs.toArray } (.lst (ns.map V.int))) else if b ∈ cs.map (·.2) then some (.tbl #[]) else none) s₁.heap := fun b u z => by
      rcases key b u z with ⟨rfl, rfl⟩ | ⟨h1, rfl⟩
      · exact ⟨ha, by rw [List.length_map]; exact hl, vs, _, rv, ha⟩
      · exact (isTab b h1).1
    have form : AtEntry s₁.heap (fun b => if b = a then some (.frz { cls := .type "list", data := .seq vs.toArray } (.lst (ns.map V.int))) else if b ∈ cs.map (·.2) then some (.tbl #[]) else none) := fun b u z => by
      rcases key b u z with ⟨rfl, rfl⟩ | ⟨h1, rfl⟩
      · exact .inl ⟨_, _, rfl⟩
      · exact .inr ⟨rfl, (isTab b h1).2.1⟩
    refine law_coreG KX hns hb hbb hlim hg hr ok form (fun b o q => ?_) hbind (fun kb nb => F _ kb nb (baseTab _ ok form)) (hsp _ (fun p hp => ?_) (.inl (.inr ⟨_, if_pos rfl⟩))) hCX
    · have n1 : ¬ b = a := fun z => by
        rw [z, hk] at q
        cases q
      have n2 : ¬ b ∈ cs.map (·.2) := fun z => by
        rw [(isTab b z).2.2] at q
        cases q
      rw [if_neg n1, if_neg n2]
    · rw [if_neg (nota p hp), if_pos (List.mem_map.mpr ⟨p, hp, rfl⟩)]
end
theorem walk_ofTG {l : PySem.W.OpenLaw} {n k : Nat} {q : Program} {loose : List Str} {XP : (Str → Option Value) → Heap → Prop} {YP : World → Heap → Prop} {d : DefRec} {K : Params → PySem.W.Frag} {CX : World → CXT} {x : Str} (hn : l.most = some n) (hn2 : n ≤ sizeLine)
    (hdf : d.params.defaults = []) (hr : Room k callerA) (hY : ∀ (w : World) (h : Heap), YP w h → (K w.params).In h)
    (F : ∀ (w : World) (mg : Str → Option Value) (fa : Addr) (h : Heap), (K w.params).In h → h.Ns mainGlobals mg → mg d.name = some (.ref fa) → ∃ (fd : FuncData) (cs : List (Addr × Addr)) (sp : Sp), (∀ (s : Shared) (u : Value), BindsTo s fd ⟨[u], []⟩ [(x, u)]) ∧
        (∀ p ∈ cs, ∃ y : Str, ((recsOf q).any fun e => e.name == y) = true ∧ PySem.W.tabIn (K w.params) y = some p) ∧ PySem.W.noTabs (K w.params) = true ∧
        (∀ (H : Hp) (a : Addr) (ns : List Int), ns.length ≤ n → (∀ p ∈ cs, H p.2 = some (.tbl #[])) → SqL (K w.params) H a (ns.map V.int) → sp [.ref a] H (fun v _ => v = .bl true) fun _ _ _ => False) ∧
        ∀ base : Heap, (K w.params).In base → base.Ns mainGlobals mg → (∀ p ∈ cs, TabB base mg p.1 p.2) → FnOkG l.prog w (K w.params) mg base (CX w) k fa fd [x] sp)
    (hCX : ∀ (w : World) (H : Hp) (s : Shared) (e : Value) (s' : Shared), CX w [] H s (fun _ _ _ => False) e s' → False) : PySem.W.WalkO q loose XP YP l.row.toRowW d [] (fun f vs => PySem.call f vs) := by
  refine Att.attach_call hn hdf fun w s₀ s₁ mg mb fa o pm cd doc a vs ns G Y ho hd hcd hmg hobj hints hlen hg => ?_
  have KX := hY w _ Y
  obtain ⟨fd, cs, sp, bnd, tab, notK, hsp, ok⟩ := F w mg fa _ KX G.T.g hmg
  refine law_callTG KX G.T.g G.T.b G.T.builtins G.T.nolimit hg (fun p hp => ?_) notK G.T.bmain hobj hints (Nat.le_trans hlen hn2) hr bnd ok (fun H h1 h2 => hsp H a ns hlen h1 h2) fun H e s' => hCX w H s₁ e s'
  obtain ⟨y, hy, ht⟩ := tab p hp
  obtain ⟨dr, hf⟩ : ∃ dr, (recsOf q).find? (fun e => e.name == y) = some dr := by
    cases z : (recsOf q).find? (fun e => e.name == y) with
    | some dr => exact ⟨dr, rfl⟩
    | none =>
      obtain ⟨e, he, hn⟩ := List.any_eq_true.mp hy
      exact absurd hn (List.find?_eq_none.mp z e he)
  exact PySem.W.tab_of G.T KX hf ht
/-- where a def's table stands, by what is written of the def and of its code object -/
theorem tabIn_of {K : PySem.W.Frag} {y : Str} {f c P : Addr} {oc ccl : Value} {od cdd : Option Addr} {fd : FuncData} {osl ccs : Array (Option Value)} {vs : Array Value} (h1 : PySem.W.nsIn K mainGlobals y = some (some (.ref f))) (h2 : K.lookup f = some ⟨oc, od, .func fd, osl⟩) (h3 : fd.code = .ref c)
    (h4 : K.lookup c = some ⟨ccl, cdd, .fields vs, ccs⟩) (h5 : vs[11]? = some (.ref P)) : PySem.W.tabIn K y = some (c, P) := by
  unfold PySem.W.tabIn
  rw [h1]
  dsimp only
  rw [h2]
  dsimp only
  rw [h3]
  dsimp only
  rw [h4]
  dsimp only
  rw [h5]
end L2

set_option Elab.async false
set_option linter.all false
set_option maxRecDepth 100000
set_option maxHeartbeats 4000000
/-! worths and objects, as plain things; data that stays -/
namespace SB
open PySem L2
/-! ### heaps that stay but for tables -/
structure Stay (T : List (Addr × Str)) (H H' : Hp) : Prop where
  ext : LamX.ExtN H H'
  tab : LamX.Tabs T H'
theorem Stay.trans {T : List (Addr × Str)} {A B C : Hp} (a : Stay T A B) (b : Stay T B C) : Stay T A C := ⟨a.ext.trans b.ext, b.tab⟩
theorem Stay.of {T : List (Addr × Str)} {A B : Hp} (t : LamX.Tabs T A) (s : Same A B) : Stay T A B := ⟨.of s, t.ext s⟩
theorem Stay.refl {T : List (Addr × Str)} {A : Hp} (t : LamX.Tabs T A) : Stay T A A := .of t (Same.refl _)
theorem Stay.same {T : List (Addr × Str)} {A B C : Hp} (a : Stay T A B) (s : Same B C) : Stay T A C := a.trans (.of a.tab s)
theorem Stay.new {T : List (Addr × Str)} {A B : Hp} {p : Addr} {o : HO} (a : Stay T A B) (h : B p = none) : Stay T A (upd B p o) := a.same (same_new h)
def noTbl : HO → Bool
  | .tbl _ => false
  | _ => true
theorem Stay.at {T : List (Addr × Str)} {A B : Hp} {p : Addr} {o : HO} (a : Stay T A B) (h : A p = some o) (n : noTbl o = true) : B p = some o := a.ext p o h fun ps e => by
  subst e
  cases n
theorem Stay.sql {T : List (Addr × Str)} {A B : Hp} {K : PySem.W.Frag} {a : Addr} {xs : List V} (e : Stay T A B) (h : SqL K A a xs) : SqL K B a xs := by
  rcases h with (h | ⟨o, h⟩) | h
  · exact .inl (.inl (e.at h rfl))
  · exact .inl (.inr ⟨o, e.at h rfl⟩)
  · exact .inr h
theorem Stay.sqt {T : List (Addr × Str)} {A B : Hp} {K : PySem.W.Frag} {a : Addr} {xs : List V} (e : Stay T A B) (h : SqT K A a xs) : SqT K B a xs := by
  rcases h with (h | ⟨o, h⟩) | h
  · exact .inl (.inl (e.at h rfl))
  · exact .inl (.inr ⟨o, e.at h rfl⟩)
  · exact .inr h
mutual
theorem Stay.dp {T : List (Addr × Str)} {A B : Hp} {K : PySem.W.Frag} (s : Stay T A B) : ∀ {v : V} {d : PyData}, Dp K A v d → Dp K B v d
  | _, _, .non => .non
  | _, _, .bl b => .bl b
  | _, _, .int i => .int i
  | _, _, .str x => .str x
  | _, _, .lst h r => .lst (s.sql h) (Stay.dpAll s r)
  | _, _, .tup h r => .tup (s.sqt h) (Stay.dpAll s r)
theorem Stay.dpAll {T : List (Addr × Str)} {A B : Hp} {K : PySem.W.Frag} (s : Stay T A B) : ∀ {v : List V} {d : List PyData}, DpAll K A v d → DpAll K B v d
  | _, _, .nil => .nil
  | _, _, .cons r t => .cons (Stay.dp s r) (Stay.dpAll s t)
end
theorem Stay.rp {T : List (Addr × Str)} {A B : Hp} {K : PySem.W.Frag} (s : Stay T A B) {v : V} {d : PyData} (h : Rp K A v d) : Rp K B v d := by
  rcases h with h | ⟨a, kvs, ds, h1, h2, h3, h4⟩
  · exact .inl (s.dp h)
  · exact .inr ⟨a, kvs, ds, h1, s.at h2 rfl, s.dpAll h3, h4⟩
theorem rp_same {A B : Hp} {K : PySem.W.Frag} (s : Same A B) {v : V} {d : PyData} (h : Rp K A v d) : Rp K B v d := by
  rcases h with h | ⟨a, kvs, ds, h1, h2, h3, h4⟩
  · exact .inl (dp_stay s h)
  · exact .inr ⟨a, kvs, ds, h1, s _ _ h2, dpAll_stay s h3, h4⟩
/-! ### lists of data -/
theorem dpAll_map {α : Type} {K : PySem.W.Frag} {H : Hp} {f : α → V} {g : α → PyData} : ∀ {l : List α}, DpAll K H (l.map f) (l.map g) ↔ ∀ a ∈ l, Dp K H (f a) (g a)
  | [] => ⟨fun _ a h => by simp at h, fun _ => .nil⟩
  | b :: l => by
    constructor
    · intro h a ha
      cases h with
      | cons h1 h2 =>
        rcases List.mem_cons.mp ha with rfl | ha
        · exact h1
        · exact dpAll_map.mp h2 a ha
    · intro h
      exact .cons (h b List.mem_cons_self) (dpAll_map.mpr fun a ha => h a (List.mem_cons_of_mem _ ha))
/-- the values with what they stand for, side by side -/
theorem dpAll_zip {α : Type} {K : PySem.W.Frag} {H : Hp} {g : α → PyData} : ∀ {vs : List V} {l : List α}, DpAll K H vs (l.map g) → ∃ ps : List (V × α), ps.map (·.1) = vs ∧ ps.map (·.2) = l ∧ ∀ p ∈ ps, Dp K H p.1 (g p.2)
  | _, [], .nil => ⟨[], rfl, rfl, fun p h => by simp at h⟩
  | _, a :: l, .cons (v := v) h t => by
    obtain ⟨ps, h1, h2, h3⟩ := dpAll_zip t
    refine ⟨(v, a) :: ps, by simp [h1], by simp [h2], fun p hp => ?_⟩
    rcases List.mem_cons.mp hp with rfl | hp
    · exact h
    · exact h3 p hp
theorem dpAll_get {K : PySem.W.Frag} {H : Hp} : ∀ {vs : List V} {ds : List PyData} {i : Nat} {d : PyData}, DpAll K H vs ds → ds[i]? = some d → ∃ v, vs[i]? = some v ∧ Dp K H v d
  | _, _, _, _, .nil, h => by simp at h
  | _, _, 0, _, .cons h t, e => by
    simp at e
    subst e
    exact ⟨_, rfl, h⟩
  | _, _, i + 1, _, .cons h t, e => dpAll_get (i := i) t (by simpa using e)
theorem dpAll_getV {K : PySem.W.Frag} {H : Hp} : ∀ {vs : List V} {ds : List PyData} {i : Nat} {v : V}, DpAll K H vs ds → vs[i]? = some v → ∃ d, ds[i]? = some d ∧ Dp K H v d
  | _, _, _, _, .nil, h => by simp at h
  | _, _, 0, _, .cons h t, e => by
    simp at e
    subst e
    exact ⟨_, rfl, h⟩
  | _, _, i + 1, _, .cons h t, e => dpAll_getV (i := i) t (by simpa using e)
theorem dpAll_app {K : PySem.W.Frag} {H : Hp} : ∀ {vs ws : List V} {ds es : List PyData}, DpAll K H vs ds → DpAll K H ws es → DpAll K H (vs ++ ws) (ds ++ es)
  | _, _, _, _, .nil, s => s
  | _, _, _, _, .cons h t, s => .cons h (dpAll_app t s)
theorem dp_tup {K : PySem.W.Frag} {H : Hp} {a : Addr} {vs : List V} {ds : List PyData} (h : H a = some (.tup vs)) (r : DpAll K H vs ds) : Dp K H (.ref a) (.tuple ds) := .tup (SqT.of h) r
theorem dp_lst {K : PySem.W.Frag} {H : Hp} {a : Addr} {vs : List V} {ds : List PyData} (h : H a = some (.lst vs)) (r : DpAll K H vs ds) : Dp K H (.ref a) (.list ds) := .lst (SqL.of h) r
/-! ### any value, by its data -/
mutual
def smallD : PyData → Bool
  | .str x => decide (x.length ≤ 1000)
  | .list xs => smallDs xs
  | .tuple xs => smallDs xs
  | _ => true
def smallDs : List PyData → Bool
  | [] => true
  | x :: xs => smallD x && smallDs xs
end
theorem smallDs_mem : ∀ {ds : List PyData} {d : PyData}, smallDs ds = true → d ∈ ds → smallD d = true
  | x :: xs, d, h, hm => by
    rw [smallDs, Bool.and_eq_true] at h
    rcases List.mem_cons.mp hm with rfl | hm
    · exact h.1
    · exact smallDs_mem h.2 hm
theorem smallDs_of : ∀ {ds : List PyData}, (∀ d ∈ ds, smallD d = true) → smallDs ds = true
  | [], _ => rfl
  | x :: xs, h => by
    rw [smallDs, h x List.mem_cons_self, smallDs_of fun d hd => h d (List.mem_cons_of_mem _ hd)]
    rfl
def kindD : PyData → String
  | .none => "NoneType"
  | .bool _ => "bool"
  | .int _ => "int"
  | .str _ => "str"
  | .list _ => "list"
  | .tuple _ => "tuple"
  | .dict _ => "dict"
theorem tyx_sql {K : PySem.W.Frag} {H : Hp} {a : Addr} {xs : List V} (h : SqL K H a xs) : TyX K H (.ref a) (.type "list") := by
  rcases h with (h | ⟨o, h⟩) | ⟨o, _, _, h, hc, _⟩
  · exact .base (.lst h)
  · exact .base (.frz h)
  · exact .kList h hc
theorem tyx_sqt {K : PySem.W.Frag} {H : Hp} {a : Addr} {xs : List V} (h : SqT K H a xs) : TyX K H (.ref a) (.type "tuple") := by
  rcases h with (h | ⟨o, h⟩) | ⟨o, _, _, h, hc, _⟩
  · exact .base (.tup h)
  · exact .fTuple h
  · exact .kTuple h hc
theorem anyD {K : PySem.W.Frag} {H : Hp} {v : V} {d : PyData} (h : Rp K H v d) (hs : smallD d = true) : AnyV K H v (kindD d) := by
  rcases h with h | ⟨a, kvs, ds, rfl, h2, h3, h4, rfl⟩
  · cases h with
    | non => exact any_non
    | bl b => exact any_bl b
    | int i => exact any_int i
    | str x => exact any_str (by
        have : x.length ≤ 1000 := of_decide_eq_true hs
        rw [sizeLine_eq]
        omega)
    | lst sq al => exact ⟨tyx_sql sq, (show "list" ∈ kinds by decide), fun _ e => by cases e⟩
    | tup sq al => exact ⟨tyx_sqt sq, (show "tuple" ∈ kinds by decide), fun _ e => by cases e⟩
  · exact any_dK h2
/-! ### worths -/
inductive W where
  | num (i : Int)
  | txt (x : Str)
  | ref (m : Str)
  deriving DecidableEq
def W.d : W → PyData
  | .num i => .int i
  | .txt x => .str x
  | .ref m => .tuple [.str "at", .str m]
def W.rk : W → PyData
  | .num i => .tuple [.int 0, .int i]
  | .txt x => .tuple [.int 1, .str x]
  | .ref m => .tuple [.int 2, .str m]
def W.key : W → NestedKey
  | .num i => .num i
  | .txt x => .text x
  | .ref m => .tup [.text "at", .text m]
theorem W.keyOf (w : W) : keyOf w.d = some w.key := by
  cases w <;> rfl
theorem W.key_inj : ∀ {a b : W}, a.key = b.key → a = b
  | .num i, .num j, h => by cases h; rfl
  | .txt x, .txt y, h => by cases h; rfl
  | .ref x, .ref y, h => by
    have h1 : [NestedKey.text "at", .text x] = [.text "at", .text y] := NestedKey.tup.inj h
    simp at h1
    rw [h1]
  | .num i, .txt x, h => by cases h
  | .num i, .ref x, h => by cases h
  | .txt i, .num x, h => by cases h
  | .txt i, .ref x, h => by cases h
  | .ref i, .num x, h => by cases h
  | .ref i, .txt x, h => by cases h
theorem W.key_depth (w : W) : w.key.depth ≤ 8 := by
  cases w with
  | num i => exact Nat.zero_le _
  | txt x => exact Nat.zero_le _
  | ref m =>
    show NestedKey.depth (.tup [.text "at", .text m]) ≤ 8
    simp [NestedKey.depth, NestedKey.depthAll]
theorem W.d_inj {a b : W} (h : a.d = b.d) : a = b := W.key_inj (Option.some.inj (by rw [← W.keyOf, ← W.keyOf, h]))
theorem str_cps {x y : Str} (h : x.cps.toList = y.cps.toList) : x = y := PySem.W.str_of_cps h
theorem W.rk_inj : ∀ {a b : W}, PySem.W.keyToks a.rk = PySem.W.keyToks b.rk → a = b := by
  intro a b h
  cases a <;> cases b <;> simp [W.rk, PySem.W.keyToks, PySem.W.keyToksAll] at h
  · rw [h]
  · exact congrArg W.txt (str_cps (by rw [h]))
  · exact congrArg W.ref (str_cps (by rw [h]))
theorem W.rk_near (a b : W) : PySem.W.nearAll (match a.rk with | .tuple xs => xs | _ => []) (match b.rk with | .tuple xs => xs | _ => []) = true := by
  cases a <;> cases b <;> simp [W.rk, PySem.W.nearAll, PySem.W.alike, PyData.eqv]
theorem W.ranks (ws : List W) : PySem.W.Ranks (ws.map W.rk) := by
  refine ⟨fun d hd => ?_, .inr ⟨.int 0, fun d hd => ?_, fun d hd d' hd' xs ys e e' => ?_⟩⟩
  · obtain ⟨w, _, rfl⟩ := List.mem_map.mp hd
    cases w <;> rfl
  · obtain ⟨w, _, rfl⟩ := List.mem_map.mp hd
    cases w <;> exact ⟨_, _, rfl, rfl⟩
  · obtain ⟨a, _, rfl⟩ := List.mem_map.mp hd
    obtain ⟨b, _, rfl⟩ := List.mem_map.mp hd'
    have h := W.rk_near a b
    rw [e, e'] at h
    exact h
theorem W.rk_depth (w : W) : w.rk.depth ≤ 60 := by
  cases w <;> simp [W.rk, PyData.depth, PyData.depthAll]
theorem W.d_depth (w : W) : w.d.depth ≤ 1 := by
  cases w <;> simp [W.d, PyData.depth, PyData.depthAll]
/-- one order alone, where no two have the same key -/
theorem sort_one_of {α : Type} {k : α → PyData} {l m : List α} (hp : l.Perm m) (inj : ∀ a ∈ l, ∀ b ∈ l, PySem.W.keyToks (k a) = PySem.W.keyToks (k b) → a = b) : l.mergeSort (PySem.W.dataLe false k) = m.mergeSort (PySem.W.dataLe false k) := by
  have T : PySem.W.TotalLe (PySem.W.dataLe false k) := PySem.W.sortLe_total (PyProof.Rows.listOrd PyProof.Rows.itemOrd) false fun x => PySem.W.keyToks (k x)
  refine List.Perm.eq_of_pairwise (fun a b ha hb h1 h2 => ?_) (PySem.W.sort_pairwise T l) (PySem.W.sort_pairwise T m) (((List.mergeSort_perm l _).trans hp).trans (List.mergeSort_perm m _).symm)
  have ha' : a ∈ l := (List.mergeSort_perm l _).mem_iff.mp ha
  have hb' : b ∈ l := hp.mem_iff.mpr ((List.mergeSort_perm m _).mem_iff.mp hb)
  refine inj a ha' b hb' ?_
  have e1 : (!PySem.W.dataLt (k b) (k a)) = true := h1
  have e2 : (!PySem.W.dataLt (k a) (k b)) = true := h2
  simp at e1 e2
  exact (PyProof.Rows.listOrd PyProof.Rows.itemOrd).total _ _ e2 e1
end SB

set_option Elab.async false
set_option linter.all false
set_option maxRecDepth 100000
set_option maxHeartbeats 4000000
namespace L2
open PySem PySem.Spec PyProof.Rows
section
variable {X : Cx}
/-- a list or a tuple is walked -/
def SeqE (K : PySem.W.Frag) (H : Hp) (a : Addr) (xs : List V) (R : It → Hp → Prop) : Prop := (SqL K H a xs ∧ R (Itl K a) H) ∨ (SqT K H a xs ∧ R (Itt K a) H)
theorem SeqE.both {K : PySem.W.Frag} {H0 H : Hp} {a : Addr} {xs : List V} {R : It → Hp → Prop} (h : SqL K H0 a xs ∨ SqT K H0 a xs) (s : ∀ o, H0 a = some o → H a = some o) (k : ∀ (J : It) (G : Hp → Prop), Walk J xs.length G (YAt xs) → (∀ H' : Hp, (∀ o, H0 a = some o → H' a = some o) → G H') → R J H) : SeqE K H a xs R := by
  have lst : ∀ H' : Hp, SqL K H0 a xs → (∀ o, H0 a = some o → H' a = some o) → SqL K H' a xs := fun H' h hk => by
    rcases h with (h | ⟨o, h⟩) | h
    · exact .inl (.inl (hk _ h))
    · exact .inl (.inr ⟨o, hk _ h⟩)
    · exact .inr h
  have tup : ∀ H' : Hp, SqT K H0 a xs → (∀ o, H0 a = some o → H' a = some o) → SqT K H' a xs := fun H' h hk => by
    rcases h with (h | ⟨o, h⟩) | h
    · exact .inl (.inl (hk _ h))
    · exact .inl (.inr ⟨o, hk _ h⟩)
    · exact .inr h
  rcases h with h | h
  · exact .inl ⟨lst H h s, k _ _ walk_list fun H' hk => lst H' h hk⟩
  · exact .inr ⟨tup H h s, k _ _ walk_tup fun H' hk => tup H' h hk⟩
def iSeq (K : PySem.W.Frag) (tl : TE) : TI := fun σ H R => tl σ H fun x H1 => ∃ a xs, x = .ref a ∧ SeqE K H1 a xs R
theorem pi_seq {tg l : Expr} {tl : TE} (hl : PE X l tl) : PI X tg l (iSeq X.K tl) := by
  refine ⟨fun pins s σ H R I h => ?_⟩
  -- the value is made once; then it is one or the other
  have key : ∀ (v : Value) (s1 : Shared), EP X pins σ (fun x H1 => ∃ a xs, x = .ref a ∧ ((SqL X.K H1 a xs ∧ R (Itl X.K a) H1) ∨ (SqT X.K H1 a xs ∧ R (Itt X.K a) H1))) v s1 → wpAny (model X.prog X.w) X.A (pyIter v) (PIE X pins σ tg R) X.xe s1 := by
    rintro v s1 ⟨x, H1, I1, r1, a, xs, rfl, ⟨hq, q⟩ | ⟨hq, q⟩⟩
    · cases r1
      obtain ⟨its, rv, p, hz⟩ := I1.list hq
      refine wpAny_pyIter_list p.isList ?_
      have st := Heap.get?_push_size s1.heap (o := { cls := .type "list_iterator", data := .fields #[.ref a, .int 0 0] }) rfl
      exact ⟨_, [_], _, Itl X.K a, H1, rfl, I1.kept fun b o e => Heap.get?_push_of_some _ e, turn_list a _, ⟨_, st, rfl, rfl⟩, fun b hb => by
        rw [List.mem_singleton.mp hb]
        exact I1.fpOk (Nat.le_refl _) (I1.hok.fresh (Nat.le_refl _)), q⟩
    · cases r1
      obtain ⟨its, rv, p, hz⟩ := I1.tuple hq
      refine wpAny_pyIter_tuple (show s1.heap.IsTuple a its.toArray from p) ?_
      have st := Heap.get?_push_size s1.heap (o := { cls := .type "tuple_iterator", data := .fields #[.ref a, .int 0 0] }) rfl
      exact ⟨_, [_], _, Itt X.K a, H1, rfl, I1.kept fun b o e => Heap.get?_push_of_some _ e, turn_tuple a _, ⟨_, st, rfl, rfl⟩, fun b hb => by
        rw [List.mem_singleton.mp hb]
        exact I1.fpOk (Nat.le_refl _) (I1.hok.fresh (Nat.le_refl _)), q⟩
  exact thn (hl.run pins s σ H _ I h) fun v s1 hv => key v s1 hv
end
theorem putM_old {α β : Type} {xs : List (NestedKey × α × β)} {k : NestedKey} {u : α} {v : β} (h : k ∈ xs.map (·.1)) : (MixD.putM xs k u v).length = xs.length := by
  unfold MixD.putM
  rw [if_pos h, List.length_map]
theorem putM_new {α β : Type} {xs : List (NestedKey × α × β)} {k : NestedKey} {u : α} {v : β} (h : k ∉ xs.map (·.1)) : MixD.putM xs k u v = xs ++ [(k, u, v)] := by
  unfold MixD.putM
  rw [if_neg h]
theorem mergeM_len_iff {α β : Type} : ∀ (more acc : List (NestedKey × α × β)), (mergeM acc more).length = acc.length + more.length ↔ (more.map (·.1)).Nodup ∧ ∀ p ∈ more, p.1 ∉ acc.map (·.1)
  | [], acc => by simp [mergeM]
  | p :: r, acc => by
    by_cases hp : p.1 ∈ acc.map (·.1)
    · have h1 := putM_old (u := p.2.1) (v := p.2.2) hp
      have h2 := mergeM_len r (MixD.putM acc p.1 p.2.1 p.2.2)
      constructor
      · intro e
        have e' : (mergeM (MixD.putM acc p.1 p.2.1 p.2.2) r).length = acc.length + (p :: r).length := e
        rw [List.length_cons] at e'
        omega
      · intro h
        exact absurd hp (h.2 p (by simp))
    · have ih := mergeM_len_iff r (acc ++ [p])
      have e0 : mergeM acc (p :: r) = mergeM (acc ++ [p]) r := by
        show mergeM (MixD.putM acc p.1 p.2.1 p.2.2) r = _
        rw [putM_new hp]
      rw [e0, List.length_cons]
      have e1 : acc.length + (r.length + 1) = (acc ++ [p]).length + r.length := by simp; omega
      rw [e1, ih]
      constructor
      · rintro ⟨n, d⟩
        refine ⟨?_, ?_⟩
        · rw [List.map_cons, List.nodup_cons]
          refine ⟨fun hm => ?_, n⟩
          obtain ⟨q, q1, q2⟩ := List.mem_map.mp hm
          exact d q q1 (by rw [q2]; simp)
        · intro q hq
          rcases List.mem_cons.mp hq with rfl | hq
          · exact hp
          · intro hm
            exact d q hq (by rw [List.map_append]; exact List.mem_append_left _ hm)
      · rintro ⟨n, d⟩
        rw [List.map_cons, List.nodup_cons] at n
        refine ⟨n.2, fun q hq hm => ?_⟩
        rw [List.map_append] at hm
        rcases List.mem_append.mp hm with hm | hm
        · exact d q (List.mem_cons_of_mem _ hq) hm
        · have : q.1 = p.1 := by simpa using hm
          exact n.1 (List.mem_map.mpr ⟨q, hq, this⟩)
theorem mergeM_nodup {α β : Type} : ∀ (more acc : List (NestedKey × α × β)), ((acc ++ more).map (·.1)).Nodup → mergeM acc more = acc ++ more
  | [], acc, _ => by simp [mergeM]
  | p :: r, acc, h => by
    have e : acc ++ p :: r = (acc ++ [p]) ++ r := by simp
    have hn : p.1 ∉ acc.map (·.1) := fun hm => by
      rw [List.map_append, List.nodup_append] at h
      exact h.2.2 _ hm p.1 (by simp) rfl
    show mergeM (MixD.putM acc p.1 p.2.1 p.2.2) r = _
    rw [putM_new hn, mergeM_nodup r _ (by rw [e] at h; exact h), e]
/-- every entry of a merged dict has a key and a first value of one of those that were merged -/
theorem mergeM_mem {α β : Type} : ∀ {more acc : List (NestedKey × α × β)} {x : NestedKey × α × β}, x ∈ mergeM acc more → ∃ y ∈ acc ++ more, y.1 = x.1 ∧ y.2.1 = x.2.1
  | [], acc, x, h => ⟨x, by simpa [mergeM] using h, rfl, rfl⟩
  | p :: r, acc, x, h => by
    obtain ⟨y, hy, e1, e2⟩ := mergeM_mem (more := r) (acc := MixD.putM acc p.1 p.2.1 p.2.2) h
    rcases List.mem_append.mp hy with hy | hy
    · rcases putM_mem hy with ⟨q1, q2⟩ | ⟨z, hz, q1, q2⟩
      · exact ⟨p, by simp, by rw [← e1, q1], by rw [← e2, q2]⟩
      · exact ⟨z, by simp [hz], by rw [q1, e1], by rw [q2, e2]⟩
    · exact ⟨y, by simp [hy], e1, e2⟩
theorem mergeM_keys_nodup {α β : Type} : ∀ {more acc : List (NestedKey × α × β)}, (acc.map (·.1)).Nodup → ((mergeM acc more).map (·.1)).Nodup
  | [], acc, h => h
  | p :: r, acc, h => mergeM_keys_nodup (more := r) (putM_nodup h)
end L2
namespace SB
open PySem L2
section
variable {J : It} {n : Nat} {G : Hp → Prop} {Y : Nat → Hp → V → Hp → Prop} {X : Cx}
/-- a dict comprehension with mixed keys over the items of a list ys -/
theorem dcM_mapL {α : Type} {ys : List α} (w : Walk J ys.length G Y) {g : TG} {tk tv : TE} {vs : List Nat} {σ : St} {H1 : Hp} {D : Addr} {Qd : Hp → Prop} (hD : H1 D = none) (hn : ys.length ≤ sizeLine) (hG : ∀ H, Same H1 H → G H) (F : α → NestedKey × V × V)
    (hF : ∀ y ∈ ys, ∃ d, Dp X.K H1 (F y).2.1 d ∧ keyOf d = some (F y).1 ∧ (F y).1.depth ≤ 8)
    (hs : ∀ i y x H H' (R : V → V → Hp → Prop), ys[i]? = some y → Same H1 H → (∃ acc, H D = some (mixO X.w D acc)) → Y i H x H' → (∀ H5, Same H H5 → R (F y).2.1 (F y).2.2 H5) →
      g x (wipe σ vs) H' fun σ2 H2 => wipe σ2 vs = wipe σ vs ∧ tk σ2 H2 fun y H4 => tv σ2 H4 fun z H5 => R y z H5)
    (hd : ∀ H, Same H1 H → H D = some (mixO X.w D (mergeM [] (ys.map F))) → Qd H) :
    ∃ W : Nat → Nat → Hp → Prop, (∃ m, W 0 m (upd H1 D ((mixK X.w).o0 D))) ∧ ∀ i m H, W i m H →
      (J.stop i H ∧ Qd H) ∨ (J.go i H ∧ ∃ Nx : Hp → Prop, (∀ H', Nx H' → ∃ m', m' < m ∧ W (i + 1) m' H') ∧ ∀ x H', J.yld i H x H' → g x (wipe σ vs) H' fun σ2 H2 => wipe σ2 vs = wipe σ vs ∧ tYes σ2 H2 fun b H3 =>
        if b = true then tk σ2 H3 fun y H4 => tv σ2 H4 fun z H5 => (mixK X.w).put X D y z H5 Nx else Nx H3) := by
  refine ⟨fun i m H => m = ys.length - i ∧ i ≤ ys.length ∧ Same H1 H ∧ H D = some (mixO X.w D (mergeM [] ((ys.take i).map F))), ⟨ys.length, by simp, Nat.zero_le _, same_new hD, upd_same⟩, ?_⟩
  rintro i m H ⟨rfl, hi, s1, hH⟩
  by_cases hlt : i < ys.length
  · refine .inr ⟨w.goes i H hlt (hG H s1), fun H' => Same H1 H' ∧ H' D = some (mixO X.w D (mergeM [] ((ys.take (i + 1)).map F))), fun H' p => ⟨ys.length - (i + 1), by omega, rfl, hlt, p.1, p.2⟩, fun x H' y => ?_⟩
    have hz : ys[i]? = some ys[i] := List.getElem?_eq_getElem hlt
    refine hs i ys[i] x H H' _ hz s1 ⟨_, hH⟩ (w.yields i H x H' hlt (hG H s1) y) fun H5 s5 => ?_
    obtain ⟨d, dp, ek, d8⟩ := hF ys[i] (List.getElem_mem hlt)
    have s15 : Same H1 H5 := s1.trans s5
    refine ⟨_, (F ys[i]).1, d, s5 _ _ hH, ⟨fun x hx => ?_, mergeM_keys_nodup (by simp)⟩, ?_, dp_stay s15 dp, ek, d8, fun b o eb => ?_, ?_⟩
    · obtain ⟨y', hy', e1, e2⟩ := mergeM_mem hx
      rw [List.nil_append] at hy'
      obtain ⟨z, hz', rfl⟩ := List.mem_map.mp hy'
      obtain ⟨d', dp', ek', d8'⟩ := hF z (List.mem_of_mem_take hz')
      rw [← e1, ← e2]
      exact ⟨d', dp_stay s15 dp', ek', d8'⟩
    · have := mergeM_len ((ys.take i).map F) []
      rw [List.length_map, List.length_take, List.length_nil] at this
      omega
    · rw [upd_ne (ne_of_none eb hD)]
      exact s5 _ _ (s1 _ _ eb)
    · rw [upd_same, List.take_succ, hz, List.map_append]
      show _ = some (mixO X.w D (List.foldl _ [] (_ ++ _)))
      rw [List.foldl_append]
      rfl
  · have e : i = ys.length := by omega
    subst e
    exact .inl ⟨w.stops H (hG H s1), hd H s1 (by rw [hH, List.take_length])⟩
end
end SB

set_option Elab.async false
set_option linter.all false
set_option maxRecDepth 100000
set_option maxHeartbeats 4000000
namespace L2
open PySem PySem.Spec PyProof.Rows
abbrev rLenQ (K : PySem.W.Frag) : List V → Hp → VK → Prop := fun xs H Q => ∃ p ys, xs = [.ref p] ∧ (SqL K H p ys ∨ SqT K H p ys) ∧ Q (.int ys.length) H
abbrev rListQ (K : PySem.W.Frag) : List V → Hp → VK → Prop := fun xs H Q => ∃ p ys, xs = [.ref p] ∧ (SqL K H p ys ∨ SqT K H p ys) ∧ ∀ l, H l = none → Q (.ref l) (upd H l (.lst ys))
abbrev rTupQ (K : PySem.W.Frag) : List V → Hp → VK → Prop := fun xs H Q => ∃ p ys, xs = [.ref p] ∧ ((SqL K H p ys ∧ ∀ l, H l = none → Q (.ref l) (upd H l (.tup ys))) ∨ (SqT K H p ys ∧ Q (.ref p) H))
/-- a def whose code object stands at c -/
structure FunC (K : PySem.W.Frag) (x qual : Str) (st : Stmt) (f : Addr) (fd : FuncData) (c : Addr) : Prop where
  ex : ∃ (oc : Value) (od : Option Addr) (kV doc pm : Value) (an : Option Addr) (ct : Value) (osl : Array (Option Value)), fd = PySem.W.fnOf x qual (defArgs st) (defBody st) (defScope st) .none kV doc pm an (.ref c) ct ∧ K.lookup f = some ⟨oc, od, .func fd, osl⟩ ∧ PySem.W.codeIn K (.ref c) qual = true
section
variable {P : Program} {w : World} {K : PySem.W.Frag} {mg : Str → Option Value} {base : Heap} {k : Nat} {f c : Addr} {fd : FuncData} {ps : List Str} {sp : Sp} {x qual : Str} {st : Stmt} {N : List Str}
theorem FunC.ok (F : FunC K x qual st f fd c) (S : FnScope N ps (defScope st)) (len : ∀ vs H Q E, sp vs H Q E → vs.length = ps.length)
    (hbody : ∀ (A : Around) (outer : List Env) (s : Shared) (H : Hp) (vs : List V) (Q : VK) (E : XK), Room k (A.deeper (envOfC qual (defScope st) s.heap.objs.size f (.ref c))) → sp vs H Q E →
      ∃ t, PSs (cxOf CX0 P w K mg base N qual (defScope st) f (.ref c) A outer s H E).nox (defBody st) t ∧ t { nx := fun _ H' => Q .non H', rt := Q } (start N vs) H) : FnOk P w K mg base CX0 (k + 1) f fd ps sp := by
  obtain ⟨oc, od, kV, doc, pm, an, ct, osl, rfl, lk, hcd⟩ := F.ex
  refine fn_of lk hcd S len fun A outer s H vs Q E hr hsp => ?_
  obtain ⟨t, h, q⟩ := hbody A outer s H vs Q E hr hsp
  exact ⟨t, h.nox, q⟩
end
theorem tab_uniq {T : List (Addr × Str)} (nd : (T.map (·.1)).Nodup) {P : Addr} {q : Str} (hm : (P, q) ∈ T) : ∀ p ∈ T, p.1 = P → p.2 = q := by
  intro p hp e
  obtain ⟨i, hi, ei⟩ := List.getElem_of_mem hp
  obtain ⟨j, hj, ej⟩ := List.getElem_of_mem hm
  have e1 : (T.map (·.1))[i]? = some P := by rw [List.getElem?_map, List.getElem?_eq_getElem hi, ei, ← e]; rfl
  have e2 : (T.map (·.1))[j]? = some P := by rw [List.getElem?_map, List.getElem?_eq_getElem hj, ej]; rfl
  obtain ⟨h1, q1⟩ := List.getElem?_eq_some_iff.mp e1
  obtain ⟨h2, q2⟩ := List.getElem?_eq_some_iff.mp e2
  have : i = j := (List.getElem_inj nd).mp (q1.trans q2.symm)
  subst this
  rw [← ei, ej]
/-! ### sorted(xs) of data -/
structure SortAsk0 {α : Type} (K : PySem.W.Frag) (H : Hp) (a : Addr) (xs : List α) (it : α → V) (k : α → PyData) (Q : VK) : Prop where
  seq : SqL K H a (xs.map it) ∨ SqT K H a (xs.map it)
  rks : PySem.W.Ranks (xs.map k)
  dep : ∀ x ∈ xs, (k x).depth ≤ 60
  key : ∀ x ∈ xs, Dp K H (it x) (k x)
  fin : ∀ p, H p = none → Q (.ref p) (upd H p (.lst ((xs.mergeSort (PySem.W.dataLe false k)).map it)))
def rSortD (K : PySem.W.Frag) : List V → Hp → VK → Prop := fun vs H Q => ∃ (α : Type) (a : Addr) (xs : List α) (it : α → V) (k : α → PyData), vs = [.ref a] ∧ SortAsk0 K H a xs it k Q
theorem each_readsD {α : Type} {X : Cx} {pins : List (Addr × Obj)} {σ : St} {H : Hp} {s : Shared} (I : Inv X pins σ H s) {k : α → PyData} {it : α → V} : ∀ {ks : List Value} {xs : List α}, Vals (xs.map it) ks → (∀ x ∈ xs, Dp X.K H (it x) (k x)) → PySem.W.EachIs (fun v x => ∃ as, Reads s.heap v (k x) as) ks xs
  | _, [], .nil, _ => .nil
  | _, x :: xs, .cons r t, h => .cons (Dp.reads I _ _ _ (h x List.mem_cons_self) r) (each_readsD I t fun y hy => h y (List.mem_cons_of_mem _ hy))
section
variable {X : Cx}
theorem cr_sortD (hu : X.A.units + 64 < cLine) : CallR X (.builtin "sorted") (rSortD X.K) := by
  intro pins s σ H vs us Q I r h
  obtain ⟨α, a0, xs, it, k, rfl, hsq, hrk, hdp, hk, q⟩ := h
  obtain ⟨u, rfl, rx⟩ := vals1 r
  obtain rfl : u = .ref a0 := rx
  obtain ⟨T, o, its, n, hT, ho, hc, hd, hz, rv⟩ : ∃ (T : String) (o : Obj) (its : List Value) (n : Nat), (T = "list" ∨ T = "tuple") ∧ s.heap.get? a0 = some o ∧ o.cls = .type T ∧ o.data = .seq its.toArray n ∧ xs.length ≤ sizeLine ∧ Vals (xs.map it) its := by
    rcases hsq with hs | hs
    · obtain ⟨its, rv, ⟨o, n, ho, hc, _, hd⟩, hz⟩ := I.list hs
      exact ⟨"list", o, its, n, .inl rfl, ho, hc, hd, by rw [List.length_map] at hz; exact hz, rv⟩
    · obtain ⟨its, rv, ⟨o, ho, hc, n, hd⟩, hz⟩ := I.tuple hs
      exact ⟨"tuple", o, its, n, .inr rfl, ho, hc, hd, by rw [List.length_map] at hz; exact hz, rv⟩
  have rvl : xs.length = its.length := by rw [← rv.length, List.length_map]
  have hzi : its.length ≤ sizeLine := by rw [← rvl]; exact hz
  refine Calls.call_function_entry kind_sorted plain_sorted entry_sorted (args_sorted1 _) ?_
  unfold Builtin.«sorted»
  refine wpAny_bind (m := checkCount "sorted" 1 1 _) (wpAny_pure (wpAny_bind (wpAny_collect_seq a0 hT ho hc hd (fun h1 k1 => ?_) (by rw [List.size_toArray]; exact hzi))))
  refine wpAny_bind (wpAny_newList ?_ (by rw [List.toList_toArray]; exact hzi))
  rw [List.toList_toArray]
  have nw : (h1.push (seqObj "list" its.toArray 0)).get? h1.objs.size = some (seqObj "list" its.toArray 0) := Heap.get?_push_size _ rfl
  refine wpAny_bind (wpAny_holding (wpAny_call_entry_kw slot_list_sort ⟨_, nw, rfl⟩ entry_list_sort ?_ (args_list_sort _)))
  have keep2 : ∀ b ob, h1.get? b = some ob → (h1.push (seqObj "list" its.toArray 0)).get? b = some ob := fun b ob e => Heap.get?_push_of_some _ e
  -- the keys, read where the sort reads them
  have readsAt : ∀ h' : Heap, (∀ b ob, h1.get? b = some ob → h'.get? b = some ob) → PySem.W.EachIs (fun v x => ∃ as, Reads h' v (k x) as) its xs := fun h' kk => by
    have J : Inv X pins σ H { s with heap := h' } := I.kept (t' := s.toks) fun b ob e => kk b ob (k1 b ob e)
    exact each_readsD J rv hk
  have kS : ∀ b ob, h1.get? b = some ob → (PySem.W.sortingHeap (h1.push (seqObj "list" its.toArray 0)) h1.objs.size its).get? b = some ob := fun b ob e => PySem.W.sortingHeap_old (Nat.ne_of_lt (Heap.lt_size e)) (keep2 b ob e)
  have er := readsAt _ kS
  have er' : PySem.W.EachIs (fun v d => ∃ as, Reads (PySem.W.sortingHeap (h1.push (seqObj "list" its.toArray 0)) h1.objs.size its) v d as) its (xs.map k) := PySem.W.each_map (R := fun v d => ∃ as, Reads _ v d as) k er
  have S : PySem.W.SortsAt X.prog X.w X.A.in1.in1 { s with heap := PySem.W.sortingHeap (h1.push (seqObj "list" its.toArray 0)) h1.objs.size its } (PySem.W.dataKind (PySem.W.sortingHeap (h1.push (seqObj "list" its.toArray 0)) h1.objs.size its) (xs.map k)) its :=
    PySem.W.SortsAt.ranks er' hrk fun d hd => by
      obtain ⟨x, hx, rfl⟩ := List.mem_map.mp hd
      have := hdp x hx
      show X.A.units + 1 + 1 + _ < cLine
      omega
  refine PySem.W.list_sort_vals (s := { s with heap := h1.push (seqObj "list" its.toArray 0) }) nw S hzi ?_
  refine ⟨_, rfl, wpAny_pure ⟨_, rfl, ?_⟩⟩
  obtain ⟨c, hc'⟩ := PyProof.Rows.sortedHeap_at (vs := its) (out := (PySem.W.sortVals (PySem.W.dataKind (PySem.W.sortingHeap (h1.push (seqObj "list" its.toArray 0)) h1.objs.size its) (xs.map k)) false its its).toArray) nw
  have hkk : PySem.W.EachIs (fun v x => (PySem.W.dataKind (PySem.W.sortingHeap (h1.push (seqObj "list" its.toArray 0)) h1.objs.size its) (xs.map k)).keyOf v = some (PySem.W.keyToks (k x))) its xs := by
    have aux : ∀ {ks : List Value} {ys : List α}, PySem.W.EachIs (fun v x => ∃ as, Reads (PySem.W.sortingHeap (h1.push (seqObj "list" its.toArray 0)) h1.objs.size its) v (k x) as) ks ys → (∀ y ∈ ys, y ∈ xs) →
        PySem.W.EachIs (fun v x => (PySem.W.dataKind (PySem.W.sortingHeap (h1.push (seqObj "list" its.toArray 0)) h1.objs.size its) (xs.map k)).keyOf v = some (PySem.W.keyToks (k x))) ks ys := by
      intro ks ys h
      induction h with
      | nil => exact fun _ => .nil
      | cons h t ih =>
        intro hm
        obtain ⟨as, r⟩ := h
        exact .cons (PySem.W.kind_some hrk.1 (List.mem_map.mpr ⟨_, hm _ List.mem_cons_self, rfl⟩) r) (ih fun y hy => hm y (List.mem_cons_of_mem _ hy))
    exact aux er fun y hy => hy
  have hv := each_valsF (PySem.W.sortVals_each (κ := PySem.W.dataKind (PySem.W.sortingHeap (h1.push (seqObj "list" its.toArray 0)) h1.objs.size its) (xs.map k)) (rev := false) (fun x => PySem.W.keyToks (k x)) (vals_eachF rv) hkk)
  have hlen : ((xs.mergeSort (PySem.W.dataLe false k)).map it).length ≤ sizeLine := by rw [List.length_map, List.length_mergeSort]; exact hz
  have I1 : Inv X pins σ H { s with heap := h1 } := I.kept (t' := s.toks) k1
  refine ⟨.ref h1.objs.size, upd H h1.objs.size (.lst ((xs.mergeSort (PySem.W.dataLe false k)).map it)), I1.laid (t' := s.toks) (fun b ob e => ?_) (Nat.le_refl _) ⟨hlen, _, c, hv, hc'⟩, rfl, q _ (I1.hok.fresh (Nat.le_refl _))⟩
  have lt := Heap.lt_size e
  have z := PyProof.Rows.sortedHeap_old (out := (PySem.W.sortVals (PySem.W.dataKind (PySem.W.sortingHeap (h1.push (seqObj "list" its.toArray 0)) h1.objs.size its) (xs.map k)) false its its).toArray) (vs := its) (Nat.ne_of_lt lt) (Heap.lt_size (keep2 b ob e))
  exact z.trans (keep2 b ob e)
end
end L2

set_option Elab.async false
set_option linter.all false
set_option maxRecDepth 100000
set_option maxHeartbeats 4000000
/-! comprehensions whose elements are data -/
namespace SB
open PySem L2
theorem eqT {x y : Str} {A B : Prop} (e : x = y) (h : A) : if x = y then A else B := by rw [if_pos e]; exact h
theorem eqF {x y : Str} {A B : Prop} (e : ¬ x = y) (h : B) : if x = y then A else B := by rw [if_neg e]; exact h
/-- plain data (no list in it) outlives the change of what is no tuple -/
def noTup : Option HO → Bool
  | some (.tup _) => false
  | some (.frz _ (.tup _)) => false
  | _ => true
mutual
theorem dp_away {K : PySem.W.Frag} {H : Hp} {D : Addr} {o : HO} (n : noTup (H D) = true) : ∀ {v : V} {d : PyData}, Dp K H v d → plainD d = true → Dp K (upd H D o) v d
  | _, _, .non, _ => .non
  | _, _, .bl b, _ => .bl b
  | _, _, .int i, _ => .int i
  | _, _, .str x, _ => .str x
  | _, _, .lst h r, e => by simp [plainD] at e
  | _, _, .tup (a := a) h r, e => .tup (by
      rcases h with (h | ⟨o, h⟩) | h
      · refine .inl (.inl ?_)
        rw [upd_ne fun z => by rw [← z, h] at n; cases n]
        exact h
      · refine .inl (.inr ⟨o, ?_⟩)
        rw [upd_ne fun z => by rw [← z, h] at n; cases n]
        exact h
      · exact .inr h) (dpAll_away n r (by simpa [plainD] using e))
theorem dpAll_away {K : PySem.W.Frag} {H : Hp} {D : Addr} {o : HO} (n : noTup (H D) = true) : ∀ {vs : List V} {ds : List PyData}, DpAll K H vs ds → plainDs ds = true → DpAll K (upd H D o) vs ds
  | _, _, .nil, _ => .nil
  | _, _, .cons h t, e => by
    simp [plainDs] at e
    exact .cons (dp_away n h e.1) (dpAll_away n t e.2)
end
theorem plainDs_of {ds : List PyData} (h : ∀ d ∈ ds, plainD d = true) : plainDs ds = true := by
  induction ds with
  | nil => rfl
  | cons d ds ih =>
    rw [plainDs, h d List.mem_cons_self, ih fun d hd => h d (List.mem_cons_of_mem _ hd)]
    rfl
theorem W.d_plain (w : W) : plainD w.d = true := by cases w <;> rfl
theorem W.rk_plain (w : W) : plainD w.rk = true := by cases w <;> rfl
/-- how a heap may go on: what stood stands, but perhaps for tables -/
structure Frame (S : Hp → Hp → Prop) : Prop where
  trans : ∀ {A B C}, S A B → S B C → S A C
  at_ : ∀ {A B : Hp} {p : Addr} {o : HO}, S A B → A p = some o → noTbl o = true → B p = some o
  new : ∀ {A B : Hp} {p : Addr} {o : HO}, S A B → B p = none → S A (upd B p o)
  put : ∀ {A B : Hp} {p : Addr} {o xs}, S A B → A p = none → B p = some (.lst xs) → S A (upd B p o)
theorem frame_same : Frame Same where
  trans := fun a b => a.trans b
  at_ := fun s h _ => s _ _ h
  new := fun s h => same_new2 s h
  put := fun s h _ b u e => by
    rw [upd_ne (ne_of_none e h)]
    exact s _ _ e
theorem tabs_put {T : List (Addr × Str)} {B : Hp} {p : Addr} {o : HO} {xs : List V} (t : LamX.Tabs T B) (h : B p = some (.lst xs)) : LamX.Tabs T (upd B p o) := by
  intro q hq
  obtain ⟨ps, h1, h2, h3⟩ := t q hq
  refine ⟨ps, ?_, h2, fun pos cv hc => ?_⟩
  · rw [upd_ne fun z => by rw [z, h] at h1; cases h1]
    exact h1
  · obtain ⟨c, e1, e2⟩ := h3 pos cv hc
    refine ⟨c, e1, ?_⟩
    rw [upd_ne fun z => by rw [z, h] at e2; cases e2]
    exact e2
theorem frame_stay {T : List (Addr × Str)} : Frame (Stay T) where
  trans := fun a b => a.trans b
  at_ := fun s h n => s.at h n
  new := fun s h => s.new h
  put := fun s h e => ⟨fun b u eb n => by
    rw [upd_ne (ne_of_none eb h)]
    exact s.ext b u eb n, tabs_put s.tab e⟩
section
variable {S : Hp → Hp → Prop} (Fr : Frame S)
include Fr
theorem Frame.sqt {K : PySem.W.Frag} {A B : Hp} {a : Addr} {xs : List V} (e : S A B) (h : SqT K A a xs) : SqT K B a xs := by
  rcases h with (h | ⟨o, h⟩) | h
  · exact .inl (.inl (Fr.at_ e h rfl))
  · exact .inl (.inr ⟨o, Fr.at_ e h rfl⟩)
  · exact .inr h
theorem Frame.sql {K : PySem.W.Frag} {A B : Hp} {a : Addr} {xs : List V} (e : S A B) (h : SqL K A a xs) : SqL K B a xs := by
  rcases h with (h | ⟨o, h⟩) | h
  · exact .inl (.inl (Fr.at_ e h rfl))
  · exact .inl (.inr ⟨o, Fr.at_ e h rfl⟩)
  · exact .inr h
mutual
theorem Frame.dp {K : PySem.W.Frag} {A B : Hp} (s : S A B) : ∀ {v : V} {d : PyData}, Dp K A v d → Dp K B v d
  | _, _, .non => .non
  | _, _, .bl b => .bl b
  | _, _, .int i => .int i
  | _, _, .str x => .str x
  | _, _, .lst h r => .lst (Fr.sql s h) (Frame.dpAll s r)
  | _, _, .tup h r => .tup (Fr.sqt s h) (Frame.dpAll s r)
theorem Frame.dpAll {K : PySem.W.Frag} {A B : Hp} (s : S A B) : ∀ {v : List V} {d : List PyData}, DpAll K A v d → DpAll K B v d
  | _, _, .nil => .nil
  | _, _, .cons r t => .cons (Frame.dp s r) (Frame.dpAll s t)
end
end
section
variable {J : It} {G : Hp → Prop} {Y : Nat → Hp → V → Hp → Prop} {K : PySem.W.Frag}
/-- a comprehension over ys, with a test, whose elements are plain data -/
theorem lc_dpF {α : Type} {ys : List α} {S : Hp → Hp → Prop} (Fr : Frame S) (w : Walk J ys.length G Y) {g : TG} {tt : TT} {te : TE} {vs : List Nat} {σ : St} {H1 : Hp} {D : Addr} {Qd : Hp → Prop} (s0 : S H1 H1) (hD : H1 D = none) (hn : ys.length ≤ sizeLine) (hG : ∀ H, S H1 H → G H) (B : α → Bool) (F : α → PyData) (hp : ∀ y ∈ ys, plainD (F y) = true)
    (hs : ∀ i y x H H' (R : VK) (N : Hp → Prop), ys[i]? = some y → S H1 H → (∃ acc, H D = some (.lst acc)) → Y i H x H' → (∀ v H4, S H H4 → B y = true → Dp K H4 v (F y) → R v H4) → (∀ H4, S H H4 → B y = false → N H4) →
      g x (wipe σ vs) H' fun σ2 H2 => wipe σ2 vs = wipe σ vs ∧ tt σ2 H2 fun b H3 => if b = true then te σ2 H3 R else N H3)
    (hd : ∀ H xs, S H1 H → H D = some (.lst xs) → DpAll K H xs ((ys.filter B).map F) → Qd H) :
    ∃ W : Nat → Nat → Hp → Prop, (∃ m, W 0 m (upd H1 D (.lst []))) ∧ ∀ i m H, W i m H →
      (J.stop i H ∧ Qd H) ∨ (J.go i H ∧ ∃ Nx : Hp → Prop, (∀ H', Nx H' → ∃ m', m' < m ∧ W (i + 1) m' H') ∧ ∀ x H', J.yld i H x H' → g x (wipe σ vs) H' fun σ2 H2 => wipe σ2 vs = wipe σ vs ∧ tt σ2 H2 fun b H3 =>
        if b = true then te σ2 H3 fun y H4 => ∃ acc, H4 D = some (.lst acc) ∧ acc.length < sizeLine ∧ Nx (upd H4 D (.lst (acc ++ [y]))) else Nx H3) := by
  refine lc_it w (fun i H => S H1 H ∧ ∃ acc, H D = some (.lst acc) ∧ DpAll K H acc (((ys.take i).filter B).map F)) ⟨Fr.new s0 hD, [], upd_same, .nil⟩ (fun i H _ p => hG H p.1) ?_ (fun H p => by
    obtain ⟨s1, acc, h1, h2⟩ := p
    rw [List.take_length] at h2
    exact hd H acc s1 h1 h2)
  rintro i x H H' hi ⟨s1, acc, h1, h2⟩ y
  obtain ⟨z, hz⟩ : ∃ z, ys[i]? = some z := ⟨ys[i], List.getElem?_eq_getElem hi⟩
  have hzm := List.mem_of_getElem? hz
  have et : ys.take (i + 1) = ys.take i ++ [z] := by rw [List.take_succ, hz]; rfl
  have pl : plainDs (((ys.take i).filter B).map F) = true := plainDs_of fun d hd => by
    obtain ⟨a, ha, rfl⟩ := List.mem_map.mp hd
    exact hp a (List.mem_of_mem_take (List.mem_filter.mp ha).1)
  refine hs i z x H H' _ _ hz s1 ⟨_, h1⟩ y (fun v H4 s4 hb dv => ?_) (fun H4 s4 hb => ?_)
  · have h14 := Fr.at_ s4 h1 rfl
    have n14 : noTup (H4 D) = true := by rw [h14]; rfl
    refine ⟨acc, h14, ?_, Fr.put (Fr.trans s1 s4) hD h14, acc ++ [v], upd_same, ?_⟩
    · have := h2.len
      rw [this, List.length_map]
      have h3 := List.length_filter_le B (ys.take i)
      rw [List.length_take] at h3
      omega
    · rw [et, List.filter_append, List.map_append, List.filter_cons_of_pos hb]
      refine dpAll_app (dpAll_away n14 (Fr.dpAll s4 h2) pl) ?_
      exact .cons (dp_away n14 dv (hp z hzm)) .nil
  · refine ⟨Fr.trans s1 s4, acc, Fr.at_ s4 h1 rfl, ?_⟩
    rw [et, List.filter_append, List.filter_cons_of_neg (by rw [hb]; decide)]
    simpa using Fr.dpAll s4 h2
/-- .. without a test -/
theorem lc_dp {α : Type} {ys : List α} {S : Hp → Hp → Prop} (Fr : Frame S) (w : Walk J ys.length G Y) {g : TG} {te : TE} {vs : List Nat} {σ : St} {H1 : Hp} {D : Addr} {Qd : Hp → Prop} (s0 : S H1 H1) (hD : H1 D = none) (hn : ys.length ≤ sizeLine) (hG : ∀ H, S H1 H → G H) (F : α → PyData) (hp : ∀ y ∈ ys, plainD (F y) = true)
    (hs : ∀ i y x H H' (R : VK), ys[i]? = some y → S H1 H → (∃ acc, H D = some (.lst acc)) → Y i H x H' → (∀ v H4, S H H4 → Dp K H4 v (F y) → R v H4) → g x (wipe σ vs) H' fun σ2 H2 => wipe σ2 vs = wipe σ vs ∧ te σ2 H2 R)
    (hd : ∀ H xs, S H1 H → H D = some (.lst xs) → DpAll K H xs (ys.map F) → Qd H) :
    ∃ W : Nat → Nat → Hp → Prop, (∃ m, W 0 m (upd H1 D (.lst []))) ∧ ∀ i m H, W i m H →
      (J.stop i H ∧ Qd H) ∨ (J.go i H ∧ ∃ Nx : Hp → Prop, (∀ H', Nx H' → ∃ m', m' < m ∧ W (i + 1) m' H') ∧ ∀ x H', J.yld i H x H' → g x (wipe σ vs) H' fun σ2 H2 => wipe σ2 vs = wipe σ vs ∧ tYes σ2 H2 fun b H3 =>
        if b = true then te σ2 H3 fun y H4 => ∃ acc, H4 D = some (.lst acc) ∧ acc.length < sizeLine ∧ Nx (upd H4 D (.lst (acc ++ [y]))) else Nx H3) := by
  refine lc_dpF (K := K) Fr w s0 hD hn hG (fun _ => true) F hp (fun i y x H H' R N hy s1 hacc yy hR hN => ?_) (fun H xs s1 h1 h2 => hd H xs s1 h1 ?_)
  · exact hs i y x H H' R hy s1 hacc yy fun v H4 s4 dv => hR v H4 s4 rfl dv
  · have e : ys.filter (fun _ => true) = ys := List.filter_eq_self.mpr fun _ _ => rfl
    rw [e] at h2
    exact h2
end
/-- the i-th of a list or tuple of data -/
theorem yat_dp {K : PySem.W.Frag} {H : Hp} {xs : List V} {α : Type} {ys : List α} {g : α → PyData} {i : Nat} {x : V} {y : α} (h : DpAll K H xs (ys.map g)) (hx : xs[i]? = some x) (hy : ys[i]? = some y) : Dp K H x (g y) := by
  obtain ⟨d, e, dp⟩ := dpAll_getV h hx
  rw [List.getElem?_map, hy] at e
  cases e
  exact dp
end SB

set_option Elab.async false
set_option linter.all false
set_option maxRecDepth 100000
set_option maxHeartbeats 4000000
/-! tuple(zip(a, b)) -/
namespace PySem
section
variable {prog : Program} {w : World} {A : Around} {E : Value → Shared → Prop} {s : Shared} {z TI TO i1 i2 T : Addr} {fp1 fp2 : List Addr} {n1 n2 i : Nat} {P1 P2 : Nat → Value → Prop} {St1 St2 : Nat → Heap → Prop} {f : Bool} {oT : Obj}
/-- the next pair while the one before is held -/
theorem zipH_item {Q : Value → Shared → Prop} (S : ZipSep2 z TI TO i1 i2 fp1 fp2) (D1 : Draws prog w A i1 fp1 n1 P1 St1) (D2 : Draws prog w A i2 fp2 n2 P2 St2)
    (hz : IsZipHeld s.heap z TI TO T f) (hT : s.heap.get? T = some oT) (hTI : IsTupOf2 s.heap TI (.ref i1) (.ref i2)) (st1 : St1 i s.heap) (st2 : St2 i s.heap) (lt1 : i < n1) (lt2 : i < n2)
    (hQ : ∀ x1 x2 h' tk, P1 i x1 → P2 i x2 → IsZipHeld h' z TI TO T true → St1 (i + 1) h' → St2 (i + 1) h' → IsTupOf2 h' s.heap.objs.size x1 x2 → (∀ c o, c ≠ z → c ≠ i1 → c ≠ i2 → s.heap.get? c = some o → h'.get? c = some o) → Q (.ref s.heap.objs.size) { s with heap := h', toks := tk }) :
    wpAny (model prog w) A (Builtin.«zip.__next__» ⟨[.ref z], []⟩) (fun fin s' => ∃ v, fin = .done (.ret v) ∧ Q v s') E s := by
  obtain ⟨hp, g, d, tk0, os⟩ := s
  show wpAny _ _ (field (.ref z) 2 >>= _) _ _ _
  refine wpAny_bind (wpAny_field hz rfl (x := .bool false) rfl ?_)
  show wpAny _ _ (field (.ref z) 3 >>= _) _ _ _
  refine wpAny_bind (wpAny_field hz rfl (x := .ref TI) rfl (wpAny_bind (wpAny_seqItems hTI rfl ?_)))
  show wpAny _ _ (Builtin.SmallTypes.ownedTupleIsFree (.ref z) >>= _) _ _ _
  refine wpAny_bind (wpAny_tupleHeld_zip hz hT fun g0 z0 k0 => ?_)
  replace k0 : Heap.SameBut z hp g0 := k0
  simp only [Bool.false_eq_true, if_false]
  refine wpAny_bind ?_
  rw [← Array.forIn_toList]
  simp only [List.forIn_cons, List.forIn_nil]
  refine wpAny_bind (wpAny_bind (wpAny_holding ?_))
  show wpAny _ _ (Builtin.SmallTypes.nextOf (.ref i1) >>= _) _ _ ⟨g0, g, d, tk0, os⟩
  refine wpAny_bind (D1.item i _ _ _ lt1 (D1.over st1 k0 S.zf1) fun x1 g1 t1 p1 n1' k1 => wpAny_pure (wpAny_pure ?_))
  replace k1 : Heap.SameBut i1 g0 g1 := k1
  refine wpAny_bind (wpAny_bind (wpAny_holding ?_))
  show wpAny _ _ (Builtin.SmallTypes.nextOf (.ref i2) >>= _) _ _ ⟨g1, g, d, t1, os⟩
  refine wpAny_bind (D2.item i _ _ _ lt2 (D2.over (D2.over st2 k0 S.zf2) k1 S.sep1_2) fun x2 g2 t2 p2 n2' k2 => wpAny_pure (wpAny_pure (wpAny_pure ?_)))
  replace k2 : Heap.SameBut i2 g1 g2 := k2
  show wpAny _ _ (newTuple [x1, x2] >>= _) _ _ ⟨g2, g, d, t2, os⟩
  refine wpAny_bind (wpAny_newTuple (wpAny_pure ⟨_, rfl, ?_⟩))
  have sz : g2.objs.size = hp.objs.size := by rw [k2.1, k1.1, k0.1]
  have z2 : IsZipHeld g2 z TI TO T true := k2.extBut _ _ S.zi2 (k1.extBut _ _ S.zi1 z0)
  have kk : ∀ c o, c ≠ z → c ≠ i1 → c ≠ i2 → hp.get? c = some o → g2.get? c = some o := fun c o a b c' e => k2.extBut _ _ c' (k1.extBut _ _ b (k0.extBut _ _ a e))
  have up : ∀ c o, g2.get? c = some o → (g2.push { cls := .type "tuple", data := .seq #[x1, x2] }).get? c = some o := fun c o e => Heap.get?_push_of_some _ e
  show Q (.ref g2.objs.size) _
  have hp2 : IsTupOf2 (g2.push { cls := .type "tuple", data := .seq #[x1, x2] }) g2.objs.size x1 x2 := Heap.get?_push_size _ rfl
  rw [sz] at hp2 ⊢
  exact hQ x1 x2 _ t2 p1 p2 (up _ _ z2) (D1.frame _ _ _ (D1.over n1' k2 S.sep2_1) fun b _ o e => up b o e) (D2.frame _ _ _ n2' fun b _ o e => up b o e) hp2 fun c o a b c' e => up c o (kk c o a b c' e)
theorem zipH_end {Q : PySem.Fin → Shared → Prop} (S : ZipSep2 z TI TO i1 i2 fp1 fp2) (D1 : Draws prog w A i1 fp1 n1 P1 St1) (D2 : Draws prog w A i2 fp2 n2 P2 St2)
    (hz : IsZipHeld s.heap z TI TO T f) (hT : s.heap.get? T = some oT) (hTI : IsTupOf2 s.heap TI (.ref i1) (.ref i2)) (st1 : St1 i s.heap) (st2 : St2 i s.heap) (le1 : i ≤ n1) (le2 : i ≤ n2) (hend : i = n1 ∨ i = n2)
    (hE : ∀ h' tk e, (∀ c o, c ≠ z → c ≠ i1 → c ≠ i2 → s.heap.get? c = some o → h'.get? c = some o) → (∃ o, h'.get? e = some o ∧ o.cls = .type "StopIteration") → E (.ref e) { s with heap := h', toks := tk }) :
    wpAny (model prog w) A (Builtin.«zip.__next__» ⟨[.ref z], []⟩) Q E s := by
  obtain ⟨hp, g, d, tk0, os⟩ := s
  show wpAny _ _ (field (.ref z) 2 >>= _) _ _ _
  refine wpAny_bind (wpAny_field hz rfl (x := .bool false) rfl ?_)
  show wpAny _ _ (field (.ref z) 3 >>= _) _ _ _
  refine wpAny_bind (wpAny_field hz rfl (x := .ref TI) rfl (wpAny_bind (wpAny_seqItems hTI rfl ?_)))
  show wpAny _ _ (Builtin.SmallTypes.ownedTupleIsFree (.ref z) >>= _) _ _ _
  refine wpAny_bind (wpAny_tupleHeld_zip hz hT fun g0 z0 k0 => ?_)
  replace k0 : Heap.SameBut z hp g0 := k0
  simp only [Bool.false_eq_true, if_false]
  refine wpAny_bind ?_
  rw [← Array.forIn_toList]
  simp only [List.forIn_cons, List.forIn_nil]
  refine wpAny_bind (wpAny_bind (wpAny_holding ?_))
  show wpAny _ _ (Builtin.SmallTypes.nextOf (.ref i1) >>= _) _ _ ⟨g0, g, d, tk0, os⟩
  by_cases lt1 : i < n1
  · refine wpAny_bind (D1.item i _ _ _ lt1 (D1.over st1 k0 S.zf1) fun x1 g1 t1 p1 n1' k1 => wpAny_pure (wpAny_pure ?_))
    replace k1 : Heap.SameBut i1 g0 g1 := k1
    have e2 : i = n2 := by omega
    refine wpAny_bind (wpAny_bind (wpAny_holding ?_))
    show wpAny _ _ (Builtin.SmallTypes.nextOf (.ref i2) >>= _) _ _ ⟨g1, g, d, t1, os⟩
    refine wpAny_bind (D2.done ⟨g1, g, d, t1, os⟩ _ _ (by rw [← e2]; exact D2.over (D2.over st2 k0 S.zf2) k1 S.sep1_2) fun q e hq he => ?_)
    exact hE q t1 e (fun c o a b c' x => hq _ _ c' (k1.extBut _ _ b (k0.extBut _ _ a x))) he
  · have e1 : i = n1 := by omega
    refine wpAny_bind (D1.done ⟨g0, g, d, tk0, os⟩ _ _ (by rw [← e1]; exact D1.over st1 k0 S.zf1) fun q e hq he => ?_)
    exact hE q tk0 e (fun c o a b _ x => hq _ _ b (k0.extBut _ _ a x)) he
end
section
variable {prog : Program} {w : World} {A : Around}
/-- a zip that has given i pairs, the last of them (if any) still there -/
def ZipAt (S z TI TO i1 i2 : Addr) (St1 St2 : Nat → Heap → Prop) (i : Nat) (h : Heap) : Prop :=
  IsTupOf2 h TI (.ref i1) (.ref i2) ∧ (∃ oO, h.get? TO = some oO) ∧ St1 i h ∧ St2 i h ∧ ((i = 0 ∧ IsZip h z TI TO .none ∧ ∃ a b, IsTupOf2 h TO a b) ∨ ∃ T f oT, IsZipHeld h z TI TO T f ∧ h.get? T = some oT ∧ T ≠ z ∧ T ≠ i1 ∧ T ≠ i2 ∧ T ≠ S)
theorem ZipAt.type {s : Shared} {S z TI TO i1 i2 : Addr} {St1 St2 : Nat → Heap → Prop} {i : Nat} (h : ZipAt S z TI TO i1 i2 St1 St2 i s.heap) : s.TypeIs (.ref z) "zip" := by
  obtain ⟨_, _, _, _, ⟨_, h, _⟩ | ⟨_, _, _, h, _⟩⟩ := h
  · exact ⟨_, h, rfl⟩
  · exact ⟨_, h, rfl⟩
theorem zipAt_iter {E : Value → Shared → Prop} {s : Shared} {S z TI TO i1 i2 : Addr} {St1 St2 : Nat → Heap → Prop} {Q : Value → Shared → Prop} (h : ZipAt S z TI TO i1 i2 St1 St2 0 s.heap) (q : Q (.ref z) s) : wpAny (model prog w) A (pyIter (.ref z)) Q E s := by
  obtain ⟨_, _, _, _, ⟨_, h, _⟩ | ⟨_, _, _, h, _⟩⟩ := h
  · exact wpAny_pyIter_zip h q
  · have hT : s.TypeIs (.ref z) "zip" := ⟨_, h, rfl⟩
    refine wpAny_pyIter_slot hT F.slot_zip_iter (wpAny_call_entry F.slot_zip_iter hT F.entry_zip_iter ?_ (F.args_zip_iter_1 _))
    show wpAny _ _ (ret (.ref z)) _ _ s
    exact wpAny_pure ⟨_, rfl, "zip", _, hT, F.slot_zip_next.lookup, q⟩
theorem zipAt_next {E : Value → Shared → Prop} {s : Shared} {S z TI TO i1 i2 : Addr} {fp1 fp2 : List Addr} {n1 n2 i : Nat} {P1 P2 : Nat → Value → Prop} {St1 St2 : Nat → Heap → Prop} {Q : Option Value → Shared → Prop} (Z : ZipSep2 z TI TO i1 i2 fp1 fp2) (D1 : Draws prog w A.in1 i1 fp1 n1 P1 St1) (D2 : Draws prog w A.in1 i2 fp2 n2 P2 St2)
    (h : ZipAt S z TI TO i1 i2 St1 St2 i s.heap) (lt1 : i < n1) (lt2 : i < n2) (hS : S < s.heap.objs.size)
    (hQ : ∀ x1 x2 T h' tk, P1 i x1 → P2 i x2 → ZipAt S z TI TO i1 i2 St1 St2 (i + 1) h' → IsTupOf2 h' T x1 x2 → s.heap.objs.size ≤ T → (∀ c o, c ≠ z → c ≠ TO → c ≠ i1 → c ≠ i2 → s.heap.get? c = some o → h'.get? c = some o) → Q (some (.ref T)) { s with heap := h', toks := tk }) :
    wpAny (model prog w) A (pyNext (.ref z)) Q E s := by
  have hT := h.type
  obtain ⟨hTI, ⟨oO, lO⟩, st1, st2, hz⟩ := h
  have live1 : ∃ o, s.heap.get? i1 = some o := D1.live _ _ st1
  have live2 : ∃ o, s.heap.get? i2 = some o := D2.live _ _ st2
  have lt : ∀ {c : Addr} {o : Obj}, s.heap.get? c = some o → s.heap.objs.size ≠ c := fun e => Nat.ne_of_gt (Heap.lt_size e)
  obtain ⟨o1, l1⟩ := live1
  obtain ⟨o2, l2⟩ := live2
  rcases hz with ⟨rfl, hz, a, b, hTO⟩ | ⟨T, f, oT, hz, hTo, nz, n1', n2', nS⟩
  · refine wpAny_pyNext_zipD2_item Z D1 D2 hz hTI hTO st1 st2 lt1 lt2 fun x1 x2 h' tk p1 p2 z' t' s1 s2 tp sz kp => ?_
    exact hQ x1 x2 _ h' tk p1 p2 ⟨kp _ _ Z.TIz Z.TITO Z.TIi1 Z.TIi2 hTI, ⟨_, t'⟩, s1, s2, .inr ⟨_, false, _, z', tp, lt hz, lt l1, lt l2, Nat.ne_of_gt hS⟩⟩ tp (Nat.le_refl _) kp
  · unfold pyNext
    refine wpAny_bind (wpAny_attempt (wpAny_callSpecial?_slot (name := Str.ofString "__next__") hT F.slot_zip_next
      (wpAny_call_entry F.slot_zip_next hT F.entry_zip_next (zipH_item Z D1 D2 hz hTo hTI st1 st2 lt1 lt2 fun x1 x2 h' tk p1 p2 z' s1 s2 tp kp => wpAny_pure ?_) (F.args_zip_next_1 _))))
    exact hQ x1 x2 _ h' tk p1 p2 ⟨kp _ _ Z.TIz Z.TIi1 Z.TIi2 hTI, ⟨_, kp _ _ Z.TOz Z.Ti1 Z.Ti2 lO⟩, s1, s2, .inr ⟨T, true, oT, z', kp _ _ nz n1' n2' hTo, nz, n1', n2', nS⟩⟩ tp (Nat.le_refl _) fun c o a _ b c' e => kp c o a b c' e
theorem zipAt_done {E : Value → Shared → Prop} {s : Shared} {S z TI TO i1 i2 : Addr} {fp1 fp2 : List Addr} {n1 n2 i : Nat} {P1 P2 : Nat → Value → Prop} {St1 St2 : Nat → Heap → Prop} {Q : Option Value → Shared → Prop} (Z : ZipSep2 z TI TO i1 i2 fp1 fp2) (D1 : Draws prog w A.in1 i1 fp1 n1 P1 St1) (D2 : Draws prog w A.in1 i2 fp2 n2 P2 St2)
    (h : ZipAt S z TI TO i1 i2 St1 St2 i s.heap) (le1 : i ≤ n1) (le2 : i ≤ n2) (hend : i = n1 ∨ i = n2) (hQ : ∀ h' tk, (∀ c o, c ≠ z → c ≠ TO → c ≠ i1 → c ≠ i2 → s.heap.get? c = some o → h'.get? c = some o) → Q none { s with heap := h', toks := tk }) :
    wpAny (model prog w) A (pyNext (.ref z)) Q E s := by
  have hT := h.type
  obtain ⟨hTI, ⟨oO, lO⟩, st1, st2, hz⟩ := h
  rcases hz with ⟨rfl, hz, a, b, hTO⟩ | ⟨T, f, oT, hz, hTo, nz, n1', n2', nS⟩
  · exact wpAny_pyNext_zipD2_end Z D1 D2 hz hTI hTO st1 st2 le1 le2 hend fun h' tk kp => hQ h' tk kp
  · unfold pyNext
    refine wpAny_bind (wpAny_attempt (wpAny_callSpecial?_slot (name := Str.ofString "__next__") hT F.slot_zip_next
      (wpAny_call_entry F.slot_zip_next hT F.entry_zip_next (zipH_end Z D1 D2 hz hTo hTI st1 st2 le1 le2 hend fun h' tk e kp he => ?_) (F.args_zip_next_1 _))))
    obtain ⟨o, ho, hc⟩ := he
    refine wpAny_bind (wpAny_isInstance (T := "StopIteration") (b := true) ⟨o, ho, hc⟩ isSubtype_stop (wpAny_pure (hQ _ _ fun c o a _ b c' x => kp c o a b c' x)))
/-- the values of a list are pairs, at new places -/
def PairsAt (h : Heap) (lo : Nat) (S z TO i1 i2 : Addr) (P1 P2 : Nat → Value → Prop) (acc : List Value) : Prop :=
  ∀ j v, acc[j]? = some v → ∃ T x1 x2, v = .ref T ∧ lo ≤ T ∧ T ≠ S ∧ T ≠ z ∧ T ≠ TO ∧ T ≠ i1 ∧ T ≠ i2 ∧ P1 j x1 ∧ P2 j x2 ∧ IsTupOf2 h T x1 x2
theorem zip_loop {R : Result → Shared → Prop} {z TI TO i1 i2 S : Addr} {fp1 fp2 : List Addr} {n1 n2 lo : Nat} {P1 P2 : Nat → Value → Prop} {St1 St2 : Nat → Heap → Prop} {res : Value} (Z : ZipSep2 z TI TO i1 i2 fp1 fp2) (D1 : Draws prog w A.in1.in1 i1 fp1 n1 P1 St1) (D2 : Draws prog w A.in1.in1 i2 fp2 n2 P2 St2)
    (hn : min n1 n2 ≤ sizeLine) (Sz : S ≠ z) (STI : S ≠ TI) (STO : S ≠ TO) (Sf1 : S ∉ fp1) (Sf2 : S ∉ fp2) : ∀ (k i : Nat) (s : Shared) (acc : List Value) (c : Nat), min n1 n2 - i = k → i ≤ min n1 n2 → lo ≤ s.heap.objs.size → ZipAt S z TI TO i1 i2 St1 St2 i s.heap →
      s.heap.get? S = some { cls := .type "list", dict := none, data := .seq acc.toArray c, slots := #[] } → acc.length = i → PairsAt s.heap lo S z TO i1 i2 P1 P2 acc →
      (∀ h' tk acc' c', acc'.length = min n1 n2 → PairsAt h' lo S z TO i1 i2 P1 P2 acc' → h'.get? S = some { cls := .type "list", dict := none, data := .seq acc'.toArray c', slots := #[] } → (∀ b o, b ≠ S → b ≠ z → b ≠ TO → b ≠ i1 → b ≠ i2 → s.heap.get? b = some o → h'.get? b = some o) → R (.ok (.ret res)) { s with heap := h', toks := tk }) →
      codeAny (model prog w) A (.builtin "list.extend.loop" ⟨[.ref S, .ref z, res], []⟩) R s := by
  have Si1 : S ≠ i1 := fun e => Sf1 (e ▸ Z.mem1)
  have Si2 : S ≠ i2 := fun e => Sf2 (e ▸ Z.mem2)
  intro k
  induction k with
  | zero =>
    intro i s acc c hk hi hlo hst hS hl hacc hR
    have hin : i = min n1 n2 := by omega
    refine codeAny_builtin F.entry_extend_loop ?_
    rw [Around.under_plainId F.plain_extend_loop _]
    show wpAny _ A.in1 (pyNext (.ref z) >>= _) _ _ s
    refine wpAny_bind (zipAt_done Z D1 D2 hst (by omega) (by omega) (by omega) fun h' tk kp => wpAny_pure ?_)
    refine hR h' tk acc c (by omega) (fun j v e => ?_) (kp _ _ Sz STO Si1 Si2 hS) fun b o _ a b' c' d e => kp b o a b' c' d e
    obtain ⟨T, x1, x2, h1, h2, h3, h4, h5, h6, h7, h8, h9, h10⟩ := hacc j v e
    exact ⟨T, x1, x2, h1, h2, h3, h4, h5, h6, h7, h8, h9, kp _ _ h4 h5 h6 h7 h10⟩
  | succ k ih =>
    intro i s acc c hk hi hlo hst hS hl hacc hR
    refine codeAny_builtin F.entry_extend_loop ?_
    rw [Around.under_plainId F.plain_extend_loop _]
    show wpAny _ A.in1 (pyNext (.ref z) >>= _) _ _ s
    refine wpAny_bind (zipAt_next Z D1 D2 hst (by omega) (by omega) (Heap.lt_size hS) fun x1 x2 T h' tk p1 p2 hst' tp hT kp => ?_)
    have hS' := kp _ _ Sz STO Si1 Si2 hS
    have lt : ∀ {c : Addr} {o : Obj}, s.heap.get? c = some o → T ≠ c := fun e => Nat.ne_of_gt (Nat.lt_of_lt_of_le (Heap.lt_size e) hT)
    obtain ⟨hTI0, ⟨oTO, hTOl⟩, st1, st2, hzz⟩ := hst
    obtain ⟨oi1, l1⟩ := D1.live _ _ st1
    obtain ⟨oi2, l2⟩ := D2.live _ _ st2
    have lz : ∃ oz, s.heap.get? z = some oz := by
      rcases hzz with ⟨_, e, _⟩ | ⟨_, _, _, e, _⟩
      · exact ⟨_, e⟩
      · exact ⟨_, e⟩
    obtain ⟨oz, lz⟩ := lz
    show wpAny _ A.in1 (updateSeq S (·.push (.ref T)) >>= _) _ _ _
    refine wpAny_bind ?_
    have up : ∀ b o, b ≠ S → h'.get? b = some o → (h'.update S (Obj.mapSeq (·.push (.ref T)))).get? b = some o := fun b o hb e => (Heap.get?_update_other _ _ (Ne.symm hb)).trans e
    have TS : T ≠ S := lt hS
    obtain ⟨c2, hx2⟩ : ∃ c2, (h'.update S (Obj.mapSeq (·.push (.ref T)))).get? S = some (PyProof.Rows.seqObj "list" (acc.toArray.push (.ref T)) c2) := ⟨_, PyProof.Rows.get?_update_seq hS' (·.push (.ref T))⟩
    have hst2 : ZipAt S z TI TO i1 i2 St1 St2 (i + 1) (h'.update S (Obj.mapSeq (·.push (.ref T)))) := by
      obtain ⟨a1, ⟨oO', aO⟩, a2, a3, a4⟩ := hst'
      refine ⟨up _ _ STI.symm a1, ⟨_, up _ _ STO.symm aO⟩, D1.frame _ _ _ a2 fun b hb o e => up b o (fun q => Sf1 (q ▸ hb)) e, D2.frame _ _ _ a3 fun b hb o e => up b o (fun q => Sf2 (q ▸ hb)) e, ?_⟩
      rcases a4 with ⟨e0, _⟩ | ⟨T', f', oT', b1, b2, b3⟩
      · omega
      · exact .inr ⟨T', f', oT', up _ _ Sz.symm b1, up _ _ b3.2.2.2 b2, b3⟩
    have old : PairsAt (h'.update S (Obj.mapSeq (·.push (.ref T)))) lo S z TO i1 i2 P1 P2 (acc ++ [.ref T]) := by
      intro j v e
      rcases Nat.lt_or_ge j acc.length with hj | hj
      · rw [List.getElem?_append_left hj] at e
        obtain ⟨T0, y1, y2, h1, h2, h3, h4, h5, h6, h7, h8, h9, h10⟩ := hacc j v e
        exact ⟨T0, y1, y2, h1, h2, h3, h4, h5, h6, h7, h8, h9, up _ _ h3 (kp _ _ h4 h5 h6 h7 h10)⟩
      · rw [List.getElem?_append_right hj] at e
        have ej : j = acc.length := by
          rcases Nat.lt_or_ge (j - acc.length) 1 with q | q
          · omega
          · rw [List.getElem?_eq_none (by simpa using q)] at e
            cases e
        rw [ej, Nat.sub_self] at e
        have ev : v = .ref T := by simpa using e.symm
        rw [ej, hl]
        exact ⟨T, x1, x2, ev, Nat.le_trans hlo hT, TS, lt lz, lt hTOl, lt l1, lt l2, p1, p2, up _ _ TS tp⟩
    refine wpAny_updateSeq hS' rfl (wpAny_pure ⟨plainId_quiet F.plain_extend_loop _, ih (i + 1) _ (acc ++ [.ref T]) c2 (by omega) (by omega) ?_ hst2 ?_ (by simp [hl]) old fun h2 t2 acc2 c3 a1 a2 a3 a4 => ?_⟩) (by rw [List.size_toArray, hl]; omega) (by show (acc.toArray.push (.ref T)).size ≤ sizeLine + 1; rw [Array.size_push, List.size_toArray, hl]; omega)
    · show lo ≤ (h'.update S _).objs.size
      rw [Heap.size_update]
      exact Nat.le_trans hlo (Nat.le_trans hT (Nat.le_of_lt (Heap.lt_size tp)))
    · rw [hx2]
      simp
    · exact hR h2 t2 acc2 c3 a1 a2 a3 fun b o n0 n1 n2 n3 n4 e => a4 b o n0 n1 n2 n3 n4 (up _ _ n0 (kp _ _ n1 n2 n3 n4 e))
end
end PySem

set_option Elab.async false
set_option linter.all false
set_option maxRecDepth 100000
set_option maxHeartbeats 4000000
/-! tuple(zip(a, b)): the tuple -/
namespace PySem
open AutoSeq1 (wpAny_loadPart')
theorem zip_no_len : typeLookup (.type "zip") "__len__" = pure none := by rw [typeLookup_type, builtinLookup_eq_fast]; kernel_rfl
theorem zip_no_hint : typeLookup (.type "zip") "__length_hint__" = pure none := by rw [typeLookup_type, builtinLookup_eq_fast]; kernel_rfl
section
variable {prog : Program} {w : World} {A : Around} {E : Value → Shared → Prop} {s : Shared} {z TI TO i1 i2 : Addr} {fp1 fp2 : List Addr} {n1 n2 : Nat} {P1 P2 : Nat → Value → Prop} {St1 St2 : Nat → Heap → Prop}
/-- what was found: pairs at places that the heap did not have before -/
def PairsNew (h : Heap) (lo : Nat) (P1 P2 : Nat → Value → Prop) (acc : List Value) : Prop := ∀ j v, acc[j]? = some v → ∃ T x1 x2, v = .ref T ∧ lo ≤ T ∧ P1 j x1 ∧ P2 j x2 ∧ IsTupOf2 h T x1 x2
theorem zip_collect {Q : List Value → Shared → Prop} (Z : ZipSep2 z TI TO i1 i2 fp1 fp2) (D1 : Draws prog w A.in1.in1 i1 fp1 n1 P1 St1) (D2 : Draws prog w A.in1.in1 i2 fp2 n2 P2 St2) (hn : min n1 n2 ≤ sizeLine)
    (hz : IsZip s.heap z TI TO .none) (hTI : IsTupOf2 s.heap TI (.ref i1) (.ref i2)) (hTO : ∃ a b, IsTupOf2 s.heap TO a b) (st1 : St1 0 s.heap) (st2 : St2 0 s.heap) (f1 : ∀ b ∈ fp1, b < s.heap.objs.size) (f2 : ∀ b ∈ fp2, b < s.heap.objs.size)
    (hQ : ∀ h' tk acc, acc.length = min n1 n2 → PairsNew h' s.heap.objs.size P1 P2 acc → (∀ b o, b ≠ z → b ≠ TO → b ≠ i1 → b ≠ i2 → s.heap.get? b = some o → h'.get? b = some o) → Q acc { s with heap := h', toks := tk }) :
    wpAny (model prog w) A (collect (.ref z)) Q E s := by
  have lt : ∀ {c : Addr} {o : Obj}, s.heap.get? c = some o → s.heap.objs.size ≠ c := fun e => Nat.ne_of_gt (Heap.lt_size e)
  obtain ⟨a, b, hTO⟩ := hTO
  unfold collect
  refine wpAny_bind (wpAny_runValue (codeAny_builtin F.entry_proto_collect ?_))
  rw [Around.under_plainId F.plain_proto_collect _]
  show wpAny _ A.in1 (newList [] >>= fun l => again (.builtin "list.__iadd__" ⟨[l, .ref z], []⟩)) _ _ s
  refine wpAny_bind (wpAny_newObj_type (wpAny_pure ⟨plainId_quiet F.plain_list_iadd _, codeAny_builtin F.entry_list_iadd ?_⟩))
  rw [Around.under_plainId F.plain_list_iadd _]
  obtain ⟨h0, e0⟩ : ∃ h0, s.heap.push { cls := .type "list", data := .seq ([] : List Value).toArray } = h0 := ⟨_, rfl⟩
  have k0 : ∀ b o, s.heap.get? b = some o → h0.get? b = some o := fun b o e => by rw [← e0]; exact Heap.get?_push_of_some _ e
  have hS0 : h0.get? s.heap.objs.size = some { cls := .type "list", data := .seq ([] : List Value).toArray } := by rw [← e0]; exact Heap.get?_push_size _ rfl
  have z0 : ZipAt s.heap.objs.size z TI TO i1 i2 St1 St2 0 h0 := ⟨k0 _ _ hTI, ⟨_, k0 _ _ hTO⟩, D1.frame _ _ _ st1 fun b _ o e => k0 b o e, D2.frame _ _ _ st2 fun b _ o e => k0 b o e, .inl ⟨rfl, k0 _ _ hz, a, b, k0 _ _ hTO⟩⟩
  show wpAny _ A.in1 (Builtin.List.listExtendWith (.ref s.heap.objs.size) (.ref z) (.ref s.heap.objs.size)) _ _ { s with heap := s.heap.push { cls := .type "list", data := .seq ([] : List Value).toArray } }
  rw [e0]
  unfold Builtin.List.listExtendWith
  have hT : ({ s with heap := h0 } : Shared).TypeIs (.ref z) "zip" := ⟨_, k0 _ _ hz, rfl⟩
  refine wpAny_bind (wpAny_typeOf hT ?_)
  have q1 : Builtin.List.listSameRef (.ref s.heap.objs.size) (.ref z) = false := by simp [Builtin.List.listSameRef, lt hz]
  have q2 : (Value.type "zip" == Value.type "list") = false := by decide
  have q3 : (Value.type "zip" == Value.type "tuple") = false := by decide
  simp only [q1, q2, q3, Bool.or_false, Bool.false_eq_true, if_false]
  refine wpAny_bind (zipAt_iter (s := { s with heap := h0 }) z0 (wpAny_bind (wpAny_holding ?_)))
  unfold Builtin.List.listLengthHint
  refine wpAny_bind (wpAny_specialOf hT zip_no_len ?_)
  show wpAny _ A.in1 (specialOf (Value.ref z) (Str.ofString "__length_hint__") >>= _) _ _ _
  refine wpAny_bind (wpAny_specialOf hT zip_no_hint (wpAny_pure ?_))
  show wpAny _ A.in1 (rule "list.extend.makes-room" >>= fun _ => Builtin.List.listTouch (.ref s.heap.objs.size) >>= fun _ => again (.builtin "list.extend.loop" ⟨[.ref s.heap.objs.size, .ref z, .ref s.heap.objs.size], []⟩)) _ _ _
  refine wpAny_bind (wpAny_rule (wpAny_bind ?_))
  show wpAny _ A.in1 (updateSeq s.heap.objs.size (·.push .none) >>= fun _ => updateSeq s.heap.objs.size (·.pop)) _ _ _
  refine wpAny_bind (wpAny_updateSeq (s := { s with heap := h0 }) hS0 rfl ?_)
  have hS2 := Heap.get?_update_self (Obj.mapSeq (·.push Value.none)) hS0 rfl
  refine wpAny_updateSeq hS2 rfl ?_
  have hS3 := Heap.get?_update_self (Obj.mapSeq (·.pop)) hS2 rfl
  obtain ⟨h1, e1⟩ : ∃ h1, (h0.update s.heap.objs.size (Obj.mapSeq (·.push Value.none))).update s.heap.objs.size (Obj.mapSeq (·.pop)) = h1 := ⟨_, rfl⟩
  have k1 : ∀ b o, b ≠ s.heap.objs.size → h0.get? b = some o → h1.get? b = some o := fun b o hb e => by
    rw [← e1]
    exact (Heap.get?_update_other _ _ (Ne.symm hb)).trans ((Heap.get?_update_other _ _ (Ne.symm hb)).trans e)
  obtain ⟨c4, hS4⟩ : ∃ c4, h1.get? s.heap.objs.size = some { cls := .type "list", dict := none, data := .seq ([] : List Value).toArray c4, slots := #[] } := by
    rw [← e1]
    exact ⟨_, PyProof.Rows.get?_update_seq (PyProof.Rows.get?_update_seq hS0 (·.push Value.none)) (·.pop)⟩
  have ne : ∀ {c : Addr} {o : Obj}, s.heap.get? c = some o → c ≠ s.heap.objs.size := fun e => (lt e).symm
  have up : ∀ b o, s.heap.get? b = some o → h1.get? b = some o := fun b o e => k1 b o (ne e) (k0 b o e)
  have z1 : ZipAt s.heap.objs.size z TI TO i1 i2 St1 St2 0 h1 := ⟨up _ _ hTI, ⟨_, up _ _ hTO⟩, D1.frame _ _ _ st1 fun b _ o e => up b o e, D2.frame _ _ _ st2 fun b _ o e => up b o e, .inl ⟨rfl, up _ _ hz, a, b, up _ _ hTO⟩⟩
  rw [e1]
  refine wpAny_pure ⟨plainId_quiet F.plain_extend_loop _, zip_loop (lo := s.heap.objs.size) Z D1 D2 hn (lt hz) (lt hTI) (lt hTO) (fun hm => Nat.lt_irrefl _ (f1 _ hm)) (fun hm => Nat.lt_irrefl _ (f2 _ hm)) _ 0 { s with heap := h1 } [] c4 rfl (Nat.zero_le _) ?_ z1 hS4 rfl (fun j v e => by simp at e) fun h' tk acc c hl hp hS' kp => ?_⟩
  · show s.heap.objs.size ≤ h1.objs.size
    exact Nat.le_of_lt (Heap.lt_size hS4)
  show wpAny _ A (load s.heap.objs.size >>= _) _ _ { s with heap := h', toks := tk }
  refine wpAny_bind (wpAny_load hS' (wpAny_pure ?_))
  show Q acc.toArray.toList _
  rw [List.toList_toArray]
  refine hQ h' tk acc hl (fun j v e => ?_) fun b o n1 n2 n3 n4 e => kp b o (ne e) n1 n2 n3 n4 (up b o e)
  obtain ⟨T, x1, x2, q1, q2, _, _, _, _, _, q8, q9, q10⟩ := hp j v e
  exact ⟨T, x1, x2, q1, q2, q8, q9, q10⟩
theorem code_tuple_zip {Q₁ : Value → Shared → Prop} (Z : ZipSep2 z TI TO i1 i2 fp1 fp2) (D1 : Draws prog w A.in1.in1.in1 i1 fp1 n1 P1 St1) (D2 : Draws prog w A.in1.in1.in1 i2 fp2 n2 P2 St2) (hn : min n1 n2 ≤ sizeLine)
    (hz : IsZip s.heap z TI TO .none) (hTI : IsTupOf2 s.heap TI (.ref i1) (.ref i2)) (hTO : ∃ a b, IsTupOf2 s.heap TO a b) (st1 : St1 0 s.heap) (st2 : St2 0 s.heap) (f1 : ∀ b ∈ fp1, b < s.heap.objs.size) (f2 : ∀ b ∈ fp2, b < s.heap.objs.size)
    (hQ : ∀ h' tk acc, acc.length = min n1 n2 → PairsNew h' s.heap.objs.size P1 P2 acc → (∀ b o, b ≠ z → b ≠ TO → b ≠ i1 → b ≠ i2 → s.heap.get? b = some o → h'.get? b = some o) → Q₁ (.ref h'.objs.size) { s with heap := h'.push { cls := .type "tuple", data := .seq acc.toArray }, toks := tk }) :
    codeAny (model prog w) A (.call (.builtin "tuple.__new__") ⟨[.type "tuple", .ref z], []⟩) (wants Q₁ E) s := by
  refine codeAny_of_tree ?_
  show wpAny _ A.in1 (do checkBuiltinCall "tuple.__new__" ⟨[.type "tuple", .ref z], []⟩; again (.builtin "tuple.__new__" ⟨[.type "tuple", .ref z], []⟩)) _ _ s
  refine wpAny_bind (wpAny_of_eq (F.newCall_tuple_1 _) (wpAny_pure ⟨plainId_quiet F.plain_tuple_new _, codeAny_builtin F.entry_tuple_new ?_⟩))
  rw [Around.under_plainId F.plain_tuple_new _]
  have hsub := sub_tuple_self
  have hinit := init_tuple_lookup
  have hmh := madeHere_tuple
  have hTz : s.TypeIs (.ref z) "zip" := ⟨_, hz, rfl⟩
  wp_walk using wpAny_typeOf hTz, zip_collect Z D1 D2 hn hz hTI hTO st1 st2 f1 f2
  intro h' tk acc hl hp kp
  show wpAny _ _ (Builtin.Tuple.tupleExact acc.toArray >>= fun v => ret v) _ _ _
  unfold Builtin.Tuple.tupleExact
  refine wpAny_bind (wpAny_newObj_type (wpAny_pure ?_) (by show acc.toArray.size ≤ sizeLine; rw [List.size_toArray, hl]; exact hn))
  exact hQ h' tk acc hl hp kp
theorem call_tuple_zip {Q : Value → Shared → Prop} (Z : ZipSep2 z TI TO i1 i2 fp1 fp2) (D1 : Draws prog w A.in1.in1.in1.in1 i1 fp1 n1 P1 St1) (D2 : Draws prog w A.in1.in1.in1.in1 i2 fp2 n2 P2 St2) (hn : min n1 n2 ≤ sizeLine)
    (hz : IsZip s.heap z TI TO .none) (hTI : IsTupOf2 s.heap TI (.ref i1) (.ref i2)) (hTO : ∃ a b, IsTupOf2 s.heap TO a b) (st1 : St1 0 s.heap) (st2 : St2 0 s.heap) (f1 : ∀ b ∈ fp1, b < s.heap.objs.size) (f2 : ∀ b ∈ fp2, b < s.heap.objs.size)
    (hQ : ∀ h' tk acc, acc.length = min n1 n2 → PairsNew h' s.heap.objs.size P1 P2 acc → (∀ b o, b ≠ z → b ≠ TO → b ≠ i1 → b ≠ i2 → s.heap.get? b = some o → h'.get? b = some o) → Q (.ref h'.objs.size) { s with heap := h'.push { cls := .type "tuple", data := .seq acc.toArray }, toks := tk }) :
    wpAny (model prog w) A (call (.type "tuple") [.ref z]) Q E s := by
  refine callType_codes (Q₁ := fun obj s₁ => s₁.TypeIs obj "tuple" ∧ Q obj s₁) F.called_tuple (F.typeCall_tuple_1 _) F.entry_object_init
    (code_tuple_zip Z D1 D2 hn hz hTI hTO st1 st2 f1 f2 fun h' tk acc hl hp kp => ⟨⟨_, Heap.get?_push_size _ rfl, rfl⟩, hQ h' tk acc hl hp kp⟩) fun obj s₁ h₁ => ?_
  exact ⟨h₁.1, F.args_object_init_2 obj _, object_init_meets F.called_tuple.init.lookup F.called_tuple.made (by decide) prog w A.in1 _ s₁ ⟨h₁.1, rfl, h₁.2⟩⟩
end
end PySem
namespace L2
open PySem PySem.Spec PyProof.Rows
/-- what can be walked by zip: a text, a list, a tuple -/
inductive ZipOf (K : PySem.W.Frag) (H : Hp) : V → List V → Prop
  | text (x : Str) : ZipOf K H (.str x) (x.cps.toList.map fun c => .str ⟨#[c]⟩)
  | list {a : Addr} {xs : List V} (h : SqL K H a xs) : ZipOf K H (.ref a) xs
  | tup {a : Addr} {xs : List V} (h : SqT K H a xs) : ZipOf K H (.ref a) xs
/-- its iterator, once it is begun -/
structure ZipBegun (prog : Program) (w : World) (h : Heap) (u : Value) (xs : List V) (o : Obj) (HH : Heap → Prop) : Prop where
  beg : Begins u o HH
  ok : HH h
  drw : ∃ (n : Nat) (P : Nat → Value → Prop), n = xs.length ∧ (∀ i v, P i v → ∃ x, xs[i]? = some x ∧ RelV x v) ∧ ∀ it, h.objs.size ≤ it → ∃ fp St, it ∈ fp ∧ (∀ b ∈ fp, b = it ∨ b < h.objs.size) ∧ (∀ h' : Heap, (∀ b o, h.get? b = some o → h'.get? b = some o) → h'.get? it = some o → St 0 h') ∧ ∀ A : Around, A.handled = none → Draws prog w A it fp n P St
section
variable {X : Cx} {pins : List (Addr × Obj)} {σ : St} {H : Hp} {s : Shared}
theorem zip_begun (I : Inv X pins σ H s) {x : V} {u : Value} {xs : List V} (r : RelV x u) (h : ZipOf X.K H x xs) : ∃ o HH, ZipBegun X.prog X.w s.heap u xs o HH := by
  cases h with
  | text z =>
    obtain ⟨t, rfl⟩ := (show ∃ t, u = Value.str z t from r)
    refine ⟨_, _, begins_text z t, trivial, z.cps.size, _, by simp, ?_, fun it hit => ⟨[it], _, by simp, fun b hb => .inl (List.mem_singleton.mp hb), fun h' _ e => ⟨_, e, rfl, rfl⟩, fun A hA => Draws.text hA it z t⟩⟩
    rintro i v ⟨c, u, hc, rfl⟩
    refine ⟨.str ⟨#[c]⟩, ?_, _, rfl⟩
    rw [List.getElem?_map, Array.getElem?_toList, hc]
    rfl
  | @list a xs hs =>
    obtain rfl : u = Value.ref a := r
    obtain ⟨its, rv, pl, hz⟩ := I.list hs
    have hl := pl.isList
    refine ⟨_, _, begins_list a its.toArray, hl, its.toArray.size, _, ?_, ?_, fun it hit => ⟨[it, a], _, by simp, fun b hb => ?_, fun h' k e => ⟨⟨_, e, rfl, rfl⟩, hl.at fun o q => k _ _ q⟩, fun A hA => Draws.list hA it a (Nat.ne_of_lt (Nat.lt_of_lt_of_le ?_ hit)) its.toArray⟩⟩
    · rw [List.size_toArray, rv.length]
    · intro i v hv
      rw [List.getElem?_toArray] at hv
      cases e : xs[i]? with
      | none => rw [rv.none_of e] at hv; cases hv
      | some x =>
        obtain ⟨u', hu, ru⟩ := rv.get e
        rw [hu] at hv
        cases hv
        exact ⟨x, rfl, ru⟩
    · rcases List.mem_cons.mp hb with rfl | hb
      · exact .inl rfl
      · rw [List.mem_singleton.mp hb]
        obtain ⟨o, ho, _⟩ := hl
        exact .inr (Heap.lt_size ho)
    · obtain ⟨o, ho, _⟩ := hl
      exact Heap.lt_size ho
  | @tup a xs hs =>
    obtain rfl : u = Value.ref a := r
    obtain ⟨its, rv, pl, hz⟩ := I.tuple hs
    have hl : s.heap.IsTuple a its.toArray := pl
    have lt := pl.lt
    refine ⟨_, _, begins_tuple a its.toArray, hl, its.toArray.size, _, ?_, ?_, fun it hit => ⟨[it, a], _, by simp, fun b hb => ?_, fun h' k e => ⟨⟨_, e, rfl, rfl⟩, hl.at fun o q => k _ _ q⟩, fun A hA => Draws.tuple hA it a (Nat.ne_of_lt (Nat.lt_of_lt_of_le lt hit)) its.toArray⟩⟩
    · rw [List.size_toArray, rv.length]
    · intro i v hv
      rw [List.getElem?_toArray] at hv
      cases e : xs[i]? with
      | none => rw [rv.none_of e] at hv; cases hv
      | some x =>
        obtain ⟨u', hu, ru⟩ := rv.get e
        rw [hu] at hv
        cases hv
        exact ⟨x, rfl, ru⟩
    · rcases List.mem_cons.mp hb with rfl | hb
      · exact .inl rfl
      · rw [List.mem_singleton.mp hb]
        exact .inr lt
end
end L2

set_option Elab.async false
set_option linter.all false
set_option maxRecDepth 100000
set_option maxHeartbeats 4000000
namespace L2
open PySem PySem.Spec PyProof.Rows
theorem relV_one : ∀ {x y : V} {u : Value}, RelV x u → RelV y u → x = y := by
  intro x y u hx hy
  cases x <;> cases y <;> simp only [RelV] at hx hy
  all_goals first
    | (subst hx; cases hy; rfl)
    | (subst hx; cases hy; done)
    | (obtain ⟨t, rfl⟩ := hx; obtain ⟨t', e⟩ := hy; injection e with e1; rw [e1]; done)
    | (obtain ⟨t, rfl⟩ := hx; obtain ⟨t', e⟩ := hy; cases e; done)
    | (obtain ⟨t, rfl⟩ := hx; cases hy; done)
    | (obtain ⟨t, e⟩ := hy; subst hx; cases e; done)
/-- several new objects at once -/
def ovr (H : Hp) (F : Addr → Option HO) : Hp := fun b => match F b with
  | some o => some o
  | none => H b
theorem ovr_some {H : Hp} {F : Addr → Option HO} {b : Addr} {o : HO} (e : F b = some o) : ovr H F b = some o := by unfold ovr; rw [e]
theorem ovr_none {H : Hp} {F : Addr → Option HO} {b : Addr} (e : F b = none) : ovr H F b = H b := by unfold ovr; rw [e]
section
variable {X : Cx} {pins : List (Addr × Obj)} {σ : St} {H : Hp} {s : Shared}
theorem Inv.laidF {h' : Heap} {t' : Nat} {F : Addr → Option HO} (I : Inv X pins σ H s) (k : ∀ b o, s.heap.get? b = some o → h'.get? b = some o) (hF : ∀ b o, F b = some o → s.heap.objs.size ≤ b ∧ ObjOk X.prog X.w (ovr H F) h' b o) :
    Inv X pins σ (ovr H F) { s with heap := h', toks := t' } := by
  have old : ∀ b o, s.heap.get? b = some o → F b = none := fun b o e => by
    cases q : F b with
    | none => rfl
    | some u => exact absurd (Nat.lt_of_lt_of_le (Heap.lt_size e) (hF b u q).1) (Nat.lt_irrefl _)
  have trk : ∀ b u, H b = some u → F b = none := fun b u e => by
    cases q : F b with
    | none => rfl
    | some v => exact absurd (Nat.lt_of_lt_of_le (I.hok.lt e) (hF b v q).1) (Nat.lt_irrefl _)
  refine I.un ⟨fun b o q _ _ _ => k b o q, fun b o q _ _ _ => ⟨o.slots, k b o q⟩, fun b o q n _ => by rw [ovr_none (old b o q)]; exact n, fun b o q _ => ⟨o, k b o q⟩, fun b xs q => by rw [ovr_none (trk _ _ q)]; exact q, fun b o xs q => by rw [ovr_none (trk _ _ q)]; exact q, fun b ps q => ⟨#[], by rw [ovr_none (trk _ _ q), q]; simp⟩⟩ fun b u e => ?_
  cases q : F b with
  | some v =>
    rw [ovr_some q] at e
    cases e
    exact (hF b _ q).2
  | none =>
    rw [ovr_none q] at e
    exact (I.hok b u e).stay (fun c v _ z => k c v z) (fun c z => by rw [ovr_none (trk _ _ z)]; exact z) fun c xs z => by rw [ovr_none (trk _ _ z)]; exact z
def tTupZip (K : PySem.W.Frag) (ta : TA) : TE := fun σ H Q => ta σ H fun vs H1 => ∃ (x y : V) (xs ys : List V), vs = [x, y] ∧ ZipOf K H1 x xs ∧ ZipOf K H1 y ys ∧ min xs.length ys.length ≤ sizeLine ∧
  ∀ (H2 : Hp) (q : Addr) (ts : List Addr), (∀ b o, H1 b = some o → H2 b = some o) → H1 q = none → H2 q = some (.tup (ts.map V.ref)) → ts.length = min xs.length ys.length →
    (∀ (j : Nat) (t : Addr), ts[j]? = some t → ∃ x y, xs[j]? = some x ∧ ys[j]? = some y ∧ H2 t = some (.tup [x, y])) → Q (.ref q) H2
theorem pairs_refs {h : Heap} {lo : Nat} {P1 P2 : Nat → Value → Prop} {acc : List Value} (hp : PairsNew h lo P1 P2 acc) : ∃ ts : List Addr, acc = ts.map Value.ref := by
  suffices ∀ (l : List Value), (∀ v ∈ l, ∃ T, v = .ref T) → ∃ ts : List Addr, l = ts.map Value.ref from this acc fun v hv => by
    obtain ⟨j, hj, e⟩ := List.getElem_of_mem hv
    obtain ⟨T, _, _, h1, _⟩ := hp j v (by rw [List.getElem?_eq_getElem hj, e])
    exact ⟨T, h1⟩
  intro l
  induction l with
  | nil => exact fun _ => ⟨[], rfl⟩
  | cons v l ih =>
    intro h
    obtain ⟨T, rfl⟩ := h v List.mem_cons_self
    obtain ⟨ts, rfl⟩ := ih fun v hv => h v (List.mem_cons_of_mem _ hv)
    exact ⟨T :: ts, rfl⟩
theorem pe_tupZip {e e2 : Expr} {ta : TA} {p p2 pos pos2 : Pos} (hc : X.calm = true) (ha : PA X [e, e2] ta) (hg : Gl X "tuple") (hm : X.mg "tuple" = none) (hgz : Gl X "zip") (hmz : X.mg "zip" = none)
    (hs : starEach [.Call (.Name "zip" p2) [e, e2] [] pos2] X.env = (false, eval (.Call (.Name "zip" p2) [e, e2] [] pos2) X.env) :: starEach [] X.env := by rfl)
    (hs2 : starEach [e, e2] X.env = (false, eval e X.env) :: starEach [e2] X.env := by rfl) (hpl : (backTo pos2 (starEach [e2] X.env)).any (·.1) = false := by rfl) :
    PE X (.Call (.Name "tuple" p) [.Call (.Name "zip" p2) [e, e2] [] pos2] [] pos) (tTupZip X.K ta) := by
  constructor
  intro pins s σ H Q I hq
  have bd : bootBuiltins "tuple" = some (.type "tuple") := by decide +kernel
  refine wpAny_Call_Name_kw (ld_blt I hg hm bd (PyProof.Rows.callWith_type1 ?_ hs rfl))
  rw [hs]
  show wpAny _ _ (spliced ((false, eval (.Call (.Name "zip" p2) [e, e2] [] pos2) X.env) :: backTo pos (starEach [] X.env))) _ _ s
  refine Calls.spliced_cons (Call_ (ld_blt I hgz hmz PyProof.Rows.boot_zip (PyProof.Rows.callWith_type1 (thn (ha.run pos2 pins s σ H _ I hq) fun us s1 hh => ?_) hs2 hpl)))
  obtain ⟨vs, H1, I1, r1, x, y, xs, ys, ex, zx, zy, hz, q⟩ := hh
  subst ex
  obtain ⟨u1, u2, rfl, ra, rb⟩ := vals2 r1
  obtain ⟨o1, HH1, ⟨B1, ok1, n1, P1, e1, rel1, d1⟩⟩ := zip_begun I1 ra zx
  obtain ⟨o2, HH2, ⟨B2, ok2, n2, P2, e2', rel2, d2⟩⟩ := zip_begun I1 rb zy
  have hh := I1.ok.hd hc
  refine zip_begins2 B1 B2 ok1 ok2 fun h1 hzz hTI hTO g1 g2 sz kp => Calls.spliced_nil ?_
  obtain ⟨fp1, St1, m1, f1, st1, D1⟩ := d1 s1.heap.objs.size (Nat.le_refl _)
  obtain ⟨fp2, St2, m2, f2, st2, D2⟩ := d2 (s1.heap.objs.size + 1) (Nat.le_succ _)
  have o1' : ∀ k : Nat, k ≠ 0 → s1.heap.objs.size + k ∉ fp1 := fun k hk hm => by
    rcases f1 _ hm with z | z
    · exact hk (Nat.add_left_cancel (show s1.heap.objs.size + k = s1.heap.objs.size + 0 from z))
    · exact absurd (show s1.heap.objs.size + k < s1.heap.objs.size from z) (by omega)
  have o2' : ∀ k : Nat, k ≠ 1 → s1.heap.objs.size + k ∉ fp2 := fun k hk hm => by
    rcases f2 _ hm with z | z
    · exact hk (Nat.add_left_cancel z)
    · exact absurd (show s1.heap.objs.size + k < s1.heap.objs.size from z) (by omega)
  have ne : ∀ {j k : Nat}, j ≠ k → (s1.heap.objs.size + j : Addr) ≠ s1.heap.objs.size + k := fun h z => h (Nat.add_left_cancel z)
  have Z : ZipSep2 (s1.heap.objs.size + 4) (s1.heap.objs.size + 2) (s1.heap.objs.size + 3) s1.heap.objs.size (s1.heap.objs.size + 1) fp1 fp2 :=
    { TIz := ne (by decide), TOz := ne (by decide), TITO := ne (by decide), TIi1 := ne (k := 0) (by decide), mem1 := m1, zf1 := o1' 4 (by decide), Tf1 := o1' 3 (by decide), TIi2 := ne (by decide), mem2 := m2, zf2 := o2' 4 (by decide), Tf2 := o2' 3 (by decide), sep1_2 := o2' 0 (by decide), sep2_1 := o1' 1 (by decide) }
  have hA : X.A.in1.in1.in1.in1.handled = none := hh
  refine PySem.call_tuple_zip (s := { s1 with heap := h1 }) Z (D1 _ hA) (D2 _ hA) (by rw [e1, e2']; exact hz) hzz hTI ⟨_, _, hTO⟩ (st1 h1 kp g1) (st2 h1 kp g2) (fun b hb => ?_) (fun b hb => ?_) fun h2 tk acc hl hp kp2 => ?_
  · have z5 : (h1.objs.size : Nat) = s1.heap.objs.size + 5 := sz
    show (b : Nat) < h1.objs.size
    rw [z5]
    rcases f1 b hb with z | z
    · rw [z]; exact Nat.lt_add_of_pos_right (by decide)
    · exact Nat.lt_trans z (Nat.lt_add_of_pos_right (by decide))
  · have z5 : (h1.objs.size : Nat) = s1.heap.objs.size + 5 := sz
    show (b : Nat) < h1.objs.size
    rw [z5]
    rcases f2 b hb with z | z
    · rw [z]; exact Nat.add_lt_add_left (by decide) _
    · exact Nat.lt_trans z (Nat.lt_add_of_pos_right (by decide))
  obtain ⟨ts, rfl⟩ := pairs_refs hp
  rw [List.length_map, e1, e2'] at hl
  have far : ∀ {b : Addr} {o : Obj} (k : Nat), s1.heap.get? b = some o → b ≠ s1.heap.objs.size + k := fun {b o} k eb => Nat.ne_of_lt (Nat.lt_of_lt_of_le (Heap.lt_size eb) (Nat.le_add_right _ _))
  have keep : ∀ b o, s1.heap.get? b = some o → h2.get? b = some o := fun b o eb => kp2 b o (far 4 eb) (far 3 eb) (far 0 eb) (far 1 eb) (kp b o eb)
  have hTI2 := kp2 _ _ Z.TIz Z.TITO Z.TIi1 Z.TIi2 hTI
  have big : s1.heap.objs.size ≤ h2.objs.size := Nat.le_trans (Nat.le_add_right _ 2) (Nat.le_of_lt (Heap.lt_size hTI2))
  have hb1 : s1.heap.objs.size ≤ h1.objs.size := by
    have z5 : (h1.objs.size : Nat) = s1.heap.objs.size + 5 := sz
    rw [z5]
    exact Nat.le_add_right _ _
  -- what stands at the new places
  have at_ : ∀ j t, ts[j]? = some t → ∃ x y v1 v2, xs[j]? = some x ∧ ys[j]? = some y ∧ RelV x v1 ∧ RelV y v2 ∧ s1.heap.objs.size ≤ t ∧ h2.get? t = some { cls := .type "tuple", data := .seq #[v1, v2] } := fun j t ht => by
    obtain ⟨T, v1, v2, q1, q2, q3, q4, q5⟩ := hp j (.ref t) (by rw [List.getElem?_map, ht]; rfl)
    cases q1
    obtain ⟨x', hx, rx⟩ := rel1 j v1 q3
    obtain ⟨y', hy, ry⟩ := rel2 j v2 q4
    exact ⟨x', y', v1, v2, hx, hy, rx, ry, Nat.le_trans hb1 q2, q5⟩
  let F : Addr → Option HO := fun b => if b = h2.objs.size then some (.tup (ts.map V.ref)) else open Classical in if h : b ∈ ts ∧ ∃ p : V × V, ∃ v1 v2, RelV p.1 v1 ∧ RelV p.2 v2 ∧ h2.get? b = some { cls := .type "tuple", data := .seq #[v1, v2] } then some (.tup [h.2.choose.1, h.2.choose.2]) else none
  have pushK : ∀ b o, h2.get? b = some o → (h2.push { cls := .type "tuple", data := .seq ((ts.map Value.ref).toArray) }).get? b = some o := fun b o e => Heap.get?_push_of_some _ e
  have small : ∀ t ∈ ts, t ≠ h2.objs.size := fun t ht => by
    obtain ⟨j, hj, e⟩ := List.getElem_of_mem ht
    obtain ⟨_, _, _, _, _, _, _, _, _, q⟩ := at_ j t (by rw [List.getElem?_eq_getElem hj, e])
    exact Nat.ne_of_lt (Heap.lt_size q)
  have FT : ∀ (j : Nat) (t : Addr), ts[j]? = some t → ∃ x y, xs[j]? = some x ∧ ys[j]? = some y ∧ F t = some (.tup [x, y]) := fun j t ht => by
    obtain ⟨x', y', v1, v2, hx, hy, rx, ry, _, hg⟩ := at_ j t ht
    have hm : t ∈ ts := List.mem_of_getElem? ht
    have hex : t ∈ ts ∧ ∃ p : V × V, ∃ v1 v2, RelV p.1 v1 ∧ RelV p.2 v2 ∧ h2.get? t = some { cls := .type "tuple", data := .seq #[v1, v2] } := ⟨hm, (x', y'), v1, v2, rx, ry, hg⟩
    refine ⟨x', y', hx, hy, ?_⟩
    have e : F t = some (.tup [hex.2.choose.1, hex.2.choose.2]) := by
      show (if t = h2.objs.size then _ else _) = _
      rw [if_neg (small t hm), dif_pos hex]
    obtain ⟨w1, w2, r1', r2', hg'⟩ := hex.2.choose_spec
    rw [hg] at hg'
    simp at hg'
    obtain ⟨rfl, rfl⟩ := hg'
    rw [e, relV_one r1' rx, relV_one r2' ry]
  have FI : ∀ b o, F b = some o → (b = h2.objs.size ∧ o = .tup (ts.map V.ref)) ∨ (b ∈ ts ∧ ∃ (x y : V) (v1 v2 : Value), o = .tup [x, y] ∧ RelV x v1 ∧ RelV y v2 ∧ h2.get? b = some { cls := .type "tuple", data := .seq #[v1, v2] }) := fun b o e => by
    by_cases hb : b = h2.objs.size
    · have e' : F b = some (.tup (ts.map V.ref)) := if_pos hb
      rw [e'] at e
      cases e
      exact .inl ⟨hb, rfl⟩
    · by_cases hex : b ∈ ts ∧ ∃ p : V × V, ∃ v1 v2, RelV p.1 v1 ∧ RelV p.2 v2 ∧ h2.get? b = some { cls := .type "tuple", data := .seq #[v1, v2] }
      · have e' : F b = some (.tup [hex.2.choose.1, hex.2.choose.2]) := by
          show (if b = h2.objs.size then _ else _) = _
          rw [if_neg hb, dif_pos hex]
        rw [e'] at e
        cases e
        obtain ⟨w1, w2, r1', r2', hg'⟩ := hex.2.choose_spec
        exact .inr ⟨hex.1, _, _, w1, w2, rfl, r1', r2', hg'⟩
      · have e' : F b = none := by
          show (if b = h2.objs.size then _ else _) = _
          rw [if_neg hb, dif_neg hex]
        rw [e'] at e
        cases e
  have lo : ∀ b o, F b = some o → s1.heap.objs.size ≤ b := fun b o e => by
    rcases FI b o e with ⟨rfl, _⟩ | ⟨hm, _⟩
    · exact big
    · obtain ⟨j, hj, ej⟩ := List.getElem_of_mem hm
      obtain ⟨_, _, _, _, _, _, _, _, q, _⟩ := at_ j b (by rw [List.getElem?_eq_getElem hj, ej])
      exact q
  refine ⟨.ref h2.objs.size, ovr H1 F, I1.laidF (t' := tk) (fun b o e => pushK b o (keep b o e)) (fun b o e => ⟨lo b o e, ?_⟩), rfl, q _ _ ts (fun b o e => ?_) (I1.hok.fresh big) (ovr_some (if_pos rfl)) hl fun j t ht => ?_⟩
  · rcases FI b o e with ⟨rfl, rfl⟩ | ⟨hm, x', y', v1, v2, rfl, rx, ry, hg⟩
    · refine ⟨by rw [List.length_map, hl]; exact hz, ts.map Value.ref, ?_, ⟨_, Heap.get?_push_size _ rfl, rfl, 0, rfl⟩⟩
      have aux : ∀ l : List Addr, Vals (l.map V.ref) (l.map Value.ref) := fun l => by
        induction l with
        | nil => exact .nil
        | cons a l ih => exact .cons rfl ih
      exact aux ts
    · exact ⟨by show 2 ≤ sizeLine; decide, [v1, v2], .cons rx (.cons ry .nil), ⟨_, pushK _ _ hg, rfl, 0, rfl⟩⟩
  · rw [ovr_none]
    · exact e
    · cases qf : F b with
      | none => rfl
      | some v => exact absurd (Nat.lt_of_lt_of_le (I1.hok.lt e) (lo b v qf)) (Nat.lt_irrefl _)
  · obtain ⟨x', y', hx, hy, hf⟩ := FT j t ht
    exact ⟨x', y', hx, hy, ovr_some hf⟩
end
end L2

set_option Elab.async false
set_option linter.all false
set_option maxRecDepth 100000
set_option maxHeartbeats 4000000
namespace SB
open PySem L2
theorem dp_tupIs {K : PySem.W.Frag} {H : Hp} {v : V} {ds : List PyData} (h : Dp K H v (.tuple ds)) : ∃ a xs, v = .ref a ∧ SqT K H a xs ∧ DpAll K H xs ds := by
  cases h with
  | tup sq al => exact ⟨_, _, rfl, sq, al⟩
/-! ### expressions whose value is data, and that leave what stands -/
def GivesD (K : PySem.W.Frag) (σ : St) (H0 : Hp) (te : TE) (d : PyData) : Prop := ∀ H Q, Same H0 H → (∀ v H', Same H H' → Dp K H' v d → Q v H') → te σ H Q
def GivesDs (K : PySem.W.Frag) (σ : St) (H0 : Hp) (ta : TA) (ds : List PyData) : Prop := ∀ H Q, Same H0 H → (∀ vs H', Same H H' → DpAll K H' vs ds → Q vs H') → ta σ H Q
def GivesL (K : PySem.W.Frag) (σ : St) (H0 : Hp) (te : TE) (ds : List PyData) : Prop := ∀ H Q, Same H0 H → (∀ q vs H', Same H H' → H' q = some (.lst vs) → DpAll K H' vs ds → Q (.ref q) H') → te σ H Q
def GivesI (σ : St) (H0 : Hp) (te : TE) (i : Int) : Prop := ∀ H Q, Same H0 H → Q (.int i) H → te σ H Q
def GivesP (σ : St) (H0 : Hp) (to : TO) (i : Option Int) : Prop := ∀ H Q, Same H0 H → Q i H → to σ H Q
section
variable {K : PySem.W.Frag} {σ : St} {H0 : Hp} {te t1 t2 : TE} {ta : TA} {ds es : List PyData} {d e : PyData}
theorem gd_var {i : Nat} {v : V} (h : σ[i]? = some (some v)) (dv : Dp K H0 v d) : GivesD K σ H0 (tVar i) d := fun H Q s k => ⟨v, h, k v H (Same.refl _) (dp_stay s dv)⟩
theorem gd_str (x : Str) : GivesD K σ H0 (tC (.str x)) (.str x) := fun H Q s k => k _ H (Same.refl _) (.str x)
theorem gd_int (i : Int) : GivesD K σ H0 (tC (.int i)) (.int i) := fun H Q s k => k _ H (Same.refl _) (.int i)
theorem gd_bl (b : Bool) : GivesD K σ H0 (tC (.bl b)) (.bool b) := fun H Q s k => k _ H (Same.refl _) (.bl b)
theorem gd_non : GivesD K σ H0 (tC .non) .none := fun H Q s k => k _ H (Same.refl _) .non
theorem gds_nil : GivesDs K σ H0 tNil [] := fun H Q s k => k [] H (Same.refl _) .nil
theorem gds_cons (h : GivesD K σ H0 te d) (t : GivesDs K σ H0 ta ds) : GivesDs K σ H0 (tCons te ta) (d :: ds) := fun H Q s k =>
  h H _ s fun v H1 s1 dv => t H1 _ (s.trans s1) fun vs H2 s2 dvs => k _ H2 (s1.trans s2) (.cons (dp_stay s2 dv) dvs)
theorem gd_tup (t : GivesDs K σ H0 ta ds) (hl : ds.length ≤ 1000) : GivesD K σ H0 (tTup ta) (.tuple ds) := fun H Q s k =>
  t H _ s fun vs H1 s1 dvs => ⟨by rw [dvs.len, sizeLine_eq]; omega, fun p hp => k _ _ (s1.trans (same_new hp)) (dp_tup upd_same (dpAll_stay (same_new hp) dvs))⟩
theorem gl_lst (t : GivesDs K σ H0 ta ds) (hl : ds.length ≤ 1000) : GivesL K σ H0 (tLst ta) ds := fun H Q s k =>
  t H _ s fun vs H1 s1 dvs => ⟨by rw [dvs.len, sizeLine_eq]; omega, fun p hp => k p vs _ (s1.trans (same_new hp)) upd_same (dpAll_stay (same_new hp) dvs)⟩
theorem gl_d (h : GivesL K σ H0 te ds) : GivesD K σ H0 te (.list ds) := fun H Q s k => h H _ s fun q vs H1 s1 hq dvs => k _ H1 s1 (dp_lst hq dvs)
theorem gl_var {i : Nat} {q : Addr} {vs : List V} (h : σ[i]? = some (some (.ref q))) (hq : H0 q = some (.lst vs)) (dv : DpAll K H0 vs ds) : GivesL K σ H0 (tVar i) ds := fun H Q s k => ⟨_, h, k q vs H (Same.refl _) (s _ _ hq) (dpAll_stay s dv)⟩
theorem gl_cat (h1 : GivesL K σ H0 t1 ds) (h2 : GivesL K σ H0 t2 es) (hl : ds.length + es.length ≤ 1000) : GivesL K σ H0 (tOp rCat t1 t2) (ds ++ es) := fun H Q s k =>
  h1 H _ s fun q1 v1 H1 s1 e1 d1 => h2 H1 _ (s.trans s1) fun q2 v2 H2 s2 e2 d2 => ⟨q1, q2, v1, v2, rfl, rfl, s2 _ _ e1, e2, by rw [d1.len, d2.len, sizeLine_eq]; omega, fun p hp =>
    k p _ _ (s1.trans (s2.trans (same_new hp))) upd_same (dpAll_app (dpAll_stay (same_new hp) (dpAll_stay s2 d1)) (dpAll_stay (same_new hp) d2))⟩
theorem gl_list (h : GivesD K σ H0 te (.tuple ds)) : GivesL K σ H0 (tCB (fun xs H Q => ∃ p ys, xs = [.ref p] ∧ (SqL K H p ys ∨ SqT K H p ys) ∧ ∀ l, H l = none → Q (.ref l) (upd H l (.lst ys))) (tCons te tNil)) ds := fun H Q s k =>
  h H _ s fun v H1 s1 dv => by
    obtain ⟨a, xs, rfl, sq, al⟩ := dp_tupIs dv
    exact ⟨a, xs, rfl, .inr sq, fun l hl => k l xs _ (s1.trans (same_new hl)) upd_same (dpAll_stay (same_new hl) al)⟩
theorem gd_cat (h1 : GivesD K σ H0 t1 (.tuple ds)) (h2 : GivesD K σ H0 t2 (.tuple es)) (hl : ds.length + es.length ≤ 1000) : GivesD K σ H0 (tOp (rCatA K) t1 t2) (.tuple (ds ++ es)) := fun H Q s k =>
  h1 H _ s fun v1 H1 s1 e1 => h2 H1 _ (s.trans s1) fun v2 H2 s2 e2 => by
    have e1' := dp_stay s2 e1
    have e2' := e2
    obtain ⟨a, xs, rfl, sa, la⟩ := dp_tupIs e1'
    obtain ⟨b, ys, rfl, sb, lb⟩ := dp_tupIs e2
    refine ⟨a, b, xs, ys, rfl, rfl, sa, sb, by rw [la.len, lb.len, sizeLine_eq]; omega, fun h => ?_, fun h h' => ?_, fun h h' p hp => ?_⟩
    · subst h
      cases la
      exact k _ _ (s1.trans s2) e2'
    · subst h'
      cases lb
      rw [List.append_nil] at k
      exact k _ _ (s1.trans s2) e1'
    · exact k _ _ (s1.trans (s2.trans (same_new hp))) (dp_tup upd_same (dpAll_app (dpAll_stay (same_new hp) la) (dpAll_stay (same_new hp) lb)))
def cutD (xs : List PyData) (lo hi : Option Int) : List PyData := (xs.drop (HT.sIx xs.length 0 lo)).take (HT.sIx xs.length xs.length hi - HT.sIx xs.length 0 lo)
theorem dpAll_drop {H : Hp} : ∀ {vs : List V} {ds : List PyData} (n : Nat), DpAll K H vs ds → DpAll K H (vs.drop n) (ds.drop n)
  | _, _, 0, h => h
  | _, _, _ + 1, .nil => .nil
  | _, _, n + 1, .cons _ t => dpAll_drop n t
theorem dpAll_take {H : Hp} : ∀ {vs : List V} {ds : List PyData} (n : Nat), DpAll K H vs ds → DpAll K H (vs.take n) (ds.take n)
  | _, _, 0, h => by
    rw [List.take_zero, List.take_zero]
    exact .nil
  | _, _, _ + 1, .nil => .nil
  | _, _, n + 1, .cons h t => .cons h (dpAll_take n t)
theorem cutD_whole {xs : List PyData} {lo hi : Option Int} (h : HT.sIx xs.length 0 lo = 0 ∧ HT.sIx xs.length xs.length hi = xs.length) : cutD xs lo hi = xs := by
  unfold cutD
  rw [h.1, h.2]
  simp
theorem gp_none : GivesP σ H0 tNoPart none := fun H Q s k => k
theorem gi_c (i : Int) : GivesI σ H0 (tC (.int i)) i := fun H Q s k => k
theorem gi_neg {i : Int} (h : GivesI σ H0 te i) : GivesI σ H0 (tUn (rU fun i => .int (-i)) te) (-i) := fun H Q s k => h H _ s ⟨i, rfl, k⟩
theorem gp_some {i : Int} (h : GivesI σ H0 te i) : GivesP σ H0 (tPart te) (some i) := fun H Q s k => h H _ s ⟨i, rfl, k⟩
theorem gd_cut {lo hi : Option Int} {tl th : TO} (h : GivesD K σ H0 te (.tuple ds)) (hl : GivesP σ H0 tl lo) (hh : GivesP σ H0 th hi) : GivesD K σ H0 (L2.tSl (rSlA K) te tl th) (.tuple (cutD ds lo hi)) := fun H Q s k =>
  h H _ s fun v H1 s1 e1 => hl H1 _ (s.trans s1) (hh H1 _ (s.trans s1) (by
    have e2 := e1
    obtain ⟨a, xs, rfl, sa, la⟩ := dp_tupIs e1
    have hlen := la.len
    refine ⟨a, xs, rfl, sa, fun hw => ?_, fun hw p hp => ?_⟩
    · rw [hlen] at hw
      rw [cutD_whole hw] at k
      exact k _ _ s1 e2
    · refine k _ _ (s1.trans (same_new hp)) (dp_tup upd_same ?_)
      unfold cutV cutD
      rw [hlen]
      exact dpAll_take _ (dpAll_drop _ (dpAll_stay (same_new hp) la))))
theorem gd_rep {k : Int} (h : GivesD K σ H0 t1 (.tuple ds)) (hk : GivesI σ H0 t2 k) (hne : ds ≠ []) (hl : ds.length ≤ 1000) (h2 : 2 ≤ k) (h3 : k ≤ 1000) : GivesD K σ H0 (tOp (rRepT K) t1 t2) (.tuple (List.replicate k.toNat ds).flatten) := fun H Q s q =>
  h H _ s fun v H1 s1 e1 => hk H1 _ (s.trans s1) (by
    obtain ⟨a, xs, rfl, sa, la⟩ := dp_tupIs e1
    have ln := la.len
    refine ⟨a, k, xs, rfl, rfl, sa, fun z => hne (by subst z; cases la; rfl), h2, h3, by omega, fun p hp => q _ _ (s1.trans (same_new hp)) (dp_tup upd_same ?_)⟩
    have : ∀ n : Nat, DpAll K (upd H1 p (.tup (List.replicate k.toNat xs).flatten)) (List.replicate n xs).flatten (List.replicate n ds).flatten := fun n => by
      induction n with
      | zero => exact .nil
      | succ n ih =>
        rw [List.replicate_succ, List.replicate_succ, List.flatten_cons, List.flatten_cons]
        exact dpAll_app (dpAll_stay (same_new hp) la) ih
    exact this _)
theorem gd_pow {a b : Int} (h : GivesI σ H0 t1 a) (h2 : GivesI σ H0 t2 b) {C : Int → Int → Prop} {g : Int → Int → V} (c : C a b) {d : PyData} (hg : ∀ H, Dp K H (g a b) d) : GivesD K σ H0 (tOp (rI C g) t1 t2) d := fun H Q s k =>
  h H _ s (h2 H _ s ⟨a, b, rfl, rfl, c, k _ H (Same.refl _) (hg H)⟩)
/-- used at a place -/
theorem gd_use {H : Hp} {Q : VK} (h : GivesD K σ H te d) (k : ∀ v H', Same H H' → Dp K H' v d → Q v H') : te σ H Q := h H Q (Same.refl _) k
theorem gl_use {H : Hp} {Q : VK} (h : GivesL K σ H te ds) (k : ∀ q vs H', Same H H' → H' q = some (.lst vs) → DpAll K H' vs ds → Q (.ref q) H') : te σ H Q := h H Q (Same.refl _) k
end
end SB

set_option Elab.async false
set_option linter.all false
set_option maxRecDepth 100000
set_option maxHeartbeats 4000000
namespace SB
open PySem L2
/-! ### data that shows as a short text -/
def tidyLeaf : PyData → Bool
  | .none => true
  | .bool _ => true
  | .int i => decide (i.natAbs < 10 ^ 31)
  | .str x => decide (x.length ≤ 100) && PyData.strOk x
  | _ => false
def tidy : Nat → PyData → Bool
  | 0, d => tidyLeaf d
  | n + 1, .list xs => decide (xs.length ≤ 7) && xs.all (tidy n)
  | n + 1, .tuple xs => decide (xs.length ≤ 7) && xs.all (tidy n)
  | _ + 1, d => tidyLeaf d
theorem tidyLeaf_any {n : Nat} {d : PyData} (h : tidyLeaf d = true) : tidy n d = true := by
  cases n with
  | zero => exact h
  | succ n => cases d <;> first | exact h | (simp [tidyLeaf] at h)
theorem tidy_up : ∀ {n : Nat} {d : PyData}, tidy n d = true → tidy (n + 1) d = true
  | 0, d, h => tidyLeaf_any h
  | n + 1, .list xs, h => by
    rw [tidy, Bool.and_eq_true] at h ⊢
    exact ⟨h.1, List.all_eq_true.mpr fun x hx => tidy_up (List.all_eq_true.mp h.2 x hx)⟩
  | n + 1, .tuple xs, h => by
    rw [tidy, Bool.and_eq_true] at h ⊢
    exact ⟨h.1, List.all_eq_true.mpr fun x hx => tidy_up (List.all_eq_true.mp h.2 x hx)⟩
  | n + 1, .none, h => h
  | n + 1, .bool _, h => h
  | n + 1, .int _, h => h
  | n + 1, .str _, h => h
  | n + 1, .dict _, h => h
theorem log2_lt {i : Int} (h : i.natAbs < 10 ^ 31) : i.natAbs.log2 < 103 := by
  by_cases h0 : i.natAbs = 0
  · rw [h0]
    decide
  · exact (Nat.log2_lt h0).mpr (Nat.lt_of_lt_of_le h (by decide))
def tw : Nat → Nat
  | 0 => 104
  | n + 1 => 7 * (tw n + 1)
theorem tw_le (n : Nat) : 104 ≤ tw n := by
  induction n with
  | zero => exact Nat.le_refl _
  | succ n ih =>
    show 104 ≤ 7 * (tw n + 1)
    omega
structure Tidy (n : Nat) (d : PyData) : Prop where
  sh : d.showable = true
  cl : d.canLay0 = true
  is : d.intsShort 40 = true
  we : d.weight ≤ tw n
  de : d.depth ≤ n
  sm : smallD d = true
  nd : d.hasDict = false
theorem Tidy.le {n : Nat} {d : PyData} (t : Tidy n d) : d.leavesShort 40 = true := PyData.leavesShort_of_canLay0 40 d t.cl t.is
theorem Tidy.shaped {n : Nat} {d : PyData} (t : Tidy n d) (h : n ≤ 60) : SeqAt.shaped d = true := by
  unfold SeqAt.shaped
  rw [t.cl, Bool.true_and]
  exact decide_eq_true (Nat.le_trans t.de (by omega))
theorem tidyLeaf_is {n : Nat} {d : PyData} (h : tidyLeaf d = true) : Tidy n d := by
  have hw := tw_le n
  cases d with
  | none => exact ⟨rfl, rfl, rfl, Nat.zero_le _, Nat.zero_le _, rfl, rfl⟩
  | bool b => exact ⟨rfl, rfl, rfl, Nat.zero_le _, Nat.zero_le _, rfl, rfl⟩
  | int i =>
    have hi : i.natAbs < 10 ^ 31 := of_decide_eq_true h
    have hl := log2_lt hi
    refine ⟨decide_eq_true (by omega), rfl, decide_eq_true ?_, ?_, Nat.zero_le _, rfl, rfl⟩
    · show (Str.ofString (toString i)).length ≤ 40
      rw [ofString_length]
      have := int_text_length_le10 (a := i) (k := 31) (by decide) hi
      omega
    · show (if i == 0 then 0 else i.natAbs.log2 + 1) ≤ tw n
      split <;> omega
  | str x =>
    have hx : (decide (x.length ≤ 100) && PyData.strOk x) = true := h
    rw [Bool.and_eq_true] at hx
    have h1 : x.length ≤ 100 := of_decide_eq_true hx.1
    refine ⟨rfl, hx.2, rfl, ?_, Nat.zero_le _, decide_eq_true (by omega), rfl⟩
    show x.cps.size ≤ tw n
    have : x.length = x.cps.size := rfl
    omega
  | list xs => cases h
  | tuple xs => cases h
  | dict xs => cases h
theorem tidyAll_is {n : Nat} (ih : ∀ d, tidy n d = true → Tidy n d) : ∀ {ds : List PyData}, ds.all (tidy n) = true → PyData.showableAll ds = true ∧ PyData.canLayAll0 ds = true ∧ PyData.intsShortAll 40 ds = true ∧ PyData.weightAll ds ≤ ds.length * (tw n + 1) ∧ PyData.depthAll ds ≤ n ∧ smallDs ds = true ∧ PyData.hasDictAll ds = false
  | [], _ => ⟨rfl, rfl, rfl, Nat.zero_le _, Nat.zero_le _, rfl, rfl⟩
  | d :: ds, h => by
    rw [List.all_cons, Bool.and_eq_true] at h
    have t := ih d h.1
    obtain ⟨a1, a2, a7, a3, a4, a5, a6⟩ := tidyAll_is ih h.2
    refine ⟨?_, ?_, ?_, ?_, ?_, ?_, ?_⟩
    · rw [PyData.showableAll, t.sh, a1]; rfl
    · rw [PyData.canLayAll0, t.cl, a2]; rfl
    · rw [PyData.intsShortAll, t.is, a7]; rfl
    · rw [PyData.weightAll, List.length_cons, Nat.succ_mul]
      have := t.we
      omega
    · rw [PyData.depthAll]
      have := t.de
      omega
    · rw [smallDs, t.sm, a5]; rfl
    · rw [PyData.hasDictAll, t.nd, a6]; rfl
theorem tidy_is : ∀ (n : Nat) (d : PyData), tidy n d = true → Tidy n d
  | 0, d, h => tidyLeaf_is h
  | n + 1, .list xs, h => by
    rw [tidy, Bool.and_eq_true] at h
    obtain ⟨a1, a2, a7, a3, a4, a5, a6⟩ := tidyAll_is (tidy_is n) h.2
    have hl : xs.length ≤ 7 := of_decide_eq_true h.1
    refine ⟨a1, a2, a7, Nat.le_trans a3 (Nat.mul_le_mul_right _ hl), ?_, a5, a6⟩
    rw [PyData.depth]
    omega
  | n + 1, .tuple xs, h => by
    rw [tidy, Bool.and_eq_true] at h
    obtain ⟨a1, a2, a7, a3, a4, a5, a6⟩ := tidyAll_is (tidy_is n) h.2
    have hl : xs.length ≤ 7 := of_decide_eq_true h.1
    refine ⟨a1, a2, a7, Nat.le_trans a3 (Nat.mul_le_mul_right _ hl), ?_, a5, a6⟩
    rw [PyData.depth]
    omega
  | n + 1, .none, h => tidyLeaf_is h
  | n + 1, .bool _, h => tidyLeaf_is h
  | n + 1, .int _, h => tidyLeaf_is h
  | n + 1, .str _, h => tidyLeaf_is h
  | n + 1, .dict _, h => tidyLeaf_is h
theorem tidy_len {d : PyData} (h : tidy 4 d = true) : d.shown.length ≤ sizeLine := by
  have t := tidy_is 4 d h
  have h1 := PyData.shown_le 40 (by decide) d t.le
  have h2 : tw 4 = 252504 + 0 := by decide
  have h3 := t.we
  rw [sizeLine_eq]
  omega
end SB

set_option Elab.async false
set_option linter.all false
set_option maxRecDepth 100000
set_option maxHeartbeats 4000000
namespace SB
open PySem L2
def top (i : Nat) : Stmt := PySem.Challenge.pw_samebytes_k02_objects_and_their_order.main.body.getD i (.Pass ⟨0, 0, 0, 0⟩)
abbrev s_is_made_of : Stmt := top 8
theorem sc_is_made_of : FnScope ["text", "signs", "sign"] ["text", "signs"] (defScope s_is_made_of) := ⟨rfl, rfl, rfl, by decide +kernel, rfl, by decide +kernel, by decide +kernel⟩
abbrev s_is_name : Stmt := top 9
theorem sc_is_name : FnScope ["value"] ["value"] (defScope s_is_name) := ⟨rfl, rfl, rfl, by decide +kernel, rfl, by decide +kernel, by decide +kernel⟩
abbrev s_is_mark : Stmt := top 10
theorem sc_is_mark : FnScope ["value"] ["value"] (defScope s_is_mark) := ⟨rfl, rfl, rfl, by decide +kernel, rfl, by decide +kernel, by decide +kernel⟩
abbrev s_is_integer : Stmt := top 11
theorem sc_is_integer : FnScope ["value"] ["value"] (defScope s_is_integer) := ⟨rfl, rfl, rfl, by decide +kernel, rfl, by decide +kernel, by decide +kernel⟩
abbrev s_is_plain : Stmt := top 12
theorem sc_is_plain : FnScope ["value"] ["value"] (defScope s_is_plain) := ⟨rfl, rfl, rfl, by decide +kernel, rfl, by decide +kernel, by decide +kernel⟩
abbrev s_is_reference : Stmt := top 13
theorem sc_is_reference : FnScope ["value"] ["value"] (defScope s_is_reference) := ⟨rfl, rfl, rfl, by decide +kernel, rfl, by decide +kernel, by decide +kernel⟩
abbrev s_is_worth : Stmt := top 14
theorem sc_is_worth : FnScope ["value"] ["value"] (defScope s_is_worth) := ⟨rfl, rfl, rfl, by decide +kernel, rfl, by decide +kernel, by decide +kernel⟩
abbrev s_rank : Stmt := top 15
theorem sc_rank : FnScope ["worth"] ["worth"] (defScope s_rank) := ⟨rfl, rfl, rfl, by decide +kernel, rfl, by decide +kernel, by decide +kernel⟩
abbrev s_are_different : Stmt := top 16
theorem sc_are_different : FnScope ["values", "value"] ["values"] (defScope s_are_different) := ⟨rfl, rfl, rfl, by decide +kernel, rfl, by decide +kernel, by decide +kernel⟩
abbrev s_are_pairs : Stmt := top 17
theorem sc_are_pairs : FnScope ["value", "pair"] ["value"] (defScope s_are_pairs) := ⟨rfl, rfl, rfl, by decide +kernel, rfl, by decide +kernel, by decide +kernel⟩
abbrev s_are_fields : Stmt := top 18
theorem sc_are_fields : FnScope ["value", "pair"] ["value"] (defScope s_are_fields) := ⟨rfl, rfl, rfl, by decide +kernel, rfl, by decide +kernel, by decide +kernel⟩
abbrev s_are_entries : Stmt := top 19
theorem sc_are_entries : FnScope ["value", "pair"] ["value"] (defScope s_are_entries) := ⟨rfl, rfl, rfl, by decide +kernel, rfl, by decide +kernel, by decide +kernel⟩
abbrev s_are_worths : Stmt := top 20
theorem sc_are_worths : FnScope ["value", "one"] ["value"] (defScope s_are_worths) := ⟨rfl, rfl, rfl, by decide +kernel, rfl, by decide +kernel, by decide +kernel⟩
abbrev s_is_object : Stmt := top 21
theorem sc_is_object : FnScope ["value"] ["value"] (defScope s_is_object) := ⟨rfl, rfl, rfl, by decide +kernel, rfl, by decide +kernel, by decide +kernel⟩
abbrev s_in_order : Stmt := top 22
theorem sc_in_order : FnScope ["thing"] ["thing"] (defScope s_in_order) := ⟨rfl, rfl, rfl, by decide +kernel, rfl, by decide +kernel, by decide +kernel⟩
abbrev s_check_object : Stmt := top 23
theorem sc_check_object : FnScope ["thing"] ["thing"] (defScope s_check_object) := ⟨rfl, rfl, rfl, by decide +kernel, rfl, by decide +kernel, by decide +kernel⟩
abbrev s_ordered : Stmt := top 24
theorem sc_ordered : FnScope ["thing"] ["thing"] (defScope s_ordered) := ⟨rfl, rfl, rfl, by decide +kernel, rfl, by decide +kernel, by decide +kernel⟩
abbrev s_l_pool : Stmt := top 26
theorem sc_l_pool : FnScope ["_law_script", "_law_k", "_law_cell", "_law_great", "_law_small", "_law_mixed_here"] ["_law_script", "_law_k"] (defScope s_l_pool) := ⟨rfl, rfl, rfl, by decide +kernel, rfl, by decide +kernel, by decide +kernel⟩
abbrev s_l_draw : Stmt := top 27
theorem sc_l_draw : FnScope ["_law_pool_here", "_law_many", "_law_found"] ["_law_pool_here", "_law_many"] (defScope s_l_draw) := ⟨rfl, rfl, rfl, by decide +kernel, rfl, by decide +kernel, by decide +kernel⟩
abbrev s_l_mixed : Stmt := top 28
theorem sc_l_mixed : FnScope ["_law_pool_here", "_law_things", "_law_left", "_law_found", "_law_thing", "_law_at"] ["_law_pool_here", "_law_things"] (defScope s_l_mixed) := ⟨rfl, rfl, rfl, by decide +kernel, rfl, by decide +kernel, by decide +kernel⟩
abbrev s_l_worth : Stmt := top 29
theorem sc_l_worth : FnScope ["_law_pool_here", "_law_marks", "_law_plain"] ["_law_pool_here", "_law_marks"] (defScope s_l_worth) := ⟨rfl, rfl, rfl, by decide +kernel, rfl, by decide +kernel, by decide +kernel⟩
abbrev s_l_object : Stmt := top 30
theorem sc_l_object : FnScope ["_law_pool_here", "_law_kind", "_law_worths", "_law_different", "_law_entries", "_law_at", "_law_worth_here", "_law_other"] ["_law_pool_here", "_law_kind", "_law_worths"] (defScope s_l_object) := ⟨rfl, rfl, rfl, by decide +kernel, rfl, by decide +kernel, by decide +kernel⟩
abbrev s_l_parts : Stmt := top 31
theorem sc_l_parts : FnScope ["_law_thing"] ["_law_thing"] (defScope s_l_parts) := ⟨rfl, rfl, rfl, by decide +kernel, rfl, by decide +kernel, by decide +kernel⟩
abbrev s_l_shuffled : Stmt := top 32
theorem sc_l_shuffled : FnScope ["_law_pool_here", "_law_thing", "_law_parts_here"] ["_law_pool_here", "_law_thing"] (defScope s_l_shuffled) := ⟨rfl, rfl, rfl, by decide +kernel, rfl, by decide +kernel, by decide +kernel⟩
abbrev s_l_rank : Stmt := top 33
theorem sc_l_rank : FnScope ["_law_worth_here"] ["_law_worth_here"] (defScope s_l_rank) := ⟨rfl, rfl, rfl, by decide +kernel, rfl, by decide +kernel, by decide +kernel⟩
abbrev s_l_due : Stmt := top 34
theorem sc_l_due : FnScope ["_law_thing"] ["_law_thing"] (defScope s_l_due) := ⟨rfl, rfl, rfl, by decide +kernel, rfl, by decide +kernel, by decide +kernel⟩
abbrev s_l_told : Stmt := top 35
theorem sc_l_told : FnScope ["_law_thing", "e"] ["_law_thing"] (defScope s_l_told) := ⟨rfl, rfl, rfl, by decide +kernel, rfl, by decide +kernel, by decide +kernel⟩
abbrev s_l_bent : Stmt := top 36
theorem sc_l_bent : FnScope ["_law_thing", "_law_number", "_law_parts_here", "_law_some"] ["_law_thing", "_law_number"] (defScope s_l_bent) := ⟨rfl, rfl, rfl, by decide +kernel, rfl, by decide +kernel, by decide +kernel⟩
abbrev s_law : Stmt := top 37
theorem sc_law : FnScope ["_law_script", "_law_k", "_law_pool_here", "_law_kind", "_law_worths", "_law_thing", "_law_mixed_here", "_law_other", "_law_many", "_law_longer", "_law_turn"] ["_law_script"] (defScope s_law) := ⟨rfl, rfl, rfl, by decide +kernel, rfl, by decide +kernel, by decide +kernel⟩
structure Ad where
  f_is_made_of : Addr
  d_is_made_of : FuncData
  f_is_name : Addr
  d_is_name : FuncData
  f_is_mark : Addr
  d_is_mark : FuncData
  f_is_integer : Addr
  d_is_integer : FuncData
  f_is_plain : Addr
  d_is_plain : FuncData
  f_is_reference : Addr
  d_is_reference : FuncData
  f_is_worth : Addr
  d_is_worth : FuncData
  f_rank : Addr
  d_rank : FuncData
  f_are_different : Addr
  d_are_different : FuncData
  f_are_pairs : Addr
  d_are_pairs : FuncData
  f_are_fields : Addr
  d_are_fields : FuncData
  f_are_entries : Addr
  d_are_entries : FuncData
  f_are_worths : Addr
  d_are_worths : FuncData
  f_is_object : Addr
  d_is_object : FuncData
  f_in_order : Addr
  d_in_order : FuncData
  f_check_object : Addr
  d_check_object : FuncData
  f_ordered : Addr
  d_ordered : FuncData
  f_l_pool : Addr
  d_l_pool : FuncData
  f_l_draw : Addr
  d_l_draw : FuncData
  f_l_mixed : Addr
  d_l_mixed : FuncData
  f_l_worth : Addr
  d_l_worth : FuncData
  f_l_object : Addr
  d_l_object : FuncData
  f_l_parts : Addr
  d_l_parts : FuncData
  f_l_shuffled : Addr
  d_l_shuffled : FuncData
  f_l_rank : Addr
  d_l_rank : FuncData
  f_l_due : Addr
  d_l_due : FuncData
  f_l_told : Addr
  d_l_told : FuncData
  f_l_bent : Addr
  d_l_bent : FuncData
  f_law : Addr
  d_law : FuncData
  t_LETTERS : Tok
  t_DIGITS : Tok
  t_MOST_PARTS : Tok
  t_AT : Tok
  c_in_order : Addr
  P_in_order : Addr
  c_l_due : Addr
  P_l_due : Addr
  C_GraphError : Addr
  C_BadObject : Addr
  i_BadObject : Addr
def Ad.tabs (a : Ad) : List (Addr × Str) := [(a.P_in_order, (("in_order" : Str) ++ ".<locals>.") ++ "<lambda>"), (a.P_l_due, (("_law_due" : Str) ++ ".<locals>.") ++ "<lambda>")]
structure Txt (P : Program) (K : PySem.W.Frag) (mg : Str → Option Value) (a : Ad) : Prop where
  is_made_of : Defd K mg "is_made_of" s_is_made_of ["text", "signs"] a.f_is_made_of a.d_is_made_of
  is_name : Defd K mg "is_name" s_is_name ["value"] a.f_is_name a.d_is_name
  is_mark : Defd K mg "is_mark" s_is_mark ["value"] a.f_is_mark a.d_is_mark
  is_integer : Defd K mg "is_integer" s_is_integer ["value"] a.f_is_integer a.d_is_integer
  is_plain : Defd K mg "is_plain" s_is_plain ["value"] a.f_is_plain a.d_is_plain
  is_reference : Defd K mg "is_reference" s_is_reference ["value"] a.f_is_reference a.d_is_reference
  is_worth : Defd K mg "is_worth" s_is_worth ["value"] a.f_is_worth a.d_is_worth
  rank : Defd K mg "rank" s_rank ["worth"] a.f_rank a.d_rank
  are_different : Defd K mg "are_different" s_are_different ["values"] a.f_are_different a.d_are_different
  are_pairs : Defd K mg "are_pairs" s_are_pairs ["value"] a.f_are_pairs a.d_are_pairs
  are_fields : Defd K mg "are_fields" s_are_fields ["value"] a.f_are_fields a.d_are_fields
  are_entries : Defd K mg "are_entries" s_are_entries ["value"] a.f_are_entries a.d_are_entries
  are_worths : Defd K mg "are_worths" s_are_worths ["value"] a.f_are_worths a.d_are_worths
  is_object : Defd K mg "is_object" s_is_object ["value"] a.f_is_object a.d_is_object
  in_order : Defd K mg "in_order" s_in_order ["thing"] a.f_in_order a.d_in_order
  check_object : Defd K mg "check_object" s_check_object ["thing"] a.f_check_object a.d_check_object
  ordered : Defd K mg "ordered" s_ordered ["thing"] a.f_ordered a.d_ordered
  l_pool : Defd K mg "_law_pool" s_l_pool ["_law_script", "_law_k"] a.f_l_pool a.d_l_pool
  l_draw : Defd K mg "_law_draw" s_l_draw ["_law_pool_here", "_law_many"] a.f_l_draw a.d_l_draw
  l_mixed : Defd K mg "_law_mixed" s_l_mixed ["_law_pool_here", "_law_things"] a.f_l_mixed a.d_l_mixed
  l_worth : Defd K mg "_law_worth" s_l_worth ["_law_pool_here", "_law_marks"] a.f_l_worth a.d_l_worth
  l_object : Defd K mg "_law_object" s_l_object ["_law_pool_here", "_law_kind", "_law_worths"] a.f_l_object a.d_l_object
  l_parts : Defd K mg "_law_parts" s_l_parts ["_law_thing"] a.f_l_parts a.d_l_parts
  l_shuffled : Defd K mg "_law_shuffled" s_l_shuffled ["_law_pool_here", "_law_thing"] a.f_l_shuffled a.d_l_shuffled
  l_rank : Defd K mg "_law_rank" s_l_rank ["_law_worth_here"] a.f_l_rank a.d_l_rank
  l_due : Defd K mg "_law_due" s_l_due ["_law_thing"] a.f_l_due a.d_l_due
  l_told : Defd K mg "_law_told" s_l_told ["_law_thing"] a.f_l_told a.d_l_told
  l_bent : Defd K mg "_law_bent" s_l_bent ["_law_thing", "_law_number"] a.f_l_bent a.d_l_bent
  law : Defd K mg "law" s_law ["_law_script"] a.f_law a.d_law
  c_LETTERS : mg "LETTERS" = some (.str "abcdefghijklmnopqrstuvwxyz" a.t_LETTERS)
  c_DIGITS : mg "DIGITS" = some (.str "0123456789" a.t_DIGITS)
  c_MOST_PARTS : mg "MOST_PARTS" = some (.int 30 a.t_MOST_PARTS)
  c_AT : mg "AT" = some (.str "at" a.t_AT)
  z__law_entry : mg "_law_entry" = none
  z_abs : mg "abs" = none
  z_all : mg "all" = none
  z_bool : mg "bool" = none
  z_dict : mg "dict" = none
  z_entry : mg "entry" = none
  z_enumerate : mg "enumerate" = none
  z_field : mg "field" = none
  z_int : mg "int" = none
  z_isinstance : mg "isinstance" = none
  z_len : mg "len" = none
  z_list : mg "list" = none
  z_max : mg "max" = none
  z_min : mg "min" = none
  z_range : mg "range" = none
  z_repr : mg "repr" = none
  z_sorted : mg "sorted" = none
  z_str : mg "str" = none
  z_sum : mg "sum" = none
  z_super : mg "super" = none
  z_tuple : mg "tuple" = none
  z_zip : mg "zip" = none
  cd_in_order : FunC K "in_order" "in_order" s_in_order a.f_in_order a.d_in_order a.c_in_order
  cd_l_due : FunC K "_law_due" "_law_due" s_l_due a.f_l_due a.d_l_due a.c_l_due
  g_GraphError : mg "GraphError" = some (.ref a.C_GraphError)
  x_BadObject : ErrX.ErrTxt P K mg "BadObject" "value" "BadObject.__init__" a.C_BadObject a.C_GraphError a.i_BadObject
structure Tb (base : Heap) (mg : Str → Option Value) (a : Ad) : Prop where
  nd : (a.tabs.map (·.1)).Nodup
  in_order : LamX.TabB base mg a.c_in_order a.P_in_order
  l_due : LamX.TabB base mg a.c_l_due a.P_l_due
end SB

set_option Elab.async false
set_option linter.all false
set_option maxRecDepth 100000
set_option maxHeartbeats 4000000
namespace SB
open PySem L2
/-! ### texts of signs, marks, names, worths: the mirror -/
def letters : Str := "abcdefghijklmnopqrstuvwxyz"
def digits : Str := "0123456789"
def both : Str := letters ++ digits
def madeOf (x z : Str) : Bool := x.cps.toList.all fun c => decide (c ∈ z.cps.toList)
def nameS (x : Str) : Bool := decide (1 ≤ x.length) && (decide (x.length ≤ 8) && madeOf x letters)
def firstIn (x z : Str) : Bool := match x.cps.toList with
  | [] => false
  | c :: _ => decide (c ∈ z.cps.toList)
def markS (x : Str) : Bool := decide (1 ≤ x.length) && (decide (x.length ≤ 8) && (firstIn x letters && madeOf x both))
def plainS (x : Str) : Bool := decide (x.length ≤ 20) && madeOf x both
def nameV : V → Bool
  | .str x => nameS x
  | _ => false
def markV : V → Bool
  | .str x => markS x
  | _ => false
def intV : V → Bool
  | .int _ => true
  | _ => false
def plainV : V → Bool
  | .int i => decide (-10 ^ 30 < i) && decide (i < 10 ^ 30)
  | .str x => plainS x
  | _ => false
theorem str_len (x : Str) : x.length = x.cps.toList.length := by
  show x.cps.size = _
  rw [Array.length_toList]
/-! ### the promises -/
/-- a question: a bool comes out, nothing that stood is changed -/
def spAsk (n : Nat) (P : List V → Hp → Bool → Prop) : Sp := fun vs H Q _ => vs.length = n ∧ ∃ b, P vs H b ∧ ∀ H', Same H H' → Q (.bl b) H'
def spMadeOf : Sp := fun vs H Q _ => ∃ x z : Str, vs = [.str x, .str z] ∧ x.length ≤ sizeLine ∧ ∀ H', Same H H' → Q (.bl (madeOf x z)) H'
def spV (f : V → Bool) (K : PySem.W.Frag) : Sp := fun vs H Q _ => ∃ v s, vs = [v] ∧ AnyV K H v s ∧ ∀ H', Same H H' → Q (.bl (f v)) H'
/-- the items of a tuple that is a reference -/
def refAt : V → V → Bool
  | .str x, y => decide (V.str x = .str "at") && markV y
  | _, _ => false
def refVs : List V → Bool
  | [x, y] => refAt x y
  | _ => false
/-- whether a value is a reference -/
def RefIs (K : PySem.W.Frag) (H : Hp) (v : V) (s : String) (b : Bool) : Prop :=
  (s ≠ "tuple" ∧ b = false) ∨ ∃ p xs, v = .ref p ∧ s = "tuple" ∧ SqT K H p xs ∧ (∀ y ∈ xs, ∃ t, AnyV K H y t) ∧ b = refVs xs
def spRef (K : PySem.W.Frag) : Sp := fun vs H Q _ => ∃ v s b, vs = [v] ∧ AnyV K H v s ∧ RefIs K H v s b ∧ ∀ H', Same H H' → Q (.bl b) H'
def spWorth (K : PySem.W.Frag) : Sp := fun vs H Q _ => ∃ v s b, vs = [v] ∧ AnyV K H v s ∧ RefIs K H v s b ∧ ∀ H', Same H H' → Q (.bl (plainV v || b)) H'
theorem same_seqT {K : PySem.W.Frag} {H H' : Hp} {a : Addr} {xs : List V} (e : Same H H') (h : SqT K H a xs) : SqT K H' a xs := by
  rcases h with (h | ⟨o, h⟩) | h
  · exact .inl (.inl (e _ _ h))
  · exact .inl (.inr ⟨o, e _ _ h⟩)
  · exact .inr h
theorem RefIs.mono {K : PySem.W.Frag} {H H' : Hp} {v : V} {s : String} {b : Bool} (h : RefIs K H v s b) (e : Same H H') : RefIs K H' v s b := by
  rcases h with h | ⟨p, xs, h1, h2, h3, h4, h5⟩
  · exact .inl h
  · refine .inr ⟨p, xs, h1, h2, same_seqT e h3, fun y hy => ?_, h5⟩
    obtain ⟨t, q⟩ := h4 y hy
    exact ⟨t, q.mono e⟩
section
variable {P : Program} {w : World} {K : PySem.W.Frag} {mg : Str → Option Value} {base : Heap} {a : Ad}
theorem ok_is_made_of (T : Txt P K mg a) : FnOk P w K mg base CX0 1 a.f_is_made_of a.d_is_made_of ["text", "signs"] spMadeOf := by
  refine T.is_made_of.F.ok sc_is_made_of (fun vs H Q E h => ?_) (fun cdv A outer s H vs Q E hr h => ?_)
  · obtain ⟨x, z, rfl, _⟩ := h
    rfl
  · obtain ⟨x, z, rfl, hx, k⟩ := h
    refine ⟨_, (pss_one (ps_ret (pe_callB (cr_all rfl) (by rfl) T.z_all (by decide +kernel) (pa_cons (pe_lc (own := [("sign", 2)]) (g := gName 2) (tt := tYes) (by rfl) sc_is_made_of.nd (pi_str (pv 0)) (blkOk_by (own := [("sign", 2)]) (N := ["text", "signs", "sign"]) (sc := defScope s_is_made_of) (by decide +kernel)) (fun _ _ _ _ _ => (pg_name (i := 2) sc_is_made_of.nd rfl (Or.inl rfl))) (fun _ _ _ _ _ => pts_nil) (fun _ _ _ _ _ => (pe_cmpR op_in_sign (pv 2) (pv 1) (by rfl)))) pa_nil)))), ?_⟩
    refine ⟨_, rfl, x, rfl, fun D hD => lc_mapL (walk_signs (z := x)) hD (by rw [← str_len]; exact hx) (fun _ _ => trivial) (fun c => .bl (decide (c ∈ z.cps.toList))) ?_ fun H' s1 hl => ?_⟩
    · rintro i c y H1 H2 R hc s1 _ ⟨rfl, c', hc', rfl⟩ hR
      cases hc.symm.trans hc'
      exact ⟨rfl, _, rfl, _, rfl, c, z, rfl, rfl, hR _ (Same.refl _)⟩
    · refine ⟨D, x.cps.toList.map fun c => decide (c ∈ z.cps.toList), rfl, SqL.of (by rw [hl, List.map_map]; rfl), ?_⟩
      have e2 : (x.cps.toList.map fun c => decide (c ∈ z.cps.toList)).all id = madeOf x z := by
        rw [List.all_map]
        rfl
      rw [e2]
      exact k _ s1
theorem ok_is_name (T : Txt P K mg a) : FnOk P w K mg base CX0 2 a.f_is_name a.d_is_name ["value"] (spV nameV K) := by
  refine T.is_name.F.ok sc_is_name (fun vs H Q E h => ?_) (fun cdv A outer s H vs Q E hr h => ?_)
  · obtain ⟨v, t, rfl, _⟩ := h
    rfl
  · obtain ⟨v, t, rfl, av, k⟩ := h
    refine ⟨_, (pss_one (ps_ret (pe_and (pe_callB call_isi (by rfl) T.z_isinstance (by decide +kernel) (pa_cons (pv 0) (pa_cons (pe_bltn (v := .ty "str") (by rfl) T.z_str (by decide +kernel) rfl) pa_nil))) (pe_and (pe_chain op_le op_le pe_int (pe_callB call_len_str (by rfl) T.z_len (by decide +kernel) (pa_cons (pv 0) pa_nil)) pe_int) (pe_one (pe_call (ok_is_made_of T) (hr.mono (by decide)) (by rfl) T.is_made_of.g T.is_made_of.k T.is_made_of.b .nil pass0 (pa_cons (pv 0) (pa_cons (pe_glob (v := .str "abcdefghijklmnopqrstuvwxyz") (by rfl) T.c_LETTERS ⟨_, rfl⟩) pa_nil)))))))), ?_⟩
    refine ⟨_, rfl, _, _, _, _, _, rfl, .ty _, av.ty, av.isi, _, rfl, ?_⟩
    rcases av.cases with ⟨rfl, rfl⟩ | ⟨b, rfl, rfl⟩ | ⟨i, rfl, rfl⟩ | ⟨x, rfl, rfl, hx⟩ | ⟨p, rfl, rfl | rfl | rfl⟩
    case inr.inr.inr.inl =>
      refine ifT (by decide) ?_
      refine ⟨_, rfl, x, rfl, hx, _, _, rfl, rfl, _, rfl, ?_⟩
      have ek : nameV (.str x) = (decide (1 ≤ x.length) && (decide (x.length ≤ 8) && madeOf x letters)) := rfl
      rw [ek] at k
      refine ifB (fun h1 => ?_) (fun h1 => ?_)
      · have h1' : decide (1 ≤ x.length) = true := by simp at h1 ⊢; omega
        rw [h1', Bool.true_and] at k
        refine ⟨_, _, rfl, rfl, _, rfl, ?_⟩
        refine ifB (fun h2 => ?_) (fun h2 => ?_)
        · have h2' : decide (x.length ≤ 8) = true := by simp at h2 ⊢; omega
          rw [h2', Bool.true_and] at k
          exact ⟨_, rfl, x, letters, rfl, hx, k⟩
        · have h2' : decide (x.length ≤ 8) = false := by simp at h2 ⊢; omega
          rw [h2', Bool.false_and] at k
          exact k _ (Same.refl _)
      · have h1' : decide (1 ≤ x.length) = false := by simp at h1 ⊢; omega
        rw [h1', Bool.false_and] at k
        exact ⟨_, rfl, ifF rfl (k _ (Same.refl _))⟩
    all_goals exact ifF (by decide) (k _ (Same.refl _))
theorem ok_is_mark (T : Txt P K mg a) : FnOk P w K mg base CX0 2 a.f_is_mark a.d_is_mark ["value"] (spV markV K) := by
  refine T.is_mark.F.ok sc_is_mark (fun vs H Q E h => ?_) (fun cdv A outer s H vs Q E hr h => ?_)
  · obtain ⟨v, t, rfl, _⟩ := h
    rfl
  · obtain ⟨v, t, rfl, av, k⟩ := h
    refine ⟨_, (pss_cons (ps_if (PW.pt (pw_or (pt_not (pt_val (pe_callB call_isi (by rfl) T.z_isinstance (by decide +kernel) (pa_cons (pv 0) (pa_cons (pe_bltn (v := .ty "str") (by rfl) T.z_str (by decide +kernel) rfl) pa_nil))))) (pw_or1 (pt_not (pt_chain op_le op_le pe_int (pe_callB call_len_str (by rfl) T.z_len (by decide +kernel) (pa_cons (pv 0) pa_nil)) pe_int))))) (pss_one (ps_ret pe_bl)) pss_nil)
      (pss_one (ps_ret (pe_and (pe_cmpR op_in_sign (pe_ix ix_str (pv 0) pe_int (fun _ _ => rfl)) (pe_glob (v := .str "abcdefghijklmnopqrstuvwxyz") (by rfl) T.c_LETTERS ⟨_, rfl⟩) (by rfl)) (pe_one (pe_call (ok_is_made_of T) (hr.mono (by decide)) (by rfl) T.is_made_of.g T.is_made_of.k T.is_made_of.b .nil pass0 (pa_cons (pv 0) (pa_cons (pe_op op_add_str (pe_glob (v := .str "abcdefghijklmnopqrstuvwxyz") (by rfl) T.c_LETTERS ⟨_, rfl⟩) (pe_glob (v := .str "0123456789") (by rfl) T.c_DIGITS ⟨_, rfl⟩)) pa_nil)))))))), ?_⟩
    refine ⟨_, rfl, _, _, _, _, _, rfl, .ty _, av.ty, av.isi, _, rfl, ?_⟩
    rcases av.cases with ⟨rfl, rfl⟩ | ⟨b, rfl, rfl⟩ | ⟨i, rfl, rfl⟩ | ⟨x, rfl, rfl, hx⟩ | ⟨p, rfl, rfl | rfl | rfl⟩
    case inr.inr.inr.inl =>
      refine ifF (by decide) ?_
      refine ⟨_, rfl, x, rfl, hx, _, _, rfl, rfl, _, rfl, ?_⟩
      have ek : markV (.str x) = (decide (1 ≤ x.length) && (decide (x.length ≤ 8) && (firstIn x letters && madeOf x both))) := rfl
      rw [ek] at k
      refine ifB (fun h1 => ?_) (fun h1 => ?_)
      · have h1' : decide (1 ≤ x.length) = true := by simp at h1 ⊢; omega
        rw [h1', Bool.true_and] at k
        refine ⟨_, _, rfl, rfl, _, rfl, ?_⟩
        refine ifB (fun h2 => ?_) (fun h2 => ?_)
        · have h2' : decide (x.length ≤ 8) = false := by simp at h2 ⊢; omega
          rw [h2', Bool.false_and] at k
          exact k _ (Same.refl _)
        · have h2' : decide (x.length ≤ 8) = true := by simp at h2 ⊢; omega
          rw [h2', Bool.true_and] at k
          obtain ⟨c, r, hc⟩ : ∃ c r, x.cps.toList = c :: r := by
            have hl := str_len x
            cases e : x.cps.toList with
            | nil => rw [e] at hl; simp at hl h1'; omega
            | cons c r => exact ⟨c, r, rfl⟩
          have ef : firstIn x letters = decide (c ∈ letters.cps.toList) := by unfold firstIn; rw [hc]
          rw [ef] at k
          refine ⟨_, rfl, x, 0, c, rfl, rfl, hx, atI_nat (j := 0) (by rw [hc]; rfl), c, letters, rfl, rfl, _, rfl, ?_⟩
          refine ifB (fun h3 => ?_) (fun h3 => ?_)
          · rw [h3, Bool.true_and] at k
            exact ⟨_, rfl, letters, digits, rfl, rfl, by decide +kernel, x, both, rfl, hx, k⟩
          · rw [h3, Bool.false_and] at k
            exact k _ (Same.refl _)
      · have h1' : decide (1 ≤ x.length) = false := by simp at h1 ⊢; omega
        rw [h1', Bool.false_and] at k
        exact ⟨_, rfl, k _ (Same.refl _)⟩
    all_goals exact ifT (by decide) (k _ (Same.refl _))
theorem ok_is_integer (T : Txt P K mg a) : FnOk P w K mg base CX0 1 a.f_is_integer a.d_is_integer ["value"] (spV intV K) := by
  refine T.is_integer.F.ok sc_is_integer (fun vs H Q E h => ?_) (fun cdv A outer s H vs Q E hr h => ?_)
  · obtain ⟨v, t, rfl, _⟩ := h
    rfl
  · obtain ⟨v, t, rfl, av, k⟩ := h
    refine ⟨_, (pss_one (ps_ret (pe_and (pe_callB call_isi (by rfl) T.z_isinstance (by decide +kernel) (pa_cons (pv 0) (pa_cons (pe_bltn (v := .ty "int") (by rfl) T.z_int (by decide +kernel) rfl) pa_nil))) (pe_one (pe_not (pe_callB call_isi (by rfl) T.z_isinstance (by decide +kernel) (pa_cons (pv 0) (pa_cons (pe_bltn (v := .ty "bool") (by rfl) T.z_bool (by decide +kernel) rfl) pa_nil)))))))), ?_⟩
    refine ⟨_, rfl, _, _, _, _, _, rfl, .ty _, av.ty, av.isi, _, rfl, ?_⟩
    rcases av.cases with ⟨rfl, rfl⟩ | ⟨b, rfl, rfl⟩ | ⟨i, rfl, rfl⟩ | ⟨x, rfl, rfl, hx⟩ | ⟨p, rfl, rfl | rfl | rfl⟩
    case inr.inl =>
      refine ifT (by decide) ?_
      exact ⟨_, rfl, _, _, _, _, _, rfl, .ty _, av.ty, av.isi, _, rfl, k _ (Same.refl _)⟩
    case inr.inr.inl =>
      refine ifT (by decide) ?_
      exact ⟨_, rfl, _, _, _, _, _, rfl, .ty _, av.ty, av.isi, _, rfl, k _ (Same.refl _)⟩
    all_goals exact ifF (by decide) (k _ (Same.refl _))
theorem ok_is_plain (T : Txt P K mg a) : FnOk P w K mg base CX0 2 a.f_is_plain a.d_is_plain ["value"] (spV plainV K) := by
  refine T.is_plain.F.ok sc_is_plain (fun vs H Q E h => ?_) (fun cdv A outer s H vs Q E hr h => ?_)
  · obtain ⟨v, t, rfl, _⟩ := h
    rfl
  · obtain ⟨v, t, rfl, av, k⟩ := h
    refine ⟨_, (pss_cons (ps_if (pt_val (pe_call (ok_is_integer T) (hr.mono (by decide)) (by rfl) T.is_integer.g T.is_integer.k T.is_integer.b .nil pass0 (pa_cons (pv 0) pa_nil))) (pss_one (ps_ret (pe_chain op_lt op_lt (pe_un un_neg (pe_op op_pow pe_int pe_int)) (pv 0) (pe_op op_pow pe_int pe_int)))) pss_nil)
      (pss_one (ps_ret (pe_and (pe_callB call_isi (by rfl) T.z_isinstance (by decide +kernel) (pa_cons (pv 0) (pa_cons (pe_bltn (v := .ty "str") (by rfl) T.z_str (by decide +kernel) rfl) pa_nil))) (pe_and (pe_cmpR op_le (pe_callB call_len_str (by rfl) T.z_len (by decide +kernel) (pa_cons (pv 0) pa_nil)) pe_int (nomark _)) (pe_one (pe_call (ok_is_made_of T) (hr.mono (by decide)) (by rfl) T.is_made_of.g T.is_made_of.k T.is_made_of.b .nil pass0 (pa_cons (pv 0) (pa_cons (pe_op op_add_str (pe_glob (v := .str "abcdefghijklmnopqrstuvwxyz") (by rfl) T.c_LETTERS ⟨_, rfl⟩) (pe_glob (v := .str "0123456789") (by rfl) T.c_DIGITS ⟨_, rfl⟩)) pa_nil))))))))), ?_⟩
    refine ⟨_, rfl, v, t, rfl, av, fun H1 s1 => ⟨_, rfl, ?_⟩⟩
    have av1 := av.mono s1
    rcases av.cases with ⟨rfl, rfl⟩ | ⟨b, rfl, rfl⟩ | ⟨i, rfl, rfl⟩ | ⟨x, rfl, rfl, hx⟩ | ⟨p, rfl, rfl | rfl | rfl⟩
    case inr.inr.inl =>
      refine ifT rfl ?_
      refine ⟨10, 30, rfl, rfl, ⟨by decide, by decide, by decide⟩, _, rfl, _, rfl, _, _, rfl, rfl, _, rfl, ?_⟩
      have ek : plainV (.int i) = (decide (-10 ^ 30 < i) && decide (i < 10 ^ 30)) := rfl
      rw [ek] at k
      refine ifB (fun h1 => ?_) (fun h1 => ?_)
      · have h1' : decide (-10 ^ 30 < i) = true := h1
        rw [h1', Bool.true_and] at k
        exact ⟨10, 30, rfl, rfl, ⟨by decide, by decide, by decide⟩, _, _, rfl, rfl, k _ s1⟩
      · have h1' : decide (-10 ^ 30 < i) = false := h1
        rw [h1', Bool.false_and] at k
        exact k _ s1
    case inr.inr.inr.inl =>
      refine ifF rfl ?_
      refine ⟨_, rfl, _, _, _, _, _, rfl, .ty _, av1.ty, av1.isi, _, rfl, ifT (by decide) ?_⟩
      refine ⟨_, rfl, x, rfl, hx, _, _, rfl, rfl, _, rfl, ?_⟩
      have ek : plainV (.str x) = (decide (x.length ≤ 20) && madeOf x both) := rfl
      rw [ek] at k
      refine ifB (fun h1 => ?_) (fun h1 => ?_)
      · have h1' : decide (x.length ≤ 20) = true := by simp at h1 ⊢; omega
        rw [h1', Bool.true_and] at k
        exact ⟨_, rfl, letters, digits, rfl, rfl, by decide +kernel, x, both, rfl, hx, fun H' s2 => k _ (s1.trans s2)⟩
      · have h1' : decide (x.length ≤ 20) = false := by simp at h1 ⊢; omega
        rw [h1', Bool.false_and] at k
        exact k _ s1
    all_goals
      refine ifF rfl ?_
      exact ⟨_, rfl, _, _, _, _, _, rfl, .ty _, av1.ty, av1.isi, _, rfl, ifF (by decide) (k _ s1)⟩
theorem ok_is_reference (T : Txt P K mg a) : FnOk P w K mg base CX0 3 a.f_is_reference a.d_is_reference ["value"] (spRef K) := by
  refine T.is_reference.F.ok sc_is_reference (fun vs H Q E h => ?_) (fun cdv A outer s H vs Q E hr h => ?_)
  · obtain ⟨v, t, b, rfl, _⟩ := h
    rfl
  · obtain ⟨v, t, b, rfl, av, rb, k⟩ := h
    refine ⟨_, (pss_cons (ps_if (PW.pt (pw_or (pt_not (pt_val (pe_callB call_isi (by rfl) T.z_isinstance (by decide +kernel) (pa_cons (pv 0) (pa_cons (pe_bltn (v := .ty "tuple") (by rfl) T.z_tuple (by decide +kernel) rfl) pa_nil))))) (pw_or (pt_cmpR op_ne (pe_callB call_len_seq (by rfl) T.z_len (by decide +kernel) (pa_cons (pv 0) pa_nil)) pe_int (nomark _)) (pw_or1 (pt_not (pt_val (pe_callB call_isi (by rfl) T.z_isinstance (by decide +kernel) (pa_cons (pe_ix ix_tup (pv 0) pe_int (fun _ _ => rfl)) (pa_cons (pe_bltn (v := .ty "str") (by rfl) T.z_str (by decide +kernel) rfl) pa_nil))))))))) (pss_one (ps_ret pe_bl)) pss_nil)
      (pss_one (ps_ret (pe_and (pe_cmpR op_eq (pe_ix ix_tup (pv 0) pe_int (fun _ _ => rfl)) (pe_glob (v := .str "at") (by rfl) T.c_AT ⟨_, rfl⟩) (nomark _)) (pe_one (pe_call (ok_is_mark T) (hr.mono (by decide)) (by rfl) T.is_mark.g T.is_mark.k T.is_mark.b .nil pass0 (pa_cons (pe_ix ix_tup (pv 0) pe_int (fun _ _ => rfl)) pa_nil))))))), ?_⟩
    refine ⟨_, rfl, _, _, _, _, _, rfl, .ty _, av.ty, av.isi, _, rfl, ?_⟩
    rcases rb with ⟨ht, rfl⟩ | ⟨p, xs, rfl, rfl, hs, ha, rfl⟩
    · have e : isT t "tuple" = false := by
        have h1 : ∀ t ∈ kinds, t ≠ "tuple" → isT t "tuple" = false := by decide
        exact h1 t av.mem ht
      rw [e]
      exact iteT (k _ (Same.refl _))
    · refine ifF (by decide) ?_
      refine ⟨_, rfl, p, xs, rfl, .inr hs, rfl, _, rfl, ?_⟩
      match xs, hs, ha, k with
      | [], hs, ha, k => exact ifT (by decide) (k _ (Same.refl _))
      | [x], hs, ha, k => exact ifT (by simp) (k _ (Same.refl _))
      | x :: y :: z :: r, hs, ha, k =>
        refine ifT ?_ (k _ (Same.refl _))
        simp
        omega
      | [x, y], hs, ha, k =>
        refine ifF (by simp) ?_
        obtain ⟨tx, ax⟩ := ha x (by simp)
        obtain ⟨ty, ay⟩ := ha y (by simp)
        refine ⟨_, rfl, p, [x, y], 0, x, rfl, rfl, hs, rfl, _, _, _, _, _, rfl, .ty _, ax.ty, ax.isi, _, rfl, ?_⟩
        rcases ax.cases with ⟨rfl, rfl⟩ | ⟨b, rfl, rfl⟩ | ⟨i, rfl, rfl⟩ | ⟨x, rfl, rfl, hx⟩ | ⟨p, rfl, rfl | rfl | rfl⟩
        case inr.inr.inr.inl =>
          refine ifF (by decide) ?_
          refine ⟨_, rfl, p, _, 0, _, rfl, rfl, hs, rfl, rfl, _, rfl, ?_⟩
          have ek : refVs [.str x, y] = (decide (V.str x = .str "at") && markV y) := rfl
          rw [ek] at k
          refine ifB (fun h1 => ?_) (fun h1 => ?_)
          · rw [h1, Bool.true_and] at k
            exact ⟨_, rfl, p, _, 1, _, rfl, rfl, hs, rfl, y, ty, rfl, ay, k⟩
          · rw [h1, Bool.false_and] at k
            exact k _ (Same.refl _)
        all_goals exact ifT (by decide) (k _ (Same.refl _))
theorem ok_is_worth (T : Txt P K mg a) : FnOk P w K mg base CX0 4 a.f_is_worth a.d_is_worth ["value"] (spWorth K) := by
  refine T.is_worth.F.ok sc_is_worth (fun vs H Q E h => ?_) (fun cdv A outer s H vs Q E hr h => ?_)
  · obtain ⟨v, t, b, rfl, _⟩ := h
    rfl
  · obtain ⟨v, t, b, rfl, av, rb, k⟩ := h
    refine ⟨_, (pss_one (ps_ret (pe_or (pe_call (ok_is_plain T) (hr.mono (by decide)) (by rfl) T.is_plain.g T.is_plain.k T.is_plain.b .nil pass0 (pa_cons (pv 0) pa_nil)) (pe_one (pe_call (ok_is_reference T) (hr.mono (by decide)) (by rfl) T.is_reference.g T.is_reference.k T.is_reference.b .nil pass0 (pa_cons (pv 0) pa_nil)))))), ?_⟩
    refine ⟨_, rfl, v, t, rfl, av, fun H1 s1 => ⟨_, rfl, ?_⟩⟩
    refine ifB (fun h1 => ?_) (fun h1 => ?_)
    · rw [h1, Bool.true_or] at k
      exact k _ s1
    · rw [h1, Bool.false_or] at k
      exact ⟨_, rfl, v, t, b, rfl, av.mono s1, rb.mono s1, fun H' s2 => k _ (s1.trans s2)⟩
end
end SB

set_option Elab.async false
set_option linter.all false
set_option maxRecDepth 100000
set_option maxHeartbeats 4000000
namespace SB
open PySem L2
/-! ### the law's pool of draws: a list of two numbers that are not negative -/
def Pool (H : Hp) (p : Addr) : Prop := ∃ g m : Int, H p = some (.lst [.int g, .int m]) ∧ 0 ≤ g ∧ 0 ≤ m ∧ m < 2147483647
def spPool (K : PySem.W.Frag) : Sp := fun vs H Q _ => ∃ (a : Addr) (ns : List Int) (k : Int), vs = [.ref a, .int k] ∧ SqL K H a (ns.map V.int) ∧ 0 ≤ k ∧ k < 1000 ∧
  ∀ H' p, H p = none → Same H H' → Pool H' p → Q (.ref p) H'
/-- a draw: a number below many; the pool alone is changed -/
def spDraw : Sp := fun vs H Q _ => ∃ (p : Addr) (many : Int), vs = [.ref p, .int many] ∧ Pool H p ∧ 0 < many ∧ many < 2 ^ 100 ∧
  ∀ (n : Nat) H', (n : Int) < many → SameX p H H' → Pool H' p → Q (.int n) H'
theorem Pool.at {H H' : Hp} {p : Addr} (h : Pool H p) (e : ∀ o, H p = some o → H' p = some o) : Pool H' p := by
  obtain ⟨g, m, hp, r⟩ := h
  exact ⟨g, m, e _ hp, r⟩
theorem Pool.new {H : Hp} {p q : Addr} {o : HO} (h : Pool H p) (hq : H q = none) : Pool (upd H q o) p := h.at fun _ e => same_new hq _ _ e
theorem Pool.ne {H : Hp} {p q : Addr} (h : Pool H p) (hq : H q = none) : p ≠ q := by
  obtain ⟨g, m, hp, r⟩ := h
  exact ne_of_none hp hq
theorem SameX.new {H0 H : Hp} {p q : Addr} {o : HO} (h : SameX p H0 H) (hq : H q = none) : SameX p H0 (upd H q o) := fun b u n e => by
  have e1 := h b u n e
  rw [upd_ne (ne_of_none e1 hq)]
  exact e1
theorem pick {xs : List V} {n : Nat} (h : n < xs.length) : ∃ v, v ∈ xs ∧ atI xs (n : Int) = some v :=
  ⟨xs[n], List.getElem_mem h, atI_nat (List.getElem?_eq_getElem h)⟩
theorem cut_map (ns : List Int) (lo hi : Option Int) : ∃ ms : List Int, cutV (ns.map V.int) lo hi = ms.map V.int := by
  unfold cutV
  exact ⟨_, by rw [← List.map_drop, ← List.map_take]⟩
section
variable {P : Program} {w : World} {K : PySem.W.Frag} {mg : Str → Option Value} {base : Heap} {a : Ad}
theorem ok_l_pool (T : Txt P K mg a) : FnOk P w K mg base CX0 1 a.f_l_pool a.d_l_pool ["_law_script", "_law_k"] (spPool K) := by
  refine T.l_pool.F.ok sc_l_pool (fun vs H Q E h => ?_) (fun cdv A outer s H vs Q E hr h => ?_)
  · obtain ⟨x, ns, k, rfl, _⟩ := h
    rfl
  · obtain ⟨l, ns, k, rfl, hS, hk0, hk1, q⟩ := h
    refine ⟨_, (pss_cons (ps_set (i := 2) sc_l_pool.nd rfl (Or.inl rfl) (pe_op op_add (pe_op op_mul pe_int (pe_callB (cr_sum rfl) (by rfl) T.z_sum (by decide +kernel) (pa_cons (pe_slice sl_list (pv 0) po_none (po_some pe_int)) pa_nil))) (pv 1)))
      (C8.pss_cut (ps_if (pt_cmpR op_lt (pv 1) (pe_callB call_len_seq (by rfl) T.z_len (by decide +kernel) (pa_cons (pv 0) pa_nil)) (nomark _)) (pss_one (ps_set (i := 2) sc_l_pool.nd rfl (Or.inl rfl) (pe_ix ix_list (pv 0) (pv 1) (fun _ _ => rfl)))) pss_nil)
      (pss_cons (ps_set (i := 3) sc_l_pool.nd rfl (Or.inl rfl) (pe_callB call_abs (by rfl) T.z_abs (by decide +kernel) (pa_cons (pe_callTy call_int1 (by rfl) T.z_int (by decide +kernel) (pa_cons (pv 2) pa_nil)) pa_nil)))
      (pss_cons (ps_set (i := 4) sc_l_pool.nd rfl (Or.inl rfl) (pe_op op_mod (pe_callTy call_int1 (by rfl) T.z_int (by decide +kernel) (pa_cons (pv 3) pa_nil)) pe_int))
      (pss_cons (ps_set (i := 5) sc_l_pool.nd rfl (Or.inl rfl) (pe_op op_mod (pe_callTy call_int1 (by rfl) T.z_int (by decide +kernel) (pa_cons (pe_op op_mul (pe_op op_add (pe_op op_add (pe_op op_add (pv 4) (pe_op op_mul (pe_op op_mul pe_int (pv 1)) (pv 1))) (pe_op op_mul pe_int (pv 1))) pe_int) pe_int) pa_nil)) pe_int))
      (pss_one (ps_ret (pe_lst (pa_cons (pe_op op_mul (pv 3) (pe_callTy call_int1 (by rfl) T.z_int (by decide +kernel) (pa_cons (pe_cmpR op_ge (pv 3) (pe_op op_pow pe_int pe_int) (nomark _)) pa_nil))) (pa_cons (pe_op op_mod (pe_callTy call_int1 (by rfl) T.z_int (by decide +kernel) (pa_cons (pe_op op_mul (pv 5) (pv 5)) pa_nil)) pe_int) pa_nil)))))))))), ?_⟩
    obtain ⟨ms, hm⟩ := cut_map ns none (some 63)
    refine ⟨_, rfl, _, rfl, l, _, rfl, hS, fun p hp => ?_⟩
    rw [hm]
    refine ⟨p, ms, rfl, SqL.of upd_same, 11, _, rfl, rfl, .inl ⟨by decide, by decide⟩, _, rfl, _, _, rfl, rfl, ?_⟩
    have s1 : Same H (upd H p (.lst (ms.map V.int))) := same_new hp
    have hS1 := s1.seq hS
    have key : ∃ c : Int, decide (k < ((ns.map V.int).length : Int)) = true → atI (ns.map V.int) k = some (V.int c) := by
      by_cases hlt : k.toNat < ns.length
      · refine ⟨ns[k.toNat], fun _ => atI_int hk0 ?_⟩
        rw [List.getElem?_map, List.getElem?_eq_getElem hlt]
        rfl
      · refine ⟨0, fun h => ?_⟩
        simp at h
        omega
    obtain ⟨c, hc⟩ := key
    refine ⟨fun σ' H' => H' = upd H p (.lst (ms.map V.int)) ∧ ∃ c : Int, σ' = [some (.ref l), some (.int k), some (.int c), none, none, none], ?_, ?_⟩
    · refine ⟨_, rfl, _, rfl, l, _, rfl, .inl hS1, _, _, rfl, rfl, _, rfl, ?_⟩
      refine ifB (fun h => ?_) (fun h => ?_)
      · exact ⟨_, rfl, _, rfl, l, _, k, .int c, rfl, rfl, hS1, hc h, rfl, c, rfl⟩
      · exact ⟨rfl, _, rfl⟩
    · rintro _ _ ⟨rfl, c, rfl⟩
      refine ⟨_, rfl, .inl ⟨_, rfl, c, rfl, ?_⟩⟩
      generalize hg : (if c < 0 then -c else c) = g
      have hg0 : 0 ≤ g := by rw [← hg]; split <;> omega
      refine ⟨_, rfl, .inl ⟨g, rfl, _, _, rfl, rfl, (by show (0 : Int) < 2147483629; decide), ?_⟩⟩
      refine ⟨_, rfl, _, rfl, _, _, rfl, rfl, .inl ⟨by decide, by decide⟩, _, rfl, _, k, rfl, rfl, .inr ⟨by omega, by omega⟩, _, _, rfl, rfl, _, rfl, _, _, rfl, rfl, .inl ⟨by decide, by decide⟩, _, _, rfl, rfl, _, _, rfl, rfl,
        _, _, rfl, rfl, .inr ⟨by decide, by decide⟩, .inl ⟨_, rfl, _, _, rfl, rfl, (by show (0 : Int) < 2147483647; decide), ?_⟩⟩
      dsimp only
      generalize hm2 : ((g % 2147483629 + 7919 * k * k + 31 * k + 17) * 48271 % 2147483647 : Int) = m
      have hm0 : 0 ≤ m := by omega
      have hm1 : m < 2147483647 := by omega
      refine ⟨_, rfl, _, rfl, _, _, rfl, rfl, ⟨by decide, by decide, by decide⟩, _, _, rfl, rfl, .inr ⟨_, rfl, ?_⟩⟩
      refine ⟨_, _, rfl, rfl, .inr (by split <;> exact ⟨by decide, by decide⟩), _, rfl, _, rfl, m, m, rfl, rfl, .inl ⟨by omega, by omega⟩, .inl ⟨_, rfl, _, _, rfl, rfl, (by show (0 : Int) < 2147483629; decide), ?_⟩⟩
      refine ⟨by show 2 ≤ sizeLine; decide, fun p2 hp2 => ?_⟩
      have h0 : H p2 = none := s1.free hp2
      refine q _ p2 h0 (s1.trans (same_new hp2)) ⟨_, _, upd_same, ?_, ?_, ?_⟩
      · split
        · omega
        · omega
      · exact Int.emod_nonneg _ (by decide)
      · have := Int.emod_lt_of_pos (m * m) (show (0 : Int) < 2147483629 by decide)
        omega
theorem ok_l_draw (T : Txt P K mg a) : FnOk P w K mg base CX0 1 a.f_l_draw a.d_l_draw ["_law_pool_here", "_law_many"] spDraw := by
  refine T.l_draw.F.ok sc_l_draw (fun vs H Q E h => ?_) (fun cdv A outer s H vs Q E hr h => ?_)
  · obtain ⟨p, m, rfl, _⟩ := h
    rfl
  · obtain ⟨p, many, rfl, ⟨g, m, hp, hg, hm0, hm1⟩, h0, h1, q⟩ := h
    refine ⟨_, (pss_cons (ps_if (pt_cmpR op_gt (pe_ix ix_list (pv 0) pe_int (fun _ _ => rfl)) pe_int (nomark _)) (pss_cons (ps_set (i := 2) sc_l_draw.nd rfl (Or.inl rfl) (pe_op op_mod (pe_callTy call_int1 (by rfl) T.z_int (by decide +kernel) (pa_cons (pe_ix ix_list (pv 0) pe_int (fun _ _ => rfl)) pa_nil)) (pv 1)))
      (pss_cons (ps_asg (pe_op op_fdivW (pe_ix ix_list (pv 0) pe_int (fun _ _ => rfl)) (pv 1)) (pg_sub (pv 0) pe_int set_list))
      (pss_one (ps_ret (pv 2))))) pss_nil)
      (pss_cons (ps_asg (pe_op op_mod (pe_callTy call_int1 (by rfl) T.z_int (by decide +kernel) (pa_cons (pe_op op_add (pe_op op_mul (pe_ix ix_list (pv 0) pe_int (fun _ _ => rfl)) pe_int) pe_int) pa_nil)) pe_int) (pg_sub (pv 0) pe_int set_list))
      (pss_one (ps_ret (pe_op op_mod (pe_callTy call_int1 (by rfl) T.z_int (by decide +kernel) (pa_cons (pe_op op_fdiv (pe_op op_mod (pe_callTy call_int1 (by rfl) T.z_int (by decide +kernel) (pa_cons (pe_op op_mul (pe_ix ix_list (pv 0) pe_int (fun _ _ => rfl)) (pe_ix ix_list (pv 0) pe_int (fun _ _ => rfl))) pa_nil)) pe_int) pe_int) pa_nil)) (pv 1)))))), ?_⟩
    refine ⟨_, rfl, p, _, 0, _, rfl, rfl, SqL.of hp, rfl, _, _, rfl, rfl, _, rfl, ?_⟩
    refine ifB (fun h => ?_) (fun h => ?_)
    · refine ⟨_, rfl, p, _, 0, _, rfl, rfl, SqL.of hp, rfl, .inl ⟨g, rfl, _, rfl, g, many, rfl, rfl, h0, ?_⟩⟩
      refine ⟨_, rfl, p, _, 0, _, rfl, rfl, SqL.of hp, rfl, _, rfl, g, many, rfl, rfl, wide_div (b := 100) h0 (by omega) (by decide) (by decide), _, rfl, p, _, 0, 0, rfl, rfl, hp, rfl, ?_⟩
      refine ⟨_, rfl, ?_⟩
      have e : g % many = (((g % many).toNat : Nat) : Int) := by
        have := Int.emod_nonneg g (show many ≠ 0 by omega)
        omega
      show Q (.int (g % many)) _
      rw [e]
      refine q _ _ ?_ SameX.put ⟨_, _, upd_same, Int.ediv_nonneg hg (by omega), hm0, hm1⟩
      rw [← e]
      exact Int.emod_lt_of_pos _ h0
    · refine ⟨_, rfl, p, _, 1, _, rfl, rfl, SqL.of hp, rfl, m, _, rfl, rfl, .inr ⟨by decide, by decide⟩, _, _, rfl, rfl, .inl ⟨_, rfl, _, _, rfl, rfl, (by show (0 : Int) < 2147483647; decide), _, rfl, p, _, 1, 1, rfl, rfl, hp, rfl, ?_⟩⟩
      dsimp only
      generalize hn : ((m * 48271 + 11) % 2147483647 : Int) = n
      have hn0 : 0 ≤ n := by omega
      have hn1 : n < 2147483647 := by omega
      refine ⟨_, rfl, p, _, 1, _, rfl, rfl, SqL.of upd_same, rfl, _, rfl, p, _, 1, _, rfl, rfl, SqL.of upd_same, rfl, n, n, rfl, rfl, .inl ⟨by omega, by omega⟩, .inl ⟨_, rfl, _, _, rfl, rfl, (by show (0 : Int) < 2147483629; decide), ?_⟩⟩
      refine ⟨_, _, rfl, rfl, ⟨by decide, by decide⟩, .inl ⟨_, rfl, _, rfl, _, many, rfl, rfl, h0, ?_⟩⟩
      generalize (n * n % 2147483629 / 16 : Int) = z
      have e : z % many = (((z % many).toNat : Nat) : Int) := by
        have := Int.emod_nonneg z (show many ≠ 0 by omega)
        omega
      show Q (.int (z % many)) _
      rw [e]
      refine q _ _ ?_ SameX.put ⟨_, _, upd_same, hg, hn0, hn1⟩
      rw [← e]
      exact Int.emod_lt_of_pos _ h0
end
end SB

set_option Elab.async false
set_option linter.all false
set_option maxRecDepth 100000
set_option maxHeartbeats 4000000
namespace SB
open PySem L2
/-! ### the same questions, of data -/
def nameD : PyData → Bool
  | .str x => nameS x
  | _ => false
def markD : PyData → Bool
  | .str x => markS x
  | _ => false
def plnD : PyData → Bool
  | .int i => decide (-10 ^ 30 < i) && decide (i < 10 ^ 30)
  | .str x => plainS x
  | _ => false
def refD : PyData → Bool
  | .tuple [.str x, y] => decide (x = "at") && markD y
  | _ => false
def worthD (d : PyData) : Bool := plnD d || refD d
theorem rp_name {K : PySem.W.Frag} {H : Hp} {v : V} {d : PyData} (h : Rp K H v d) : nameV v = nameD d := by
  rcases h with h | ⟨a, kvs, ds, rfl, _, _, _, rfl⟩
  · cases h <;> rfl
  · rfl
theorem rp_mark {K : PySem.W.Frag} {H : Hp} {v : V} {d : PyData} (h : Rp K H v d) : markV v = markD d := by
  rcases h with h | ⟨a, kvs, ds, rfl, _, _, _, rfl⟩
  · cases h <;> rfl
  · rfl
theorem rp_pln {K : PySem.W.Frag} {H : Hp} {v : V} {d : PyData} (h : Rp K H v d) : plainV v = plnD d := by
  rcases h with h | ⟨a, kvs, ds, rfl, _, _, _, rfl⟩
  · cases h <;> rfl
  · rfl
theorem refVs_eq {K : PySem.W.Frag} {H : Hp} : ∀ {xs : List V} {ds : List PyData}, DpAll K H xs ds → refVs xs = refD (.tuple ds)
  | _, _, .nil => rfl
  | _, _, .cons h .nil => by cases h <;> rfl
  | _, _, .cons (v := v) (d := d) h (.cons (v := v2) (d := d2) h2 (.cons _ _)) => by
    show false = refD _
    cases h <;> rfl
  | _, _, .cons (v := v) (d := d) h (.cons (v := v2) (d := d2) h2 .nil) => by
    have hm := rp_mark (.inl h2)
    cases h with
    | str x =>
      show (decide (V.str x = .str "at") && markV v2) = (decide (x = "at") && markD d2)
      rw [hm]
      congr 1
      simp
    | non => rfl
    | bl b => rfl
    | int i => rfl
    | lst _ _ => rfl
    | tup _ _ => rfl
theorem smallDs_any {K : PySem.W.Frag} {H : Hp} : ∀ {xs : List V} {ds : List PyData}, DpAll K H xs ds → smallDs ds = true → ∀ y ∈ xs, ∃ t, AnyV K H y t
  | _, _, .nil, _, y, hy => by simp at hy
  | _, _, .cons h t, hs, y, hy => by
    rw [smallDs, Bool.and_eq_true] at hs
    rcases List.mem_cons.mp hy with rfl | hy
    · exact ⟨_, anyD (.inl h) hs.1⟩
    · exact smallDs_any t hs.2 y hy
theorem rp_ref {K : PySem.W.Frag} {H : Hp} {v : V} {d : PyData} (h : Rp K H v d) (hs : smallD d = true) : RefIs K H v (kindD d) (refD d) := by
  rcases h with h | ⟨a, kvs, ds, rfl, _, _, _, rfl⟩
  · cases h with
    | tup sq al => exact .inr ⟨_, _, rfl, rfl, sq, smallDs_any al (by simpa [smallD] using hs), (refVs_eq al).symm⟩
    | non => exact .inl ⟨by show "NoneType" ≠ "tuple"; decide, rfl⟩
    | bl b => exact .inl ⟨by show "bool" ≠ "tuple"; decide, rfl⟩
    | int i => exact .inl ⟨by show "int" ≠ "tuple"; decide, rfl⟩
    | str x => exact .inl ⟨by show "str" ≠ "tuple"; decide, rfl⟩
    | lst _ _ => exact .inl ⟨by show "list" ≠ "tuple"; decide, rfl⟩
  · exact .inl ⟨by show "dict" ≠ "tuple"; decide, rfl⟩
/-- a question of one value of any kind -/
def spD (f : PyData → Bool) (K : PySem.W.Frag) : Sp := fun vs H Q _ => ∃ v d, vs = [v] ∧ Rp K H v d ∧ smallD d = true ∧ ∀ H', Same H H' → Q (.bl (f d)) H'
theorem spD_len {f : PyData → Bool} {K : PySem.W.Frag} : ∀ vs H Q E, spD f K vs H Q E → vs.length = 1 := by
  rintro _ H Q E ⟨v, d, rfl, _⟩
  rfl
/-- keys -/
def keysD (ds : List PyData) : List NestedKey := ds.filterMap keyOf
def diffD (ds : List PyData) : Bool := decide (keysD ds).Nodup
def spDiff (K : PySem.W.Frag) : Sp := fun vs H Q _ => ∃ v a xs ds, vs = [v] ∧ v = .ref a ∧ (SqL K H a xs ∨ SqT K H a xs) ∧ DpAll K H xs ds ∧ ds.length ≤ sizeLine ∧ (∀ d ∈ ds, ∃ k, keyOf d = some k ∧ k.depth ≤ 8) ∧ ∀ H', Same H H' → Q (.bl (diffD ds)) H'
def firstD : PyData → PyData
  | .tuple (x :: _) => x
  | _ => .none
def pairD : PyData → Bool
  | .tuple [_, y] => worthD y
  | _ => false
def itemsD : PyData → List PyData
  | .tuple xs => xs
  | _ => []
def fewD : PyData → Bool
  | .tuple xs => decide (xs.length ≤ 30)
  | _ => false
def pairsD (d : PyData) : Bool := fewD d && (itemsD d).all pairD
def fieldsD (d : PyData) : Bool := pairsD d && ((itemsD d).all (fun p => nameD (firstD p)) && diffD ((itemsD d).map firstD))
def entriesD (d : PyData) : Bool := pairsD d && ((itemsD d).all (fun p => worthD (firstD p)) && diffD ((itemsD d).map firstD))
def worthsD (d : PyData) : Bool := fewD d && (itemsD d).all worthD
def objD : PyData → Bool
  | .tuple [.str x, y] => if x = "record" then false else if x = "list" then worthsD y else if x = "set" then worthsD y && diffD (itemsD y) else if x = "dict" then entriesD y else false
  | .tuple [.str x, y, z] => if x = "record" then nameD y && fieldsD z else false
  | _ => false
theorem name_key {d : PyData} (h : nameD d = true) : ∃ k, keyOf d = some k ∧ k.depth ≤ 8 := by
  cases d with
  | str x => exact ⟨.text x, rfl, Nat.zero_le _⟩
  | _ => cases h
theorem worth_key {d : PyData} (h : worthD d = true) : ∃ k, keyOf d = some k ∧ k.depth ≤ 8 := by
  unfold worthD at h
  rw [Bool.or_eq_true] at h
  rcases h with h | h
  · cases d with
    | int i => exact ⟨.num i, rfl, Nat.zero_le _⟩
    | str x => exact ⟨.text x, rfl, Nat.zero_le _⟩
    | _ => cases h
  · match d, h with
    | .tuple [.str x, .str y], h => exact ⟨.tup [.text x, .text y], rfl, by simp [NestedKey.depth, NestedKey.depthAll]⟩
    | .tuple [.str x, .none], h => simp [refD, markD] at h
    | .tuple [.str x, .bool _], h => simp [refD, markD] at h
    | .tuple [.str x, .int _], h => simp [refD, markD] at h
    | .tuple [.str x, .list _], h => simp [refD, markD] at h
    | .tuple [.str x, .tuple _], h => simp [refD, markD] at h
    | .tuple [.str x, .dict _], h => simp [refD, markD] at h
section
variable {P : Program} {w : World} {K : PySem.W.Frag} {mg : Str → Option Value} {base : Heap} {a : Ad}
theorem okD_is_name (T : Txt P K mg a) : FnOk P w K mg base CX0 2 a.f_is_name a.d_is_name ["value"] (spD nameD K) := (ok_is_name T).imp fun vs H Q E h => by
  obtain ⟨v, d, rfl, r, hs, k⟩ := h
  exact ⟨v, _, rfl, anyD r hs, by rw [rp_name r]; exact k⟩
theorem okD_is_mark (T : Txt P K mg a) : FnOk P w K mg base CX0 2 a.f_is_mark a.d_is_mark ["value"] (spD markD K) := (ok_is_mark T).imp fun vs H Q E h => by
  obtain ⟨v, d, rfl, r, hs, k⟩ := h
  exact ⟨v, _, rfl, anyD r hs, by rw [rp_mark r]; exact k⟩
theorem okD_is_worth (T : Txt P K mg a) : FnOk P w K mg base CX0 4 a.f_is_worth a.d_is_worth ["value"] (spD worthD K) := (ok_is_worth T).imp fun vs H Q E h => by
  obtain ⟨v, d, rfl, r, hs, k⟩ := h
  refine ⟨v, _, _, rfl, anyD r hs, rp_ref r hs, ?_⟩
  rw [rp_pln r]
  exact k
def spRank (K : PySem.W.Frag) : Sp := fun vs H Q _ => ∃ (v : V) (x : W), vs = [v] ∧ Dp K H v x.d ∧ ∀ v' H', Same H H' → Dp K H' v' x.rk → Q v' H'
theorem dpAll1 {K : PySem.W.Frag} {H : Hp} {xs : List V} {d : PyData} (h : DpAll K H xs [d]) : ∃ v, xs = [v] ∧ Dp K H v d := by
  cases h with
  | cons h t => cases t; exact ⟨_, rfl, h⟩
theorem dpAll2 {K : PySem.W.Frag} {H : Hp} {xs : List V} {d e : PyData} (h : DpAll K H xs [d, e]) : ∃ v u, xs = [v, u] ∧ Dp K H v d ∧ Dp K H u e := by
  cases h with
  | cons h t =>
    obtain ⟨u, rfl, r⟩ := dpAll1 t
    exact ⟨_, _, rfl, h, r⟩
theorem dpAll3 {K : PySem.W.Frag} {H : Hp} {xs : List V} {d e f : PyData} (h : DpAll K H xs [d, e, f]) : ∃ v u t, xs = [v, u, t] ∧ Dp K H v d ∧ Dp K H u e ∧ Dp K H t f := by
  cases h with
  | cons h t =>
    obtain ⟨u, z, rfl, r, q⟩ := dpAll2 t
    exact ⟨_, _, _, rfl, h, r, q⟩
theorem dp_tuple {K : PySem.W.Frag} {H : Hp} {v : V} {ds : List PyData} (h : Dp K H v (.tuple ds)) : ∃ a xs, v = .ref a ∧ SqT K H a xs ∧ DpAll K H xs ds := by
  cases h with
  | tup sq al => exact ⟨_, _, rfl, sq, al⟩
theorem dp_str {K : PySem.W.Frag} {H : Hp} {v : V} {x : Str} (h : Dp K H v (.str x)) : v = .str x := by
  cases h
  rfl
theorem dp_int {K : PySem.W.Frag} {H : Hp} {v : V} {x : Int} (h : Dp K H v (.int x)) : v = .int x := by
  cases h
  rfl
theorem tyD {K : PySem.W.Frag} {H : Hp} {v : V} {d : PyData} (h : Dp K H v d) : TyX K H v (.type (kindD d)) := by
  cases h with
  | non => exact any_non.ty
  | bl b => exact (any_bl b).ty
  | int i => exact (any_int i).ty
  | str x => exact .base (.str x)
  | lst sq al => exact tyx_sql sq
  | tup sq al => exact tyx_sqt sq
theorem kind_mem (d : PyData) : kindD d ∈ kinds := by cases d <;> simp [kindD, kinds]
theorem kitD {K : PySem.W.Frag} {d : PyData} {T : String} (h : T ∈ asked := by decide) : PySem.W.kitOne K (.type (kindD d)) (.type T) = some (isT (kindD d) T) := kit_ty (kit_all _ (kind_mem d) T h)
theorem ok_rank (T : Txt P K mg a) : FnOk P w K mg base CX0 1 a.f_rank a.d_rank ["worth"] (spRank K) := by
  refine T.rank.F.ok sc_rank (fun vs H Q E h => ?_) (fun cdv A outer s H vs Q E hr h => ?_)
  · obtain ⟨v, x, rfl, _⟩ := h
    rfl
  · obtain ⟨v, x, rfl, dp, k⟩ := h
    refine ⟨_, (pss_cons (ps_if (pt_val (pe_callB call_isi (by rfl) T.z_isinstance (by decide +kernel) (pa_cons (pv 0) (pa_cons (pe_bltn (v := .ty "tuple") (by rfl) T.z_tuple (by decide +kernel) rfl) pa_nil)))) (pss_one (ps_ret (pe_tup (pa_cons pe_int (pa_cons (pe_ix ix_tup (pv 0) pe_int (fun _ _ => rfl)) pa_nil))))) pss_nil)
      (pss_one (ps_ret (pe_ifExp (pt_val (pe_callB call_isi (by rfl) T.z_isinstance (by decide +kernel) (pa_cons (pv 0) (pa_cons (pe_bltn (v := .ty "str") (by rfl) T.z_str (by decide +kernel) rfl) pa_nil)))) (pe_tup (pa_cons pe_int (pa_cons (pv 0) pa_nil))) (pe_tup (pa_cons pe_int (pa_cons (pv 0) pa_nil))))))), ?_⟩
    refine ⟨_, rfl, _, _, _, _, _, rfl, .ty _, tyD dp, kitD, _, rfl, ?_⟩
    have s2 : (2 : Nat) ≤ sizeLine := by decide
    cases x with
    | num i =>
      cases dp_int dp
      refine ifF (by rfl) ?_
      refine ⟨_, rfl, _, _, _, _, _, rfl, .ty _, tyD dp, kitD, _, rfl, ifF (by rfl) ?_⟩
      exact ⟨_, rfl, s2, fun p hp => k _ _ (same_new hp) (dp_tup upd_same (.cons (.int 0) (.cons (.int i) .nil)))⟩
    | txt x =>
      cases dp_str dp
      refine ifF (by rfl) ?_
      refine ⟨_, rfl, _, _, _, _, _, rfl, .ty _, tyD dp, kitD, _, rfl, ifT (by rfl) ?_⟩
      exact ⟨_, rfl, s2, fun p hp => k _ _ (same_new hp) (dp_tup upd_same (.cons (.int 1) (.cons (.str x) .nil)))⟩
    | ref m =>
      obtain ⟨q, xs, rfl, sq, al⟩ := dp_tuple dp
      obtain ⟨v1, v2, rfl, d1, d2⟩ := dpAll2 al
      cases dp_str d2
      refine ifT (by rfl) ?_
      exact ⟨_, rfl, q, _, 1, _, rfl, rfl, sq, rfl, s2, fun p hp => k _ _ (same_new hp) (dp_tup upd_same (.cons (.int 2) (.cons (.str m) .nil)))⟩
theorem ok_are_different (T : Txt P K mg a) : FnOk P w K mg base CX0 1 a.f_are_different a.d_are_different ["values"] (spDiff K) := by
  refine T.are_different.F.ok sc_are_different (fun vs H Q E h => ?_) (fun cdv A outer s H vs Q E hr h => ?_)
  · obtain ⟨v, l, xs, ds, rfl, _⟩ := h
    rfl
  · obtain ⟨_, l, xs, ds, rfl, rfl, hS, hd, hz, hk, k⟩ := h
    refine ⟨_, (pss_one (ps_ret (pe_cmpR op_eq (pe_callB call_lenM (by rfl) T.z_len (by decide +kernel) (pa_cons (pe_dcM (own := [("value", 1)]) (g := gName 1) (tt := tYes) (Nat.lt_of_le_of_lt (Nat.add_le_add_left (by decide : 8 ≤ 64) _) hr.units) (by rfl) sc_are_different.nd (pi_seq (pv 0)) (blkOk_by (own := [("value", 1)]) (N := ["values", "value"]) (sc := defScope s_are_different) (by decide +kernel)) (fun _ _ _ _ _ => (pg_name (i := 1) sc_are_different.nd rfl (Or.inl rfl))) (fun _ _ _ _ _ => pts_nil) (fun _ _ _ _ _ => (pv 1)) (fun _ _ _ _ _ => pe_bl)) pa_nil)) (pe_callB call_len_seq (by rfl) T.z_len (by decide +kernel) (pa_cons (pv 0) pa_nil)) (nomark _)))), ?_⟩
    refine ⟨_, rfl, l, xs, rfl, ?_⟩
    have hl : xs.length = ds.length := hd.len
    -- the items with their keys
    let F : V × PyData → NestedKey × V × V := fun p => ((keyOf p.2).getD .none, p.1, .bl true)
    have hz' : (xs.zip ds).length = xs.length := by rw [List.length_zip, hl, Nat.min_self]
    have hmem : ∀ p ∈ xs.zip ds, Dp K H p.1 p.2 ∧ p.2 ∈ ds := by
      intro p hp
      refine ⟨?_, (List.of_mem_zip hp).2⟩
      obtain ⟨i, hi, ei⟩ := List.getElem_of_mem hp
      have e1 : ds[i]? = some p.2 := by
        have : (xs.zip ds)[i]? = some p := by rw [List.getElem?_eq_getElem hi, ei]
        exact ((List.getElem?_zip_eq_some (z := p)).mp this).2
      have e2 : xs[i]? = some p.1 := by
        have : (xs.zip ds)[i]? = some p := by rw [List.getElem?_eq_getElem hi, ei]
        exact ((List.getElem?_zip_eq_some (z := p)).mp this).1
      obtain ⟨v, ev, dv⟩ := dpAll_get hd e1
      rw [e2] at ev
      cases ev
      exact dv
    have hA : ∀ p ∈ xs.zip ds, ∃ d, Dp K H (F p).2.1 d ∧ keyOf d = some (F p).1 ∧ (F p).1.depth ≤ 8 := fun p hp => by
      obtain ⟨h1, h2⟩ := hmem p hp
      obtain ⟨kk, e1, e2⟩ := hk _ h2
      exact ⟨p.2, h1, by show keyOf p.2 = some ((keyOf p.2).getD .none); rw [e1]; rfl, by show ((keyOf p.2).getD .none).depth ≤ 8; rw [e1]; exact e2⟩
    have e : decide (V.int ((mergeM [] ((xs.zip ds).map F)).length : Nat) = V.int (xs.length : Nat)) = diffD ds := by
      have h1 := mergeM_len_iff ((xs.zip ds).map F) []
      rw [List.length_nil, Nat.zero_add, List.length_map, hz'] at h1
      have h2 : ((xs.zip ds).map F).map (·.1) = keysD ds := by
        rw [List.map_map]
        have : ((fun x : NestedKey × V × V => x.1) ∘ F) = (fun d : PyData => (keyOf d).getD .none) ∘ Prod.snd := rfl
        rw [this, ← List.map_map, List.map_snd_zip (by omega)]
        have aux : ∀ l : List PyData, (∀ d ∈ l, ∃ k, keyOf d = some k ∧ k.depth ≤ 8) → l.map (fun d => (keyOf d).getD .none) = keysD l := by
          intro l
          induction l with
          | nil => exact fun _ => rfl
          | cons d l ih =>
            intro h
            obtain ⟨kk, e1, _⟩ := h d List.mem_cons_self
            have e3 : keysD (d :: l) = kk :: keysD l := by
              unfold keysD
              rw [List.filterMap_cons, e1]
            rw [List.map_cons, e1, e3, ih fun d hd => h d (List.mem_cons_of_mem _ hd)]
            rfl
        exact aux ds hk
      rw [h2] at h1
      simp at h1
      unfold diffD
      refine decide_eq_decide.mpr ?_
      rw [← h1]
      constructor
      · intro h
        exact Int.ofNat.inj (V.int.inj h)
      · intro h
        rw [h]
    refine SeqE.both hS (fun _ e => e) fun J G wk hG D hD => dcM_mapL (X := (cxOf CX0 P w K mg base ["values", "value"] "are_different" (defScope s_are_different) a.f_are_different cdv A outer s H E).nox) (ys := xs.zip ds) (F := F) (by rw [hz']; exact wk) hD (by rw [hz', hl]; exact hz) (fun H' s1 => hG H' fun o e => s1 _ _ e) hA (fun i p y H1 H2 R hp s1 _ yy hR => ?_) (fun H' s1 hl' => ?_)
    · obtain ⟨rfl, hy⟩ := yy
      have e2 : xs[i]? = some p.1 := ((List.getElem?_zip_eq_some (z := p)).mp hp).1
      rw [e2] at hy
      cases hy
      exact ⟨rfl, _, rfl, hR _ (Same.refl _)⟩
    · refine ⟨D, _, rfl, hl', _, rfl, l, xs, rfl, hS.imp (sql_stay s1) (sqt_stay s1), rfl, ?_⟩
      rw [e]
      exact k _ s1
end
end SB

set_option Elab.async false
set_option linter.all false
set_option maxRecDepth 100000
set_option maxHeartbeats 4000000
namespace SB
open PySem L2
theorem dp_tuple_of {K : PySem.W.Frag} {H : Hp} {v : V} {d : PyData} (h : Rp K H v d) : (kindD d ≠ "tuple" ∧ isT (kindD d) "tuple" = false ∧ fewD d = false ∧ itemsD d = []) ∨ ∃ (p : Addr) (xs : List V) (ds : List PyData), v = .ref p ∧ d = .tuple ds ∧ SqT K H p xs ∧ DpAll K H xs ds := by
  rcases h with h | ⟨a, kvs, ds, rfl, _, _, _, rfl⟩
  · cases h with
    | tup sq al => exact .inr ⟨_, _, _, rfl, rfl, sq, al⟩
    | non => exact .inl ⟨by show "NoneType" ≠ "tuple"; decide, rfl, rfl, rfl⟩
    | bl b => exact .inl ⟨by show "bool" ≠ "tuple"; decide, rfl, rfl, rfl⟩
    | int i => exact .inl ⟨by show "int" ≠ "tuple"; decide, rfl, rfl, rfl⟩
    | str x => exact .inl ⟨by show "str" ≠ "tuple"; decide, rfl, rfl, rfl⟩
    | lst _ _ => exact .inl ⟨by show "list" ≠ "tuple"; decide, rfl, rfl, rfl⟩
  · exact .inl ⟨by show "dict" ≠ "tuple"; decide, rfl, rfl, rfl⟩
theorem tyR {K : PySem.W.Frag} {H : Hp} {v : V} {d : PyData} (h : Rp K H v d) : TyX K H v (.type (kindD d)) := by
  rcases h with h | ⟨a, kvs, ds, rfl, h2, _, _, rfl⟩
  · exact tyD h
  · exact (any_dK h2).ty
theorem small_tup {ds : List PyData} (h : smallD (.tuple ds) = true) : smallDs ds = true := by simpa [smallD] using h
/-- walking a tuple of data, a bool for each -/
theorem all_map {α : Type} (l : List α) (f : α → Bool) : (l.map f).all id = l.all f := by
  induction l with
  | nil => rfl
  | cons x l ih => simp [ih]
section
variable {P : Program} {w : World} {K : PySem.W.Frag} {mg : Str → Option Value} {base : Heap} {a : Ad}
/-- a comprehension over a tuple of data, whose element is a bool told by the item's data -/
theorem lc_data {H : Hp} {l : Addr} {xs : List V} {ds : List PyData} {g : TG} {te : TE} {vs : List Nat} {σ : St} {D : Addr} {Qd : Hp → Prop} (hS : SqT K H l xs) (hd : DpAll K H xs ds) (hz : xs.length ≤ sizeLine) (hD : H D = none) (F : PyData → V)
    (hs : ∀ y d H1 (R : VK), d ∈ ds → Dp K H1 y d → Same H H1 → (∀ H4, Same H1 H4 → R (F d) H4) → g y (wipe σ vs) H1 fun σ2 H2 => wipe σ2 vs = wipe σ vs ∧ te σ2 H2 R)
    (hq : ∀ H', Same H H' → H' D = some (.lst (ds.map F)) → Qd H') :
    ∃ W : Nat → Nat → Hp → Prop, (∃ m, W 0 m (upd H D (.lst []))) ∧ ∀ i m H, W i m H →
      ((Itt K l).stop i H ∧ Qd H) ∨ ((Itt K l).go i H ∧ ∃ Nx : Hp → Prop, (∀ H', Nx H' → ∃ m', m' < m ∧ W (i + 1) m' H') ∧ ∀ x H', (Itt K l).yld i H x H' → g x (wipe σ vs) H' fun σ2 H2 => wipe σ2 vs = wipe σ vs ∧ tYes σ2 H2 fun b H3 =>
        if b = true then te σ2 H3 fun y H4 => ∃ acc, H4 D = some (.lst acc) ∧ acc.length < sizeLine ∧ Nx (upd H4 D (.lst (acc ++ [y]))) else Nx H3) := by
  have hl : xs.length = ds.length := hd.len
  refine lc_mapL (ys := ds) (by rw [← hl]; exact walk_tup (K := K) (a := l) (xs := xs)) hD (by rw [← hl]; exact hz) (fun H' s1 => sqt_stay s1 hS) F (fun i d y H1 H2 R hi s1 _ yy hR => ?_) (fun H' s1 hl' => hq H' s1 hl')
  obtain ⟨rfl, hy⟩ := yy
  obtain ⟨v, hv, dv⟩ := dpAll_get hd hi
  rw [hy] at hv
  cases hv
  exact hs y d _ R (List.mem_of_getElem? hi) (dp_stay s1 dv) s1 hR
theorem sqt_len {K : PySem.W.Frag} {H : Hp} {p : Addr} {xs : List V} (h : DpAll K H xs ds) : xs.length = ds.length := h.len
theorem ok_are_pairs (T : Txt P K mg a) : FnOk P w K mg base CX0 5 a.f_are_pairs a.d_are_pairs ["value"] (spD pairsD K) := by
  refine T.are_pairs.F.ok sc_are_pairs spD_len (fun cdv A outer s H vs Q E hr h => ?_)
  obtain ⟨v, d, rfl, r, hs, k⟩ := h
  refine ⟨_, (pss_cons (ps_if (PW.pt (pw_or (pt_not (pt_val (pe_callB call_isi (by rfl) T.z_isinstance (by decide +kernel) (pa_cons (pv 0) (pa_cons (pe_bltn (v := .ty "tuple") (by rfl) T.z_tuple (by decide +kernel) rfl) pa_nil))))) (pw_or1 (pt_cmpR op_gt (pe_callB call_len_seq (by rfl) T.z_len (by decide +kernel) (pa_cons (pv 0) pa_nil)) (pe_glob (v := .int 30) (by rfl) T.c_MOST_PARTS ⟨_, rfl⟩) (nomark _))))) (pss_one (ps_ret pe_bl)) pss_nil)
      (pss_one (ps_ret (pe_callB (cr_all rfl) (by rfl) T.z_all (by decide +kernel) (pa_cons (pe_lc (own := [("pair", 1)]) (g := gName 1) (tt := tYes) (by rfl) sc_are_pairs.nd (pi_tup (pv 0)) (blkOk_by (own := [("pair", 1)]) (N := ["value", "pair"]) (sc := defScope s_are_pairs) (by decide +kernel)) (fun _ _ _ _ _ => (pg_name (i := 1) sc_are_pairs.nd rfl (Or.inl rfl))) (fun _ _ _ _ _ => pts_nil) (fun _ _ _ _ _ => (pe_and (pe_callB (id := "isinstance") (r := rIsi K) call_isi (by rfl) T.z_isinstance (by decide +kernel) (pa_cons (pv 1) (pa_cons (pe_bltn (v := .ty "tuple") (by rfl) T.z_tuple (by decide +kernel) rfl) pa_nil))) (pe_and (pe_cmpR op_eq (pe_callB (id := "len") (r := rLenQ K) call_len_seq (by rfl) T.z_len (by decide +kernel) (pa_cons (pv 1) pa_nil)) pe_int (nomark _)) (pe_one (pe_call (okD_is_worth T) (hr.mono (by decide)) (by rfl) T.is_worth.g T.is_worth.k T.is_worth.b .nil pass0 (pa_cons (pe_ix (r := rIxT K) ix_tup (pv 1) pe_int (fun _ _ => rfl)) pa_nil))))))) pa_nil))))), ?_⟩
  refine ⟨_, rfl, _, _, _, _, _, rfl, .ty _, tyR r, kitD, _, rfl, ?_⟩
  rcases dp_tuple_of r with ⟨_, h1, h2, h3⟩ | ⟨p, xs, ds, rfl, rfl, sq, al⟩
  · rw [h1]
    have e : pairsD d = false := by unfold pairsD; rw [h2]; rfl
    rw [e] at k
    exact iteT (k _ (Same.refl _))
  · refine ifF (by rfl) ?_
    have hl : xs.length = ds.length := al.len
    refine ⟨_, rfl, p, xs, rfl, .inr sq, _, _, rfl, rfl, _, rfl, ?_⟩
    refine ifB (fun h1 => ?_) (fun h1 => ?_)
    · have e : pairsD (.tuple ds) = false := by
        have : ¬ ds.length ≤ 30 := by simp at h1; omega
        show (decide (ds.length ≤ 30) && _) = _
        rw [decide_eq_false this]
        rfl
      rw [e] at k
      exact k _ (Same.refl _)
    · have hle : ds.length ≤ 30 := by simp at h1; omega
      refine ⟨_, rfl, p, rfl, ⟨_, sq⟩, fun D hD => lc_data sq al (by rw [hl, sizeLine_eq]; omega) hD (fun d => .bl (pairD d)) ?_ fun H' s1 hl' => ?_⟩
      · intro y d H1 R hd dy s1 hR
        have hsd := smallDs_mem (small_tup hs) hd
        refine ⟨rfl, _, rfl, _, _, _, _, _, rfl, .ty _, tyD dy, kitD, _, rfl, ?_⟩
        rcases dp_tuple_of (.inl dy) with ⟨_, h1, h2, h3⟩ | ⟨p2, ys, es, rfl, rfl, sq2, al2⟩
        · rw [h1]
          have e : pairD d = false := by
            cases d with
            | tuple xs => simp [kindD] at h1; cases h1
            | _ => rfl
          rw [e] at hR
          exact iteF (hR _ (Same.refl _))
        · refine ifT (by rfl) ?_
          refine ⟨_, rfl, p2, ys, rfl, .inr sq2, rfl, _, rfl, ?_⟩
          match es, al2, hsd, hR with
          | [x, z], al2, hsd, hR =>
            obtain ⟨v1, v2, rfl, d1, d2⟩ := dpAll2 al2
            refine ifT (by simp) ?_
            refine ⟨_, rfl, p2, _, 1, _, rfl, rfl, sq2, rfl, v2, z, rfl, .inl d2, ?_, fun H' s2 => hR _ s2⟩
            exact smallDs_mem (small_tup hsd) (by simp)
          | [], al2, hsd, hR =>
            cases al2
            exact ifF (by decide) (hR _ (Same.refl _))
          | [x], al2, hsd, hR =>
            obtain ⟨v1, rfl, d1⟩ := dpAll1 al2
            exact ifF (by simp) (hR _ (Same.refl _))
          | x :: y :: z :: r, al2, hsd, hR =>
            have := al2.len
            refine ifF ?_ (hR _ (Same.refl _))
            simp at this ⊢
            omega
      · refine ⟨D, ds.map pairD, rfl, SqL.of (by rw [hl', List.map_map]; rfl), ?_⟩
        have e : pairsD (.tuple ds) = ds.all pairD := by
          show (decide (ds.length ≤ 30) && ds.all pairD) = _
          rw [decide_eq_true hle]
          rfl
        rw [all_map, ← e]
        exact k _ s1
theorem ok_are_worths (T : Txt P K mg a) : FnOk P w K mg base CX0 5 a.f_are_worths a.d_are_worths ["value"] (spD worthsD K) := by
  refine T.are_worths.F.ok sc_are_worths spD_len (fun cdv A outer s H vs Q E hr h => ?_)
  obtain ⟨v, d, rfl, r, hs, k⟩ := h
  refine ⟨_, (pss_one (ps_ret (pe_and (pe_callB call_isi (by rfl) T.z_isinstance (by decide +kernel) (pa_cons (pv 0) (pa_cons (pe_bltn (v := .ty "tuple") (by rfl) T.z_tuple (by decide +kernel) rfl) pa_nil))) (pe_and (pe_cmpR op_le (pe_callB call_len_seq (by rfl) T.z_len (by decide +kernel) (pa_cons (pv 0) pa_nil)) (pe_glob (v := .int 30) (by rfl) T.c_MOST_PARTS ⟨_, rfl⟩) (nomark _)) (pe_one (pe_callB (cr_all rfl) (by rfl) T.z_all (by decide +kernel) (pa_cons (pe_lc (own := [("one", 1)]) (g := gName 1) (tt := tYes) (by rfl) sc_are_worths.nd (pi_tup (pv 0)) (blkOk_by (own := [("one", 1)]) (N := ["value", "one"]) (sc := defScope s_are_worths) (by decide +kernel)) (fun _ _ _ _ _ => (pg_name (i := 1) sc_are_worths.nd rfl (Or.inl rfl))) (fun _ _ _ _ _ => pts_nil) (fun _ _ _ _ _ => (pe_call (okD_is_worth T) (hr.mono (by decide)) (by rfl) T.is_worth.g T.is_worth.k T.is_worth.b .nil pass0 (pa_cons (pv 1) pa_nil)))) pa_nil))))))), ?_⟩
  refine ⟨_, rfl, _, _, _, _, _, rfl, .ty _, tyR r, kitD, _, rfl, ?_⟩
  rcases dp_tuple_of r with ⟨_, h1, h2, h3⟩ | ⟨p, xs, ds, rfl, rfl, sq, al⟩
  · rw [h1]
    have e : worthsD d = false := by unfold worthsD; rw [h2]; rfl
    rw [e] at k
    exact iteF (k _ (Same.refl _))
  · refine ifT (by rfl) ?_
    have hl : xs.length = ds.length := al.len
    refine ⟨_, rfl, p, xs, rfl, .inr sq, _, _, rfl, rfl, _, rfl, ?_⟩
    refine ifB (fun h1 => ?_) (fun h1 => ?_)
    · have hle : ds.length ≤ 30 := by simp at h1; omega
      refine ⟨_, rfl, p, rfl, ⟨_, sq⟩, fun D hD => lc_data sq al (by rw [hl, sizeLine_eq]; omega) hD (fun d => .bl (worthD d)) ?_ fun H' s1 hl' => ?_⟩
      · intro y d H1 R hd dy s1 hR
        exact ⟨rfl, _, rfl, y, d, rfl, .inl dy, smallDs_mem (small_tup hs) hd, fun H' s2 => hR _ s2⟩
      · refine ⟨D, ds.map worthD, rfl, SqL.of (by rw [hl', List.map_map]; rfl), ?_⟩
        have e : worthsD (.tuple ds) = ds.all worthD := by
          show (decide (ds.length ≤ 30) && ds.all worthD) = _
          rw [decide_eq_true hle]
          rfl
        rw [all_map, ← e]
        exact k _ s1
    · have e : worthsD (.tuple ds) = false := by
        have : ¬ ds.length ≤ 30 := by simp at h1; omega
        show (decide (ds.length ≤ 30) && _) = _
        rw [decide_eq_false this]
        rfl
      rw [e] at k
      exact k _ (Same.refl _)
/-- the first parts of pairs -/
theorem pairD_two {d : PyData} (h : pairD d = true) : ∃ x y, d = .tuple [x, y] := by
  match d, h with
  | .tuple [x, y], _ => exact ⟨x, y, rfl⟩
theorem name_plain {d : PyData} (h : nameD d = true) : plainD d = true := by
  cases d with
  | str x => rfl
  | _ => cases h
theorem worth_plain {d : PyData} (h : worthD d = true) : plainD d = true := by
  unfold worthD at h
  rw [Bool.or_eq_true] at h
  rcases h with h | h
  · cases d with
    | int i => rfl
    | str x => rfl
    | _ => cases h
  · match d, h with
    | .tuple [.str x, .str y], h => rfl
    | .tuple [.str x, .none], h => simp [refD, markD] at h
    | .tuple [.str x, .bool _], h => simp [refD, markD] at h
    | .tuple [.str x, .int _], h => simp [refD, markD] at h
    | .tuple [.str x, .list _], h => simp [refD, markD] at h
    | .tuple [.str x, .tuple _], h => simp [refD, markD] at h
    | .tuple [.str x, .dict _], h => simp [refD, markD] at h
theorem ok_are_fields (T : Txt P K mg a) : FnOk P w K mg base CX0 6 a.f_are_fields a.d_are_fields ["value"] (spD fieldsD K) := by
  refine T.are_fields.F.ok sc_are_fields spD_len (fun cdv A outer s H vs Q E hr h => ?_)
  obtain ⟨v, d, rfl, r, hs, k⟩ := h
  refine ⟨_, (pss_cons (ps_if (PW.pt (pw_or (pt_not (pt_val (pe_call (ok_are_pairs T) (hr.mono (by decide)) (by rfl) T.are_pairs.g T.are_pairs.k T.are_pairs.b .nil pass0 (pa_cons (pv 0) pa_nil)))) (pw_or1 (pt_not (pt_val (pe_callB (cr_all rfl) (by rfl) T.z_all (by decide +kernel) (pa_cons (pe_lc (own := [("pair", 1)]) (g := gName 1) (tt := tYes) (by rfl) sc_are_fields.nd (pi_tup (pv 0)) (blkOk_by (own := [("pair", 1)]) (N := ["value", "pair"]) (sc := defScope s_are_fields) (by decide +kernel)) (fun _ _ _ _ _ => (pg_name (i := 1) sc_are_fields.nd rfl (Or.inl rfl))) (fun _ _ _ _ _ => pts_nil) (fun _ _ _ _ _ => (pe_call (okD_is_name T) (hr.mono (by decide)) (by rfl) T.is_name.g T.is_name.k T.is_name.b .nil pass0 (pa_cons (pe_ix (r := rIxT K) ix_tup (pv 1) pe_int (fun _ _ => rfl)) pa_nil)))) pa_nil))))))) (pss_one (ps_ret pe_bl)) pss_nil)
      (pss_one (ps_ret (pe_call (ok_are_different T) (hr.mono (by decide)) (by rfl) T.are_different.g T.are_different.k T.are_different.b .nil pass0 (pa_cons (pe_lc (own := [("pair", 1)]) (g := gName 1) (tt := tYes) (by rfl) sc_are_fields.nd (pi_tup (pv 0)) (blkOk_by (own := [("pair", 1)]) (N := ["value", "pair"]) (sc := defScope s_are_fields) (by decide +kernel)) (fun _ _ _ _ _ => (pg_name (i := 1) sc_are_fields.nd rfl (Or.inl rfl))) (fun _ _ _ _ _ => pts_nil) (fun _ _ _ _ _ => (pe_ix (r := rIxT K) ix_tup (pv 1) pe_int (fun _ _ => rfl)))) pa_nil))))), ?_⟩
  refine ⟨_, rfl, v, d, rfl, r, hs, fun H1 s1 => ⟨_, rfl, ?_⟩⟩
  cases hp : pairsD d with
  | false =>
    have e : fieldsD d = false := by unfold fieldsD; rw [hp]; rfl
    rw [e] at k
    exact iteT (k _ s1)
  | true =>
    refine iteF ?_
    rcases dp_tuple_of (rp_same s1 r) with ⟨_, _, h2, _⟩ | ⟨p, xs, ds, rfl, rfl, sq, al⟩
    · unfold pairsD at hp
      rw [h2] at hp
      cases hp
    have hl : xs.length = ds.length := al.len
    have hall : ∀ d ∈ ds, pairD d = true := by
      unfold pairsD at hp
      rw [Bool.and_eq_true] at hp
      exact List.all_eq_true.mp hp.2
    have hle : ds.length ≤ 30 := by
      unfold pairsD at hp
      rw [Bool.and_eq_true] at hp
      exact of_decide_eq_true hp.1
    refine ⟨_, rfl, p, rfl, ⟨_, sq⟩, fun D hD => lc_data sq al (by rw [hl, sizeLine_eq]; omega) hD (fun d => .bl (nameD (firstD d))) ?_ fun H2 s2 hl' => ?_⟩
    · intro y d H3 R hd dy s3 hR
      obtain ⟨x, z, rfl⟩ := pairD_two (hall d hd)
      obtain ⟨p2, ys, rfl, sq2, al2⟩ := dp_tuple dy
      obtain ⟨v1, v2, rfl, d1, d2⟩ := dpAll2 al2
      refine ⟨rfl, _, rfl, p2, _, 0, _, rfl, rfl, sq2, rfl, v1, x, rfl, .inl d1, smallDs_mem (small_tup (smallDs_mem (small_tup hs) hd)) (by simp), fun H' s4 => hR _ s4⟩
    · refine ⟨D, ds.map (fun d => nameD (firstD d)), rfl, SqL.of (by rw [hl', List.map_map]; rfl), _, rfl, ?_⟩
      rw [all_map]
      have s12 : Same H H2 := s1.trans s2
      cases hn : ds.all (fun d => nameD (firstD d)) with
      | false =>
        have e : fieldsD (.tuple ds) = false := by
          show (pairsD (.tuple ds) && (ds.all (fun d => nameD (firstD d)) && _)) = _
          rw [hp, hn]
          rfl
        rw [e] at k
        exact iteT (k _ s12)
      | true =>
        refine iteF ?_
        have hnn : ∀ d ∈ ds, nameD (firstD d) = true := List.all_eq_true.mp hn
        have al2 := dpAll_stay s2 al
        have sq2 := sqt_stay s2 sq
        refine ⟨_, rfl, p, rfl, ⟨_, sq2⟩, fun D2 hD2 => lc_dp (K := K) frame_same (ys := ds) (by rw [← hl]; exact walk_tup (K := K) (a := p) (xs := xs)) (Same.refl _) hD2 (by rw [sizeLine_eq]; omega) (fun H' s3 => sqt_stay s3 sq2) firstD (fun d hd => name_plain (hnn d hd)) ?_ fun H3 xs' s3 h3 al3 => ?_⟩
        · rintro i d x H3 H4 R hd s3 _ ⟨rfl, hy⟩ hR
          obtain ⟨v', hv', dv⟩ := dpAll_get al2 hd
          rw [hy] at hv'
          cases hv'
          obtain ⟨x', z, rfl⟩ := pairD_two (hall d (List.mem_of_getElem? hd))
          obtain ⟨p2, ys, rfl, sq2', al2'⟩ := dp_tuple (dp_stay s3 dv)
          obtain ⟨v1, v2, rfl, d1, d2⟩ := dpAll2 al2'
          exact ⟨rfl, _, rfl, p2, _, 0, _, rfl, rfl, sq2', rfl, hR _ _ (Same.refl _) d1⟩
        · refine ⟨_, D2, xs', ds.map firstD, rfl, rfl, .inl (SqL.of h3), al3, by rw [List.length_map, sizeLine_eq]; omega, fun d hd => ?_, fun H' s4 => ?_⟩
          · obtain ⟨d', hd', rfl⟩ := List.mem_map.mp hd
            exact name_key (hnn d' hd')
          · have e : fieldsD (.tuple ds) = diffD (ds.map firstD) := by
              show (pairsD (.tuple ds) && (ds.all (fun d => nameD (firstD d)) && diffD (ds.map firstD))) = _
              rw [hp, hn]
              rfl
            rw [← e]
            exact k _ (s12.trans (s3.trans s4))
theorem ok_are_entries (T : Txt P K mg a) : FnOk P w K mg base CX0 6 a.f_are_entries a.d_are_entries ["value"] (spD entriesD K) := by
  refine T.are_entries.F.ok sc_are_entries spD_len (fun cdv A outer s H vs Q E hr h => ?_)
  obtain ⟨v, d, rfl, r, hs, k⟩ := h
  refine ⟨_, (pss_cons (ps_if (PW.pt (pw_or (pt_not (pt_val (pe_call (ok_are_pairs T) (hr.mono (by decide)) (by rfl) T.are_pairs.g T.are_pairs.k T.are_pairs.b .nil pass0 (pa_cons (pv 0) pa_nil)))) (pw_or1 (pt_not (pt_val (pe_callB (cr_all rfl) (by rfl) T.z_all (by decide +kernel) (pa_cons (pe_lc (own := [("pair", 1)]) (g := gName 1) (tt := tYes) (by rfl) sc_are_entries.nd (pi_tup (pv 0)) (blkOk_by (own := [("pair", 1)]) (N := ["value", "pair"]) (sc := defScope s_are_entries) (by decide +kernel)) (fun _ _ _ _ _ => (pg_name (i := 1) sc_are_entries.nd rfl (Or.inl rfl))) (fun _ _ _ _ _ => pts_nil) (fun _ _ _ _ _ => (pe_call (okD_is_worth T) (hr.mono (by decide)) (by rfl) T.is_worth.g T.is_worth.k T.is_worth.b .nil pass0 (pa_cons (pe_ix (r := rIxT K) ix_tup (pv 1) pe_int (fun _ _ => rfl)) pa_nil)))) pa_nil))))))) (pss_one (ps_ret pe_bl)) pss_nil)
      (pss_one (ps_ret (pe_call (ok_are_different T) (hr.mono (by decide)) (by rfl) T.are_different.g T.are_different.k T.are_different.b .nil pass0 (pa_cons (pe_lc (own := [("pair", 1)]) (g := gName 1) (tt := tYes) (by rfl) sc_are_entries.nd (pi_tup (pv 0)) (blkOk_by (own := [("pair", 1)]) (N := ["value", "pair"]) (sc := defScope s_are_entries) (by decide +kernel)) (fun _ _ _ _ _ => (pg_name (i := 1) sc_are_entries.nd rfl (Or.inl rfl))) (fun _ _ _ _ _ => pts_nil) (fun _ _ _ _ _ => (pe_ix (r := rIxT K) ix_tup (pv 1) pe_int (fun _ _ => rfl)))) pa_nil))))), ?_⟩
  refine ⟨_, rfl, v, d, rfl, r, hs, fun H1 s1 => ⟨_, rfl, ?_⟩⟩
  cases hp : pairsD d with
  | false =>
    have e : entriesD d = false := by unfold entriesD; rw [hp]; rfl
    rw [e] at k
    exact iteT (k _ s1)
  | true =>
    refine iteF ?_
    rcases dp_tuple_of (rp_same s1 r) with ⟨_, _, h2, _⟩ | ⟨p, xs, ds, rfl, rfl, sq, al⟩
    · unfold pairsD at hp
      rw [h2] at hp
      cases hp
    have hl : xs.length = ds.length := al.len
    have hall : ∀ d ∈ ds, pairD d = true := by
      unfold pairsD at hp
      rw [Bool.and_eq_true] at hp
      exact List.all_eq_true.mp hp.2
    have hle : ds.length ≤ 30 := by
      unfold pairsD at hp
      rw [Bool.and_eq_true] at hp
      exact of_decide_eq_true hp.1
    refine ⟨_, rfl, p, rfl, ⟨_, sq⟩, fun D hD => lc_data sq al (by rw [hl, sizeLine_eq]; omega) hD (fun d => .bl (worthD (firstD d))) ?_ fun H2 s2 hl' => ?_⟩
    · intro y d H3 R hd dy s3 hR
      obtain ⟨x, z, rfl⟩ := pairD_two (hall d hd)
      obtain ⟨p2, ys, rfl, sq2, al2⟩ := dp_tuple dy
      obtain ⟨v1, v2, rfl, d1, d2⟩ := dpAll2 al2
      refine ⟨rfl, _, rfl, p2, _, 0, _, rfl, rfl, sq2, rfl, v1, x, rfl, .inl d1, smallDs_mem (small_tup (smallDs_mem (small_tup hs) hd)) (by simp), fun H' s4 => hR _ s4⟩
    · refine ⟨D, ds.map (fun d => worthD (firstD d)), rfl, SqL.of (by rw [hl', List.map_map]; rfl), _, rfl, ?_⟩
      rw [all_map]
      have s12 : Same H H2 := s1.trans s2
      cases hn : ds.all (fun d => worthD (firstD d)) with
      | false =>
        have e : entriesD (.tuple ds) = false := by
          show (pairsD (.tuple ds) && (ds.all (fun d => worthD (firstD d)) && _)) = _
          rw [hp, hn]
          rfl
        rw [e] at k
        exact iteT (k _ s12)
      | true =>
        refine iteF ?_
        have hnn : ∀ d ∈ ds, worthD (firstD d) = true := List.all_eq_true.mp hn
        have al2 := dpAll_stay s2 al
        have sq2 := sqt_stay s2 sq
        refine ⟨_, rfl, p, rfl, ⟨_, sq2⟩, fun D2 hD2 => lc_dp (K := K) frame_same (ys := ds) (by rw [← hl]; exact walk_tup (K := K) (a := p) (xs := xs)) (Same.refl _) hD2 (by rw [sizeLine_eq]; omega) (fun H' s3 => sqt_stay s3 sq2) firstD (fun d hd => worth_plain (hnn d hd)) ?_ fun H3 xs' s3 h3 al3 => ?_⟩
        · rintro i d x H3 H4 R hd s3 _ ⟨rfl, hy⟩ hR
          obtain ⟨v', hv', dv⟩ := dpAll_get al2 hd
          rw [hy] at hv'
          cases hv'
          obtain ⟨x', z, rfl⟩ := pairD_two (hall d (List.mem_of_getElem? hd))
          obtain ⟨p2, ys, rfl, sq2', al2'⟩ := dp_tuple (dp_stay s3 dv)
          obtain ⟨v1, v2, rfl, d1, d2⟩ := dpAll2 al2'
          exact ⟨rfl, _, rfl, p2, _, 0, _, rfl, rfl, sq2', rfl, hR _ _ (Same.refl _) d1⟩
        · refine ⟨_, D2, xs', ds.map firstD, rfl, rfl, .inl (SqL.of h3), al3, by rw [List.length_map, sizeLine_eq]; omega, fun d hd => ?_, fun H' s4 => ?_⟩
          · obtain ⟨d', hd', rfl⟩ := List.mem_map.mp hd
            exact worth_key (hnn d' hd')
          · have e : entriesD (.tuple ds) = diffD (ds.map firstD) := by
              show (pairsD (.tuple ds) && (ds.all (fun d => worthD (firstD d)) && diffD (ds.map firstD))) = _
              rw [hp, hn]
              rfl
            rw [← e]
            exact k _ (s12.trans (s3.trans s4))
end
end SB

set_option Elab.async false
set_option linter.all false
set_option maxRecDepth 100000
set_option maxHeartbeats 4000000
namespace SB
open PySem L2
/-! ### objects -/
inductive Thing where
  | rcd (n : Str) (fs : List (Str × W))
  | lst (ws : List W)
  | set (ws : List W)
  | dic (es : List (W × W))
def fieldD (f : Str × W) : PyData := .tuple [.str f.1, f.2.d]
def entryD (e : W × W) : PyData := .tuple [e.1.d, e.2.d]
def Thing.d : Thing → PyData
  | .rcd n fs => .tuple [.str "record", .str n, .tuple (fs.map fieldD)]
  | .lst ws => .tuple [.str "list", .tuple (ws.map W.d)]
  | .set ws => .tuple [.str "set", .tuple (ws.map W.d)]
  | .dic es => .tuple [.str "dict", .tuple (es.map entryD)]
def fieldK (f : Str × W) : PyData := .str f.1
def entryK (e : W × W) : PyData := e.1.rk
def Thing.srt : Thing → Thing
  | .rcd n fs => .rcd n (fs.mergeSort (PySem.W.dataLe false fieldK))
  | .lst ws => .lst ws
  | .set ws => .set (ws.mergeSort (PySem.W.dataLe false W.rk))
  | .dic es => .dic (es.mergeSort (PySem.W.dataLe false entryK))
def Thing.len : Thing → Nat
  | .rcd _ fs => fs.length
  | .lst ws => ws.length
  | .set ws => ws.length
  | .dic es => es.length
theorem fieldD_plain (f : Str × W) : plainD (fieldD f) = true := by
  show plainDs [.str f.1, f.2.d] = true
  simp [plainDs, plainD, W.d_plain]
theorem entryD_plain (e : W × W) : plainD (entryD e) = true := by
  show plainDs [e.1.d, e.2.d] = true
  simp [plainDs, plainD, W.d_plain]
theorem plain_map {α : Type} {f : α → PyData} (h : ∀ a, plainD (f a) = true) (l : List α) : plainDs (l.map f) = true := plainDs_of fun d hd => by
  obtain ⟨a, _, rfl⟩ := List.mem_map.mp hd
  exact h a
theorem Thing.d_plain (t : Thing) : plainD t.d = true := by
  cases t with
  | rcd n fs => simp [Thing.d, plainD, plainDs, plain_map fieldD_plain]
  | lst ws => simp [Thing.d, plainD, plainDs, plain_map W.d_plain]
  | set ws => simp [Thing.d, plainD, plainDs, plain_map W.d_plain]
  | dic es => simp [Thing.d, plainD, plainDs, plain_map entryD_plain]
theorem ranks_str {α : Type} (k : α → Str) (l : List α) : PySem.W.Ranks (l.map fun a => PyData.str (k a)) := by
  refine ⟨fun d hd => ?_, .inl ⟨fun d hd d' hd' => ?_, .inr fun d hd => ?_⟩⟩
  · obtain ⟨a, _, rfl⟩ := List.mem_map.mp hd
    rfl
  · obtain ⟨a, _, rfl⟩ := List.mem_map.mp hd
    obtain ⟨b, _, rfl⟩ := List.mem_map.mp hd'
    rfl
  · obtain ⟨a, _, rfl⟩ := List.mem_map.mp hd
    exact ⟨fun (z : PyData.str _ = .none) => (nomatch z), fun xs (z : PyData.str _ = .tuple xs) => (nomatch z)⟩
theorem ranks_rk {α : Type} (k : α → W) (l : List α) : PySem.W.Ranks (l.map fun a => (k a).rk) := by
  have h := W.ranks (l.map k)
  rw [List.map_map] at h
  exact h
/-- sorted values stand for the sorted things -/
theorem sort_dp {α : Type} {K : PySem.W.Frag} {H : Hp} {ps : List (V × α)} {g k : α → PyData} (h : ∀ p ∈ ps, Dp K H p.1 (g p.2)) :
    DpAll K H ((ps.mergeSort (PySem.W.dataLe false fun p => k p.2)).map (·.1)) (((ps.map (·.2)).mergeSort (PySem.W.dataLe false k)).map g) := by
  have e : (ps.mergeSort (PySem.W.dataLe false fun p => k p.2)).map (·.2) = (ps.map (·.2)).mergeSort (PySem.W.dataLe false k) := List.map_mergeSort fun a _ b _ => rfl
  rw [← e, List.map_map]
  exact dpAll_map.mpr fun p hp => h p ((List.mergeSort_perm ps _).mem_iff.mp hp)
def spOrder (K : PySem.W.Frag) (T : List (Addr × Str)) : Sp := fun vs H Q _ => ∃ (v : V) (t : Thing), vs = [v] ∧ Dp K H v t.d ∧ LamX.Tabs T H ∧ ∀ v' H', Stay T H H' → Dp K H' v' t.srt.d → Q v' H'
theorem same_stay {T : List (Addr × Str)} {A B C : Hp} (e : LamX.ExtN A B) (t : LamX.Tabs T B) (s : Same B C) : Stay T A C := (Stay.mk e t).same s
section
variable {P : Program} {w : World} {K : PySem.W.Frag} {mg : Str → Option Value} {base : Heap} {a : Ad}
theorem ok_is_object (T : Txt P K mg a) : FnOk P w K mg base CX0 7 a.f_is_object a.d_is_object ["value"] (spD objD K) := by
  refine T.is_object.F.ok sc_is_object spD_len (fun cdv A outer s H vs Q E hr h => ?_)
  obtain ⟨v, d, rfl, r, hs, k⟩ := h
  refine ⟨_, (pss_cons (ps_if (PW.pt (pw_or (pt_not (pt_val (pe_callB call_isi (by rfl) T.z_isinstance (by decide +kernel) (pa_cons (pv 0) (pa_cons (pe_bltn (v := .ty "tuple") (by rfl) T.z_tuple (by decide +kernel) rfl) pa_nil))))) (pw_or (pt_not (pt_chain op_le op_le pe_int (pe_callB call_len_seq (by rfl) T.z_len (by decide +kernel) (pa_cons (pv 0) pa_nil)) pe_int)) (pw_or1 (pt_not (pt_val (pe_callB call_isi (by rfl) T.z_isinstance (by decide +kernel) (pa_cons (pe_ix ix_tup (pv 0) pe_int (fun _ _ => rfl)) (pa_cons (pe_bltn (v := .ty "str") (by rfl) T.z_str (by decide +kernel) rfl) pa_nil))))))))) (pss_one (ps_ret pe_bl)) pss_nil)
      (pss_one (ps_match (pe_ix ix_tup (pv 0) pe_int (fun _ _ => rfl)) (pm_text (pss_one (ps_ret (pe_and (pe_cmpR op_eq (pe_callB call_len_seq (by rfl) T.z_len (by decide +kernel) (pa_cons (pv 0) pa_nil)) pe_int (nomark _)) (pe_and (pe_call (okD_is_name T) (hr.mono (by decide)) (by rfl) T.is_name.g T.is_name.k T.is_name.b .nil pass0 (pa_cons (pe_ix ix_tup (pv 0) pe_int (fun _ _ => rfl)) pa_nil)) (pe_one (pe_call (ok_are_fields T) (hr.mono (by decide)) (by rfl) T.are_fields.g T.are_fields.k T.are_fields.b .nil pass0 (pa_cons (pe_ix ix_tup (pv 0) pe_int (fun _ _ => rfl)) pa_nil)))))))
      (pm_text (pss_one (ps_ret (pe_and (pe_cmpR op_eq (pe_callB call_len_seq (by rfl) T.z_len (by decide +kernel) (pa_cons (pv 0) pa_nil)) pe_int (nomark _)) (pe_one (pe_call (ok_are_worths T) (hr.mono (by decide)) (by rfl) T.are_worths.g T.are_worths.k T.are_worths.b .nil pass0 (pa_cons (pe_ix ix_tup (pv 0) pe_int (fun _ _ => rfl)) pa_nil))))))
      (pm_text (pss_one (ps_ret (pe_and (pe_cmpR op_eq (pe_callB call_len_seq (by rfl) T.z_len (by decide +kernel) (pa_cons (pv 0) pa_nil)) pe_int (nomark _)) (pe_and (pe_call (ok_are_worths T) (hr.mono (by decide)) (by rfl) T.are_worths.g T.are_worths.k T.are_worths.b .nil pass0 (pa_cons (pe_ix ix_tup (pv 0) pe_int (fun _ _ => rfl)) pa_nil)) (pe_one (pe_call (ok_are_different T) (hr.mono (by decide)) (by rfl) T.are_different.g T.are_different.k T.are_different.b .nil pass0 (pa_cons (pe_ix ix_tup (pv 0) pe_int (fun _ _ => rfl)) pa_nil)))))))
      (pm_text (pss_one (ps_ret (pe_and (pe_cmpR op_eq (pe_callB call_len_seq (by rfl) T.z_len (by decide +kernel) (pa_cons (pv 0) pa_nil)) pe_int (nomark _)) (pe_one (pe_call (ok_are_entries T) (hr.mono (by decide)) (by rfl) T.are_entries.g T.are_entries.k T.are_entries.b .nil pass0 (pa_cons (pe_ix ix_tup (pv 0) pe_int (fun _ _ => rfl)) pa_nil))))))
      (pm_wild (pss_one (ps_ret pe_bl)))))))))), ?_⟩
  refine ⟨_, rfl, _, _, _, _, _, rfl, .ty _, tyR r, kitD, _, rfl, ?_⟩
  rcases dp_tuple_of r with ⟨hk, h1, h2, h3⟩ | ⟨p, xs, ds, rfl, rfl, sq, al⟩
  · rw [h1]
    have e : objD d = false := by
      cases d with
      | tuple ds => exact absurd rfl hk
      | _ => rfl
    rw [e] at k
    exact iteT (k _ (Same.refl _))
  · refine ifF (by rfl) ?_
    have hl : xs.length = ds.length := al.len
    refine ⟨_, rfl, p, xs, rfl, .inr sq, _, _, rfl, rfl, _, rfl, ?_⟩
    have two : ∀ {x y : PyData} {xs : List V} (Q : Prop), DpAll K H xs [x, y] → (∀ v1 v2, xs = [v1, v2] → Dp K H v1 x → Dp K H v2 y → Q) → Q := fun Q al k => by
      obtain ⟨v1, v2, rfl, d1, d2⟩ := dpAll2 al
      exact k _ _ rfl d1 d2
    match ds, al, hs, k, hl with
    | [], al, hs, k, hl =>
      cases al
      exact ifF (by decide) ⟨_, rfl, k _ (Same.refl _)⟩
    | [x], al, hs, k, hl =>
      obtain ⟨v1, rfl, d1⟩ := dpAll1 al
      have e : objD (.tuple [x]) = false := by cases x <;> rfl
      rw [e] at k
      exact ifF (by simp) ⟨_, rfl, k _ (Same.refl _)⟩
    | x :: y :: z :: u :: r', al, hs, k, hl =>
      have e : objD (.tuple (x :: y :: z :: u :: r')) = false := by cases x <;> rfl
      rw [e] at k
      refine ifT (by simp at hl ⊢; omega) ?_
      refine ⟨_, _, rfl, rfl, _, rfl, ifT (by simp at hl ⊢; omega) ?_⟩
      exact k _ (Same.refl _)
    | [x, y], al, hs, k, hl =>
      obtain ⟨v1, v2, rfl, d1, d2⟩ := dpAll2 al
      refine ifT (by simp) ⟨_, _, rfl, rfl, _, rfl, ifF (by simp) ?_⟩
      refine ⟨_, rfl, p, _, 0, _, rfl, rfl, sq, rfl, _, _, _, _, _, rfl, .ty _, tyD d1, kitD, _, rfl, ?_⟩
      have sy : smallD y = true := smallDs_mem (small_tup hs) (by simp)
      cases d1 with
      | str x =>
        refine ifF (by rfl) ?_
        refine ⟨_, rfl, p, _, 0, _, rfl, rfl, sq, rfl, x, rfl, ?_⟩
        have hk : objD (.tuple [.str x, y]) = (if x = "record" then false else if x = "list" then worthsD y else if x = "set" then worthsD y && diffD (itemsD y) else if x = "dict" then entriesD y else false) := rfl
        rw [hk] at k
        by_cases hx : x = "record"
        · rw [if_pos hx] at k
          refine eqT hx ?_
          refine ⟨_, rfl, p, _, rfl, .inr sq, rfl, _, rfl, ifF (by simp) ?_⟩
          exact k _ (Same.refl _)
        rw [if_neg hx] at k
        refine eqF hx ?_
        by_cases hx : x = "list"
        · rw [if_pos hx] at k
          refine eqT hx ?_
          refine ⟨_, rfl, p, _, rfl, .inr sq, rfl, _, rfl, ifT (by simp) ?_⟩
          exact ⟨_, rfl, p, _, 1, _, rfl, rfl, sq, rfl, v2, y, rfl, .inl d2, sy, k⟩
        rw [if_neg hx] at k
        refine eqF hx ?_
        by_cases hx : x = "set"
        · rw [if_pos hx] at k
          refine eqT hx ?_
          refine ⟨_, rfl, p, _, rfl, .inr sq, rfl, _, rfl, ifT (by simp) ?_⟩
          refine ⟨_, rfl, p, _, 1, _, rfl, rfl, sq, rfl, v2, y, rfl, .inl d2, sy, fun H1 s1 => ⟨_, rfl, ?_⟩⟩
          cases hw : worthsD y with
          | false =>
            rw [hw] at k
            exact iteF (k _ s1)
          | true =>
            rw [hw] at k
            refine iteT ?_
            rcases dp_tuple_of (.inl d2) with ⟨_, _, h2, _⟩ | ⟨p2, ys, es, rfl, rfl, sq2, al2⟩
            · unfold worthsD at hw
              rw [h2] at hw
              cases hw
            have hww : es.length ≤ 30 ∧ ∀ e ∈ es, worthD e = true := by
              unfold worthsD at hw
              rw [Bool.and_eq_true] at hw
              exact ⟨of_decide_eq_true hw.1, List.all_eq_true.mp hw.2⟩
            refine ⟨_, rfl, p, _, 1, _, rfl, rfl, sqt_stay s1 sq, rfl, _, p2, ys, es, rfl, rfl, .inr (sqt_stay s1 sq2), dpAll_stay s1 al2, by rw [sizeLine_eq]; omega, fun d hd => worth_key (hww.2 d hd), fun H' s2 => ?_⟩
            exact k _ (s1.trans s2)
        rw [if_neg hx] at k
        refine eqF hx ?_
        by_cases hx : x = "dict"
        · rw [if_pos hx] at k
          refine eqT hx ?_
          refine ⟨_, rfl, p, _, rfl, .inr sq, rfl, _, rfl, ifT (by simp) ?_⟩
          exact ⟨_, rfl, p, _, 1, _, rfl, rfl, sq, rfl, v2, y, rfl, .inl d2, sy, k⟩
        rw [if_neg hx] at k
        refine eqF hx ?_
        exact k _ (Same.refl _)
      | _ => exact ifT (by rfl) (k _ (Same.refl _))
    | [x, y, z], al, hs, k, hl =>
      obtain ⟨v1, v2, v3, rfl, d1, d2, d3⟩ := dpAll3 al
      refine ifT (by simp) ⟨_, _, rfl, rfl, _, rfl, ifF (by simp) ?_⟩
      refine ⟨_, rfl, p, _, 0, _, rfl, rfl, sq, rfl, _, _, _, _, _, rfl, .ty _, tyD d1, kitD, _, rfl, ?_⟩
      have sy : smallD y = true := smallDs_mem (small_tup hs) (by simp)
      have sz : smallD z = true := smallDs_mem (small_tup hs) (by simp)
      cases d1 with
      | str x =>
        refine ifF (by rfl) ?_
        refine ⟨_, rfl, p, _, 0, _, rfl, rfl, sq, rfl, x, rfl, ?_⟩
        have hk : objD (.tuple [.str x, y, z]) = (if x = "record" then nameD y && fieldsD z else false) := rfl
        rw [hk] at k
        by_cases hx : x = "record"
        · rw [if_pos hx] at k
          refine eqT hx ?_
          refine ⟨_, rfl, p, _, rfl, .inr sq, rfl, _, rfl, ifT (by simp) ?_⟩
          refine ⟨_, rfl, p, _, 1, _, rfl, rfl, sq, rfl, v2, y, rfl, .inl d2, sy, fun H1 s1 => ⟨_, rfl, ?_⟩⟩
          cases hn : nameD y with
          | false =>
            rw [hn] at k
            exact iteF (k _ s1)
          | true =>
            rw [hn] at k
            refine iteT ?_
            exact ⟨_, rfl, p, _, 2, _, rfl, rfl, sqt_stay s1 sq, rfl, v3, z, rfl, .inl (dp_stay s1 d3), sz, fun H' s2 => k _ (s1.trans s2)⟩
        rw [if_neg hx] at k
        refine eqF hx ?_
        have bad : ∀ y : Str, (x = y → False) → True := fun _ _ => trivial
        by_cases h2 : x = "list"
        · refine eqT h2 ?_
          exact ⟨_, rfl, p, _, rfl, .inr sq, rfl, _, rfl, ifF (by simp) (k _ (Same.refl _))⟩
        refine eqF h2 ?_
        by_cases h2 : x = "set"
        · refine eqT h2 ?_
          exact ⟨_, rfl, p, _, rfl, .inr sq, rfl, _, rfl, ifF (by simp) (k _ (Same.refl _))⟩
        refine eqF h2 ?_
        by_cases h2 : x = "dict"
        · refine eqT h2 ?_
          exact ⟨_, rfl, p, _, rfl, .inr sq, rfl, _, rfl, ifF (by simp) (k _ (Same.refl _))⟩
        refine eqF h2 ?_
        exact k _ (Same.refl _)
      | _ => exact ifT (by rfl) (k _ (Same.refl _))
end
end SB

set_option Elab.async false
set_option linter.all false
set_option maxRecDepth 100000
set_option maxHeartbeats 4000000
namespace SB
open PySem L2
/-! ### what is_object accepts -/
theorem map_of {α β : Type} {g : α → β} : ∀ {bs : List β}, (∀ b ∈ bs, ∃ a, g a = b) → ∃ as : List α, as.map g = bs
  | [], _ => ⟨[], rfl⟩
  | b :: bs, h => by
    obtain ⟨a, ha⟩ := h b List.mem_cons_self
    obtain ⟨as, has⟩ := map_of (bs := bs) fun b hb => h b (List.mem_cons_of_mem _ hb)
    exact ⟨a :: as, by rw [List.map_cons, ha, has]⟩
theorem worth_of {d : PyData} (h : worthD d = true) : ∃ x : W, x.d = d := by
  unfold worthD at h
  rw [Bool.or_eq_true] at h
  rcases h with h | h
  · cases d with
    | int i => exact ⟨.num i, rfl⟩
    | str x => exact ⟨.txt x, rfl⟩
    | _ => cases h
  · match d, h with
    | .tuple [.str x, .str y], h =>
      have h1 : (decide (x = "at") && markD (.str y)) = true := h
      rw [Bool.and_eq_true] at h1
      have h2 := of_decide_eq_true h1.1
      exact ⟨.ref y, by rw [h2]; rfl⟩
    | .tuple [.str x, .none], h => simp [refD, markD] at h
    | .tuple [.str x, .bool _], h => simp [refD, markD] at h
    | .tuple [.str x, .int _], h => simp [refD, markD] at h
    | .tuple [.str x, .list _], h => simp [refD, markD] at h
    | .tuple [.str x, .tuple _], h => simp [refD, markD] at h
    | .tuple [.str x, .dict _], h => simp [refD, markD] at h
theorem worths_of {d : PyData} (h : worthsD d = true) : ∃ ws : List W, d = .tuple (ws.map W.d) := by
  unfold worthsD at h
  rw [Bool.and_eq_true] at h
  cases d with
  | tuple ds =>
    obtain ⟨ws, e⟩ := map_of (g := W.d) (bs := ds) fun d hd => worth_of (List.all_eq_true.mp h.2 d hd)
    exact ⟨ws, by rw [e]⟩
  | _ => cases h.1
theorem pairs_of {d : PyData} (h : pairsD d = true) : ∃ ds, d = .tuple ds ∧ ∀ e ∈ ds, ∃ x y : PyData, e = .tuple [x, y] ∧ worthD y = true := by
  unfold pairsD at h
  rw [Bool.and_eq_true] at h
  cases d with
  | tuple ds =>
    refine ⟨ds, rfl, fun e he => ?_⟩
    have hp := List.all_eq_true.mp h.2 e he
    obtain ⟨x, y, rfl⟩ := pairD_two hp
    exact ⟨x, y, rfl, hp⟩
  | _ => cases h.1
theorem fields_of {d : PyData} (h : fieldsD d = true) : ∃ fs : List (Str × W), d = .tuple (fs.map fieldD) := by
  unfold fieldsD at h
  rw [Bool.and_eq_true, Bool.and_eq_true] at h
  obtain ⟨ds, rfl, hp⟩ := pairs_of h.1
  obtain ⟨fs, e⟩ := map_of (g := fieldD) (bs := ds) fun d hd => by
    obtain ⟨x, y, rfl, hy⟩ := hp d hd
    have hx : nameD x = true := List.all_eq_true.mp h.2.1 _ hd
    obtain ⟨z, rfl⟩ := worth_of hy
    cases x with
    | str x => exact ⟨(x, z), rfl⟩
    | _ => cases hx
  exact ⟨fs, by rw [e]⟩
theorem entries_of {d : PyData} (h : entriesD d = true) : ∃ es : List (W × W), d = .tuple (es.map entryD) := by
  unfold entriesD at h
  rw [Bool.and_eq_true, Bool.and_eq_true] at h
  obtain ⟨ds, rfl, hp⟩ := pairs_of h.1
  obtain ⟨fs, e⟩ := map_of (g := entryD) (bs := ds) fun d hd => by
    obtain ⟨x, y, rfl, hy⟩ := hp d hd
    have hx : worthD x = true := List.all_eq_true.mp h.2.1 _ hd
    obtain ⟨z, rfl⟩ := worth_of hy
    obtain ⟨u, rfl⟩ := worth_of hx
    exact ⟨(u, z), rfl⟩
  exact ⟨fs, by rw [e]⟩
theorem obj_thing {d : PyData} (h : objD d = true) : ∃ t : Thing, t.d = d := by
  match d, h with
  | .tuple [.str x, y], h =>
    have hk : objD (.tuple [.str x, y]) = (if x = "record" then false else if x = "list" then worthsD y else if x = "set" then worthsD y && diffD (itemsD y) else if x = "dict" then entriesD y else false) := rfl
    rw [hk] at h
    by_cases hx : x = "record"
    · rw [if_pos hx] at h
      cases h
    rw [if_neg hx] at h
    by_cases hx : x = "list"
    · rw [if_pos hx] at h
      obtain ⟨ws, rfl⟩ := worths_of h
      exact ⟨.lst ws, by rw [hx]; rfl⟩
    rw [if_neg hx] at h
    by_cases hx : x = "set"
    · rw [if_pos hx, Bool.and_eq_true] at h
      obtain ⟨ws, rfl⟩ := worths_of h.1
      exact ⟨.set ws, by rw [hx]; rfl⟩
    rw [if_neg hx] at h
    by_cases hx : x = "dict"
    · rw [if_pos hx] at h
      obtain ⟨es, rfl⟩ := entries_of h
      exact ⟨.dic es, by rw [hx]; rfl⟩
    rw [if_neg hx] at h
    cases h
  | .tuple [.str x, y, z], h =>
    have hk : objD (.tuple [.str x, y, z]) = (if x = "record" then nameD y && fieldsD z else false) := rfl
    rw [hk] at h
    by_cases hx : x = "record"
    · rw [if_pos hx, Bool.and_eq_true] at h
      obtain ⟨fs, rfl⟩ := fields_of h.2
      cases y with
      | str y => exact ⟨.rcd y fs, by rw [hx]; rfl⟩
      | _ => cases h.1
    rw [if_neg hx] at h
    cases h
/-- an error of the class C with the value v leaves -/
def Leaves (C : Addr) (E : XK) (H : Hp) (f : Str) (v : V) : Prop := ∀ H' d, Same H H' → H' d = none → E (.ref C) (some d) (upd H' d (.xd [(f, v)]))
def spCheckObj (K : PySem.W.Frag) (C : Addr) : Sp := fun vs H Q E => ∃ v d, vs = [v] ∧ Rp K H v d ∧ smallD d = true ∧ (objD d = true → ∀ H', Same H H' → Q .non H') ∧ (objD d = false → Leaves C E H "value" v)
def spOrdered (K : PySem.W.Frag) (T : List (Addr × Str)) (C : Addr) : Sp := fun vs H Q E => ∃ v d, vs = [v] ∧ Rp K H v d ∧ smallD d = true ∧ LamX.Tabs T H ∧ (∀ t : Thing, d = t.d → objD d = true → ∀ v' H', Stay T H H' → Dp K H' v' t.srt.d → Q v' H') ∧ (objD d = false → Leaves C E H "value" v)
theorem rp_dp {K : PySem.W.Frag} {H : Hp} {v : V} {d : PyData} (h : Rp K H v d) (n : kindD d ≠ "dict") : Dp K H v d := by
  rcases h with h | ⟨a, kvs, ds, rfl, _, _, _, rfl⟩
  · exact h
  · exact absurd rfl n
theorem Thing.kind (t : Thing) : kindD t.d = "tuple" := by cases t <;> rfl
section
variable {P : Program} {w : World} {K : PySem.W.Frag} {mg : Str → Option Value} {base : Heap} {a : Ad}
theorem ok_in_order (T : Txt P K mg a) (B : Tb base mg a) : FnOk P w K mg base CX0 9 a.f_in_order a.d_in_order ["thing"] (spOrder K a.tabs) := by
  refine T.cd_in_order.ok sc_in_order (fun vs H Q E h => ?_) (fun A outer s H vs Q E hr h => ?_)
  · obtain ⟨v, t, rfl, _⟩ := h
    rfl
  · obtain ⟨v, t, rfl, dp, tb, k⟩ := h
    refine ⟨_, (pss_one (ps_match (pe_ix ix_tup (pv 0) pe_int (fun _ _ => rfl)) (pm_text (pss_one (ps_ret (pe_tup (pa_cons pe_str (pa_cons (pe_ix ix_tup (pv 0) pe_int (fun _ _ => rfl)) (pa_cons (pe_callTy call_tuple_of (by rfl) T.z_tuple (by decide +kernel) (pa_cons (LamX.pe_sortLam (k := 5) (y := "field") (T := a.tabs) hr.units (by rfl) T.z_sorted (pa_cons (pe_ix ix_tup (pv 0) pe_int (fun _ _ => rfl)) pa_nil) B.in_order rfl (by unfold Ad.tabs; exact (List.Mem.head _)) (tab_uniq B.nd (by unfold Ad.tabs; exact (List.Mem.head _))) (hr.mono (by decide)) (LamX.lam1_by (sc := defScope s_in_order) (by decide +kernel)) rfl (fun _ _ _ _ _ _ => rfl) (fun A outer s H f c hr2 => (pe_ix (r := rIxT K) ix_tup (pv 0) pe_int (fun _ _ => rfl)))) pa_nil)) pa_nil))))))
      (pm_text (pss_one (ps_ret (pe_tup (pa_cons pe_str (pa_cons (pe_callTy call_tuple_of (by rfl) T.z_tuple (by decide +kernel) (pa_cons (pe_callBK (cr_sortKey (keyFn_def (ok_rank T) (hr.mono (by decide)) T.rank.b) hr.units) (by rfl) T.z_sorted (by decide +kernel) (pa_cons (pe_ix ix_tup (pv 0) pe_int (fun _ _ => rfl)) pa_nil) (pk_cons (pe_glob (v := .ref a.f_rank) (by rfl) T.rank.g rfl) pk_nil)) pa_nil)) pa_nil)))))
      (pm_text (pss_one (ps_ret (pe_tup (pa_cons pe_str (pa_cons (pe_callTy call_tuple_of (by rfl) T.z_tuple (by decide +kernel) (pa_cons (LamX.pe_sortLam (k := 5) (y := "entry") (T := a.tabs) hr.units (by rfl) T.z_sorted (pa_cons (pe_ix ix_tup (pv 0) pe_int (fun _ _ => rfl)) pa_nil) B.in_order rfl (by unfold Ad.tabs; exact (List.Mem.head _)) (tab_uniq B.nd (by unfold Ad.tabs; exact (List.Mem.head _))) (hr.mono (by decide)) (LamX.lam1_by (sc := defScope s_in_order) (by decide +kernel)) rfl (fun _ _ _ _ _ _ => rfl) (fun A outer s H f c hr2 => (pe_call (ok_rank T) (hr2.mono (by decide)) (by rfl) T.rank.g T.rank.k T.rank.b .nil pass0 (pa_cons (pe_ix (r := rIxT K) ix_tup (pv 0) pe_int (fun _ _ => rfl)) pa_nil)))) pa_nil)) pa_nil)))))
      (pm_wild (pss_one (ps_ret (pv 0))))))))), ?_⟩
    have s2 : (2 : Nat) ≤ sizeLine := by decide
    have s3 : (3 : Nat) ≤ sizeLine := by decide
    cases t with
    | rcd n fs =>
      obtain ⟨p, xs, rfl, sq, al⟩ := dp_tuple dp
      obtain ⟨v1, v2, v3, rfl, d1, d2, d3⟩ := dpAll3 al
      cases dp_str d1
      cases dp_str d2
      obtain ⟨p3, ys, rfl, sq3, al3⟩ := dp_tuple d3
      obtain ⟨ps, rfl, h2, h3⟩ := dpAll_zip al3
      refine ⟨_, rfl, p, _, 0, _, rfl, rfl, sq, rfl, "record", rfl, eqT rfl ?_⟩
      refine ⟨_, rfl, p, _, 1, _, rfl, rfl, sq, rfl, _, rfl, p, _, 2, _, rfl, rfl, sq, rfl, tb, _, p3, ps, (·.1), fun q => fieldK q.2, _, rfl, LamX.seen_none, fun H2 e2 t2 => ?_⟩
      have st2 : Stay a.tabs H H2 := ⟨e2, t2⟩
      refine ⟨.inr (st2.sqt sq3), ranks_str (fun q : V × (Str × W) => q.2.1) ps, fun _ _ => by show (0 : Nat) ≤ 60; decide, fun q hq H' sm => ?_, fun H' l sm hl hl' => ?_⟩
      · obtain ⟨p4, zs, e4, sq4, al4⟩ := dp_tuple (dp_stay sm (st2.dp (h3 q hq)))
        obtain ⟨u1, u2, rfl, f1, f2⟩ := dpAll2 al4
        exact ⟨_, rfl, _, rfl, p4, _, 0, _, e4, rfl, sq4, rfl, Same.refl _, f1⟩
      · refine ⟨l, _, rfl, .inl ⟨SqL.of upd_same, fun m hm => ⟨s3, fun o ho => ?_⟩⟩⟩
        have sa : Same H2 (upd H' l (.lst ((ps.mergeSort (PySem.W.dataLe false fun q => fieldK q.2)).map (·.1)))) := same_new2 sm hl'
        have sb := same_new2 (o := .tup ((ps.mergeSort (PySem.W.dataLe false fun q => fieldK q.2)).map (·.1))) sa hm
        have sc := same_new2 (o := .tup [.str "record", .str n, .ref m]) sb ho
        refine k _ _ (st2.same sc) (dp_tup upd_same (.cons (.str _) (.cons (.str _) (.cons (dp_tup (vs := (ps.mergeSort (PySem.W.dataLe false fun q => fieldK q.2)).map (·.1)) ?_ ?_) .nil))))
        · rw [upd_ne (ne_of_none upd_same ho)]
          exact upd_same
        · have := sort_dp (K := K) (k := fieldK) fun q hq => dp_stay sc (st2.dp (h3 q hq))
          rw [h2] at this
          exact this
    | lst ws =>
      obtain ⟨p, xs, rfl, sq, al⟩ := dp_tuple dp
      obtain ⟨v1, v2, rfl, d1, d2⟩ := dpAll2 al
      cases dp_str d1
      refine ⟨_, rfl, p, _, 0, _, rfl, rfl, sq, rfl, "list", rfl, eqF (by decide) (eqF (by decide) (eqF (by decide) ?_))⟩
      exact ⟨_, rfl, k _ _ (.refl tb) dp⟩
    | set ws =>
      obtain ⟨p, xs, rfl, sq, al⟩ := dp_tuple dp
      obtain ⟨v1, v2, rfl, d1, d2⟩ := dpAll2 al
      cases dp_str d1
      obtain ⟨p3, ys, rfl, sq3, al3⟩ := dp_tuple d2
      obtain ⟨ps, rfl, h2, h3⟩ := dpAll_zip al3
      refine ⟨_, rfl, p, _, 0, _, rfl, rfl, sq, rfl, "set", rfl, eqF (by decide) (eqT rfl ?_)⟩
      refine ⟨_, rfl, p, _, 1, _, rfl, rfl, sq, rfl, _, p3, ps, (·.1), fun q => q.2.rk, rfl, rfl, ?_⟩
      refine ⟨.inr sq3, ranks_rk (fun q : V × W => q.2) ps, fun q _ => q.2.rk_depth, fun q hq H' sm => ?_, fun H' l sm hl hl' => ?_⟩
      · exact ⟨_, q.2, rfl, dp_stay sm (h3 q hq), fun v' H'' s4 d4 => ⟨s4, d4⟩⟩
      · refine ⟨l, _, rfl, .inl ⟨SqL.of upd_same, fun m hm => ⟨s2, fun o ho => ?_⟩⟩⟩
        have sa : Same H (upd H' l (.lst ((ps.mergeSort (PySem.W.dataLe false fun q => q.2.rk)).map (·.1)))) := same_new2 sm hl'
        have sb := same_new2 (o := .tup ((ps.mergeSort (PySem.W.dataLe false fun q => q.2.rk)).map (·.1))) sa hm
        have sc := same_new2 (o := .tup [.str "set", .ref m]) sb ho
        refine k _ _ (.of tb sc) (dp_tup upd_same (.cons (.str _) (.cons (dp_tup (vs := (ps.mergeSort (PySem.W.dataLe false fun q => q.2.rk)).map (·.1)) ?_ ?_) .nil)))
        · rw [upd_ne (ne_of_none upd_same ho)]
          exact upd_same
        · have := sort_dp (K := K) (k := W.rk) fun q hq => dp_stay sc (h3 q hq)
          rw [h2] at this
          exact this
    | dic es =>
      obtain ⟨p, xs, rfl, sq, al⟩ := dp_tuple dp
      obtain ⟨v1, v2, rfl, d1, d2⟩ := dpAll2 al
      cases dp_str d1
      obtain ⟨p3, ys, rfl, sq3, al3⟩ := dp_tuple d2
      obtain ⟨ps, rfl, h2, h3⟩ := dpAll_zip al3
      refine ⟨_, rfl, p, _, 0, _, rfl, rfl, sq, rfl, "dict", rfl, eqF (by decide) (eqF (by decide) (eqT rfl ?_))⟩
      refine ⟨_, rfl, p, _, 1, _, rfl, rfl, sq, rfl, tb, _, p3, ps, (·.1), fun q => entryK q.2, _, rfl, LamX.seen_none, fun H2 e2 t2 => ?_⟩
      have st2 : Stay a.tabs H H2 := ⟨e2, t2⟩
      refine ⟨.inr (st2.sqt sq3), ranks_rk (fun q : V × (W × W) => q.2.1) ps, fun q _ => q.2.1.rk_depth, fun q hq H' sm => ?_, fun H' l sm hl hl' => ?_⟩
      · obtain ⟨p4, zs, e4, sq4, al4⟩ := dp_tuple (dp_stay sm (st2.dp (h3 q hq)))
        obtain ⟨u1, u2, rfl, f1, f2⟩ := dpAll2 al4
        exact ⟨_, rfl, _, rfl, p4, _, 0, _, e4, rfl, sq4, rfl, u1, q.2.1, rfl, f1, fun v' H'' s4 d4 => ⟨s4, d4⟩⟩
      · refine ⟨l, _, rfl, .inl ⟨SqL.of upd_same, fun m hm => ⟨s2, fun o ho => ?_⟩⟩⟩
        have sa : Same H2 (upd H' l (.lst ((ps.mergeSort (PySem.W.dataLe false fun q => entryK q.2)).map (·.1)))) := same_new2 sm hl'
        have sb := same_new2 (o := .tup ((ps.mergeSort (PySem.W.dataLe false fun q => entryK q.2)).map (·.1))) sa hm
        have sc := same_new2 (o := .tup [.str "dict", .ref m]) sb ho
        refine k _ _ (st2.same sc) (dp_tup upd_same (.cons (.str _) (.cons (dp_tup (vs := (ps.mergeSort (PySem.W.dataLe false fun q => entryK q.2)).map (·.1)) ?_ ?_) .nil)))
        · rw [upd_ne (ne_of_none upd_same ho)]
          exact upd_same
        · have := sort_dp (K := K) (k := entryK) fun q hq => dp_stay sc (st2.dp (h3 q hq))
          rw [h2] at this
          exact this
theorem ok_check_object (T : Txt P K mg a) : FnOk P w K mg base (L2.CX P w) 8 a.f_check_object a.d_check_object ["thing"] (spCheckObj K a.C_BadObject) := by
  refine T.check_object.F.okX sc_check_object (fun vs H Q E h => ?_) (fun cdv A outer s H vs Q E hr h => ?_)
  · obtain ⟨v, d, rfl, _⟩ := h
    rfl
  · obtain ⟨v, d, rfl, r, hs, kQ, kE⟩ := h
    refine ⟨_, (pss_one (ps_if (pt_not (pt_val (pe_call (ok_is_object T) (hr.mono (by decide)) (by rfl) T.is_object.g T.is_object.k T.is_object.b .nil pass0 (pa_cons (pv 0) pa_nil)))) (pss_one (ps_raiseErr (by rfl) T.x_BadObject hr (takes_of rfl rfl rfl rfl) (pa_cons (pv 0) pa_nil) (by rfl))) pss_nil)), ?_⟩
    refine ⟨_, rfl, v, d, rfl, r, hs, fun H1 s1 => ⟨_, rfl, ?_⟩⟩
    cases ho : objD d with
    | false => exact iteT ⟨_, rfl, _, rfl, fun dd hd => kE ho H1 dd s1 hd⟩
    | true => exact iteF (kQ ho H1 s1)
theorem ok_ordered (T : Txt P K mg a) (B : Tb base mg a) : FnOk P w K mg base (L2.CX P w) 10 a.f_ordered a.d_ordered ["thing"] (spOrdered K a.tabs a.C_BadObject) := by
  refine T.ordered.F.okX sc_ordered (fun vs H Q E h => ?_) (fun cdv A outer s H vs Q E hr h => ?_)
  · obtain ⟨v, d, rfl, _⟩ := h
    rfl
  · obtain ⟨v, d, rfl, r, hs, tb, kQ, kE⟩ := h
    refine ⟨_, (pss_cons (ps_expr (pe_call (ok_check_object T) (hr.mono (by decide)) (by rfl) T.check_object.g T.check_object.k T.check_object.b .nil (passes_call (takes_of rfl rfl rfl rfl) (fun _ _ _ _ h => h)) (pa_cons (pv 0) pa_nil)))
      (pss_one (ps_ret (pe_call (ok_in_order T B) (hr.mono (by decide)) (by rfl) T.in_order.g T.in_order.k T.in_order.b .nil pass0 (pa_cons (pv 0) pa_nil))))), ?_⟩
    refine ⟨_, rfl, v, d, rfl, r, hs, fun ho H1 s1 => ?_, fun ho => kE ho⟩
    obtain ⟨t, rfl⟩ := obj_thing ho
    have r1 := rp_dp (rp_same s1 r) (by rw [t.kind]; decide)
    refine ⟨_, rfl, v, t, rfl, r1, tb.ext s1, fun v' H' st d' => kQ t rfl ho v' H' ((Stay.of tb s1).trans st) d'⟩
end
end SB

set_option Elab.async false
set_option linter.all false
set_option maxRecDepth 100000
set_option maxHeartbeats 4000000
namespace SB
open PySem L2
theorem cut_take {xs : List V} {n : Nat} (h : n ≤ xs.length) : cutV xs none (some (n : Int)) = xs.take n := by
  have e : HT.sIx xs.length xs.length (some (n : Int)) = n := by
    show (if (n : Int) < 0 then ((n : Int) + (xs.length : Int)).toNat else min (n : Int).toNat xs.length) = n
    rw [if_neg (by omega)]
    omega
  unfold cutV
  rw [e]
  show (xs.drop 0).take (n - 0) = _
  simp
theorem cut_drop {xs : List V} {n : Nat} (h : n < xs.length) : cutV xs (some ((n : Int) + 1)) none = xs.drop (n + 1) := by
  have e : HT.sIx xs.length 0 (some ((n : Int) + 1)) = n + 1 := by
    show (if (n : Int) + 1 < 0 then ((n : Int) + 1 + (xs.length : Int)).toNat else min ((n : Int) + 1).toNat xs.length) = n + 1
    rw [if_neg (by omega)]
    omega
  unfold cutV
  rw [e]
  show (xs.drop (n + 1)).take (xs.length - (n + 1)) = _
  rw [List.take_of_length_le (by rw [List.length_drop]; exact Nat.le_refl _)]
theorem SeqE.whole {K : PySem.W.Frag} {H : Hp} {a : Addr} {xs : List V} {R : It → Hp → Prop} {O : Hp → Prop} (h : (∀ H', O H' → SqL K H' a xs) ∨ (∀ H', O H' → SqT K H' a xs)) (o : O H) (k : ∀ (J : It) (G : Hp → Prop), Walk J xs.length G (YAt xs) → (∀ H' : Hp, O H' → G H') → R J H) : SeqE K H a xs R := by
  rcases h with h | h
  · exact .inl ⟨h H o, k _ _ walk_list h⟩
  · exact .inr ⟨h H o, k _ _ walk_tup h⟩
/-- the things of a list or a tuple in a drawn order, as a new list -/
def spMix (K : PySem.W.Frag) : Sp := fun vs H Q _ => ∃ (p l : Addr) (xs : List V), vs = [.ref p, .ref l] ∧ Pool H p ∧ ((l ≠ p ∧ SqL K H l xs) ∨ SqT K H l xs) ∧ xs.length ≤ 100 ∧
  ∀ H' q (ys : List V), H q = none → ys.Perm xs → SameX p H H' → Pool H' p → H' q = some (.lst ys) → Q (.ref q) H'
section
variable {P : Program} {w : World} {K : PySem.W.Frag} {mg : Str → Option Value} {base : Heap} {a : Ad}
theorem ok_l_mixed (T : Txt P K mg a) : FnOk P w K mg base CX0 2 a.f_l_mixed a.d_l_mixed ["_law_pool_here", "_law_things"] (spMix K) := by
  refine T.l_mixed.F.ok sc_l_mixed (fun vs H Q E h => ?_) (fun cdv A outer s H vs Q E hr h => ?_)
  · obtain ⟨p, l, xs, rfl, _⟩ := h
    rfl
  · obtain ⟨p, l, xs, rfl, pl, hS0, hz, k⟩ := h
    refine ⟨_, (pss_cons (ps_par (i := 2) (j := 3) (by rfl) sc_l_mixed.nd rfl rfl (by decide) rfl rfl (pa_cons (pe_callTy call_list_of (by rfl) T.z_list (by decide +kernel) (pa_cons (pv 1) pa_nil)) (pa_cons (pe_lst pa_nil) pa_nil)) (by rfl))
      (pss_cons (ps_for PassesOwn.never rfl (pi_seq (pv 1)) (pg_name (i := 4) sc_l_mixed.nd rfl (Or.inl rfl)) (pss_cons (ps_set (i := 5) sc_l_mixed.nd rfl (Or.inl rfl) (pe_call (ok_l_draw T) (hr.mono (by decide)) (by rfl) T.l_draw.g T.l_draw.k T.l_draw.b .nil pass0 (pa_cons (pv 0) (pa_cons (pe_callB call_len_seq (by rfl) T.z_len (by decide +kernel) (pa_cons (pv 2) pa_nil)) pa_nil))))
      (pss_cons (ps_expr (pe_bm PySem.F.plainAttrs_list PySem.F.slot_list_append PySem.F.type_list_append mt_append (pv 3) (pa_cons (pe_ix ix_list (pv 2) (pv 5) (fun _ _ => rfl)) pa_nil)))
      (pss_one (ps_set (i := 2) sc_l_mixed.nd rfl (Or.inl rfl) (pe_op op_cat (pe_slice sl_list (pv 2) po_none (po_some (pv 5))) (pe_slice sl_list (pv 2) (po_some (pe_op op_add (pv 5) pe_int)) po_none)))))))
      (pss_one (ps_ret (pv 3))))), ?_⟩
    have hA : (∀ H', SameX p H H' → SqL K H' l xs) ∨ (∀ H', SameX p H H' → SqT K H' l xs) := by
      rcases hS0 with ⟨n, (h | ⟨o, h⟩) | h⟩ | (h | ⟨o, h⟩) | h
      · exact .inl fun H' s => .inl (.inl (s _ _ n h))
      · exact .inl fun H' s => .inl (.inr ⟨o, s _ _ n h⟩)
      · exact .inl fun H' s => .inr h
      · exact .inr fun H' s => .inl (.inl (s _ _ (fun z => by
          obtain ⟨g, m, hp, _⟩ := pl
          rw [z, hp] at h
          cases h) h))
      · exact .inr fun H' s => .inl (.inr ⟨o, s _ _ (fun z => by
          obtain ⟨g, m, hp, _⟩ := pl
          rw [z, hp] at h
          cases h) h⟩)
      · exact .inr fun H' s => .inr h
    have hS : SqL K H l xs ∨ SqT K H l xs := by
      rcases hA with h | h
      · exact .inl (h H (Same.x (Same.refl _)))
      · exact .inr (h H (Same.x (Same.refl _)))
    refine ⟨_, rfl, l, _, rfl, hS, fun L hL => ?_⟩
    obtain ⟨H1, e1, s1, f1⟩ : ∃ H1, upd H L (.lst xs) = H1 ∧ Same H H1 ∧ H1 L = some (.lst xs) := ⟨_, rfl, same_new hL, upd_same⟩
    rw [e1]
    refine ⟨Nat.zero_le _, fun F hF => ?_⟩
    obtain ⟨H2, e2, s2, f2⟩ : ∃ H2, upd H1 F (.lst []) = H2 ∧ Same H1 H2 ∧ H2 F = some (.lst []) := ⟨_, rfl, same_new hF, upd_same⟩
    rw [e2]
    have s12 : Same H H2 := s1.trans s2
    have hF0 : H F = none := s1.free hF
    have nFp : F ≠ p := fun z => by
      obtain ⟨g, m, hp, _⟩ := pl
      rw [z, hp] at hF0
      cases hF0
    have nLp0 : L ≠ p := fun z => by
      obtain ⟨g, m, hp, _⟩ := pl
      rw [z, hp] at hL
      cases hL
    refine ⟨_, _, rfl, _, rfl, l, xs, rfl, ?_⟩
    refine SeqE.whole hA (Same.x s12) fun J G wk hG => ?_
    refine for_it wk (fun i σ H' => ∃ (left : Addr) (ls fs : List V) (o4 o5 : Option V), σ = [some (.ref p), some (.ref l), some (.ref left), some (.ref F), o4, o5] ∧
      SameX p H H' ∧ Pool H' p ∧ H' left = some (.lst ls) ∧ left ≠ F ∧ left ≠ p ∧ H' F = some (.lst fs) ∧ (fs ++ ls).Perm xs ∧ fs.length = i) ?_ (fun i σ H' _ h => ?_) ?_ ?_
    · exact ⟨L, xs, [], none, none, rfl, Same.x s12, pl.at fun o e => s12 _ _ e, s2 _ _ f1, ne_of_none f1 hF, nLp0, f2, List.Perm.refl _, rfl⟩
    · obtain ⟨_, _, _, _, _, _, sx, _⟩ := h
      exact hG H' sx
    · rintro i y σ H3 H3' hi2 ⟨left, ls, fs, o4, o5, rfl, sx, pl3, hL3, nLF, nLp, hF3, perm, lf⟩ ⟨rfl, hi⟩
      have ll : fs.length + ls.length = xs.length := by rw [← List.length_append]; exact perm.length_eq
      -- at = draw(pool, len(left))
      refine ⟨_, rfl, _, rfl, left, _, rfl, .inl (SqL.of hL3), p, _, rfl, pl3, by omega, by omega, fun n H4 hn x4 pl4 => ?_⟩
      have hn2 : n < ls.length := by omega
      have hL4 := x4 _ _ nLp hL3
      have hF4 := x4 _ _ nFp hF3
      -- found.append(left[at])
      refine ⟨_, rfl, .inl ⟨rfl, _, SqL.of hF4⟩, _, rfl, _, rfl, left, _, (n : Int), ls[n], rfl, rfl, SqL.of hL4, atI_nat (List.getElem?_eq_getElem hn2), F, _, _, rfl, rfl, hF4, by rw [sizeLine_eq]; omega, ?_⟩
      obtain ⟨H5, e5, x5, f5⟩ : ∃ H5, upd H4 F (.lst (fs ++ [ls[n]])) = H5 ∧ SameX F H4 H5 ∧ H5 F = some (.lst (fs ++ [ls[n]])) := ⟨_, rfl, SameX.put, upd_same⟩
      rw [e5]
      have hL5 := x5 _ _ nLF hL4
      have pl5 : Pool H5 p := pl4.at fun o e => x5 _ _ nFp.symm e
      -- left = left[:at] + left[at + 1:]
      refine ⟨_, rfl, _, rfl, (n : Int), rfl, left, _, rfl, SqL.of hL5, fun c1 hc1 => ?_⟩
      rw [cut_take (by omega)]
      obtain ⟨H6, e6, s6, f6⟩ : ∃ H6, upd H5 c1 (.lst (ls.take n)) = H6 ∧ Same H5 H6 ∧ H6 c1 = some (.lst (ls.take n)) := ⟨_, rfl, same_new hc1, upd_same⟩
      rw [e6]
      refine ⟨_, rfl, _, rfl, _, _, rfl, rfl, _, rfl, left, _, rfl, SqL.of (s6 _ _ hL5), fun c2 hc2 => ?_⟩
      dsimp only
      rw [cut_drop (by omega)]
      obtain ⟨H7, e7, s7, f7⟩ : ∃ H7, upd H6 c2 (.lst (ls.drop (n + 1))) = H7 ∧ Same H6 H7 ∧ H7 c2 = some (.lst (ls.drop (n + 1))) := ⟨_, rfl, same_new hc2, upd_same⟩
      rw [e7]
      refine ⟨c1, c2, _, _, rfl, rfl, s7 _ _ f6, f7, ?_, fun c3 hc3 => ?_⟩
      · rw [List.length_take, List.length_drop, sizeLine_eq]
        omega
      obtain ⟨H8, e8, s8, f8⟩ : ∃ H8, upd H7 c3 (.lst (ls.take n ++ ls.drop (n + 1))) = H8 ∧ Same H7 H8 ∧ H8 c3 = some (.lst (ls.take n ++ ls.drop (n + 1))) := ⟨_, rfl, same_new hc3, upd_same⟩
      rw [e8]
      have s58 : Same H5 H8 := s6.trans (s7.trans s8)
      have pl7 : Pool H7 p := pl5.at fun o e => (s6.trans s7) _ _ e
      refine ⟨c3, _, fs ++ [ls[n]], _, _, rfl, ?_, pl5.at fun o e => s58 _ _ e, f8, ne_of_none (s7 _ _ (s6 _ _ f5)) hc3 |> Ne.symm, (pl7.ne hc3).symm, ?_, ?_, ?_⟩
      · intro b o nb eb
        have nbF : b ≠ F := ne_of_none eb hF0
        exact s58 _ _ (x5 _ _ nbF (x4 _ _ nb (sx _ _ nb eb)))
      · exact s58 _ _ f5
      · refine List.Perm.trans ?_ perm
        have e : ls = ls.take n ++ ls[n] :: ls.drop (n + 1) := by
          conv => lhs; rw [← List.take_append_drop n ls]
          rw [List.drop_eq_getElem_cons hn2]
        rw [List.append_assoc]
        refine List.Perm.append_left fs ?_
        conv => rhs; rw [e]
        rw [List.singleton_append]
        exact List.perm_middle.symm
      · rw [List.length_append, lf]
        rfl
    · rintro σ H3 ⟨left, ls, fs, o4, o5, rfl, sx, pl3, hL3, nLF, nLp, hF3, perm, lf⟩
      refine ⟨_, rfl, ?_⟩
      have l0 : ls = [] := by
        have := perm.length_eq
        rw [List.length_append, lf] at this
        exact List.eq_nil_of_length_eq_zero (by omega)
      rw [l0, List.append_nil] at perm
      exact k H3 F fs hF0 perm sx pl3 hF3
end
end SB

set_option Elab.async false
set_option linter.all false
set_option maxRecDepth 100000
set_option maxHeartbeats 4000000
namespace SB
open PySem L2
/-! ### drawn worths and objects -/
/-- all but some places stay -/
def But (l : List Addr) (H H' : Hp) : Prop := ∀ b o, b ∉ l → H b = some o → H' b = some o
theorem SameX.but {p : Addr} {H H' : Hp} (h : SameX p H H') : But [p] H H' := fun b o n e => h b o (fun z => n (by simp [z])) e
theorem But.sx {p : Addr} {H H' : Hp} (h : But [p] H H') : SameX p H H' := fun b o n e => h b o (by simpa using n) e
mutual
theorem dp_but {K : PySem.W.Frag} {l : List Addr} {H H' : Hp} (s : But l H H') (n : ∀ b ∈ l, noTup (H b) = true) : ∀ {v : V} {d : PyData}, Dp K H v d → plainD d = true → Dp K H' v d
  | _, _, .non, _ => .non
  | _, _, .bl b, _ => .bl b
  | _, _, .int i, _ => .int i
  | _, _, .str x, _ => .str x
  | _, _, .lst h r, e => by simp [plainD] at e
  | _, _, .tup (a := a) h r, e => .tup (by
      have no : ∀ o, H a = some o → noTup (some o) = false → a ∉ l := fun o eo q hm => by
        have := n a hm
        rw [eo, q] at this
        cases this
      rcases h with (h | ⟨o, h⟩) | h
      · exact .inl (.inl (s _ _ (no _ h rfl) h))
      · exact .inl (.inr ⟨o, s _ _ (no _ h rfl) h⟩)
      · exact .inr h) (dpAll_but s n r (by simpa [plainD] using e))
theorem dpAll_but {K : PySem.W.Frag} {l : List Addr} {H H' : Hp} (s : But l H H') (n : ∀ b ∈ l, noTup (H b) = true) : ∀ {vs : List V} {ds : List PyData}, DpAll K H vs ds → plainDs ds = true → DpAll K H' vs ds
  | _, _, .nil, _ => .nil
  | _, _, .cons h t, e => by
    simp [plainDs] at e
    exact .cons (dp_but s n h e.1) (dpAll_but s n t e.2)
end
theorem Pool.noTup {H : Hp} {p : Addr} (h : Pool H p) : ∀ b ∈ [p], SB.noTup (H b) = true := fun b hb => by
  obtain ⟨g, m, hp, _⟩ := h
  rw [List.mem_singleton.mp hb, hp]
  rfl
theorem dp_sx {K : PySem.W.Frag} {p : Addr} {H H' : Hp} (s : SameX p H H') (h : Pool H p) {v : V} {d : PyData} (dp : Dp K H v d) (pl : plainD d = true) : Dp K H' v d := dp_but s.but h.noTup dp pl
theorem dpAll_sx {K : PySem.W.Frag} {p : Addr} {H H' : Hp} (s : SameX p H H') (h : Pool H p) {v : List V} {d : List PyData} (dp : DpAll K H v d) (pl : plainDs d = true) : DpAll K H' v d := dpAll_but s.but h.noTup dp pl
def six : List W := [.num 0, .num 1, .txt "", .txt "u", .num (-7), .num (10 ^ 29)]
def GoodW (ms : List Str) (x : W) : Prop := x ∈ six ∨ ∃ m ∈ ms, x = .ref m
def Marks (ms : List Str) : Prop := ∀ m ∈ ms, markS m = true
theorem six_ok : ∀ x ∈ six, worthD x.d = true := by decide +kernel
theorem GoodW.ok {ms : List Str} (hm : Marks ms) {x : W} (h : GoodW ms x) : worthD x.d = true := by
  rcases h with h | ⟨m, h1, rfl⟩
  · exact six_ok x h
  · show (plnD _ || refD (.tuple [.str "at", .str m])) = true
    have : refD (.tuple [.str "at", .str m]) = true := by
      show (decide (("at" : Str) = "at") && markS m) = true
      rw [hm m h1]
      rfl
    rw [this, Bool.or_true]
def spLW (K : PySem.W.Frag) : Sp := fun vs H Q _ => ∃ (p l : Addr) (ms : List Str), vs = [.ref p, .ref l] ∧ Pool H p ∧ l ≠ p ∧ H l = some (.lst (ms.map V.str)) ∧ ms ≠ [] ∧ ms.length < 1000 ∧
  ∀ (v : V) (x : W) H', GoodW ms x → SameX p H H' → Pool H' p → Dp K H' v x.d → Q v H'
theorem same_sx {p : Addr} {A B C : Hp} (s : Same A B) (x : SameX p B C) : SameX p A C := (Same.x s).trans x
theorem sx_same {p : Addr} {A B C : Hp} (x : SameX p A B) (s : Same B C) : SameX p A C := x.trans (Same.x s)
section
variable {P : Program} {w : World} {K : PySem.W.Frag} {mg : Str → Option Value} {base : Heap} {a : Ad}
theorem ok_l_worth (T : Txt P K mg a) : FnOk P w K mg base CX0 2 a.f_l_worth a.d_l_worth ["_law_pool_here", "_law_marks"] (spLW K) := by
  refine T.l_worth.F.ok sc_l_worth (fun vs H Q E h => ?_) (fun cdv A outer s H vs Q E hr h => ?_)
  · obtain ⟨p, l, ms, rfl, _⟩ := h
    rfl
  · obtain ⟨p, l, ms, rfl, pl, nlp, hl, hne, hlt, k⟩ := h
    refine ⟨_, (pss_cons (ps_set (i := 2) sc_l_worth.nd rfl (Or.inl rfl) (pe_ix ix_list (pe_lst (pa_cons pe_int (pa_cons pe_int (pa_cons pe_str (pa_cons pe_str (pa_cons (pe_un un_neg pe_int) (pa_cons (pe_op op_pow pe_int pe_int) pa_nil))))))) (pe_call (ok_l_draw T) (hr.mono (by decide)) (by rfl) T.l_draw.g T.l_draw.k T.l_draw.b .nil pass0 (pa_cons (pv 0) (pa_cons pe_int pa_nil))) (fun _ _ => rfl)))
      (pss_one (ps_ret (pe_ix ix_list (pe_lst (pa_cons (pv 2) (pa_cons (pe_tup (pa_cons pe_str (pa_cons (pe_ix ix_list (pv 1) (pe_call (ok_l_draw T) (hr.mono (by decide)) (by rfl) T.l_draw.g T.l_draw.k T.l_draw.b .nil pass0 (pa_cons (pv 0) (pa_cons (pe_callB call_len_seq (by rfl) T.z_len (by decide +kernel) (pa_cons (pv 1) pa_nil)) pa_nil))) (fun _ _ => rfl)) pa_nil))) pa_nil))) (pe_call (ok_l_draw T) (hr.mono (by decide)) (by rfl) T.l_draw.g T.l_draw.k T.l_draw.b .nil pass0 (pa_cons (pv 0) (pa_cons pe_int pa_nil))) (fun _ _ => rfl))))), ?_⟩
    have l0 : 0 < ms.length := List.length_pos_iff.mpr hne
    refine ⟨7, rfl, 10, 29, rfl, rfl, ⟨by decide, by decide, by decide⟩, by show 6 ≤ sizeLine; decide, fun L1 hL1 => ?_⟩
    obtain ⟨H1, e1, s1, f1⟩ : ∃ H1, upd H L1 (.lst [.int 0, .int 1, .str "", .str "u", .int (-7), .int (10 ^ 29)]) = H1 ∧ Same H H1 ∧ H1 L1 = some (.lst [.int 0, .int 1, .str "", .str "u", .int (-7), .int (10 ^ 29)]) := ⟨_, rfl, same_new hL1, upd_same⟩
    have nL1 : L1 ≠ p := (pl.ne hL1).symm
    have pl1 : Pool H1 p := pl.at fun o e => s1 _ _ e
    show tCall spDraw [] E0 _ _ (upd H L1 (.lst [.int 0, .int 1, .str "", .str "u", .int (-7), .int (10 ^ 29)])) _
    rw [e1]
    refine ⟨_, rfl, p, _, rfl, pl1, by decide, by decide, fun n H2 hn x2 pl2 => ?_⟩
    have f2 := x2 _ _ nL1 f1
    obtain ⟨x, hx⟩ : ∃ x, six[n]? = some x := ⟨six[n]'(by show n < 6; omega), List.getElem?_eq_getElem _⟩
    obtain ⟨v, hv, dv⟩ : ∃ v, ([.int 0, .int 1, .str "", .str "u", .int (-7), .int (10 ^ 29)] : List V)[n]? = some v ∧ ∀ H, Dp K H v x.d := by
      match n, hn, hx with
      | 0, _, hx => cases hx; exact ⟨_, rfl, fun _ => .int _⟩
      | 1, _, hx => cases hx; exact ⟨_, rfl, fun _ => .int _⟩
      | 2, _, hx => cases hx; exact ⟨_, rfl, fun _ => .str _⟩
      | 3, _, hx => cases hx; exact ⟨_, rfl, fun _ => .str _⟩
      | 4, _, hx => cases hx; exact ⟨_, rfl, fun _ => .int _⟩
      | 5, _, hx => cases hx; exact ⟨_, rfl, fun _ => .int _⟩
      | n + 6, hn, _ => exact absurd hn (by omega)
    refine ⟨L1, _, n, v, rfl, rfl, SqL.of f2, atI_nat hv, ?_⟩
    have hl2 := x2 _ _ nlp (s1 _ _ hl)
    -- the second row
    refine ⟨_, rfl, _, rfl, _, rfl, _, rfl, l, _, rfl, .inl (SqL.of hl2), p, _, rfl, pl2, by rw [List.length_map]; omega, by rw [List.length_map]; omega, fun m H3 hm x3 pl3 => ?_⟩
    rw [List.length_map] at hm
    have hm' : m < ms.length := by omega
    have hl3 := x3 _ _ nlp hl2
    refine ⟨l, _, m, .str ms[m], rfl, rfl, SqL.of hl3, atI_nat (by rw [List.getElem?_map, List.getElem?_eq_getElem hm']; rfl), by show 2 ≤ sizeLine; decide, fun t ht => ⟨by show 2 ≤ sizeLine; decide, fun L2 hL2 => ?_⟩⟩
    obtain ⟨H4, e4, s4, f4⟩ : ∃ H4, upd H3 t (.tup [.str "at", .str ms[m]]) = H4 ∧ Same H3 H4 ∧ H4 t = some (.tup [.str "at", .str ms[m]]) := ⟨_, rfl, same_new ht, upd_same⟩
    rw [e4] at hL2
    show tCall spDraw [] E0 _ _ (upd (upd H3 t (.tup [.str "at", .str ms[m]])) L2 (.lst [v, .ref t])) _
    rw [e4]
    obtain ⟨H5, e5, s5, f5⟩ : ∃ H5, upd H4 L2 (.lst [v, .ref t]) = H5 ∧ Same H4 H5 ∧ H5 L2 = some (.lst [v, .ref t]) := ⟨_, rfl, same_new hL2, upd_same⟩
    rw [e5]
    have pl5 : Pool H5 p := pl3.at fun o e => s5 _ _ (s4 _ _ e)
    have nL2 : L2 ≠ p := (Pool.ne (pl3.at fun o e => s4 _ _ e) hL2).symm
    refine ⟨_, rfl, p, _, rfl, pl5, by decide, by decide, fun c H6 hc x6 pl6 => ?_⟩
    have f6 := x6 _ _ nL2 f5
    have all : SameX p H H6 := (same_sx s1 x2).trans ((sx_same x3 (s4.trans s5)).trans x6)
    have ntp : t ≠ p := (pl3.ne ht).symm
    match c, hc with
    | 0, _ => exact ⟨L2, _, 0, v, rfl, rfl, SqL.of f6, rfl, k v x H6 (.inl (List.mem_of_getElem? hx)) all pl6 (dv _)⟩
    | 1, _ => exact ⟨L2, _, 1, .ref t, rfl, rfl, SqL.of f6, rfl, k _ (.ref ms[m]) H6 (.inr ⟨_, List.getElem_mem hm', rfl⟩) all pl6 (dp_tup (x6 _ _ ntp (s5 _ _ f4)) (.cons (.str _) (.cons (.str _) .nil)))⟩
    | c + 2, hc => exact absurd hc (by omega)
end
end SB

set_option Elab.async false
set_option linter.all false
set_option maxRecDepth 100000
set_option maxHeartbeats 4000000
namespace SB
open PySem L2
def Thing.worths : Thing → List W
  | .rcd _ fs => fs.map (·.2)
  | .lst ws => ws
  | .set ws => ws
  | .dic es => es.flatMap fun e => [e.1, e.2]
/-- an object made of drawn worths -/
structure Made (ws : List W) (t : Thing) : Prop where
  obj : objD t.d = true
  all : ∀ x ∈ ws, x ∈ t.worths
  only : ∀ x ∈ t.worths, x ∈ ws ∨ ∃ i : Nat, i < 30 ∧ x = .num (20 + i)
  len : t.len ≤ ws.length
/-! ### keys that are different -/
theorem keysD_worths (ws : List W) : keysD (ws.map W.d) = ws.map W.key := by
  induction ws with
  | nil => rfl
  | cons x ws ih =>
    have e : keysD ((x :: ws).map W.d) = x.key :: keysD (ws.map W.d) := by
      unfold keysD
      rw [List.map_cons, List.filterMap_cons, W.keyOf]
    rw [e, ih, List.map_cons]
theorem keysD_names (ns : List Str) : keysD (ns.map .str) = ns.map .text := by
  induction ns with
  | nil => rfl
  | cons x ns ih =>
    have e : keysD ((x :: ns).map .str) = .text x :: keysD (ns.map .str) := by
      unfold keysD
      rw [List.map_cons, List.filterMap_cons]
      rfl
    rw [e, ih, List.map_cons]
theorem nodup_map {α β : Type} {f : α → β} (inj : ∀ {a b}, f a = f b → a = b) {l : List α} : (l.map f).Nodup ↔ l.Nodup := by
  induction l with
  | nil => simp
  | cons a l ih =>
    rw [List.map_cons, List.nodup_cons, List.nodup_cons, ih]
    constructor
    · rintro ⟨h1, h2⟩
      exact ⟨fun hm => h1 (List.mem_map.mpr ⟨a, hm, rfl⟩), h2⟩
    · rintro ⟨h1, h2⟩
      refine ⟨fun hm => ?_, h2⟩
      obtain ⟨b, hb, e⟩ := List.mem_map.mp hm
      exact h1 (inj e ▸ hb)
theorem diffD_worths (ws : List W) : diffD (ws.map W.d) = decide ws.Nodup := by
  unfold diffD
  rw [keysD_worths]
  exact decide_eq_decide.mpr (nodup_map W.key_inj)
theorem diffD_names (ns : List Str) : diffD (ns.map .str) = decide ns.Nodup := by
  unfold diffD
  rw [keysD_names]
  exact decide_eq_decide.mpr (nodup_map fun h => NestedKey.text.inj h)
theorem worthsD_of {ws : List W} (h : ∀ x ∈ ws, worthD x.d = true) (hl : ws.length ≤ 30) : worthsD (.tuple (ws.map W.d)) = true := by
  show (decide ((ws.map W.d).length ≤ 30) && (ws.map W.d).all worthD) = true
  rw [List.length_map, decide_eq_true hl, Bool.true_and, List.all_eq_true]
  intro d hd
  obtain ⟨x, hx, rfl⟩ := List.mem_map.mp hd
  exact h x hx
theorem fieldsD_of {fs : List (Str × W)} (h : ∀ f ∈ fs, nameS f.1 = true ∧ worthD f.2.d = true) (hn : (fs.map (·.1)).Nodup) (hl : fs.length ≤ 30) : fieldsD (.tuple (fs.map fieldD)) = true := by
  have hp : pairsD (.tuple (fs.map fieldD)) = true := by
    show (decide ((fs.map fieldD).length ≤ 30) && (fs.map fieldD).all pairD) = true
    rw [List.length_map, decide_eq_true hl, Bool.true_and, List.all_eq_true]
    intro d hd
    obtain ⟨f, hf, rfl⟩ := List.mem_map.mp hd
    exact (h f hf).2
  show (pairsD _ && ((fs.map fieldD).all (fun p => nameD (firstD p)) && diffD ((fs.map fieldD).map firstD))) = true
  rw [hp, Bool.true_and, Bool.and_eq_true]
  refine ⟨List.all_eq_true.mpr fun d hd => ?_, ?_⟩
  · obtain ⟨f, hf, rfl⟩ := List.mem_map.mp hd
    exact (h f hf).1
  · have e : (fs.map fieldD).map firstD = (fs.map (·.1)).map .str := by
      rw [List.map_map, List.map_map]
      rfl
    rw [e, diffD_names]
    exact decide_eq_true hn
theorem entriesD_of {es : List (W × W)} (h : ∀ e ∈ es, worthD e.1.d = true ∧ worthD e.2.d = true) (hn : (es.map (·.1)).Nodup) (hl : es.length ≤ 30) : entriesD (.tuple (es.map entryD)) = true := by
  have hp : pairsD (.tuple (es.map entryD)) = true := by
    show (decide ((es.map entryD).length ≤ 30) && (es.map entryD).all pairD) = true
    rw [List.length_map, decide_eq_true hl, Bool.true_and, List.all_eq_true]
    intro d hd
    obtain ⟨f, hf, rfl⟩ := List.mem_map.mp hd
    exact (h f hf).2
  show (pairsD _ && ((es.map entryD).all (fun p => worthD (firstD p)) && diffD ((es.map entryD).map firstD))) = true
  rw [hp, Bool.true_and, Bool.and_eq_true]
  refine ⟨List.all_eq_true.mpr fun d hd => ?_, ?_⟩
  · obtain ⟨f, hf, rfl⟩ := List.mem_map.mp hd
    exact (h f hf).1
  · have e : (es.map entryD).map firstD = (es.map (·.1)).map W.d := by
      rw [List.map_map, List.map_map]
      rfl
    rw [e, diffD_worths]
    exact decide_eq_true hn
theorem objD_rcd {n : Str} {fs : List (Str × W)} (hn : nameS n = true) (h : fieldsD (.tuple (fs.map fieldD)) = true) : objD (Thing.rcd n fs).d = true := by
  show (if ("record" : Str) = "record" then nameS n && fieldsD (.tuple (fs.map fieldD)) else false) = true
  rw [if_pos rfl, hn, h]
  rfl
theorem objD_lst {ws : List W} (h : worthsD (.tuple (ws.map W.d)) = true) : objD (Thing.lst ws).d = true := by
  show (if ("list" : Str) = "record" then false else if ("list" : Str) = "list" then worthsD (.tuple (ws.map W.d)) else if ("list" : Str) = "set" then worthsD (.tuple (ws.map W.d)) && diffD (itemsD (.tuple (ws.map W.d))) else if ("list" : Str) = "dict" then entriesD (.tuple (ws.map W.d)) else false) = true
  rw [if_neg (by decide), if_pos rfl]
  exact h
theorem objD_set {ws : List W} (h : worthsD (.tuple (ws.map W.d)) = true) (hn : ws.Nodup) : objD (Thing.set ws).d = true := by
  show (if ("set" : Str) = "record" then false else if ("set" : Str) = "list" then worthsD (.tuple (ws.map W.d)) else if ("set" : Str) = "set" then worthsD (.tuple (ws.map W.d)) && diffD (itemsD (.tuple (ws.map W.d))) else if ("set" : Str) = "dict" then entriesD (.tuple (ws.map W.d)) else false) = true
  rw [if_neg (by decide), if_neg (by decide), if_pos rfl]
  show (worthsD _ && diffD (ws.map W.d)) = true
  rw [diffD_worths, decide_eq_true hn, h]
  rfl
theorem objD_dic {es : List (W × W)} (h : entriesD (.tuple (es.map entryD)) = true) : objD (Thing.dic es).d = true := by
  show (if ("dict" : Str) = "record" then false else if ("dict" : Str) = "list" then worthsD (.tuple (es.map entryD)) else if ("dict" : Str) = "set" then worthsD (.tuple (es.map entryD)) && diffD (itemsD (.tuple (es.map entryD))) else if ("dict" : Str) = "dict" then entriesD (.tuple (es.map entryD)) else false) = true
  rw [if_neg (by decide), if_neg (by decide), if_neg (by decide), if_pos rfl]
  exact h
/-! ### dict(worths), as a list again -/
def kvW (p : V × W) : NestedKey × V × V := (p.2.key, p.1, .bl true)
theorem merge_worths {K : PySem.W.Frag} {H : Hp} : ∀ (ps : List (V × W)) (acc : List (NestedKey × V × V)) (us : List W), acc.map (·.1) = us.map W.key → DpAll K H (acc.map (·.2.1)) (us.map W.d) → us.Nodup → (∀ p ∈ ps, Dp K H p.1 p.2.d) →
    ∃ us' : List W, (mergeM acc (ps.map kvW)).map (·.1) = us'.map W.key ∧ DpAll K H ((mergeM acc (ps.map kvW)).map (·.2.1)) (us'.map W.d) ∧ us'.Nodup ∧ (∀ x, x ∈ us' ↔ x ∈ us ∨ x ∈ ps.map (·.2)) ∧ us'.length ≤ us.length + ps.length
  | [], acc, us, h1, h2, h3, _ => ⟨us, h1, h2, h3, fun x => by simp, by simp⟩
  | p :: ps, acc, us, h1, h2, h3, h4 => by
    have e : mergeM acc ((p :: ps).map kvW) = mergeM (MixD.putM acc p.2.key p.1 (.bl true)) (ps.map kvW) := rfl
    rw [e]
    by_cases hm : p.2 ∈ us
    · have hk : p.2.key ∈ acc.map (·.1) := by rw [h1]; exact List.mem_map.mpr ⟨_, hm, rfl⟩
      have e1 : (MixD.putM acc p.2.key p.1 (V.bl true)).map (·.1) = us.map W.key := by rw [putM_keys, if_pos hk, h1]
      have e2 : (MixD.putM acc p.2.key p.1 (V.bl true)).map (·.2.1) = acc.map (·.2.1) := by
        unfold MixD.putM
        rw [if_pos hk, List.map_map]
        refine List.map_congr_left fun x _ => ?_
        show (if x.1 = p.2.key then (x.1, x.2.1, V.bl true) else x).2.1 = x.2.1
        split <;> rfl
      obtain ⟨us', q1, q2, q3, q4, q5⟩ := merge_worths ps _ us e1 (by rw [e2]; exact h2) h3 fun q hq => h4 q (List.mem_cons_of_mem _ hq)
      refine ⟨us', q1, q2, q3, fun x => ?_, by rw [List.length_cons]; omega⟩
      rw [q4 x, List.map_cons, List.mem_cons]
      constructor
      · rintro (h | h)
        · exact .inl h
        · exact .inr (.inr h)
      · rintro (h | rfl | h)
        · exact .inl h
        · exact .inl hm
        · exact .inr h
    · have hk : p.2.key ∉ acc.map (·.1) := by
        rw [h1]
        intro z
        obtain ⟨y, hy, e⟩ := List.mem_map.mp z
        exact hm (W.key_inj e ▸ hy)
      rw [putM_new hk]
      obtain ⟨us', q1, q2, q3, q4, q5⟩ := merge_worths (K := K) (H := H) ps (acc ++ [(p.2.key, p.1, .bl true)]) (us ++ [p.2]) (by rw [List.map_append, List.map_append, h1]; rfl)
        (by rw [List.map_append, List.map_append]; exact dpAll_app h2 (.cons (h4 p List.mem_cons_self) .nil)) (by
          rw [List.nodup_append]
          refine ⟨h3, by simp, fun x hx y hy => ?_⟩
          rw [List.mem_singleton.mp hy]
          exact fun e => hm (e ▸ hx)) fun q hq => h4 q (List.mem_cons_of_mem _ hq)
      refine ⟨us', q1, q2, q3, fun x => ?_, by rw [List.length_append] at q5; simp at q5 ⊢; omega⟩
      rw [q4 x, List.mem_append, List.mem_singleton, List.map_cons, List.mem_cons]
      constructor
      · rintro ((h | rfl) | h)
        · exact .inl h
        · exact .inr (.inl rfl)
        · exact .inr (.inr h)
      · rintro (h | rfl | h)
        · exact .inl (.inl h)
        · exact .inl (.inr rfl)
        · exact .inr h
/-! ### the entries of a drawn dict -/
/-- entries made of the first i of us -/
structure Ents (us : List W) (i : Nat) (es : List (W × W)) : Prop where
  len : es.length = i
  key : ∀ (j : Nat) (e : W × W), es[j]? = some e → ∃ x ∈ us, us[j]? = some x ∧ ((∃ y ∈ us, e = (x, y)) ∨ e = (.num (20 + (j : Int)), x))
theorem Ents.nil (us : List W) : Ents us 0 [] := ⟨rfl, fun j e h => by simp at h⟩
theorem Ents.push {us : List W} {i : Nat} {es : List (W × W)} (h : Ents us i es) {x : W} (hx : us[i]? = some x) {e : W × W} (he : (∃ y ∈ us, e = (x, y)) ∨ e = (.num (20 + (i : Int)), x)) : Ents us (i + 1) (es ++ [e]) := by
  refine ⟨by rw [List.length_append, h.len]; rfl, fun j e' hj => ?_⟩
  rcases Nat.lt_or_ge j es.length with q | q
  · rw [List.getElem?_append_left q] at hj
    exact h.key j e' hj
  · rw [List.getElem?_append_right q] at hj
    have ej : j = es.length := by
      rcases Nat.lt_or_ge (j - es.length) 1 with z | z
      · omega
      · rw [List.getElem?_eq_none (by simpa using z)] at hj
        cases hj
    rw [ej, Nat.sub_self] at hj
    have : e' = e := by simpa using hj.symm
    rw [this, ej, h.len]
    exact ⟨x, List.mem_of_getElem? hx, hx, he⟩
/-- plain numbers of drawn worths are none of 20, 21, .. -/
theorem six_num : ∀ i : Int, W.num i ∈ six → i < 20 ∨ 1000 < i := by
  intro i h
  simp only [six, List.mem_cons, W.num.injEq, List.not_mem_nil, or_false, reduceCtorEq, false_or] at h
  rcases h with rfl | rfl | rfl | rfl
  · decide
  · decide
  · decide
  · right; decide
theorem Ents.nodup {ms : List Str} {us : List W} {i : Nat} {es : List (W × W)} (h : Ents us i es) (hu : us.Nodup) (hg : ∀ x ∈ us, GoodW ms x) (hi : i ≤ 30) : (es.map (·.1)).Nodup := by
  rw [List.nodup_iff_pairwise_ne, List.pairwise_iff_getElem]
  intro j k hj hk hjk
  rw [List.length_map] at hj hk
  rw [List.getElem_map, List.getElem_map]
  obtain ⟨x, mx, ex, cx⟩ := h.key j es[j] (List.getElem?_eq_getElem hj)
  obtain ⟨y, my, ey, cy⟩ := h.key k es[k] (List.getElem?_eq_getElem hk)
  have lj : j < 30 := by have := h.len; omega
  have lk : k < 30 := by have := h.len; omega
  have num : ∀ (x : W) (k : Nat), x ∈ us → k < 30 → x ≠ .num (20 + k) := fun x k hx hk z => by
    subst z
    rcases hg _ hx with q | ⟨m, _, q⟩
    · rcases six_num _ q with z | z <;> omega
    · cases q
  rcases cx with ⟨_, _, cx⟩ | cx <;> rcases cy with ⟨_, _, cy⟩ | cy <;> rw [cx, cy]
  · intro e
    have e' : x = y := e
    subst e'
    have := (List.getElem?_eq_some_iff.mp ex)
    obtain ⟨h1, e1⟩ := this
    obtain ⟨h2, e2⟩ := List.getElem?_eq_some_iff.mp ey
    have := (List.getElem_inj hu).mp (e1.trans e2.symm)
    omega
  · exact num x k mx lk
  · exact fun e => num y j my lj e.symm
  · intro e
    have e' : (20 + (j : Int)) = 20 + k := W.num.inj e
    omega
theorem Ents.made {ms : List Str} {ws us : List W} {es : List (W × W)} (h : Ents us us.length es) (hu : us.Nodup) (hm : Marks ms) (hg : ∀ x ∈ us, GoodW ms x) (hiff : ∀ x, x ∈ us ↔ x ∈ ws) (hl : us.length ≤ ws.length) (hw : ws.length ≤ 30) : Made ws (.dic es) := by
  have hlen : es.length = us.length := h.len
  have each : ∀ e ∈ es, ∃ (j : Nat) (x : W), j < us.length ∧ x ∈ us ∧ us[j]? = some x ∧ ((∃ y ∈ us, e = (x, y)) ∨ e = (.num (20 + (j : Int)), x)) := fun e he => by
    obtain ⟨j, hj, ej⟩ := List.getElem_of_mem he
    obtain ⟨x, mx, ex, c⟩ := h.key j e (by rw [List.getElem?_eq_getElem hj, ej])
    exact ⟨j, x, by omega, mx, ex, c⟩
  have numOk : ∀ j : Nat, j < 30 → worthD (W.num (20 + j)).d = true := fun j hj => by
    have h1 : plnD (W.num (20 + (j : Int))).d = true := by
      simp only [W.d, plnD, Bool.and_eq_true, decide_eq_true_eq]
      constructor
      · have : (-10 ^ 30 : Int) < 0 := by decide
        omega
      · have : (1000 : Int) < 10 ^ 30 := by decide
        omega
    unfold worthD
    rw [h1, Bool.true_or]
  refine ⟨objD_dic (entriesD_of (fun e he => ?_) (h.nodup hu hg (by omega)) (by omega)), fun x hx => ?_, fun x hx => ?_, by show es.length ≤ _; omega⟩
  · obtain ⟨j, x, hj, mx, ex, ⟨y, my, rfl⟩ | rfl⟩ := each e he
    · exact ⟨(hg x mx).ok hm, (hg y my).ok hm⟩
    · exact ⟨numOk j (by omega), (hg x mx).ok hm⟩
  · obtain ⟨j, hj, ej⟩ := List.getElem_of_mem ((hiff x).mpr hx)
    have hj2 : j < es.length := by omega
    obtain ⟨x', _, ex, c⟩ := h.key j es[j] (List.getElem?_eq_getElem hj2)
    rw [List.getElem?_eq_getElem hj, ej] at ex
    cases ex
    show x ∈ es.flatMap fun e => [e.1, e.2]
    refine List.mem_flatMap.mpr ⟨es[j], List.getElem_mem hj2, ?_⟩
    rcases c with ⟨y, _, c⟩ | c <;> rw [c] <;> simp
  · obtain ⟨e, he, hxe⟩ := List.mem_flatMap.mp (show x ∈ es.flatMap fun e => [e.1, e.2] from hx)
    obtain ⟨j, x', hj, mx, ex, ⟨y, my, rfl⟩ | rfl⟩ := each e he
    · simp at hxe
      rcases hxe with rfl | rfl
      · exact .inl ((hiff _).mp mx)
      · exact .inl ((hiff _).mp my)
    · simp at hxe
      rcases hxe with rfl | rfl
      · exact .inr ⟨j, by omega, rfl⟩
      · exact .inl ((hiff _).mp mx)
end SB

set_option Elab.async false
set_option linter.all false
set_option maxRecDepth 100000
set_option maxHeartbeats 4000000
namespace SB
open PySem L2
theorem dpAll_idx {K : PySem.W.Frag} {H : Hp} : ∀ {vs : List V} {ds : List PyData}, vs.length = ds.length → (∀ (j : Nat) v d, vs[j]? = some v → ds[j]? = some d → Dp K H v d) → DpAll K H vs ds
  | [], [], _, _ => .nil
  | v :: vs, d :: ds, hl, h => .cons (h 0 v d rfl rfl) (dpAll_idx (by simpa using hl) fun j v' d' h1 h2 => h (j + 1) v' d' (by simpa using h1) (by simpa using h2))
  | [], _ :: _, hl, _ => by simp at hl
  | _ :: _, [], hl, _ => by simp at hl
theorem dpAll_idx2 {K : PySem.W.Frag} {H : Hp} : ∀ {vs : List V} {ds : List PyData}, DpAll K H vs ds → ∀ (j : Nat) v d, vs[j]? = some v → ds[j]? = some d → Dp K H v d
  | _, _, .nil, j, v, d, h, _ => by simp at h
  | _, _, .cons h t, 0, v, d, h1, h2 => by cases h1; cases h2; exact h
  | _, _, .cons h t, j + 1, v, d, h1, h2 => dpAll_idx2 t j v d (by simpa using h1) (by simpa using h2)
theorem zip_fst_sub {α β : Type} : ∀ (xs : List α) (ys : List β), ((xs.zip ys).map (·.1)).Sublist xs
  | [], _ => by simp
  | _ :: _, [] => by simp
  | x :: xs, y :: ys => by
    rw [List.zip_cons_cons, List.map_cons]
    exact (zip_fst_sub xs ys).cons_cons x
theorem zip_fst_nodup {α β : Type} {xs : List α} {ys : List β} (h : xs.Nodup) : ((xs.zip ys).map (·.1)).Nodup := (zip_fst_sub xs ys).nodup h
def twenty : List Str := ("abcdefghijklmnopqrst" : Str).cps.toList.map fun c => ⟨#[c]⟩
theorem twenty_len : twenty.length = 20 := by decide +kernel
theorem twenty_nd : twenty.Nodup := by decide +kernel
theorem twenty_ok : ∀ n ∈ twenty, nameS n = true := by decide +kernel
def spLObj (K : PySem.W.Frag) : Sp := fun vs H Q _ => ∃ (p l : Addr) (kind : Int) (xs : List V) (ws : List W) (ms : List Str), vs = [.ref p, .int kind, .ref l] ∧ Pool H p ∧ l ≠ p ∧ SqL K H l xs ∧ DpAll K H xs (ws.map W.d) ∧ ws.length ≤ 20 ∧ Marks ms ∧ (∀ x ∈ ws, GoodW ms x) ∧
  ∀ (v : V) (t : Thing) H', Made ws t → SameX p H H' → Pool H' p → Dp K H' v t.d → Q v H'
theorem same_plain {K : PySem.W.Frag} {A B : Hp} (s : Same A B) {v : List V} {d : List PyData} (h : DpAll K A v d) : DpAll K B v d := dpAll_stay s h
section
variable {P : Program} {w : World} {K : PySem.W.Frag} {mg : Str → Option Value} {base : Heap} {a : Ad}
theorem ok_l_object (T : Txt P K mg a) : FnOk P w K mg base CX0 2 a.f_l_object a.d_l_object ["_law_pool_here", "_law_kind", "_law_worths"] (spLObj K) := by
  refine T.l_object.F.ok sc_l_object (fun vs H Q E h => ?_) (fun cdv A outer s H vs Q E hr h => ?_)
  · obtain ⟨p, l, kind, xs, ws, ms, rfl, _⟩ := h
    rfl
  · obtain ⟨p, l, kind, xs, ws, ms, rfl, pl, nlp, hS, hd, hw, hm, hg, k⟩ := h
    refine ⟨_, (pss_cons (ps_if (pt_cmpR op_eq (pv 1) pe_int (nomark _)) (pss_one (ps_ret (pe_tup (pa_cons pe_str (pa_cons (pe_ix ix_list (pe_lst (pa_cons pe_str (pa_cons pe_str pa_nil))) (pe_call (ok_l_draw T) (hr.mono (by decide)) (by rfl) T.l_draw.g T.l_draw.k T.l_draw.b .nil pass0 (pa_cons (pv 0) (pa_cons pe_int pa_nil))) (fun _ _ => rfl)) (pa_cons (pe_tupZip (by rfl) (pa_cons pe_str (pa_cons (pv 2) pa_nil)) (by rfl) T.z_tuple (by rfl) T.z_zip) pa_nil)))))) pss_nil)
      (pss_cons (ps_if (pt_cmpR op_eq (pv 1) pe_int (nomark _)) (pss_one (ps_ret (pe_tup (pa_cons pe_str (pa_cons (pe_callTy call_tuple_of (by rfl) T.z_tuple (by decide +kernel) (pa_cons (pv 2) pa_nil)) pa_nil))))) pss_nil)
      (pss_cons (ps_set (i := 3) sc_l_object.nd rfl (Or.inl rfl) (pe_callTy (call_listM rfl) (by rfl) T.z_list (by decide +kernel) (pa_cons (pe_callTy (call_dictM (Nat.lt_of_le_of_lt (Nat.add_le_add_left (by decide : 12 ≤ 64) _) hr.units) rfl) (by rfl) T.z_dict (by decide +kernel) (pa_cons (pe_lc (own := [("_law_worth_here", 6)]) (g := gName 6) (tt := tYes) (by rfl) sc_l_object.nd (pi_list (pv 2)) (blkOk_by (own := [("_law_worth_here", 6)]) (N := ["_law_pool_here", "_law_kind", "_law_worths", "_law_different", "_law_entries", "_law_at", "_law_worth_here", "_law_other"]) (sc := defScope s_l_object) (by decide +kernel)) (fun _ _ _ _ _ => (pg_name (i := 6) sc_l_object.nd rfl (Or.inl rfl))) (fun _ _ _ _ _ => pts_nil) (fun _ _ _ _ _ => (pe_tup (pa_cons (pv 6) (pa_cons pe_bl pa_nil))))) pa_nil)) pa_nil)))
      (pss_cons (ps_if (pt_cmpR op_eq (pv 1) pe_int (nomark _)) (pss_one (ps_ret (pe_tup (pa_cons pe_str (pa_cons (pe_callTy call_tuple_of (by rfl) T.z_tuple (by decide +kernel) (pa_cons (pv 3) pa_nil)) pa_nil))))) pss_nil)
      (pss_cons (ps_set (i := 4) sc_l_object.nd rfl (Or.inl rfl) (pe_lst pa_nil))
      (pss_cons (ps_for PassesOwn.never rfl (pi_enum (by rfl) T.z_enumerate (pa_cons (pv 3) pa_nil)) (pg_tup (by rfl) (pgs_cons (pg_name (i := 5) sc_l_object.nd rfl (Or.inl rfl)) (pgs_cons (pg_name (i := 6) sc_l_object.nd rfl (Or.inl rfl)) pgs_nil))) (pss_cons (ps_set (i := 7) sc_l_object.nd rfl (Or.inl rfl) (pe_ix ix_list (pv 3) (pe_call (ok_l_draw T) (hr.mono (by decide)) (by rfl) T.l_draw.g T.l_draw.k T.l_draw.b .nil pass0 (pa_cons (pv 0) (pa_cons (pe_op op_add (pv 5) pe_int) pa_nil))) (fun _ _ => rfl)))
      (pss_one (ps_expr (pe_bm PySem.F.plainAttrs_list PySem.F.slot_list_append PySem.F.type_list_append mt_append (pv 4) (pa_cons (pe_ix ix_list (pe_lst (pa_cons (pe_tup (pa_cons (pv 6) (pa_cons (pv 7) pa_nil))) (pa_cons (pe_tup (pa_cons (pe_op op_add pe_int (pv 5)) (pa_cons (pv 6) pa_nil))) pa_nil))) (pe_call (ok_l_draw T) (hr.mono (by decide)) (by rfl) T.l_draw.g T.l_draw.k T.l_draw.b .nil pass0 (pa_cons (pv 0) (pa_cons pe_int pa_nil))) (fun _ _ => rfl)) pa_nil))))))
      (pss_one (ps_ret (pe_tup (pa_cons pe_str (pa_cons (pe_callTy call_tuple_of (by rfl) T.z_tuple (by decide +kernel) (pa_cons (pv 4) pa_nil)) pa_nil))))))))))), ?_⟩
    have hlx : xs.length = ws.length := by rw [hd.len, List.length_map]
    have sz : ∀ n : Nat, n ≤ 1000 → n ≤ sizeLine := fun n hn => by rw [sizeLine_eq]; omega
    have plw : plainDs (ws.map W.d) = true := plain_map W.d_plain ws
    have wok : ∀ x ∈ ws, worthD x.d = true := fun x hx => (hg x hx).ok hm
    refine ⟨_, rfl, rfl, _, rfl, ?_⟩
    refine ifB (fun _ => ?_) (fun _ => ?_)
    · -- a record
      refine ⟨sz 2 (by decide), fun L1 hL1 => ?_⟩
      obtain ⟨H1, e1, s1, f1⟩ : ∃ H1, upd H L1 (.lst [.str "box", .str "pair"]) = H1 ∧ Same H H1 ∧ H1 L1 = some (.lst [.str "box", .str "pair"]) := ⟨_, rfl, same_new hL1, upd_same⟩
      have nL1 : L1 ≠ p := (pl.ne hL1).symm
      have pl1 : Pool H1 p := pl.at fun o e => s1 _ _ e
      show tCall spDraw [] E0 _ _ (upd H L1 (.lst [.str "box", .str "pair"])) _
      rw [e1]
      refine ⟨_, rfl, p, _, rfl, pl1, by decide, by decide, fun n H2 hn x2 pl2 => ?_⟩
      have f2 := x2 _ _ nL1 f1
      obtain ⟨nm, hnm, ok⟩ : ∃ nm : Str, ([.str "box", .str "pair"] : List V)[n]? = some (.str nm) ∧ nameS nm = true := by
        match n, hn with
        | 0, _ => exact ⟨"box", rfl, by decide +kernel⟩
        | 1, _ => exact ⟨"pair", rfl, by decide +kernel⟩
        | n + 2, hn => exact absurd hn (by omega)
      have x02 : SameX p H H2 := same_sx s1 x2
      refine ⟨L1, _, n, _, rfl, rfl, SqL.of f2, atI_nat hnm, ?_⟩
      have hS2 : SqL K H2 l xs := by
        rcases hS with (h | ⟨o, h⟩) | h
        · exact .inl (.inl (x02 _ _ nlp h))
        · exact .inl (.inr ⟨o, x02 _ _ nlp h⟩)
        · exact .inr h
      have hd2 : DpAll K H2 xs (ws.map W.d) := dpAll_sx x02 pl hd plw
      refine ⟨_, rfl, _, _, _, xs, rfl, .text _, .list hS2, sz _ (by omega), fun H3 q ts s3 hq hq3 hts ht => ⟨sz 3 (by decide), fun o ho => ?_⟩⟩
      have e20 : (("abcdefghijklmnopqrst" : Str).cps.toList.map fun c => V.str ⟨#[c]⟩) = twenty.map V.str := by
        unfold twenty
        rw [List.map_map]
        rfl
      rw [e20, List.length_map, twenty_len] at hts
      rw [e20] at ht
      have lt : ts.length = ws.length := by omega
      have lz : (twenty.zip ws).length = ws.length := by rw [List.length_zip, twenty_len]; omega
      have mem : ∀ f ∈ twenty.zip ws, f.1 ∈ twenty ∧ f.2 ∈ ws := fun f hf => List.of_mem_zip hf
      have s4 : Same H3 (upd H3 o (.tup [.str "record", .str nm, .ref q])) := same_new ho
      have hdq : DpAll K (upd H3 o (.tup [.str "record", .str nm, .ref q])) (ts.map V.ref) ((twenty.zip ws).map fieldD) := by
        refine dpAll_idx (by rw [List.length_map, List.length_map, lt, lz]) fun j v d hv hdj => ?_
        rw [List.getElem?_map] at hv hdj
        obtain ⟨t, et, rfl⟩ := Option.map_eq_some_iff.mp hv
        obtain ⟨f, ef, rfl⟩ := Option.map_eq_some_iff.mp hdj
        obtain ⟨x, y, hx, hy, hty⟩ := ht j t et
        obtain ⟨ef1, ef2⟩ := List.getElem?_zip_eq_some.mp ef
        rw [List.getElem?_map, ef1] at hx
        cases hx
        have dy := yat_dp (K := K) hd2 hy ef2
        exact dp_tup (s4 _ _ hty) (.cons (.str _) (.cons (dp_stay (fun b o e => s4 _ _ (s3 b o e)) dy) .nil))
      refine k _ (.rcd nm (twenty.zip ws)) _ ⟨objD_rcd ok (fieldsD_of (fun f hf => ⟨twenty_ok _ (mem f hf).1, wok _ (mem f hf).2⟩) ?_ (by omega)), fun x hx => ?_, fun x hx => ?_, by show (twenty.zip ws).length ≤ _; omega⟩ (sx_same x02 (Same.trans s3 s4)) (pl2.at fun o e => s4 _ _ (s3 _ _ e)) (dp_tup upd_same (.cons (.str _) (.cons (.str _) (.cons (dp_tup (s4 _ _ hq3) hdq) .nil))))
      · exact zip_fst_nodup twenty_nd
      · show x ∈ (twenty.zip ws).map (·.2)
        rw [List.map_snd_zip (by rw [twenty_len]; omega)]
        exact hx
      · have hx' : x ∈ (twenty.zip ws).map (·.2) := hx
        obtain ⟨f, hf, rfl⟩ := List.mem_map.mp hx'
        exact .inl (mem f hf).2
    refine ⟨_, rfl, rfl, _, rfl, ?_⟩
    refine ifB (fun _ => ?_) (fun _ => ?_)
    · -- a list
      refine ⟨_, rfl, l, xs, rfl, .inl ⟨hS, fun q hq => ⟨sz 2 (by decide), fun o ho => ?_⟩⟩⟩
      obtain ⟨H1, e1, s1, f1⟩ : ∃ H1, upd H q (.tup xs) = H1 ∧ Same H H1 ∧ H1 q = some (.tup xs) := ⟨_, rfl, same_new hq, upd_same⟩
      rw [e1] at ho ⊢
      have s2 : Same H1 (upd H1 o (.tup [.str "list", .ref q])) := same_new ho
      exact k _ (.lst ws) _ ⟨objD_lst (worthsD_of wok (by omega)), fun x hx => hx, fun x hx => .inl hx, Nat.le_refl _⟩ (Same.x (s1.trans s2)) (pl.at fun o e => s2 _ _ (s1 _ _ e)) (dp_tup upd_same (.cons (.str _) (.cons (dp_tup (s2 _ _ f1) (dpAll_stay (s1.trans s2) hd)) .nil)))
    -- the different worths
    refine ⟨_, rfl, l, rfl, ⟨_, hS⟩, fun D hD => lc_dp (K := K) frame_same (ys := ws) (by rw [← hlx]; exact walk_list (K := K) (a := l) (xs := xs)) (Same.refl _) hD (sz _ (by omega)) (fun H' s1 => sql_stay s1 hS) (fun x => .tuple [x.d, .bool true]) (fun x _ => by simp [plainD, plainDs, W.d_plain]) ?_ fun H1 xs1 s1 h1 al1 => ?_⟩
    · rintro i x v H1 H2 R hi s1 _ ⟨rfl, hv⟩ hR
      have dv := yat_dp (K := K) (dpAll_stay s1 hd) hv hi
      exact ⟨rfl, _, rfl, sz 2 (by decide), fun t ht => hR _ _ (same_new ht) (dp_tup upd_same (.cons (dp_stay (same_new ht) dv) (.cons (.bl true) .nil)))⟩
    -- dict of the pairs
    have hl1 : xs1.length = ws.length := by rw [al1.len, List.length_map]
    have pairs : ∀ (ys : List V) (us : List W), DpAll K H1 ys (us.map fun x => .tuple [x.d, .bool true]) → ∃ (ps : List Addr) (qs : List (V × W)), ys = ps.map V.ref ∧ qs.map (·.2) = us ∧ (∀ q ∈ qs, Dp K H1 q.1 q.2.d) ∧ Paired (fun (p : Addr) (kv : NestedKey × V × V) => SqT K H1 p [kv.2.1, kv.2.2]) ps (qs.map kvW) := by
      intro ys us
      induction us generalizing ys with
      | nil =>
        intro h
        cases h
        exact ⟨[], [], rfl, rfl, fun q hq => by simp at hq, .nil⟩
      | cons u us ih =>
        intro h
        cases h with
        | cons h1 h2 =>
          obtain ⟨ps, qs, q1, q2, q3, q4⟩ := ih _ h2
          obtain ⟨t, zs, rfl, sq, al⟩ := dp_tuple h1
          obtain ⟨v1, v2, rfl, d1, d2⟩ := dpAll2 al
          cases d2
          refine ⟨t :: ps, (v1, u) :: qs, by rw [q1]; rfl, by rw [List.map_cons, q2], fun q hq => ?_, .cons sq q4⟩
          rcases List.mem_cons.mp hq with rfl | hq
          · exact d1
          · exact q3 q hq
    obtain ⟨ps, qs, rfl, q2, q3, q4⟩ := pairs xs1 ws al1
    refine ⟨D, ps, qs.map kvW, rfl, SqL.of h1, q4, fun x hx => ?_, fun dd hdd => ?_⟩
    · obtain ⟨q, hq, rfl⟩ := List.mem_map.mp hx
      exact ⟨_, q3 q hq, W.keyOf _, W.key_depth _⟩
    obtain ⟨H2, e2, s2, f2⟩ : ∃ H2, upd H1 dd (mixO w dd (mergeM [] (qs.map kvW))) = H2 ∧ Same H1 H2 ∧ H2 dd = some (mixO w dd (mergeM [] (qs.map kvW))) := ⟨_, rfl, same_new hdd, upd_same⟩
    show tNil _ (upd H1 dd (mixO w dd (mergeM [] (qs.map kvW)))) _
    rw [e2]
    refine ⟨dd, _, rfl, f2, fun Dl hDl => ?_⟩
    obtain ⟨us, u1, u2, und, uiff, ulen⟩ := merge_worths (K := K) (H := H1) qs [] [] rfl .nil (by simp) q3
    rw [q2] at uiff
    have ulen' : us.length ≤ ws.length := by
      have : qs.length = ws.length := by rw [← q2, List.length_map]
      simp at ulen
      omega
    have uiff' : ∀ x, x ∈ us ↔ x ∈ ws := fun x => by rw [uiff x]; simp
    obtain ⟨dv, edv⟩ : ∃ dv, (mergeM [] (qs.map kvW)).map (·.2.1) = dv := ⟨_, rfl⟩
    rw [edv] at u2 ⊢
    obtain ⟨H3, e3, s3, f3⟩ : ∃ H3, upd H2 Dl (.lst dv) = H3 ∧ Same H2 H3 ∧ H3 Dl = some (.lst dv) := ⟨_, rfl, same_new hDl, upd_same⟩
    rw [e3]
    have s13 : Same H1 H3 := s2.trans s3
    have s03 : Same H H3 := s1.trans s13
    have u3 : DpAll K H3 dv (us.map W.d) := dpAll_stay s13 u2
    have pl3 : Pool H3 p := pl.at fun o e => s03 _ _ e
    have ugood : ∀ x ∈ us, GoodW ms x := fun x hx => hg x ((uiff' x).mp hx)
    have ldv : dv.length = us.length := by rw [u3.len, List.length_map]
    have nDp : Dl ≠ p := (Pool.ne (pl.at fun o e => (s1.trans s2) _ _ e) hDl).symm
    refine ⟨_, rfl, rfl, _, rfl, ?_⟩
    refine ifB (fun _ => ?_) (fun _ => ?_)
    · -- a set
      refine ⟨_, rfl, Dl, dv, rfl, .inl ⟨SqL.of f3, fun q hq => ⟨sz 2 (by decide), fun o ho => ?_⟩⟩⟩
      obtain ⟨H4, e4, s4, f4⟩ : ∃ H4, upd H3 q (.tup dv) = H4 ∧ Same H3 H4 ∧ H4 q = some (.tup dv) := ⟨_, rfl, same_new hq, upd_same⟩
      rw [e4] at ho ⊢
      have s5 : Same H4 (upd H4 o (.tup [.str "set", .ref q])) := same_new ho
      exact k _ (.set us) _ ⟨objD_set (worthsD_of (fun x hx => (ugood x hx).ok hm) (by omega)) und, fun x hx => (uiff' x).mpr hx, fun x hx => .inl ((uiff' x).mp hx), ulen'⟩ (Same.x (s03.trans (s4.trans s5))) (pl3.at fun o e => s5 _ _ (s4 _ _ e)) (dp_tup upd_same (.cons (.str _) (.cons (dp_tup (s5 _ _ f4) (dpAll_stay (s4.trans s5) u3)) .nil)))
    -- a dict
    refine ⟨Nat.zero_le _, fun En hEn => ?_⟩
    obtain ⟨H4, e4, s4, f4⟩ : ∃ H4, upd H3 En (.lst []) = H4 ∧ Same H3 H4 ∧ H4 En = some (.lst []) := ⟨_, rfl, same_new hEn, upd_same⟩
    have f34 := s4 _ _ f3
    have pl4 : Pool H4 p := pl3.at fun o e => s4 _ _ e
    have u4 : DpAll K H4 dv (us.map W.d) := dpAll_stay s4 u3
    have nEp : En ≠ p := (pl3.ne hEn).symm
    have nDE : Dl ≠ En := ne_of_none f3 hEn
    have uplain : plainDs (us.map W.d) = true := plain_map W.d_plain us
    have nt4 : ∀ b ∈ [p, En], noTup (H4 b) = true := fun b hb => by
      rcases List.mem_cons.mp hb with rfl | hb
      · exact pl4.noTup _ (by simp)
      · rw [List.mem_singleton.mp hb, f4]
        rfl
    refine ⟨_, rfl, Dl, dv, rfl, SqL.of (show upd H3 En (.lst []) Dl = _ by rw [e4]; exact f34), ?_⟩
    rw [e4]
    refine for_it (walk_enum (K := K) (a := Dl) (xs := dv)) (fun i σ H' => ∃ (es : List (W × W)) (evs : List V) (o5 o6 o7 : Option V), σ = [some (.ref p), some (.int kind), some (.ref l), some (.ref Dl), some (.ref En), o5, o6, o7] ∧
      But [p, En] H4 H' ∧ Pool H' p ∧ H' En = some (.lst evs) ∧ DpAll K H' evs (es.map entryD) ∧ Ents us i es) ?_ (fun i σ H' _ h => ?_) ?_ ?_
    · exact ⟨[], [], none, none, none, rfl, fun _ _ _ e => e, pl4, f4, .nil, Ents.nil us⟩
    · obtain ⟨es, evs, o5, o6, o7, rfl, bt, _⟩ := h
      exact SqL.of (bt _ _ (by simp [nDp, nDE]) f34)
    · rintro i y σ H5 H5' hi2 ⟨es, evs, o5, o6, o7, rfl, bt, pl5, hE, de, en⟩ ⟨T0, x0, v, rfl, hT0, rfl, rfl0, hv⟩
      cases rfl0
      have hiu : i < us.length := by omega
      obtain ⟨H6, e6, s6, f6⟩ : ∃ H6, upd H5 T0 (.tup [.int (i : Nat), v]) = H6 ∧ Same H5 H6 ∧ H6 T0 = some (.tup [.int (i : Nat), v]) := ⟨_, rfl, same_new hT0, upd_same⟩
      rw [e6]
      refine ⟨T0, _, rfl, SqT.of f6, rfl, _, _, rfl, _, _, rfl, rfl, ?_⟩
      have pl6 : Pool H6 p := pl5.at fun o e => s6 _ _ e
      have hD6 : H6 Dl = some (.lst dv) := s6 _ _ (bt _ _ (by simp [nDp, nDE]) f34)
      refine ⟨_, rfl, _, rfl, _, rfl, _, _, rfl, rfl, p, _, rfl, pl6, by omega, by omega, fun n H7 hn x7 pl7 => ?_⟩
      have hn2 : n < us.length := by omega
      have hnd : n < dv.length := by omega
      have hD7 := x7 _ _ nDp hD6
      refine ⟨Dl, _, n, dv[n], rfl, rfl, SqL.of hD7, atI_nat (List.getElem?_eq_getElem hnd), ?_⟩
      have hE7 := x7 _ _ nEp (s6 _ _ hE)
      refine ⟨_, rfl, .inl ⟨rfl, _, SqL.of hE7⟩, _, rfl, _, rfl, sz 2 (by decide), fun t1 ht1 => ?_⟩
      obtain ⟨H8, e8, s8, f8⟩ : ∃ H8, upd H7 t1 (.tup [v, dv[n]]) = H8 ∧ Same H7 H8 ∧ H8 t1 = some (.tup [v, dv[n]]) := ⟨_, rfl, same_new ht1, upd_same⟩
      refine ⟨_, rfl, _, _, rfl, rfl, _, rfl, sz 2 (by decide), fun t2 ht2 => ?_⟩
      rw [e8] at ht2
      obtain ⟨H9, e9, s9, f9⟩ : ∃ H9, upd H8 t2 (.tup [.int (20 + (i : Nat)), v]) = H9 ∧ Same H8 H9 ∧ H9 t2 = some (.tup [.int (20 + (i : Nat)), v]) := ⟨_, rfl, same_new ht2, upd_same⟩
      refine ⟨sz 2 (by decide), fun L2 hL2 => ?_⟩
      rw [e8, e9] at hL2
      obtain ⟨HA, eA, sA, fA⟩ : ∃ HA, upd H9 L2 (.lst [.ref t1, .ref t2]) = HA ∧ Same H9 HA ∧ HA L2 = some (.lst [.ref t1, .ref t2]) := ⟨_, rfl, same_new hL2, upd_same⟩
      have s7A : Same H7 HA := s8.trans (s9.trans sA)
      have plA : Pool HA p := pl7.at fun o e => s7A _ _ e
      have nLp : L2 ≠ p := (Pool.ne (pl7.at fun o e => (s8.trans s9) _ _ e) hL2).symm
      have nt1 : t1 ≠ p := (pl7.ne ht1).symm
      have nt2 : t2 ≠ p := (Pool.ne (pl7.at fun o e => s8 _ _ e) ht2).symm
      show tCall spDraw [] E0 _ _ (upd (upd (upd H7 t1 (.tup [v, dv[n]])) t2 (.tup [.int (20 + (i : Nat)), v])) L2 (.lst [.ref t1, .ref t2])) _
      rw [e8, e9, eA]
      refine ⟨_, rfl, p, _, rfl, plA, by decide, by decide, fun c HB hc xB plB => ?_⟩
      have fB := xB _ _ nLp fA
      have hEB := xB _ _ nEp (s7A _ _ hE7)
      have b5B : But [p] H5 HB := fun b o nb eb => by
        have nb' : b ≠ p := by simpa using nb
        exact xB _ _ nb' (s7A _ _ (x7 _ _ nb' (s6 _ _ eb)))
      have b4B : But [p, En] H4 HB := fun b o nb eb => b5B _ _ (fun z => nb (by simp at z; simp [z])) (bt _ _ nb eb)
      have vi : dv[i]? = some v := hv
      have ui : us[i]? = some us[i] := List.getElem?_eq_getElem hiu
      have uB : DpAll K HB dv (us.map W.d) := dpAll_but b4B nt4 u4 uplain
      have dB := (dpAll_idx2 uB)
      have dvB : Dp K HB v us[i].d := dB i v _ vi (by rw [List.getElem?_map, ui]; rfl)
      have dnB : Dp K HB dv[n] us[n].d := dB n _ _ (List.getElem?_eq_getElem hnd) (by rw [List.getElem?_map, List.getElem?_eq_getElem hn2]; rfl)
      have deB : DpAll K HB evs (es.map entryD) := dpAll_but b5B pl5.noTup de (plain_map (fun e => by simp [entryD, plainD, plainDs, W.d_plain]) es)
      have t1B : HB t1 = some (.tup [v, dv[n]]) := xB _ _ nt1 (sA _ _ (s9 _ _ f8))
      have t2B : HB t2 = some (.tup [.int (20 + (i : Nat)), v]) := xB _ _ nt2 (sA _ _ f9)
      have lE : evs.length = i := by rw [de.len, List.length_map, en.len]
      obtain ⟨c', hcv, e, he, hpe⟩ : ∃ (tc : Addr), atI [V.ref t1, V.ref t2] (c : Int) = some (.ref tc) ∧ ∃ e : W × W, ((∃ y ∈ us, e = (us[i], y)) ∨ e = (.num (20 + (i : Int)), us[i])) ∧ Dp K HB (.ref tc) (entryD e) := by
        match c, hc with
        | 0, _ => exact ⟨t1, rfl, _, .inl ⟨us[n], List.getElem_mem hn2, rfl⟩, dp_tup t1B (.cons dvB (.cons dnB .nil))⟩
        | 1, _ => exact ⟨t2, rfl, _, .inr rfl, dp_tup t2B (.cons (.int _) (.cons dvB .nil))⟩
        | c + 2, hc => exact absurd hc (by omega)
      refine ⟨L2, _, c, _, rfl, rfl, SqL.of fB, hcv, En, _, _, rfl, rfl, hEB, by rw [sizeLine_eq]; omega, ?_⟩
      refine ⟨es ++ [e], evs ++ [.ref c'], _, _, _, rfl, ?_, ?_, upd_same, ?_, en.push ui he⟩
      · intro b o nb eb
        have : b ≠ En := fun z => nb (by simp [z])
        rw [upd_ne this]
        exact b4B _ _ nb eb
      · exact plB.at fun o e => by rw [upd_ne nEp.symm]; exact e
      · rw [List.map_append]
        have nE : ∀ b ∈ [En], noTup (HB b) = true := fun b hb => by rw [List.mem_singleton.mp hb, hEB]; rfl
        have bE : But [En] HB (upd HB En (.lst (evs ++ [.ref c']))) := fun b o nb eb => by rw [upd_ne (by simpa using nb)]; exact eb
        exact dpAll_app (dpAll_but bE nE deB (plain_map (fun e => by simp [entryD, plainD, plainDs, W.d_plain]) es)) (.cons (dp_but bE nE hpe (by simp [entryD, plainD, plainDs, W.d_plain])) .nil)
    · rintro σ H5 ⟨es, evs, o5, o6, o7, rfl, bt, pl5, hE, de, en⟩
      refine ⟨_, rfl, En, evs, rfl, .inl ⟨SqL.of hE, fun q hq => ⟨sz 2 (by decide), fun o ho => ?_⟩⟩⟩
      obtain ⟨H6, e6, s6, f6⟩ : ∃ H6, upd H5 q (.tup evs) = H6 ∧ Same H5 H6 ∧ H6 q = some (.tup evs) := ⟨_, rfl, same_new hq, upd_same⟩
      rw [e6] at ho ⊢
      have s7 : Same H6 (upd H6 o (.tup [.str "dict", .ref q])) := same_new ho
      rw [ldv] at en
      refine k _ (.dic es) _ (en.made und hm ugood uiff' ulen' (by omega)) (sx_same (fun b o nb eb => bt _ _ ?_ (s4 _ _ (s03 _ _ eb))) (s6.trans s7)) (pl5.at fun o e => s7 _ _ (s6 _ _ e)) (dp_tup upd_same (.cons (.str _) (.cons (dp_tup (s7 _ _ f6) (dpAll_stay (s6.trans s7) de)) .nil)))
      have : b ≠ En := ne_of_none (s03 _ _ eb) hEn
      simp [nb, this]
end
end SB

set_option Elab.async false
set_option linter.all false
set_option maxRecDepth 100000
set_option maxHeartbeats 4000000
namespace SB
open PySem L2
def Thing.parts : Thing → List PyData
  | .rcd _ fs => fs.map fieldD
  | .lst ws => ws.map W.d
  | .set ws => ws.map W.d
  | .dic es => es.map entryD
def Thing.hd (q : Addr) : Thing → List V
  | .rcd n _ => [.str "record", .str n, .ref q]
  | .lst _ => [.str "list", .ref q]
  | .set _ => [.str "set", .ref q]
  | .dic _ => [.str "dict", .ref q]
theorem Thing.parts_len (t : Thing) : t.parts.length = t.len := by cases t <;> exact List.length_map _
theorem Thing.parts_plain (t : Thing) : plainDs t.parts = true := by
  cases t with
  | rcd n fs => exact plain_map fieldD_plain fs
  | lst ws => exact plain_map W.d_plain ws
  | set ws => exact plain_map W.d_plain ws
  | dic es => exact plain_map entryD_plain es
theorem thing_at {K : PySem.W.Frag} {H : Hp} {v : V} {t : Thing} (h : Dp K H v t.d) : ∃ p q ys, v = .ref p ∧ SqT K H p (t.hd q) ∧ SqT K H q ys ∧ DpAll K H ys t.parts := by
  cases t with
  | rcd n fs =>
    obtain ⟨p, xs, rfl, sq, al⟩ := dp_tuple h
    obtain ⟨v1, v2, v3, rfl, d1, d2, d3⟩ := dpAll3 al
    cases dp_str d1
    cases dp_str d2
    obtain ⟨q, ys, rfl, sq3, al3⟩ := dp_tuple d3
    exact ⟨p, q, ys, rfl, sq, sq3, al3⟩
  | lst ws | set ws | dic ws =>
    obtain ⟨p, xs, rfl, sq, al⟩ := dp_tuple h
    obtain ⟨v1, v2, rfl, d1, d2⟩ := dpAll2 al
    cases dp_str d1
    obtain ⟨q, ys, rfl, sq3, al3⟩ := dp_tuple d2
    exact ⟨p, q, ys, rfl, sq, sq3, al3⟩
theorem perm_map {α β : Type} {f : α → β} {l1 l2 : List β} (h : l1.Perm l2) : ∀ ps : List α, ps.map f = l2 → ∃ qs : List α, qs.Perm ps ∧ qs.map f = l1 := by
  induction h with
  | nil =>
    intro ps e
    rw [List.map_eq_nil_iff.mp e]
    exact ⟨[], .nil, rfl⟩
  | cons x h ih =>
    intro ps e
    cases ps with
    | nil => cases e
    | cons p ps =>
      rw [List.map_cons] at e
      obtain ⟨e1, e2⟩ := List.cons.inj e
      obtain ⟨qs, q1, q2⟩ := ih ps e2
      exact ⟨p :: qs, q1.cons p, by rw [List.map_cons, q2, e1]⟩
  | swap x y l =>
    intro ps e
    match ps, e with
    | p1 :: p2 :: ps, e =>
      rw [List.map_cons, List.map_cons] at e
      obtain ⟨e1, e2⟩ := List.cons.inj e
      obtain ⟨e2, e3⟩ := List.cons.inj e2
      exact ⟨p2 :: p1 :: ps, List.Perm.swap _ _ _, by rw [List.map_cons, List.map_cons, e1, e2, e3]⟩
  | trans h1 h2 ih1 ih2 =>
    intro ps e
    obtain ⟨qs, q1, q2⟩ := ih2 ps e
    obtain ⟨rs, r1, r2⟩ := ih1 qs q2
    exact ⟨rs, r1.trans q1, r2⟩
theorem dpAll_perm {α : Type} {K : PySem.W.Frag} {H : Hp} {g : α → PyData} {xs ys : List V} {l : List α} (h : DpAll K H xs (l.map g)) (hp : ys.Perm xs) : ∃ m : List α, m.Perm l ∧ DpAll K H ys (m.map g) := by
  obtain ⟨ps, h1, h2, h3⟩ := dpAll_zip h
  obtain ⟨qs, q1, q2⟩ := perm_map hp ps h1
  refine ⟨qs.map (·.2), by rw [← h2]; exact q1.map _, ?_⟩
  rw [← q2, List.map_map]
  exact dpAll_map.mpr fun p hp => h3 p (q1.mem_iff.mp hp)
/-- the same object, its parts in another order (a list stays) -/
inductive Shuf : Thing → Thing → Prop where
  | rcd {n : Str} {fs gs : List (Str × W)} (h : gs.Perm fs) : Shuf (.rcd n fs) (.rcd n gs)
  | lst {ws : List W} : Shuf (.lst ws) (.lst ws)
  | set {ws us : List W} (h : us.Perm ws) : Shuf (.set ws) (.set us)
  | dic {es fs : List (W × W)} (h : fs.Perm es) : Shuf (.dic es) (.dic fs)
def spParts (K : PySem.W.Frag) : Sp := fun vs H Q _ => ∃ (v : V) (t : Thing), vs = [v] ∧ Dp K H v t.d ∧ ∀ p q ys, v = .ref p → SqT K H p (t.hd q) → SqT K H q ys → DpAll K H ys t.parts → Q (.ref q) H
def spShuf (K : PySem.W.Frag) : Sp := fun vs H Q _ => ∃ (p : Addr) (v : V) (t : Thing), vs = [.ref p, v] ∧ Pool H p ∧ Dp K H v t.d ∧ t.len ≤ 100 ∧
  ∀ (v' : V) (t' : Thing) H', Shuf t t' → SameX p H H' → Pool H' p → Dp K H' v' t'.d → Q v' H'
section
variable {P : Program} {w : World} {K : PySem.W.Frag} {mg : Str → Option Value} {base : Heap} {a : Ad}
theorem ok_l_parts (T : Txt P K mg a) : FnOk P w K mg base CX0 1 a.f_l_parts a.d_l_parts ["_law_thing"] (spParts K) := by
  refine T.l_parts.F.ok sc_l_parts (fun vs H Q E h => ?_) (fun cdv A outer s H vs Q E hr h => ?_)
  · obtain ⟨v, t, rfl, _⟩ := h
    rfl
  · obtain ⟨v, t, rfl, dp, k⟩ := h
    refine ⟨_, (pss_one (ps_ret (pe_ifExp (pt_cmpR op_eq (pe_ix ix_tup (pv 0) pe_int (fun _ _ => rfl)) pe_str (nomark _)) (pe_ix ix_tup (pv 0) pe_int (fun _ _ => rfl)) (pe_ix ix_tup (pv 0) pe_int (fun _ _ => rfl))))), ?_⟩
    obtain ⟨p, q, ys, rfl, sq, sq2, al⟩ := thing_at dp
    have kk := k p q ys rfl sq sq2 al
    cases t with
    | rcd n fs => exact ⟨_, rfl, p, _, 0, _, rfl, rfl, sq, rfl, rfl, _, rfl, ifT (by rfl) ⟨_, rfl, p, _, 2, _, rfl, rfl, sq, rfl, kk⟩⟩
    | lst ws => exact ⟨_, rfl, p, _, 0, _, rfl, rfl, sq, rfl, rfl, _, rfl, ifF (by decide) ⟨_, rfl, p, _, 1, _, rfl, rfl, sq, rfl, kk⟩⟩
    | set ws => exact ⟨_, rfl, p, _, 0, _, rfl, rfl, sq, rfl, rfl, _, rfl, ifF (by decide) ⟨_, rfl, p, _, 1, _, rfl, rfl, sq, rfl, kk⟩⟩
    | dic ws => exact ⟨_, rfl, p, _, 0, _, rfl, rfl, sq, rfl, rfl, _, rfl, ifF (by decide) ⟨_, rfl, p, _, 1, _, rfl, rfl, sq, rfl, kk⟩⟩
theorem ok_l_shuffled (T : Txt P K mg a) : FnOk P w K mg base CX0 3 a.f_l_shuffled a.d_l_shuffled ["_law_pool_here", "_law_thing"] (spShuf K) := by
  refine T.l_shuffled.F.ok sc_l_shuffled (fun vs H Q E h => ?_) (fun cdv A outer s H vs Q E hr h => ?_)
  · obtain ⟨p, v, t, rfl, _⟩ := h
    rfl
  · obtain ⟨p, v, t, rfl, pl, dp, hl, k⟩ := h
    refine ⟨_, (pss_cons (ps_if (pt_cmpR op_eq (pe_ix ix_tup (pv 1) pe_int (fun _ _ => rfl)) pe_str (nomark _)) (pss_one (ps_ret (pv 1))) pss_nil)
      (pss_cons (ps_set (i := 2) sc_l_shuffled.nd rfl (Or.inl rfl) (pe_callTy call_tuple_of (by rfl) T.z_tuple (by decide +kernel) (pa_cons (pe_call (ok_l_mixed T) (hr.mono (by decide)) (by rfl) T.l_mixed.g T.l_mixed.k T.l_mixed.b .nil pass0 (pa_cons (pv 0) (pa_cons (pe_call (ok_l_parts T) (hr.mono (by decide)) (by rfl) T.l_parts.g T.l_parts.k T.l_parts.b .nil pass0 (pa_cons (pv 1) pa_nil)) pa_nil))) pa_nil)))
      (pss_one (ps_ret (pe_ifExp (pt_cmpR op_eq (pe_ix ix_tup (pv 1) pe_int (fun _ _ => rfl)) pe_str (nomark _)) (pe_tup (pa_cons pe_str (pa_cons (pe_ix ix_tup (pv 1) pe_int (fun _ _ => rfl)) (pa_cons (pv 2) pa_nil)))) (pe_tup (pa_cons (pe_ix ix_tup (pv 1) pe_int (fun _ _ => rfl)) (pa_cons (pv 2) pa_nil)))))))), ?_⟩
    have dp0 := dp
    obtain ⟨o, q, ys, rfl, sq, sq2, al⟩ := thing_at dp
    have hly : ys.length ≤ 100 := by rw [al.len, t.parts_len]; exact hl
    have stays : ∀ {b : Addr} {xs : List V} {H' : Hp}, SameX p H H' → SqT K H b xs → SqT K H' b xs := fun sx h => by
      rcases h with (h | ⟨o, h⟩) | h
      · exact .inl (.inl (sx _ _ (fun z => by
          obtain ⟨g, m, hp, _⟩ := pl
          rw [z, hp] at h
          cases h) h))
      · exact .inl (.inr ⟨o, sx _ _ (fun z => by
          obtain ⟨g, m, hp, _⟩ := pl
          rw [z, hp] at h
          cases h) h⟩)
      · exact .inr h
    have sz : ∀ n : Nat, n ≤ 1000 → n ≤ sizeLine := fun n hn => by rw [sizeLine_eq]; omega
    cases t with
    | lst ws => exact ⟨_, rfl, o, _, 0, _, rfl, rfl, sq, rfl, rfl, _, rfl, ifT (by rfl) ⟨_, rfl, k _ _ _ .lst (Same.x (Same.refl _)) pl dp0⟩⟩
    | rcd n fs =>
      refine ⟨_, rfl, o, _, 0, _, rfl, rfl, sq, rfl, rfl, _, rfl, ifF (by decide) ?_⟩
      refine ⟨_, rfl, _, rfl, _, _, rfl, dp0, fun p' q' ys' e1 e2 e3 e4 => ?_⟩
      refine ⟨p, q', ys', rfl, pl, .inr e3, by rw [e4.len, Thing.parts_len]; exact hl, fun H1 r zs hr1 perm x1 pl1 f1 => ⟨r, zs, rfl, .inl ⟨SqL.of f1, fun m hm => ?_⟩⟩⟩
      obtain ⟨H2, eq2, s2, f2⟩ : ∃ H2, upd H1 m (.tup zs) = H2 ∧ Same H1 H2 ∧ H2 m = some (.tup zs) := ⟨_, rfl, same_new hm, upd_same⟩
      rw [eq2]
      have x2 : SameX p H H2 := sx_same x1 s2
      have sq' := stays x2 sq
      obtain ⟨l', pm, al'⟩ := dpAll_perm (g := fieldD) e4 perm
      have al2 : DpAll K H2 zs (l'.map fieldD) := dpAll_sx x2 pl al' (plain_map fieldD_plain l')
      refine ⟨_, rfl, o, _, 0, _, rfl, rfl, sq', rfl, rfl, _, rfl, ifT (by rfl) ?_⟩
      refine ⟨_, rfl, o, _, 1, _, rfl, rfl, sq', rfl, _, rfl, sz 3 (by decide), fun t ht => ?_⟩
      have s3 : Same H2 (upd H2 t (.tup [.str "record", .str n, .ref m])) := same_new ht
      exact k _ (.rcd n l') _ (.rcd pm) (sx_same x2 s3) (pl1.at fun o e => s3 _ _ (s2 _ _ e)) (dp_tup upd_same (.cons (.str _) (.cons (.str _) (.cons (dp_tup (s3 _ _ f2) (dpAll_stay s3 al2)) .nil))))
    | set ws =>
      refine ⟨_, rfl, o, _, 0, _, rfl, rfl, sq, rfl, rfl, _, rfl, ifF (by decide) ?_⟩
      refine ⟨_, rfl, _, rfl, _, _, rfl, dp0, fun p' q' ys' e1 e2 e3 e4 => ?_⟩
      refine ⟨p, q', ys', rfl, pl, .inr e3, by rw [e4.len, Thing.parts_len]; exact hl, fun H1 r zs hr1 perm x1 pl1 f1 => ⟨r, zs, rfl, .inl ⟨SqL.of f1, fun m hm => ?_⟩⟩⟩
      obtain ⟨H2, eq2, s2, f2⟩ : ∃ H2, upd H1 m (.tup zs) = H2 ∧ Same H1 H2 ∧ H2 m = some (.tup zs) := ⟨_, rfl, same_new hm, upd_same⟩
      rw [eq2]
      have x2 : SameX p H H2 := sx_same x1 s2
      have sq' := stays x2 sq
      obtain ⟨l', pm, al'⟩ := dpAll_perm (g := W.d) e4 perm
      have al2 : DpAll K H2 zs (l'.map W.d) := dpAll_sx x2 pl al' (plain_map W.d_plain l')
      refine ⟨_, rfl, o, _, 0, _, rfl, rfl, sq', rfl, rfl, _, rfl, ifF (by decide) ?_⟩
      refine ⟨_, rfl, o, _, 0, _, rfl, rfl, sq', rfl, _, rfl, sz 2 (by decide), fun t ht => ?_⟩
      have s3 : Same H2 (upd H2 t (.tup [.str "set", .ref m])) := same_new ht
      exact k _ (.set l') _ (.set pm) (sx_same x2 s3) (pl1.at fun o e => s3 _ _ (s2 _ _ e)) (dp_tup upd_same (.cons (.str _) (.cons (dp_tup (s3 _ _ f2) (dpAll_stay s3 al2)) .nil)))
    | dic es =>
      refine ⟨_, rfl, o, _, 0, _, rfl, rfl, sq, rfl, rfl, _, rfl, ifF (by decide) ?_⟩
      refine ⟨_, rfl, _, rfl, _, _, rfl, dp0, fun p' q' ys' e1 e2 e3 e4 => ?_⟩
      refine ⟨p, q', ys', rfl, pl, .inr e3, by rw [e4.len, Thing.parts_len]; exact hl, fun H1 r zs hr1 perm x1 pl1 f1 => ⟨r, zs, rfl, .inl ⟨SqL.of f1, fun m hm => ?_⟩⟩⟩
      obtain ⟨H2, eq2, s2, f2⟩ : ∃ H2, upd H1 m (.tup zs) = H2 ∧ Same H1 H2 ∧ H2 m = some (.tup zs) := ⟨_, rfl, same_new hm, upd_same⟩
      rw [eq2]
      have x2 : SameX p H H2 := sx_same x1 s2
      have sq' := stays x2 sq
      obtain ⟨l', pm, al'⟩ := dpAll_perm (g := entryD) e4 perm
      have al2 : DpAll K H2 zs (l'.map entryD) := dpAll_sx x2 pl al' (plain_map entryD_plain l')
      refine ⟨_, rfl, o, _, 0, _, rfl, rfl, sq', rfl, rfl, _, rfl, ifF (by decide) ?_⟩
      refine ⟨_, rfl, o, _, 0, _, rfl, rfl, sq', rfl, _, rfl, sz 2 (by decide), fun t ht => ?_⟩
      have s3 : Same H2 (upd H2 t (.tup [.str "dict", .ref m])) := same_new ht
      exact k _ (.dic l') _ (.dic pm) (sx_same x2 s3) (pl1.at fun o e => s3 _ _ (s2 _ _ e)) (dp_tup upd_same (.cons (.str _) (.cons (dp_tup (s3 _ _ f2) (dpAll_stay s3 al2)) .nil)))
end
end SB

set_option Elab.async false
set_option linter.all false
set_option maxRecDepth 100000
set_option maxHeartbeats 4000000
namespace SB
open PySem L2
theorem field_le (a b : Str × W) (h : a.1 = b.1 → a = b) : PySem.W.dataLe false fieldD a b = PySem.W.dataLe false fieldK a b := by
  show (!PyProof.Rows.lexLt PyProof.Rows.itemOrd (PySem.W.keyToksAll [.str b.1, b.2.d]) (PySem.W.keyToksAll [.str a.1, a.2.d])) = !PyProof.Rows.lexLt PyProof.Rows.itemOrd (PySem.W.keyToks (.str b.1)) (PySem.W.keyToks (.str a.1))
  by_cases e : a.1 = b.1
  · rw [h e]
    rw [PyProof.Rows.lex_irrefl, PyProof.Rows.lex_irrefl]
  · rw [PySem.W.dataLt_all_no (by rfl) (by simp [PyData.eqv]; exact fun z => e z.symm)]
    rfl
theorem names_inj {fs : List (Str × W)} (h : (fs.map (·.1)).Nodup) : ∀ a ∈ fs, ∀ b ∈ fs, a.1 = b.1 → a = b := fun a ha b hb e => by
  obtain ⟨i, hi, ei⟩ := List.getElem_of_mem ha
  obtain ⟨j, hj, ej⟩ := List.getElem_of_mem hb
  have : (fs.map (·.1))[i]'(by simpa using hi) = (fs.map (·.1))[j]'(by simpa using hj) := by rw [List.getElem_map, List.getElem_map, ei, ej, e]
  have := (List.getElem_inj h).mp this
  subst this
  rw [← ei, ← ej]
theorem fieldD_depth (f : Str × W) : (fieldD f).depth ≤ 60 := by
  have := f.2.d_depth
  simp only [fieldD, PyData.depth, PyData.depthAll]
  omega
theorem rcd_nodup {n : Str} {fs : List (Str × W)} (h : objD (Thing.rcd n fs).d = true) : (fs.map (·.1)).Nodup := by
  have h1 : (if ("record" : Str) = "record" then nameS n && fieldsD (.tuple (fs.map fieldD)) else false) = true := h
  rw [if_pos rfl, Bool.and_eq_true] at h1
  have h2 := h1.2
  unfold fieldsD at h2
  rw [Bool.and_eq_true, Bool.and_eq_true] at h2
  have h3 : diffD ((fs.map fieldD).map firstD) = true := h2.2.2
  have e : (fs.map fieldD).map firstD = (fs.map (·.1)).map .str := by
    rw [List.map_map, List.map_map]
    rfl
  rw [e, diffD_names] at h3
  exact of_decide_eq_true h3
theorem fields_sort {fs : List (Str × W)} (h : (fs.map (·.1)).Nodup) : fs.mergeSort (PySem.W.dataLe false fieldD) = fs.mergeSort (PySem.W.dataLe false fieldK) := by
  have inj := names_inj h
  have := List.map_mergeSort (f := id) (r := PySem.W.dataLe false fieldD) (s := PySem.W.dataLe false fieldK) (l := fs) fun a ha b hb => field_le a b (inj a ha b hb)
  rw [List.map_id, List.map_id] at this
  exact this
theorem fields_ranks {fs : List (Str × W)} (h : ∀ a ∈ fs, ∀ b ∈ fs, a.1 = b.1 → a = b) : PySem.W.Ranks (fs.map fieldD) := by
  refine ⟨fun d hd => ?_, .inr ⟨.str "", fun d hd => ?_, fun d hd d' hd' xs ys e e' => ?_⟩⟩
  · obtain ⟨⟨n, x⟩, _, rfl⟩ := List.mem_map.mp hd
    cases x <;> rfl
  · obtain ⟨w, _, rfl⟩ := List.mem_map.mp hd
    exact ⟨_, _, rfl, rfl⟩
  · obtain ⟨a, _, rfl⟩ := List.mem_map.mp hd
    obtain ⟨b, _, rfl⟩ := List.mem_map.mp hd'
    cases e
    cases e'
    by_cases q : a.1 = b.1
    · rw [h a (by assumption) b (by assumption) q]
      cases hb : b.2 <;> simp [PySem.W.nearAll, PySem.W.alike, PySem.W.alikeAll, W.d]
    · simp [PySem.W.nearAll, PySem.W.alike, PyData.eqv, q]
def spDue (K : PySem.W.Frag) (T : List (Addr × Str)) : Sp := fun vs H Q _ => ∃ (v : V) (t : Thing), vs = [v] ∧ Dp K H v t.d ∧ objD t.d = true ∧ LamX.Tabs T H ∧ ∀ v' H', Stay T H H' → Dp K H' v' t.srt.d → Q v' H'
section
variable {P : Program} {w : World} {K : PySem.W.Frag} {mg : Str → Option Value} {base : Heap} {a : Ad}
theorem ok_l_rank (T : Txt P K mg a) : FnOk P w K mg base CX0 1 a.f_l_rank a.d_l_rank ["_law_worth_here"] (spRank K) := by
  refine T.l_rank.F.ok sc_l_rank (fun vs H Q E h => ?_) (fun cdv A outer s H vs Q E hr h => ?_)
  · obtain ⟨v, x, rfl, _⟩ := h
    rfl
  · obtain ⟨v, x, rfl, dp, k⟩ := h
    refine ⟨_, (pss_one (ps_ret (pe_ifExp (pt_val (pe_callB call_isi (by rfl) T.z_isinstance (by decide +kernel) (pa_cons (pv 0) (pa_cons (pe_bltn (v := .ty "tuple") (by rfl) T.z_tuple (by decide +kernel) rfl) pa_nil)))) (pe_tup (pa_cons pe_int (pa_cons (pe_ix ix_tup (pv 0) pe_int (fun _ _ => rfl)) pa_nil))) (pe_ifExp (pt_val (pe_callB call_isi (by rfl) T.z_isinstance (by decide +kernel) (pa_cons (pv 0) (pa_cons (pe_bltn (v := .ty "str") (by rfl) T.z_str (by decide +kernel) rfl) pa_nil)))) (pe_tup (pa_cons pe_int (pa_cons (pv 0) pa_nil))) (pe_tup (pa_cons pe_int (pa_cons (pv 0) pa_nil))))))), ?_⟩
    refine ⟨_, rfl, _, _, _, _, _, rfl, .ty _, tyD dp, kitD, _, rfl, ?_⟩
    have s2 : (2 : Nat) ≤ sizeLine := by decide
    cases x with
    | num i =>
      cases dp_int dp
      refine ifF (by rfl) ?_
      refine ⟨_, rfl, _, _, _, _, _, rfl, .ty _, tyD dp, kitD, _, rfl, ifF (by rfl) ?_⟩
      exact ⟨_, rfl, s2, fun p hp => k _ _ (same_new hp) (dp_tup upd_same (.cons (.int 0) (.cons (.int i) .nil)))⟩
    | txt x =>
      cases dp_str dp
      refine ifF (by rfl) ?_
      refine ⟨_, rfl, _, _, _, _, _, rfl, .ty _, tyD dp, kitD, _, rfl, ifT (by rfl) ?_⟩
      exact ⟨_, rfl, s2, fun p hp => k _ _ (same_new hp) (dp_tup upd_same (.cons (.int 1) (.cons (.str x) .nil)))⟩
    | ref m =>
      obtain ⟨q, xs, rfl, sq, al⟩ := dp_tuple dp
      obtain ⟨v1, v2, rfl, d1, d2⟩ := dpAll2 al
      cases dp_str d2
      refine ifT (by rfl) ?_
      exact ⟨_, rfl, q, _, 1, _, rfl, rfl, sq, rfl, s2, fun p hp => k _ _ (same_new hp) (dp_tup upd_same (.cons (.int 2) (.cons (.str m) .nil)))⟩
theorem ok_l_due (T : Txt P K mg a) (B : Tb base mg a) : FnOk P w K mg base CX0 9 a.f_l_due a.d_l_due ["_law_thing"] (spDue K a.tabs) := by
  refine T.cd_l_due.ok sc_l_due (fun vs H Q E h => ?_) (fun A outer s H vs Q E hr h => ?_)
  · obtain ⟨v, t, rfl, _⟩ := h
    rfl
  · obtain ⟨v, t, rfl, dp, ho, tb, k⟩ := h
    refine ⟨_, (pss_cons (ps_if (pt_cmpR op_eq (pe_ix ix_tup (pv 0) pe_int (fun _ _ => rfl)) pe_str (nomark _)) (pss_one (ps_ret (pe_tup (pa_cons pe_str (pa_cons (pe_ix ix_tup (pv 0) pe_int (fun _ _ => rfl)) (pa_cons (pe_callTy call_tuple_of (by rfl) T.z_tuple (by decide +kernel) (pa_cons (pe_callB (cr_sortD hr.units) (by rfl) T.z_sorted (by decide +kernel) (pa_cons (pe_ix ix_tup (pv 0) pe_int (fun _ _ => rfl)) pa_nil)) pa_nil)) pa_nil)))))) pss_nil)
      (pss_cons (ps_if (pt_cmpR op_eq (pe_ix ix_tup (pv 0) pe_int (fun _ _ => rfl)) pe_str (nomark _)) (pss_one (ps_ret (pv 0))) pss_nil)
      (pss_cons (ps_if (pt_cmpR op_eq (pe_ix ix_tup (pv 0) pe_int (fun _ _ => rfl)) pe_str (nomark _)) (pss_one (ps_ret (pe_tup (pa_cons pe_str (pa_cons (pe_callTy call_tuple_of (by rfl) T.z_tuple (by decide +kernel) (pa_cons (pe_callBK (cr_sortKey (keyFn_def (ok_l_rank T) (hr.mono (by decide)) T.l_rank.b) hr.units) (by rfl) T.z_sorted (by decide +kernel) (pa_cons (pe_ix ix_tup (pv 0) pe_int (fun _ _ => rfl)) pa_nil) (pk_cons (pe_glob (v := .ref a.f_l_rank) (by rfl) T.l_rank.g rfl) pk_nil)) pa_nil)) pa_nil))))) pss_nil)
      (pss_one (ps_ret (pe_tup (pa_cons pe_str (pa_cons (pe_callTy call_tuple_of (by rfl) T.z_tuple (by decide +kernel) (pa_cons (LamX.pe_sortLam (k := 5) (y := "_law_entry") (T := a.tabs) hr.units (by rfl) T.z_sorted (pa_cons (pe_ix ix_tup (pv 0) pe_int (fun _ _ => rfl)) pa_nil) B.l_due rfl (by unfold Ad.tabs; exact List.Mem.tail _ ((List.Mem.head _))) (tab_uniq B.nd (by unfold Ad.tabs; exact List.Mem.tail _ ((List.Mem.head _)))) (hr.mono (by decide)) (LamX.lam1_by (sc := defScope s_l_due) (by decide +kernel)) rfl (fun _ _ _ _ _ _ => rfl) (fun A outer s H f c hr2 => (pe_call (ok_l_rank T) (hr2.mono (by decide)) (by rfl) T.l_rank.g T.l_rank.k T.l_rank.b .nil pass0 (pa_cons (pe_ix (r := rIxT K) ix_tup (pv 0) pe_int (fun _ _ => rfl)) pa_nil)))) pa_nil)) pa_nil)))))))), ?_⟩
    have s2 : (2 : Nat) ≤ sizeLine := by decide
    have s3 : (3 : Nat) ≤ sizeLine := by decide
    have dp0 := dp
    obtain ⟨p, p3, ys, rfl, sq, sq3, al3⟩ := thing_at dp
    cases t with
    | rcd n fs =>
      obtain ⟨ps, rfl, h2, h3⟩ := dpAll_zip (g := fieldD) al3
      refine ⟨_, rfl, p, _, 0, _, rfl, rfl, sq, rfl, rfl, _, rfl, ifT (by rfl) ?_⟩
      have nd : (fs.map (·.1)).Nodup := rcd_nodup ho
      have inj := names_inj nd
      have rk : PySem.W.Ranks (ps.map fun q => fieldD q.2) := by
        have := fields_ranks inj
        rw [← h2, List.map_map] at this
        exact this
      refine ⟨_, rfl, p, _, 1, _, rfl, rfl, sq, rfl, _, rfl, p, _, 2, _, rfl, rfl, sq, rfl, V × (Str × W), p3, ps, (·.1), fun q => fieldD q.2, rfl, ⟨.inr sq3, rk, fun q _ => fieldD_depth q.2, h3, fun l hl => ⟨l, _, rfl, .inl ⟨SqL.of upd_same, fun m hm => ⟨s3, fun o ho => ?_⟩⟩⟩⟩⟩
      have sa : Same H (upd H l (.lst ((ps.mergeSort (PySem.W.dataLe false fun q => fieldD q.2)).map (·.1)))) := same_new hl
      have sb := same_new2 (o := .tup ((ps.mergeSort (PySem.W.dataLe false fun q => fieldD q.2)).map (·.1))) sa hm
      have sc := same_new2 (o := .tup [.str "record", .str n, .ref m]) sb ho
      refine k _ _ (.of tb sc) (dp_tup upd_same (.cons (.str _) (.cons (.str _) (.cons (dp_tup (vs := (ps.mergeSort (PySem.W.dataLe false fun q => fieldD q.2)).map (·.1)) ?_ ?_) .nil))))
      · rw [upd_ne (ne_of_none upd_same ho)]
        exact upd_same
      · have := sort_dp (K := K) (k := fieldD) fun q hq => dp_stay sc (h3 q hq)
        rw [h2, fields_sort nd] at this
        exact this
    | lst ws =>
      refine ⟨_, rfl, p, _, 0, _, rfl, rfl, sq, rfl, rfl, _, rfl, ifF (by decide) ?_⟩
      refine ⟨_, rfl, p, _, 0, _, rfl, rfl, sq, rfl, rfl, _, rfl, ifT (by rfl) ?_⟩
      exact ⟨_, rfl, k _ _ (.refl tb) dp0⟩
    | set ws =>
      obtain ⟨ps, rfl, h2, h3⟩ := dpAll_zip (g := W.d) al3
      refine ⟨_, rfl, p, _, 0, _, rfl, rfl, sq, rfl, rfl, _, rfl, ifF (by decide) ?_⟩
      refine ⟨_, rfl, p, _, 0, _, rfl, rfl, sq, rfl, rfl, _, rfl, ifF (by decide) ?_⟩
      refine ⟨_, rfl, p, _, 0, _, rfl, rfl, sq, rfl, rfl, _, rfl, ifT (by rfl) ?_⟩
      refine ⟨_, rfl, p, _, 1, _, rfl, rfl, sq, rfl, _, p3, ps, (·.1), fun q => q.2.rk, rfl, rfl, ?_⟩
      refine ⟨.inr sq3, ranks_rk (fun q : V × W => q.2) ps, fun q _ => q.2.rk_depth, fun q hq H' sm => ?_, fun H' l sm hl hl' => ?_⟩
      · exact ⟨_, q.2, rfl, dp_stay sm (h3 q hq), fun v' H'' s4 d4 => ⟨s4, d4⟩⟩
      · refine ⟨l, _, rfl, .inl ⟨SqL.of upd_same, fun m hm => ⟨s2, fun o ho => ?_⟩⟩⟩
        have sa : Same H (upd H' l (.lst ((ps.mergeSort (PySem.W.dataLe false fun q => q.2.rk)).map (·.1)))) := same_new2 sm hl'
        have sb := same_new2 (o := .tup ((ps.mergeSort (PySem.W.dataLe false fun q => q.2.rk)).map (·.1))) sa hm
        have sc := same_new2 (o := .tup [.str "set", .ref m]) sb ho
        refine k _ _ (.of tb sc) (dp_tup upd_same (.cons (.str _) (.cons (dp_tup (vs := (ps.mergeSort (PySem.W.dataLe false fun q => q.2.rk)).map (·.1)) ?_ ?_) .nil)))
        · rw [upd_ne (ne_of_none upd_same ho)]
          exact upd_same
        · have := sort_dp (K := K) (k := W.rk) fun q hq => dp_stay sc (h3 q hq)
          rw [h2] at this
          exact this
    | dic es =>
      obtain ⟨ps, rfl, h2, h3⟩ := dpAll_zip (g := entryD) al3
      refine ⟨_, rfl, p, _, 0, _, rfl, rfl, sq, rfl, rfl, _, rfl, ifF (by decide) ?_⟩
      refine ⟨_, rfl, p, _, 0, _, rfl, rfl, sq, rfl, rfl, _, rfl, ifF (by decide) ?_⟩
      refine ⟨_, rfl, p, _, 0, _, rfl, rfl, sq, rfl, rfl, _, rfl, ifF (by decide) ?_⟩
      refine ⟨_, rfl, p, _, 1, _, rfl, rfl, sq, rfl, tb, _, p3, ps, (·.1), fun q => entryK q.2, _, rfl, LamX.seen_none, fun H2 e2 t2 => ?_⟩
      have st2 : Stay a.tabs H H2 := ⟨e2, t2⟩
      refine ⟨.inr (st2.sqt sq3), ranks_rk (fun q : V × (W × W) => q.2.1) ps, fun q _ => q.2.1.rk_depth, fun q hq H' sm => ?_, fun H' l sm hl hl' => ?_⟩
      · obtain ⟨p4, zs, e4, sq4, al4⟩ := dp_tuple (dp_stay sm (st2.dp (h3 q hq)))
        obtain ⟨u1, u2, rfl, f1, f2⟩ := dpAll2 al4
        exact ⟨_, rfl, _, rfl, p4, _, 0, _, e4, rfl, sq4, rfl, u1, q.2.1, rfl, f1, fun v' H'' s4 d4 => ⟨s4, d4⟩⟩
      · refine ⟨l, _, rfl, .inl ⟨SqL.of upd_same, fun m hm => ⟨s2, fun o ho => ?_⟩⟩⟩
        have sa : Same H2 (upd H' l (.lst ((ps.mergeSort (PySem.W.dataLe false fun q => entryK q.2)).map (·.1)))) := same_new2 sm hl'
        have sb := same_new2 (o := .tup ((ps.mergeSort (PySem.W.dataLe false fun q => entryK q.2)).map (·.1))) sa hm
        have sc := same_new2 (o := .tup [.str "dict", .ref m]) sb ho
        refine k _ _ (st2.same sc) (dp_tup upd_same (.cons (.str _) (.cons (dp_tup (vs := (ps.mergeSort (PySem.W.dataLe false fun q => entryK q.2)).map (·.1)) ?_ ?_) .nil)))
        · rw [upd_ne (ne_of_none upd_same ho)]
          exact upd_same
        · have := sort_dp (K := K) (k := entryK) fun q hq => dp_stay sc (st2.dp (h3 q hq))
          rw [h2] at this
          exact this
end
end SB

set_option Elab.async false
set_option linter.all false
set_option maxRecDepth 100000
set_option maxHeartbeats 4000000
namespace SB
open PySem L2
/-- a value that is no object, and shows -/
structure BadD (d : PyData) : Prop where
  no : objD d = false
  sm : smallD d = true
  sh : d.showable = true
  le : d.shown.length ≤ sizeLine
  de : d.depth ≤ 60
def BadV (K : PySem.W.Frag) (H : Hp) (v : V) : Prop := ∃ d, Rp K H v d ∧ BadD d
theorem bad_tidy {d : PyData} (h : objD d = false) (t : tidy 4 d = true) : BadD d := by
  have q := tidy_is 4 d t
  exact ⟨h, q.sm, q.sh, tidy_len t, Nat.le_trans q.de (by decide)⟩
def spTold2 (K : PySem.W.Frag) (T : List (Addr × Str)) : Sp := fun vs H Q _ => ∃ v d, vs = [v] ∧ Rp K H v d ∧ BadD d ∧ LamX.Tabs T H ∧ ∀ H', Same H H' → Q (.str d.shown) H'
section
variable {P : Program} {w : World} {K : PySem.W.Frag} {mg : Str → Option Value} {base : Heap} {a : Ad}
theorem ok_l_told (T : Txt P K mg a) (B : Tb base mg a) : FnOkG P w K mg base CX0 11 a.f_l_told a.d_l_told ["_law_thing"] (spTold2 K a.tabs) := by
  refine T.l_told.F.okG sc_l_told (fun vs H Q E h => ?_) (fun cdv A outer s H vs Q E hr hg h => ?_)
  · obtain ⟨v, d, rfl, _⟩ := h
    rfl
  · have hv : (A.deeper (PyProof.Rows.envOfC "_law_told" (defScope s_l_told) s.heap.objs.size a.f_l_told cdv)).units + 65 < cLine := by have := hr.un; omega
    obtain ⟨v, d, rfl, rp, bad, tb, k⟩ := h
    refine ⟨_, (pss_cons (ps_try_as (i := 1) rfl rfl sc_l_told.nd rfl rfl ⟨rfl, by decide, .inl T.x_BadObject.gC⟩ takes0 (fun W pn xe tk _ => (pss_one (ps_expr (pe_callS (ok_ordered T B) (hr.mono (by decide)) (by rfl) T.ordered.g T.ordered.k T.ordered.b (fun σ => passAt tk σ) (pa_cons (pv 0) pa_nil)))))
      (fun ea eoe ecls ed epn hz hf => (pss_one (ps_ret (pe_callB (r := rRepr K) (id := "repr") (call_reprD hg hv) (by rfl) T.z_repr (by decide +kernel) (pa_cons (pe_errF T.x_BadObject hz hf (pv 1)) pa_nil))))))
      (pss_one (ps_ret pe_non))), ?_⟩
    refine ⟨_, rfl, v, d, rfl, rp, bad.sm, tb, fun t _ ho => (by rw [bad.no] at ho; cases ho), fun _ H' dd s1 hdd => ?_⟩
    refine ⟨true, T.x_BadObject.te, fun _ ea _ => ?_, fun q => Bool.noConfusion q⟩
    have s2 : Same H (upd H' dd (.xd [(("value" : Str), v)])) := same_new2 s1 hdd
    refine ⟨_, rfl, rfl, rfl, dd, v, rfl, upd_same, v, d, rfl, rp_same s2 rp, bad.sh, bad.le, bad.de, k _ s2⟩
end
end SB

set_option Elab.async false
set_option linter.all false
set_option maxRecDepth 100000
set_option maxHeartbeats 4000000
namespace SB
open PySem L2
def AllBad (ds : List PyData) : Prop := ∀ d ∈ ds, BadD d
theorem AllBad.nil : AllBad [] := fun d h => by simp at h
theorem AllBad.cons {d : PyData} {ds : List PyData} (h : BadD d) (t : AllBad ds) : AllBad (d :: ds) := fun e he => by
  rcases List.mem_cons.mp he with rfl | he
  · exact h
  · exact t e he
theorem AllBad.app {ds es : List PyData} (h : AllBad ds) (t : AllBad es) : AllBad (ds ++ es) := fun e he => by
  rcases List.mem_append.mp he with he | he
  · exact h e he
  · exact t e he
def Thing.kd : Thing → Str
  | .rcd _ _ => "record"
  | .lst _ => "list"
  | .set _ => "set"
  | .dic _ => "dict"
def Thing.front : Thing → List PyData
  | .rcd n _ => [.str "record", .str n]
  | .lst _ => [.str "list"]
  | .set _ => [.str "set"]
  | .dic _ => [.str "dict"]
def Thing.rest : Thing → List PyData
  | .rcd n fs => [.str n, .tuple (fs.map fieldD)]
  | .lst ws => [.tuple (ws.map W.d)]
  | .set ws => [.tuple (ws.map W.d)]
  | .dic es => [.tuple (es.map entryD)]
def Thing.items : Thing → List PyData
  | .rcd n fs => [.str "record", .str n, .tuple (fs.map fieldD)]
  | .lst ws => [.str "list", .tuple (ws.map W.d)]
  | .set ws => [.str "set", .tuple (ws.map W.d)]
  | .dic es => [.str "dict", .tuple (es.map entryD)]
theorem Thing.d_items (t : Thing) : t.d = .tuple t.items := by cases t <;> rfl
theorem Thing.items_front (t : Thing) : t.items = t.front ++ [.tuple t.parts] := by cases t <;> rfl
theorem Thing.items_rest (t : Thing) : t.items = .str t.kd :: t.rest := by cases t <;> rfl
theorem Thing.cut_front (t : Thing) : cutD t.items none (some (-1)) = t.front := by cases t <;> rfl
theorem Thing.cut_rest (t : Thing) : cutD t.items (some 1) none = t.rest := by cases t <;> rfl
theorem Thing.cut_kd (t : Thing) : cutD t.items none (some 1) = [.str t.kd] := by cases t <;> rfl
theorem Thing.front_len (t : Thing) : t.front.length ≤ 2 := by cases t <;> simp [Thing.front]
theorem Thing.rest_len (t : Thing) : t.rest.length ≤ 2 := by cases t <;> simp [Thing.rest]
theorem Thing.items_len (t : Thing) : t.items.length ≤ 3 := by cases t <;> simp [Thing.items]
/-! ### questions about what is bent -/
theorem obj_front (t : Thing) (X : PyData) : objD (.tuple (t.front ++ [X])) = match t with | .rcd n _ => nameS n && fieldsD X | .lst _ => worthsD X | .set _ => worthsD X && diffD (itemsD X) | .dic _ => entriesD X := by
  cases t with
  | rcd n fs =>
    show (if ("record" : Str) = "record" then nameS n && fieldsD X else false) = _
    rw [if_pos rfl]
  | lst ws =>
    show (if ("list" : Str) = "record" then false else if ("list" : Str) = "list" then worthsD X else if ("list" : Str) = "set" then worthsD X && diffD (itemsD X) else if ("list" : Str) = "dict" then entriesD X else false) = _
    rw [if_neg (by decide), if_pos rfl]
  | set ws =>
    show (if ("set" : Str) = "record" then false else if ("set" : Str) = "list" then worthsD X else if ("set" : Str) = "set" then worthsD X && diffD (itemsD X) else if ("set" : Str) = "dict" then entriesD X else false) = _
    rw [if_neg (by decide), if_neg (by decide), if_pos rfl]
  | dic ws =>
    show (if ("dict" : Str) = "record" then false else if ("dict" : Str) = "list" then worthsD X else if ("dict" : Str) = "set" then worthsD X && diffD (itemsD X) else if ("dict" : Str) = "dict" then entriesD X else false) = _
    rw [if_neg (by decide), if_neg (by decide), if_neg (by decide), if_pos rfl]
theorem few_no (t : Thing) {X : PyData} (h : fewD X = false) : objD (.tuple (t.front ++ [X])) = false := by
  have h1 : pairsD X = false := by unfold pairsD; rw [h]; rfl
  have h2 : fieldsD X = false := by unfold fieldsD; rw [h1]; rfl
  have h3 : entriesD X = false := by unfold entriesD; rw [h1]; rfl
  have h4 : worthsD X = false := by unfold worthsD; rw [h]; rfl
  rw [obj_front]
  cases t <;> simp only [h2, h3, h4, Bool.and_false, Bool.false_and]
theorem item_no (t : Thing) {X x : PyData} (hx : x ∈ itemsD X) (h : pairD x = false) (h' : worthD x = false) : objD (.tuple (t.front ++ [X])) = false := by
  have a1 : (itemsD X).all pairD = false := by
    rw [List.all_eq_false]
    exact ⟨x, hx, by rw [h]; decide⟩
  have a2 : (itemsD X).all worthD = false := by
    rw [List.all_eq_false]
    exact ⟨x, hx, by rw [h']; decide⟩
  have h1 : pairsD X = false := by unfold pairsD; rw [a1, Bool.and_false]
  have h2 : fieldsD X = false := by unfold fieldsD; rw [h1]; rfl
  have h3 : entriesD X = false := by unfold entriesD; rw [h1]; rfl
  have h4 : worthsD X = false := by unfold worthsD; rw [a2, Bool.and_false]
  rw [obj_front]
  cases t <;> simp only [h2, h3, h4, Bool.and_false, Bool.false_and]
theorem diff_dup {A : List PyData} {p : PyData} {k : NestedKey} (hp : p ∈ A) (hk : keyOf p = some k) : diffD (A ++ [p]) = false := by
  unfold diffD keysD
  refine decide_eq_false fun nd => ?_
  rw [List.filterMap_append, List.nodup_append] at nd
  refine nd.2.2 k (List.mem_filterMap.mpr ⟨p, hp, hk⟩) k ?_ rfl
  rw [List.filterMap_cons, hk]
  simp
theorem dup_no (t : Thing) {p : PyData} (hl : ∀ ws, t ≠ .lst ws) (hp : p ∈ t.parts) : objD (.tuple (t.front ++ [.tuple (t.parts ++ [p])])) = false := by
  rw [obj_front]
  cases t with
  | rcd n fs =>
    obtain ⟨f, hf, rfl⟩ := List.mem_map.mp (show p ∈ fs.map fieldD from hp)
    have : diffD ((fs.map fieldD ++ [fieldD f]).map firstD) = false := by
      rw [List.map_append]
      exact diff_dup (p := .str f.1) (k := .text f.1) (List.mem_map.mpr ⟨fieldD f, hp, rfl⟩) rfl
    show (nameS n && (pairsD _ && ((fs.map fieldD ++ [fieldD f]).all _ && diffD ((fs.map fieldD ++ [fieldD f]).map firstD)))) = false
    rw [this, Bool.and_false, Bool.and_false, Bool.and_false]
  | lst ws => exact absurd rfl (hl ws)
  | set ws =>
    obtain ⟨f, hf, rfl⟩ := List.mem_map.mp (show p ∈ ws.map W.d from hp)
    have : diffD (ws.map W.d ++ [f.d]) = false := diff_dup hp f.keyOf
    show (worthsD _ && diffD (ws.map W.d ++ [f.d])) = false
    rw [this, Bool.and_false]
  | dic es =>
    obtain ⟨f, hf, rfl⟩ := List.mem_map.mp (show p ∈ es.map entryD from hp)
    have : diffD ((es.map entryD ++ [entryD f]).map firstD) = false := by
      rw [List.map_append]
      exact diff_dup (p := f.1.d) (List.mem_map.mpr ⟨entryD f, hp, rfl⟩) f.1.keyOf
    show (pairsD _ && ((es.map entryD ++ [entryD f]).all _ && diffD ((es.map entryD ++ [entryD f]).map firstD))) = false
    rw [this, Bool.and_false, Bool.and_false]
theorem obj2_no {x : Str} {X : PyData} (h1 : ¬ x = "list") (h2 : ¬ x = "set") (h3 : ¬ x = "dict") : objD (.tuple [.str x, X]) = false := by
  show (if x = "record" then false else if x = "list" then worthsD X else if x = "set" then worthsD X && diffD (itemsD X) else if x = "dict" then entriesD X else false) = false
  rw [if_neg h1, if_neg h2, if_neg h3]
  split <;> rfl
theorem obj3_no {x : Str} {X Y : PyData} (h1 : ¬ x = "record") : objD (.tuple [.str x, X, Y]) = false := by
  show (if x = "record" then nameD X && fieldsD Y else false) = false
  rw [if_neg h1]
/-! ### tidy things -/
structure Trim (t : Thing) : Prop where
  tidy : SB.tidy 4 t.d = true
  len : t.len ≤ 6
theorem tidy_tup {n : Nat} {xs : List PyData} (hl : xs.length ≤ 7) (h : ∀ x ∈ xs, tidy n x = true) : tidy (n + 1) (.tuple xs) = true := by
  rw [tidy, decide_eq_true hl, Bool.true_and]
  exact List.all_eq_true.mpr h
theorem tidy_lst {n : Nat} {xs : List PyData} (hl : xs.length ≤ 7) (h : ∀ x ∈ xs, tidy n x = true) : tidy (n + 1) (.list xs) = true := by
  rw [tidy, decide_eq_true hl, Bool.true_and]
  exact List.all_eq_true.mpr h
theorem tidy_mem {n : Nat} {xs : List PyData} (h : tidy (n + 1) (.tuple xs) = true) : ∀ x ∈ xs, tidy n x = true := by
  rw [tidy, Bool.and_eq_true] at h
  exact List.all_eq_true.mp h.2
theorem Trim.items {t : Thing} (h : Trim t) : ∀ x ∈ t.items, SB.tidy 3 x = true := by
  have := h.tidy
  rw [t.d_items] at this
  exact tidy_mem this
theorem Trim.front {t : Thing} (h : Trim t) : ∀ x ∈ t.front, SB.tidy 3 x = true := fun x hx => h.items x (by rw [t.items_front]; exact List.mem_append_left _ hx)
theorem Trim.rest {t : Thing} (h : Trim t) : ∀ x ∈ t.rest, SB.tidy 3 x = true := fun x hx => h.items x (by rw [t.items_rest]; exact List.mem_cons_of_mem _ hx)
theorem Trim.parts {t : Thing} (h : Trim t) : ∀ x ∈ t.parts, SB.tidy 2 x = true := tidy_mem (h.items (.tuple t.parts) (by rw [t.items_front]; simp))
theorem Trim.few {t : Thing} (h : Trim t) : t.parts.length ≤ 6 := by rw [t.parts_len]; exact h.len
theorem all_app {p : PyData → Prop} {xs ys : List PyData} (h : ∀ x ∈ xs, p x) (k : ∀ x ∈ ys, p x) : ∀ x ∈ xs ++ ys, p x := fun x hx => by
  rcases List.mem_append.mp hx with hx | hx
  · exact h x hx
  · exact k x hx
theorem all_one {p : PyData → Prop} {y : PyData} (h : p y) : ∀ x ∈ [y], p x := fun x hx => by rw [List.mem_singleton.mp hx]; exact h
theorem all_cons {p : PyData → Prop} {y : PyData} {ys : List PyData} (h : p y) (k : ∀ x ∈ ys, p x) : ∀ x ∈ y :: ys, p x := fun x hx => by
  rcases List.mem_cons.mp hx with rfl | hx
  · exact h
  · exact k x hx
theorem bad_front {t : Thing} (h : Trim t) {X : PyData} (no : objD (.tuple (t.front ++ [X])) = false) (tx : tidy 3 X = true) : BadD (.tuple (t.front ++ [X])) :=
  bad_tidy no (tidy_tup (by have := t.front_len; rw [List.length_append]; simp; omega) (all_app h.front (all_one tx)))
theorem bad_add {t : Thing} (h : Trim t) {x : PyData} (h1 : pairD x = false) (h2 : worthD x = false) (tx : tidy 2 x = true) : BadD (.tuple (t.front ++ [.tuple (t.parts ++ [x])])) :=
  bad_front h (item_no t (x := x) (by show x ∈ t.parts ++ [x]; simp) h1 h2) (tidy_tup (by have := h.few; rw [List.length_append]; simp; omega) (all_app h.parts (all_one tx)))
theorem bent_a {t : Thing} (h : Trim t) : AllBad [.list t.items, .tuple [.str t.kd], .tuple (t.items ++ [.int 1]), .tuple ([.str "LIST"] ++ t.rest), .tuple ([.str "bag"] ++ t.rest)] := by
  have l1 := t.items_len
  have l2 := t.rest_len
  refine .cons (bad_tidy rfl (tidy_lst (by omega) h.items)) (.cons (bad_tidy (by cases t <;> rfl) (tidy_tup (by simp) (all_one (h.items (.str t.kd) (by rw [t.items_rest]; simp))))) (.cons (bad_tidy ?_ (tidy_tup (by rw [List.length_append]; simp; omega) (all_app h.items (all_one (by decide +kernel))))) (.cons (bad_tidy ?_ (tidy_tup (by rw [List.length_append]; simp; omega) (all_app (all_one (by decide +kernel)) h.rest))) (.cons (bad_tidy ?_ (tidy_tup (by rw [List.length_append]; simp; omega) (all_app (all_one (by decide +kernel)) h.rest))) .nil))))
  · cases t with
    | rcd n fs => rfl
    | lst ws => exact obj3_no (by decide)
    | set ws => exact obj3_no (by decide)
    | dic ws => exact obj3_no (by decide)
  · cases t with
    | rcd n fs => exact obj3_no (by decide)
    | lst ws => exact obj2_no (by decide) (by decide) (by decide)
    | set ws => exact obj2_no (by decide) (by decide) (by decide)
    | dic ws => exact obj2_no (by decide) (by decide) (by decide)
  · cases t with
    | rcd n fs => exact obj3_no (by decide)
    | lst ws => exact obj2_no (by decide) (by decide) (by decide)
    | set ws => exact obj2_no (by decide) (by decide) (by decide)
    | dic ws => exact obj2_no (by decide) (by decide) (by decide)
theorem bent_b {t : Thing} (h : Trim t) : AllBad [.tuple ([.none] ++ t.rest)] := by
  have l2 := t.rest_len
  exact .cons (bad_tidy (by cases t <;> rfl) (tidy_tup (by rw [List.length_append]; simp; omega) (all_app (all_one (by decide +kernel)) h.rest))) .nil
theorem bent_c {t : Thing} (h : Trim t) : AllBad [.tuple (t.front ++ [.list t.parts]), .tuple (t.front ++ [.none]), .tuple (t.front ++ [.tuple (t.parts ++ [.none])])] := by
  have l := h.few
  exact .cons (bad_front h (few_no t rfl) (tidy_lst (by omega) h.parts)) (.cons (bad_front h (few_no t rfl) (by decide +kernel)) (.cons (bad_add h rfl rfl (by decide +kernel)) .nil))
theorem bent_d {t : Thing} (h : Trim t) : AllBad [.tuple (t.front ++ [.tuple (t.parts ++ [.list [.int 1]])]), .tuple (t.front ++ [.tuple (t.parts ++ [.int (10 ^ 30)])])] :=
  .cons (bad_add h rfl rfl (by decide +kernel)) (.cons (bad_add h rfl (by decide +kernel) (by decide +kernel)) .nil)
theorem bent_e {t : Thing} (h : Trim t) : AllBad [.tuple (t.front ++ [.tuple (t.parts ++ [.bool true])]), .tuple (t.front ++ [.tuple (t.parts ++ [.str "A"])]), .tuple (t.front ++ [.tuple [.tuple [.int 1, .int 2, .int 3]]])] :=
  .cons (bad_add h rfl rfl (by decide +kernel)) (.cons (bad_add h rfl (by decide +kernel) (by decide +kernel)) (.cons (bad_front h (item_no t (x := .tuple [.int 1, .int 2, .int 3]) (by show _ ∈ [_]; simp) rfl rfl) (by decide +kernel)) .nil))
theorem bent_f {t : Thing} (h : Trim t) (hl : ∀ ws, t ≠ .lst ws) (hne : t.parts ≠ []) : AllBad [.tuple (t.front ++ [.tuple (t.parts ++ cutD t.parts none (some 1))])] := by
  obtain ⟨p, r, e⟩ : ∃ p r, t.parts = p :: r := by
    cases hp : t.parts with
    | nil => exact absurd hp hne
    | cons p r => exact ⟨p, r, rfl⟩
  have ec : cutD t.parts none (some 1) = [p] := by
    rw [e]
    have e1 : HT.sIx (p :: r).length (p :: r).length (some 1) = 1 := by
      show (if (1 : Int) < 0 then ((1 : Int) + ((p :: r).length : Int)).toNat else min (1 : Int).toNat (p :: r).length) = 1
      rw [if_neg (by decide)]
      show min 1 (p :: r).length = 1
      rw [List.length_cons]
      omega
    unfold cutD
    rw [e1]
    rfl
  rw [ec]
  have hp : p ∈ t.parts := by rw [e]; simp
  have l := h.few
  exact .cons (bad_front h (dup_no t hl hp) (tidy_tup (by rw [List.length_append]; simp; omega) (all_app h.parts (all_one (h.parts p hp))))) .nil
theorem bent_r {n : Str} {fs : List (Str × W)} (h : Trim (.rcd n fs)) : AllBad [.tuple [.str "record", .str "Box", .tuple (fs.map fieldD)], .tuple [.str "record", .str "", .tuple (fs.map fieldD)], .tuple [.str "record", .int 5, .tuple (fs.map fieldD)], .tuple [.str "record", .tuple (fs.map fieldD)]] := by
  have tp : tidy 3 (.tuple (fs.map fieldD)) = true := h.items _ (by simp [Thing.items])
  have no : ∀ x, nameD x = false → objD (.tuple [.str "record", x, .tuple (fs.map fieldD)]) = false := fun x hx => by
    show (if ("record" : Str) = "record" then nameD x && _ else false) = false
    rw [if_pos rfl, hx, Bool.false_and]
  refine .cons (bad_tidy (no _ (by decide +kernel)) ?_) (.cons (bad_tidy (no _ (by decide +kernel)) ?_) (.cons (bad_tidy (no _ rfl) ?_) (.cons (bad_tidy (obj2_no (by decide) (by decide) (by decide)) ?_) .nil)))
  · exact tidy_tup (by simp) (all_cons (by decide +kernel) (all_cons (by decide +kernel) (all_one tp)))
  · exact tidy_tup (by simp) (all_cons (by decide +kernel) (all_cons (by decide +kernel) (all_one tp)))
  · exact tidy_tup (by simp) (all_cons (by decide +kernel) (all_cons (by decide +kernel) (all_one tp)))
  · exact tidy_tup (by simp) (all_cons (by decide +kernel) (all_one tp))
theorem bent_s : AllBad [.tuple [.str "record", .str "box", .tuple [.tuple [.str "f1", .int 1]]], .tuple [.str "record", .str "box", .tuple [.tuple [.str "f", .none]]]] :=
  .cons (bad_tidy (by decide +kernel) (by decide +kernel)) (.cons (bad_tidy (by decide +kernel) (by decide +kernel)) .nil)
theorem bent_t : AllBad [.tuple [.str "record", .str "box", .tuple [.list [.str "f", .int 1]]]] :=
  .cons (bad_tidy (by decide +kernel) (by decide +kernel)) .nil
theorem bent_u : AllBad [.tuple [.str "dict", .tuple [.tuple [.none, .int 1]]], .tuple [.str "dict", .tuple [.tuple [.str "k", .bool true]]], .tuple [.str "dict", .tuple [.tuple [.str "k", .int 1, .int 2]]]] :=
  .cons (bad_tidy (by decide +kernel) (by decide +kernel)) (.cons (bad_tidy (by decide +kernel) (by decide +kernel)) (.cons (bad_tidy (by decide +kernel) (by decide +kernel)) .nil))
theorem bent_v {n : Int} (h0 : 0 ≤ n) (h1 : n < 10 ^ 20) : AllBad [.tuple [.str "dict", .tuple [.tuple [.int n, .int 1], .tuple [.int n, .int 1]]]] := by
  refine .cons (bad_tidy ?_ ?_) .nil
  · have e : objD (.tuple ((Thing.dic []).front ++ [.tuple [.tuple [.int n, .int 1], .tuple [.int n, .int 1]]])) = entriesD (.tuple [.tuple [.int n, .int 1], .tuple [.int n, .int 1]]) := obj_front (.dic []) _
    refine e.trans ?_
    have : diffD ([.int n] ++ [.int n]) = false := diff_dup (p := .int n) (k := .num n) (by simp) rfl
    show (pairsD _ && (_ && diffD ([.int n] ++ [.int n]))) = false
    rw [this, Bool.and_false, Bool.and_false]
  · have ti : tidy 1 (.int n) = true := by
      show decide (n.natAbs < 10 ^ 31) = true
      refine decide_eq_true ?_
      have : (10 : Nat) ^ 20 ≤ 10 ^ 31 := by decide
      have e : (10 : Int) ^ 20 = ((10 ^ 20 : Nat) : Int) := by decide
      rw [e] at h1
      omega
    have te : tidy 2 (.tuple [.int n, .int 1]) = true := tidy_tup (by simp) (all_cons ti (all_one (by decide +kernel)))
    exact tidy_tup (by simp) (all_cons (by decide +kernel) (all_one (tidy_tup (by simp) (all_cons te (all_one te)))))
end SB

set_option Elab.async false
set_option linter.all false
set_option maxRecDepth 100000
set_option maxHeartbeats 4000000
namespace SB
open PySem L2
def spBent (K : PySem.W.Frag) : Sp := fun vs H Q _ => ∃ (v : V) (t : Thing) (n : Int), vs = [v, .int n] ∧ Dp K H v t.d ∧ Trim t ∧ 0 ≤ n ∧ n < 10 ^ 20 ∧
  ∀ q ys ds H', Same H H' → H' q = some (.lst ys) → DpAll K H' ys ds → AllBad ds → ds.length ≤ 100 → Q (.ref q) H'
theorem gn_seq2 {i : Nat} {x : V} {σ : St} {H : Hp} {te : TE} {g : TG} {b : TS} {D : Ends} (h : te (σ.set i (some x)) H fun y H1 => g y (σ.set i (some x)) H1 fun σ2 H2 => b D σ2 H2) : gName i x σ H (tSeq (tAsg te g) b D) := h
def BentAt (K : PySem.W.Frag) (H : Hp) (p : Addr) (n : Int) (q : Addr) (t : Thing) (m : Nat) (σ : St) (H' : Hp) : Prop := ∃ (q' : Addr) (vs : List V) (ds : List PyData), σ = [some (.ref p), some (.int n), some (.ref q), some (.ref q')] ∧ Same H H' ∧ H' q' = some (.lst vs) ∧ DpAll K H' vs ds ∧ AllBad ds ∧ ds.length ≤ m
theorem cutD_length (xs : List PyData) (lo hi : Option Int) : (cutD xs lo hi).length ≤ xs.length := by
  unfold cutD
  rw [List.length_take, List.length_drop]
  omega
theorem asg_in {te : TE} {g : TG} {D : Ends} {σ : St} {H : Hp} (h : te σ H fun y H1 => g y σ H1 D.nx) : tAsg te g D σ H := h
theorem seq_asg {te : TE} {g : TG} {b : TS} {D : Ends} {σ : St} {H : Hp} (h : te σ H fun y H1 => g y σ H1 fun σ2 H2 => b D σ2 H2) : tSeq (tAsg te g) b D σ H := h
theorem gn_asg {i : Nat} {x : V} {te : TE} {g : TG} {D : Ends} {σ : St} {H : Hp} (h : te (σ.set i (some x)) H fun y H1 => g y (σ.set i (some x)) H1 D.nx) : gName i x σ H (tAsg te g D) := h
section
variable {P : Program} {w : World} {K : PySem.W.Frag} {mg : Str → Option Value} {base : Heap} {a : Ad}
theorem ok_l_bent (T : Txt P K mg a) : FnOk P w K mg base CX0 2 a.f_l_bent a.d_l_bent ["_law_thing", "_law_number"] (spBent K) := by
  refine T.l_bent.F.ok sc_l_bent (fun vs H Q E h => ?_) (fun cdv A outer s H vs Q E hr h => ?_)
  · obtain ⟨v, t, n, rfl, _⟩ := h
    rfl
  · obtain ⟨v, t, n, rfl, dp, tr, hn0, hn1, k⟩ := h
    refine ⟨_, (pss_cons (ps_set (i := 2) sc_l_bent.nd rfl (Or.inl rfl) (pe_call (ok_l_parts T) (hr.mono (by decide)) (by rfl) T.l_parts.g T.l_parts.k T.l_parts.b .nil pass0 (pa_cons (pv 0) pa_nil)))
      (pss_cons (ps_set (i := 3) sc_l_bent.nd rfl (Or.inl rfl) (pe_lst (pa_cons (pe_callTy call_list_of (by rfl) T.z_list (by decide +kernel) (pa_cons (pv 0) pa_nil)) (pa_cons (pe_slice sl_tupA (pv 0) po_none (po_some pe_int)) (pa_cons (pe_op op_catA (pv 0) (pe_tup (pa_cons pe_int pa_nil))) (pa_cons (pe_op op_catA (pe_tup (pa_cons pe_str pa_nil)) (pe_slice sl_tupA (pv 0) (po_some pe_int) po_none)) (pa_cons (pe_op op_catA (pe_tup (pa_cons pe_str pa_nil)) (pe_slice sl_tupA (pv 0) (po_some pe_int) po_none)) pa_nil)))))))
      (pss_cons (ps_set (i := 3) sc_l_bent.nd rfl (Or.inl rfl) (pe_op op_cat (pv 3) (pe_lst (pa_cons (pe_op op_catA (pe_tup (pa_cons pe_non pa_nil)) (pe_slice sl_tupA (pv 0) (po_some pe_int) po_none)) pa_nil))))
      (pss_cons (ps_set (i := 3) sc_l_bent.nd rfl (Or.inl rfl) (pe_op op_cat (pv 3) (pe_lst (pa_cons (pe_op op_catA (pe_slice sl_tupA (pv 0) po_none (po_some (pe_un un_neg pe_int))) (pe_tup (pa_cons (pe_callTy call_list_of (by rfl) T.z_list (by decide +kernel) (pa_cons (pv 2) pa_nil)) pa_nil))) (pa_cons (pe_op op_catA (pe_slice sl_tupA (pv 0) po_none (po_some (pe_un un_neg pe_int))) (pe_tup (pa_cons pe_non pa_nil))) (pa_cons (pe_op op_catA (pe_slice sl_tupA (pv 0) po_none (po_some (pe_un un_neg pe_int))) (pe_tup (pa_cons (pe_op op_catA (pv 2) (pe_tup (pa_cons pe_non pa_nil))) pa_nil))) pa_nil))))))
      (pss_cons (ps_set (i := 3) sc_l_bent.nd rfl (Or.inl rfl) (pe_op op_cat (pv 3) (pe_lst (pa_cons (pe_op op_catA (pe_slice sl_tupA (pv 0) po_none (po_some (pe_un un_neg pe_int))) (pe_tup (pa_cons (pe_op op_catA (pv 2) (pe_tup (pa_cons (pe_lst (pa_cons pe_int pa_nil)) pa_nil))) pa_nil))) (pa_cons (pe_op op_catA (pe_slice sl_tupA (pv 0) po_none (po_some (pe_un un_neg pe_int))) (pe_tup (pa_cons (pe_op op_catA (pv 2) (pe_tup (pa_cons (pe_op op_pow pe_int pe_int) pa_nil))) pa_nil))) pa_nil)))))
      (pss_cons (ps_set (i := 3) sc_l_bent.nd rfl (Or.inl rfl) (pe_op op_cat (pv 3) (pe_lst (pa_cons (pe_op op_catA (pe_slice sl_tupA (pv 0) po_none (po_some (pe_un un_neg pe_int))) (pe_tup (pa_cons (pe_op op_catA (pv 2) (pe_tup (pa_cons pe_bl pa_nil))) pa_nil))) (pa_cons (pe_op op_catA (pe_slice sl_tupA (pv 0) po_none (po_some (pe_un un_neg pe_int))) (pe_tup (pa_cons (pe_op op_catA (pv 2) (pe_tup (pa_cons pe_str pa_nil))) pa_nil))) (pa_cons (pe_op op_catA (pe_slice sl_tupA (pv 0) po_none (po_some (pe_un un_neg pe_int))) (pe_tup (pa_cons (pe_tup (pa_cons (pe_tup (pa_cons pe_int (pa_cons pe_int (pa_cons pe_int pa_nil)))) pa_nil)) pa_nil))) pa_nil))))))
      (C8.pss_cut (ps_if (PW.pt (pw_and (pt_cmpR op_ne (pe_ix ix_tup (pv 0) pe_int (fun _ _ => rfl)) pe_str (nomark _)) (pw_and1 (pt_cmpR (op_neD hr.units) (pv 2) (pe_tup pa_nil) (nomark _))))) (pss_one (ps_set (i := 3) sc_l_bent.nd rfl (Or.inl rfl) (pe_op op_cat (pv 3) (pe_lst (pa_cons (pe_op op_catA (pe_slice sl_tupA (pv 0) po_none (po_some (pe_un un_neg pe_int))) (pe_tup (pa_cons (pe_op op_catA (pv 2) (pe_slice sl_tupA (pv 2) po_none (po_some pe_int))) pa_nil))) pa_nil))))) pss_nil)
      (C8.pss_cut (ps_if (pt_cmpR op_eq (pe_ix ix_tup (pv 0) pe_int (fun _ _ => rfl)) pe_str (nomark _)) (pss_cons (ps_set (i := 3) sc_l_bent.nd rfl (Or.inl rfl) (pe_op op_cat (pv 3) (pe_lst (pa_cons (pe_tup (pa_cons pe_str (pa_cons pe_str (pa_cons (pv 2) pa_nil)))) (pa_cons (pe_tup (pa_cons pe_str (pa_cons pe_str (pa_cons (pv 2) pa_nil)))) (pa_cons (pe_tup (pa_cons pe_str (pa_cons pe_int (pa_cons (pv 2) pa_nil)))) (pa_cons (pe_tup (pa_cons pe_str (pa_cons (pv 2) pa_nil))) pa_nil)))))))
      (pss_cons (ps_set (i := 3) sc_l_bent.nd rfl (Or.inl rfl) (pe_op op_cat (pv 3) (pe_lst (pa_cons (pe_tup (pa_cons pe_str (pa_cons pe_str (pa_cons (pe_tup (pa_cons (pe_tup (pa_cons pe_str (pa_cons pe_int pa_nil))) pa_nil)) pa_nil)))) (pa_cons (pe_tup (pa_cons pe_str (pa_cons pe_str (pa_cons (pe_tup (pa_cons (pe_tup (pa_cons pe_str (pa_cons pe_non pa_nil))) pa_nil)) pa_nil)))) pa_nil)))))
      (pss_one (ps_set (i := 3) sc_l_bent.nd rfl (Or.inl rfl) (pe_op op_cat (pv 3) (pe_lst (pa_cons (pe_tup (pa_cons pe_str (pa_cons pe_str (pa_cons (pe_tup (pa_cons (pe_lst (pa_cons pe_str (pa_cons pe_int pa_nil))) pa_nil)) pa_nil)))) pa_nil))))))) pss_nil)
      (C8.pss_cut (ps_if (pt_cmpR op_eq (pe_ix ix_tup (pv 0) pe_int (fun _ _ => rfl)) pe_str (nomark _)) (pss_cons (ps_set (i := 3) sc_l_bent.nd rfl (Or.inl rfl) (pe_op op_cat (pv 3) (pe_lst (pa_cons (pe_tup (pa_cons pe_str (pa_cons (pe_tup (pa_cons (pe_tup (pa_cons pe_non (pa_cons pe_int pa_nil))) pa_nil)) pa_nil))) (pa_cons (pe_tup (pa_cons pe_str (pa_cons (pe_tup (pa_cons (pe_tup (pa_cons pe_str (pa_cons pe_bl pa_nil))) pa_nil)) pa_nil))) (pa_cons (pe_tup (pa_cons pe_str (pa_cons (pe_tup (pa_cons (pe_tup (pa_cons pe_str (pa_cons pe_int (pa_cons pe_int pa_nil)))) pa_nil)) pa_nil))) pa_nil))))))
      (pss_one (ps_set (i := 3) sc_l_bent.nd rfl (Or.inl rfl) (pe_op op_cat (pv 3) (pe_lst (pa_cons (pe_tup (pa_cons pe_str (pa_cons (pe_op op_repT (pe_tup (pa_cons (pe_tup (pa_cons (pv 1) (pa_cons pe_int pa_nil))) pa_nil)) pe_int) pa_nil))) pa_nil)))))) pss_nil)
      (pss_one (ps_ret (pv 3)))))))))))), ?_⟩
    have dpd := dp
    rw [t.d_items] at dp
    have lf := t.front_len
    have lr := t.rest_len
    have li := t.items_len
    have lp := tr.few
    refine ⟨_, rfl, _, t, rfl, dpd, fun p q ys e1 e2 e3 e4 => ?_⟩
    clear dpd
    have dq : Dp K H (.ref q) (.tuple t.parts) := .tup e3 e4
    dsimp only
    refine gn_seq2 ?_
    refine gl_use (K := K) (ds := [.list t.items, .tuple [.str t.kd], .tuple (t.items ++ [.int 1]), .tuple ([.str "LIST"] ++ t.rest), .tuple ([.str "bag"] ++ t.rest)]) ?_ fun q1 v1 H1 s1 f1 a1 => ?_
    · rw [← t.cut_kd, ← t.cut_rest]
      repeat' (first
        | with_reducible exact gd_str _ | with_reducible exact gd_int _ | with_reducible exact gd_bl _ | with_reducible exact gd_non | with_reducible exact gds_nil | with_reducible exact gp_none | with_reducible exact gi_c _
        | exact gl_var (by rfl) (by assumption) (by assumption)
        | exact gd_var (by rfl) (by assumption)
        | with_reducible refine gds_cons ?_ ?_ | with_reducible refine gd_tup ?_ (by simp) | with_reducible refine gl_lst ?_ (by simp) | refine gl_list ?_ | with_reducible refine gl_d ?_ | refine gd_cut ?_ ?_ ?_ | refine gp_some ?_ | refine gi_neg ?_ | refine gd_cat ?_ ?_ ?_ | refine gl_cat ?_ ?_ ?_)
      all_goals (simp only [t.cut_front, t.cut_rest, t.cut_kd, List.length_append, List.length_cons, List.length_nil]; omega)
    obtain ⟨ds1, ed1⟩ : ∃ ds : List PyData, ([.list t.items, .tuple [.str t.kd], .tuple (t.items ++ [.int 1]), .tuple ([.str "LIST"] ++ t.rest), .tuple ([.str "bag"] ++ t.rest)] : List PyData) = ds := ⟨_, rfl⟩
    have B1 : AllBad ds1 := by
      rw [← ed1]
      exact bent_a tr
    have L1 : ds1.length = 5 := by
      rw [← ed1]
      rfl
    rw [ed1] at a1
    have dp1 := dp_stay s1 dp
    have dq1 := dp_stay s1 dq
    refine gn_seq2 ?_
    refine gl_use (K := K) (ds := ds1 ++ [.tuple ([.none] ++ t.rest)]) ?_ fun q2 v2 H2 s2 f2 a2 => ?_
    · rw [← t.cut_rest]
      repeat' (first
        | with_reducible exact gd_str _ | with_reducible exact gd_int _ | with_reducible exact gd_bl _ | with_reducible exact gd_non | with_reducible exact gds_nil | with_reducible exact gp_none | with_reducible exact gi_c _
        | exact gl_var (by rfl) (by assumption) (by assumption)
        | exact gd_var (by rfl) (by assumption)
        | with_reducible refine gds_cons ?_ ?_ | with_reducible refine gd_tup ?_ (by simp) | with_reducible refine gl_lst ?_ (by simp) | refine gl_list ?_ | with_reducible refine gl_d ?_ | refine gd_cut ?_ ?_ ?_ | refine gp_some ?_ | refine gi_neg ?_ | refine gd_cat ?_ ?_ ?_ | refine gl_cat ?_ ?_ ?_)
      all_goals (simp only [t.cut_front, t.cut_rest, t.cut_kd, List.length_append, List.length_cons, List.length_nil]; omega)
    obtain ⟨ds2, ed2⟩ : ∃ ds : List PyData, (ds1 ++ [.tuple ([.none] ++ t.rest)] : List PyData) = ds := ⟨_, rfl⟩
    have B2 : AllBad ds2 := by
      rw [← ed2]
      exact B1.app (bent_b tr)
    have L2 : ds2.length = 6 := by
      rw [← ed2]
      rw [List.length_append, L1]; rfl
    rw [ed2] at a2
    have dp2 := dp_stay s2 dp1
    have dq2 := dp_stay s2 dq1
    refine gn_seq2 ?_
    refine gl_use (K := K) (ds := ds2 ++ [.tuple (t.front ++ [.list t.parts]), .tuple (t.front ++ [.none]), .tuple (t.front ++ [.tuple (t.parts ++ [.none])])]) ?_ fun q3 v3 H3 s3 f3 a3 => ?_
    · rw [← t.cut_front]
      repeat' (first
        | with_reducible exact gd_str _ | with_reducible exact gd_int _ | with_reducible exact gd_bl _ | with_reducible exact gd_non | with_reducible exact gds_nil | with_reducible exact gp_none | with_reducible exact gi_c _
        | exact gl_var (by rfl) (by assumption) (by assumption)
        | exact gd_var (by rfl) (by assumption)
        | with_reducible refine gds_cons ?_ ?_ | with_reducible refine gd_tup ?_ (by simp) | with_reducible refine gl_lst ?_ (by simp) | refine gl_list ?_ | with_reducible refine gl_d ?_ | refine gd_cut ?_ ?_ ?_ | refine gp_some ?_ | refine gi_neg ?_ | refine gd_cat ?_ ?_ ?_ | refine gl_cat ?_ ?_ ?_)
      all_goals (simp only [t.cut_front, t.cut_rest, t.cut_kd, List.length_append, List.length_cons, List.length_nil]; omega)
    obtain ⟨ds3, ed3⟩ : ∃ ds : List PyData, (ds2 ++ [.tuple (t.front ++ [.list t.parts]), .tuple (t.front ++ [.none]), .tuple (t.front ++ [.tuple (t.parts ++ [.none])])] : List PyData) = ds := ⟨_, rfl⟩
    have B3 : AllBad ds3 := by
      rw [← ed3]
      exact B2.app (bent_c tr)
    have L3 : ds3.length = 9 := by
      rw [← ed3]
      rw [List.length_append, L2]; rfl
    rw [ed3] at a3
    have dp3 := dp_stay s3 dp2
    have dq3 := dp_stay s3 dq2
    refine gn_seq2 ?_
    refine gl_use (K := K) (ds := ds3 ++ [.tuple (t.front ++ [.tuple (t.parts ++ [.list [.int 1]])]), .tuple (t.front ++ [.tuple (t.parts ++ [.int (10 ^ 30)])])]) ?_ fun q4 v4 H4 s4 f4 a4 => ?_
    · rw [← t.cut_front]
      repeat' (first
        | with_reducible exact gd_str _ | with_reducible exact gd_int _ | with_reducible exact gd_bl _ | with_reducible exact gd_non | with_reducible exact gds_nil | with_reducible exact gp_none | with_reducible exact gi_c _
        | exact gl_var (by rfl) (by assumption) (by assumption)
        | exact gd_var (by rfl) (by assumption)
        | with_reducible refine gds_cons ?_ ?_ | with_reducible refine gd_tup ?_ (by simp) | with_reducible refine gl_lst ?_ (by simp) | refine gl_list ?_ | with_reducible refine gl_d ?_ | refine gd_cut ?_ ?_ ?_ | refine gp_some ?_ | refine gi_neg ?_ | refine gd_cat ?_ ?_ ?_ | refine gl_cat ?_ ?_ ?_)
      all_goals first | exact gd_pow (a := 10) (b := 30) (gi_c _) (gi_c _) ⟨by decide, by decide, by decide⟩ (fun H => .int _) | skip
      all_goals (simp only [t.cut_front, t.cut_rest, t.cut_kd, List.length_append, List.length_cons, List.length_nil]; omega)
    obtain ⟨ds4, ed4⟩ : ∃ ds : List PyData, (ds3 ++ [.tuple (t.front ++ [.tuple (t.parts ++ [.list [.int 1]])]), .tuple (t.front ++ [.tuple (t.parts ++ [.int (10 ^ 30)])])] : List PyData) = ds := ⟨_, rfl⟩
    have B4 : AllBad ds4 := by
      rw [← ed4]
      exact B3.app (bent_d tr)
    have L4 : ds4.length = 11 := by
      rw [← ed4]
      rw [List.length_append, L3]; rfl
    rw [ed4] at a4
    have dp4 := dp_stay s4 dp3
    have dq4 := dp_stay s4 dq3
    refine gn_seq2 ?_
    refine gl_use (K := K) (ds := ds4 ++ [.tuple (t.front ++ [.tuple (t.parts ++ [.bool true])]), .tuple (t.front ++ [.tuple (t.parts ++ [.str "A"])]), .tuple (t.front ++ [.tuple [.tuple [.int 1, .int 2, .int 3]]])]) ?_ fun q5 v5 H5 s5 f5 a5 => ?_
    · rw [← t.cut_front]
      repeat' (first
        | with_reducible exact gd_str _ | with_reducible exact gd_int _ | with_reducible exact gd_bl _ | with_reducible exact gd_non | with_reducible exact gds_nil | with_reducible exact gp_none | with_reducible exact gi_c _
        | exact gl_var (by rfl) (by assumption) (by assumption)
        | exact gd_var (by rfl) (by assumption)
        | with_reducible refine gds_cons ?_ ?_ | with_reducible refine gd_tup ?_ (by simp) | with_reducible refine gl_lst ?_ (by simp) | refine gl_list ?_ | with_reducible refine gl_d ?_ | refine gd_cut ?_ ?_ ?_ | refine gp_some ?_ | refine gi_neg ?_ | refine gd_cat ?_ ?_ ?_ | refine gl_cat ?_ ?_ ?_)
      all_goals (simp only [t.cut_front, t.cut_rest, t.cut_kd, List.length_append, List.length_cons, List.length_nil]; omega)
    obtain ⟨ds5, ed5⟩ : ∃ ds : List PyData, (ds4 ++ [.tuple (t.front ++ [.tuple (t.parts ++ [.bool true])]), .tuple (t.front ++ [.tuple (t.parts ++ [.str "A"])]), .tuple (t.front ++ [.tuple [.tuple [.int 1, .int 2, .int 3]]])] : List PyData) = ds := ⟨_, rfl⟩
    have B5 : AllBad ds5 := by
      rw [← ed5]
      exact B4.app (bent_e tr)
    have L5 : ds5.length = 14 := by
      rw [← ed5]
      rw [List.length_append, L4]; rfl
    rw [ed5] at a5
    have dp5 := dp_stay s5 dp4
    have dq5 := dp_stay s5 dq4
    subst e1
    have f0 : ∀ {H' : Hp}, Same H H' → SqT K H' p (Thing.hd q t) := fun s => sqt_stay s e2
    have t0 : atI (Thing.hd q t) 0 = some (.str t.kd) := by cases t <;> rfl
    have s05 : Same H H5 := s1.trans (s2.trans (s3.trans (s4.trans s5)))
    show C8.tCut _ _ _ [some (.ref p), some (.int n), some (.ref q), some (.ref q5)] H5
    refine ⟨BentAt K H p n q t 15, ?_, ?_⟩
    · refine ⟨_, rfl, p, _, 0, _, rfl, rfl, f0 s05, t0, rfl, _, rfl, ifB (fun hk => ?_) (fun _ => ?_)⟩
      · have hl : ∀ ws, t ≠ .lst ws := fun ws e => by subst e; simp [Thing.kd] at hk
        refine ⟨_, rfl, by show (0 : Nat) ≤ sizeLine; decide, fun e he => ?_⟩
        have s6 : Same H5 (upd H5 e (.tup [])) := same_new he
        have dp6 := dp_stay s6 dp5
        have dq6 := dp_stay s6 dq5
        have a6 := dpAll_stay s6 a5
        have f6 := s6 _ _ f5
        refine ⟨.tuple t.parts, .tuple [], dq6, dp_tup upd_same .nil, ?_, by decide +kernel, _, rfl, ifB (fun hne => ?_) (fun _ => ?_)⟩
        · exact (tidy_is 3 _ (tr.items (.tuple t.parts) (by rw [t.items_front]; simp))).shaped (by decide)
        · have hne' : t.parts ≠ [] := fun z => by rw [z] at hne; simp [PyData.eqv, PyData.eqvAll] at hne
          refine asg_in ?_
          refine gl_use (K := K) (ds := ds5 ++ [.tuple (t.front ++ [.tuple (t.parts ++ cutD t.parts none (some 1))])]) ?_ fun q7 v7 H7 s7 f7 a7 => ?_
          · rw [← t.cut_front]
            repeat' (first
        | with_reducible exact gd_str _ | with_reducible exact gd_int _ | with_reducible exact gd_bl _ | with_reducible exact gd_non | with_reducible exact gds_nil | with_reducible exact gp_none | with_reducible exact gi_c _
        | exact gl_var (by rfl) (by assumption) (by assumption)
        | exact gd_var (by rfl) (by assumption)
        | with_reducible refine gds_cons ?_ ?_ | with_reducible refine gd_tup ?_ (by simp) | with_reducible refine gl_lst ?_ (by simp) | refine gl_list ?_ | with_reducible refine gl_d ?_ | refine gd_cut ?_ ?_ ?_ | refine gp_some ?_ | refine gi_neg ?_ | refine gd_cat ?_ ?_ ?_ | refine gl_cat ?_ ?_ ?_)
            all_goals (have := cutD_length t.parts none (some 1); try simp only [t.cut_front, t.cut_rest, t.cut_kd, List.length_append, List.length_cons, List.length_nil]); all_goals omega
          · exact ⟨q7, v7, _, rfl, s05.trans (s6.trans s7), f7, a7, B5.app (bent_f tr hl hne'), by simp only [List.length_append, List.length_cons, List.length_nil]; omega⟩
        · exact ⟨q5, v5, ds5, rfl, s05.trans s6, f6, a6, B5, by omega⟩
      · exact ⟨q5, v5, ds5, rfl, s05, f5, a5, B5, by omega⟩
    rintro σ H6 ⟨q6, v6, ds6, rfl, s6, f6, a6, B6, L6⟩
    have dp6 := dp_stay s6 dp
    have dq6 := dp_stay s6 dq
    refine ⟨BentAt K H p n q t 22, ?_, ?_⟩
    · refine ⟨_, rfl, p, _, 0, _, rfl, rfl, f0 s6, t0, rfl, _, rfl, ifB (fun hk => ?_) (fun _ => ?_)⟩
      · have hk' : t.kd = "record" := by simpa using hk
        obtain ⟨nm, fs, rfl⟩ : ∃ nm fs, t = .rcd nm fs := by
          cases t with
          | rcd nm fs => exact ⟨_, _, rfl⟩
          | lst ws => exact absurd hk' (by show ¬ (("list" : Str) = "record"); decide)
          | set ws => exact absurd hk' (by show ¬ (("set" : Str) = "record"); decide)
          | dic ws => exact absurd hk' (by show ¬ (("dict" : Str) = "record"); decide)
        have dq6' : Dp K H6 (.ref q) (.tuple (fs.map fieldD)) := dq6
        clear dq6
        refine seq_asg ?_
        refine gl_use (K := K) (ds := ds6 ++ [.tuple [.str "record", .str "Box", .tuple (fs.map fieldD)], .tuple [.str "record", .str "", .tuple (fs.map fieldD)], .tuple [.str "record", .int 5, .tuple (fs.map fieldD)], .tuple [.str "record", .tuple (fs.map fieldD)]]) ?_ fun q7 v7 H7 s7 f7 a7 => ?_
        · repeat' (first
        | with_reducible exact gd_str _ | with_reducible exact gd_int _ | with_reducible exact gd_bl _ | with_reducible exact gd_non | with_reducible exact gds_nil | with_reducible exact gp_none | with_reducible exact gi_c _
        | exact gl_var (by rfl) (by assumption) (by assumption)
        | exact gd_var (by rfl) (by assumption)
        | with_reducible refine gds_cons ?_ ?_ | with_reducible refine gd_tup ?_ (by simp) | with_reducible refine gl_lst ?_ (by simp) | refine gl_list ?_ | with_reducible refine gl_d ?_ | refine gd_cut ?_ ?_ ?_ | refine gp_some ?_ | refine gi_neg ?_ | refine gd_cat ?_ ?_ ?_ | refine gl_cat ?_ ?_ ?_)
          all_goals (simp only [List.length_cons, List.length_nil]; omega)
        refine gn_seq2 ?_
        refine gl_use (K := K) (ds := (ds6 ++ [.tuple [.str "record", .str "Box", .tuple (fs.map fieldD)], .tuple [.str "record", .str "", .tuple (fs.map fieldD)], .tuple [.str "record", .int 5, .tuple (fs.map fieldD)], .tuple [.str "record", .tuple (fs.map fieldD)]]) ++ [.tuple [.str "record", .str "box", .tuple [.tuple [.str "f1", .int 1]]], .tuple [.str "record", .str "box", .tuple [.tuple [.str "f", .none]]]]) ?_ fun q8 v8 H8 s8 f8 a8 => ?_
        · repeat' (first
        | with_reducible exact gd_str _ | with_reducible exact gd_int _ | with_reducible exact gd_bl _ | with_reducible exact gd_non | with_reducible exact gds_nil | with_reducible exact gp_none | with_reducible exact gi_c _
        | exact gl_var (by rfl) (by assumption) (by assumption)
        | exact gd_var (by rfl) (by assumption)
        | with_reducible refine gds_cons ?_ ?_ | with_reducible refine gd_tup ?_ (by simp) | with_reducible refine gl_lst ?_ (by simp) | refine gl_list ?_ | with_reducible refine gl_d ?_ | refine gd_cut ?_ ?_ ?_ | refine gp_some ?_ | refine gi_neg ?_ | refine gd_cat ?_ ?_ ?_ | refine gl_cat ?_ ?_ ?_)
          all_goals (simp only [List.length_append, List.length_cons, List.length_nil]; omega)
        dsimp only
        refine gn_asg ?_
        refine gl_use (K := K) (ds := ((ds6 ++ [.tuple [.str "record", .str "Box", .tuple (fs.map fieldD)], .tuple [.str "record", .str "", .tuple (fs.map fieldD)], .tuple [.str "record", .int 5, .tuple (fs.map fieldD)], .tuple [.str "record", .tuple (fs.map fieldD)]]) ++ [.tuple [.str "record", .str "box", .tuple [.tuple [.str "f1", .int 1]]], .tuple [.str "record", .str "box", .tuple [.tuple [.str "f", .none]]]]) ++ [.tuple [.str "record", .str "box", .tuple [.list [.str "f", .int 1]]]]) ?_ fun q9 v9 H9 s9 f9 a9 => ?_
        · repeat' (first
        | with_reducible exact gd_str _ | with_reducible exact gd_int _ | with_reducible exact gd_bl _ | with_reducible exact gd_non | with_reducible exact gds_nil | with_reducible exact gp_none | with_reducible exact gi_c _
        | exact gl_var (by rfl) (by assumption) (by assumption)
        | exact gd_var (by rfl) (by assumption)
        | with_reducible refine gds_cons ?_ ?_ | with_reducible refine gd_tup ?_ (by simp) | with_reducible refine gl_lst ?_ (by simp) | refine gl_list ?_ | with_reducible refine gl_d ?_ | refine gd_cut ?_ ?_ ?_ | refine gp_some ?_ | refine gi_neg ?_ | refine gd_cat ?_ ?_ ?_ | refine gl_cat ?_ ?_ ?_)
          all_goals (simp only [List.length_append, List.length_cons, List.length_nil]; omega)
        exact ⟨q9, v9, _, rfl, s6.trans (s7.trans (s8.trans s9)), f9, a9, ((B6.app (bent_r tr)).app bent_s).app bent_t, by simp only [List.length_append, List.length_cons, List.length_nil]; omega⟩
      · exact ⟨q6, v6, ds6, rfl, s6, f6, a6, B6, by omega⟩
    clear dp6 dq6 B6 L6 a6 f6 s6 v6 q6 ds6 H6
    rintro σ H6 ⟨q6, v6, ds6, rfl, s6, f6, a6, B6, L6⟩
    have dp6 := dp_stay s6 dp
    have dq6 := dp_stay s6 dq
    refine ⟨BentAt K H p n q t 26, ?_, ?_⟩
    · refine ⟨_, rfl, p, _, 0, _, rfl, rfl, f0 s6, t0, rfl, _, rfl, ifB (fun hk => ?_) (fun _ => ?_)⟩
      · refine seq_asg ?_
        refine gl_use (K := K) (ds := ds6 ++ [.tuple [.str "dict", .tuple [.tuple [.none, .int 1]]], .tuple [.str "dict", .tuple [.tuple [.str "k", .bool true]]], .tuple [.str "dict", .tuple [.tuple [.str "k", .int 1, .int 2]]]]) ?_ fun q7 v7 H7 s7 f7 a7 => ?_
        · repeat' (first
        | with_reducible exact gd_str _ | with_reducible exact gd_int _ | with_reducible exact gd_bl _ | with_reducible exact gd_non | with_reducible exact gds_nil | with_reducible exact gp_none | with_reducible exact gi_c _
        | exact gl_var (by rfl) (by assumption) (by assumption)
        | exact gd_var (by rfl) (by assumption)
        | with_reducible refine gds_cons ?_ ?_ | with_reducible refine gd_tup ?_ (by simp) | with_reducible refine gl_lst ?_ (by simp) | refine gl_list ?_ | with_reducible refine gl_d ?_ | refine gd_cut ?_ ?_ ?_ | refine gp_some ?_ | refine gi_neg ?_ | refine gd_cat ?_ ?_ ?_ | refine gl_cat ?_ ?_ ?_)
          all_goals (simp only [List.length_append, List.length_cons, List.length_nil]; omega)
        have dn : Dp K H7 (.int n) (.int n) := .int n
        dsimp only
        refine gn_asg ?_
        refine gl_use (K := K) (ds := (ds6 ++ [.tuple [.str "dict", .tuple [.tuple [.none, .int 1]]], .tuple [.str "dict", .tuple [.tuple [.str "k", .bool true]]], .tuple [.str "dict", .tuple [.tuple [.str "k", .int 1, .int 2]]]]) ++ [.tuple [.str "dict", .tuple (List.replicate (2 : Int).toNat [.tuple [.int n, .int 1]]).flatten]]) ?_ fun q8 v8 H8 s8 f8 a8 => ?_
        · repeat' (first
        | with_reducible exact gd_str _ | with_reducible exact gd_int _ | with_reducible exact gd_bl _ | with_reducible exact gd_non | with_reducible exact gds_nil | with_reducible exact gp_none | with_reducible exact gi_c _
        | exact gl_var (by rfl) (by assumption) (by assumption)
        | exact gd_var (by rfl) (by assumption)
        | with_reducible refine gds_cons ?_ ?_ | with_reducible refine gd_tup ?_ (by simp) | with_reducible refine gl_lst ?_ (by simp) | refine gl_list ?_ | with_reducible refine gl_d ?_ | refine gd_cut ?_ ?_ ?_ | refine gp_some ?_ | refine gi_neg ?_ | refine gd_cat ?_ ?_ ?_ | refine gl_cat ?_ ?_ ?_)
          all_goals first | (refine gd_rep ?_ (gi_c _) (by simp) (by simp) (by decide) (by decide)) | (simp only [List.length_append, List.length_cons, List.length_nil]; omega)
          repeat' (first
        | with_reducible exact gd_str _ | with_reducible exact gd_int _ | with_reducible exact gd_bl _ | with_reducible exact gd_non | with_reducible exact gds_nil | with_reducible exact gp_none | with_reducible exact gi_c _
        | exact gl_var (by rfl) (by assumption) (by assumption)
        | exact gd_var (by rfl) (by assumption)
        | with_reducible refine gds_cons ?_ ?_ | with_reducible refine gd_tup ?_ (by simp) | with_reducible refine gl_lst ?_ (by simp) | refine gl_list ?_ | with_reducible refine gl_d ?_ | refine gd_cut ?_ ?_ ?_ | refine gp_some ?_ | refine gi_neg ?_ | refine gd_cat ?_ ?_ ?_ | refine gl_cat ?_ ?_ ?_)
        exact ⟨q8, v8, _, rfl, s6.trans (s7.trans s8), f8, a8, (B6.app bent_u).app (bent_v hn0 hn1), by simp only [List.length_append, List.length_cons, List.length_nil]; omega⟩
      · exact ⟨q6, v6, ds6, rfl, s6, f6, a6, B6, by omega⟩
    rintro σ H7 ⟨q7, v7, ds7, rfl, s7, f7, a7, B7, L7⟩
    exact ⟨_, rfl, k q7 v7 ds7 H7 s7 f7 a7 B7 (by omega)⟩
end
end SB

set_option Elab.async false
set_option linter.all false
set_option maxRecDepth 100000
set_option maxHeartbeats 4000000
namespace SB
open PySem L2
/-! ### what is_object accepts is tidy -/
theorem both_low : ∀ c ∈ both.cps.toList, c < 0x110000 := by decide +kernel
theorem letters_low : ∀ c ∈ letters.cps.toList, c < 0x110000 := by decide +kernel
theorem made_ok {x z : Str} (h : madeOf x z = true) (hz : ∀ c ∈ z.cps.toList, c < 0x110000) : PyData.strOk x = true := by
  unfold PyData.strOk
  rw [← Array.all_toList]
  unfold madeOf at h
  refine List.all_eq_true.mpr fun c hc => decide_eq_true (hz c (of_decide_eq_true (List.all_eq_true.mp h c hc)))
theorem leaf_str {x : Str} (h1 : x.length ≤ 100) (h2 : PyData.strOk x = true) : tidyLeaf (.str x) = true := by
  show (decide (x.length ≤ 100) && PyData.strOk x) = true
  rw [decide_eq_true h1, h2]
  rfl
theorem name_tidy {x : Str} (h : nameS x = true) : tidyLeaf (.str x) = true := by
  unfold nameS at h
  rw [Bool.and_eq_true, Bool.and_eq_true] at h
  have := of_decide_eq_true h.2.1
  exact leaf_str (by omega) (made_ok h.2.2 letters_low)
theorem mark_tidy {x : Str} (h : markS x = true) : tidyLeaf (.str x) = true := by
  unfold markS at h
  rw [Bool.and_eq_true, Bool.and_eq_true, Bool.and_eq_true] at h
  have := of_decide_eq_true h.2.1
  exact leaf_str (by omega) (made_ok h.2.2.2 both_low)
theorem worth_tidy {x : W} (h : worthD x.d = true) : tidy 1 x.d = true := by
  unfold worthD at h
  rw [Bool.or_eq_true] at h
  cases x with
  | num i =>
    have h1 : (decide (-10 ^ 30 < i) && decide (i < 10 ^ 30)) = true := by
      rcases h with h | h
      · exact h
      · cases h
    rw [Bool.and_eq_true] at h1
    have a1 : -10 ^ 30 < i := of_decide_eq_true h1.1
    have a2 : i < 10 ^ 30 := of_decide_eq_true h1.2
    refine decide_eq_true ?_
    have e1 : (10 : Int) ^ 30 = ((10 ^ 30 : Nat) : Int) := by decide
    have e2 : (10 : Nat) ^ 30 ≤ 10 ^ 31 := by decide
    rw [e1] at a1 a2
    omega
  | txt x =>
    have h1 : (decide (x.length ≤ 20) && madeOf x both) = true := by
      rcases h with h | h
      · exact h
      · cases h
    rw [Bool.and_eq_true] at h1
    have a1 := of_decide_eq_true h1.1
    exact leaf_str (by omega) (made_ok h1.2 both_low)
  | ref m =>
    have h1 : (decide (("at" : Str) = "at") && markS m) = true := by
      rcases h with h | h
      · cases h
      · exact h
    rw [Bool.and_eq_true] at h1
    exact tidy_tup (n := 0) (by simp) (all_cons (by decide +kernel) (all_one (mark_tidy h1.2)))
theorem worths_each {ws : List W} (h : worthsD (.tuple (ws.map W.d)) = true) : ∀ x ∈ ws, worthD x.d = true := fun x hx => by
  unfold worthsD at h
  rw [Bool.and_eq_true] at h
  exact List.all_eq_true.mp h.2 x.d (List.mem_map.mpr ⟨x, hx, rfl⟩)
theorem fields_each {fs : List (Str × W)} (h : fieldsD (.tuple (fs.map fieldD)) = true) : ∀ f ∈ fs, nameS f.1 = true ∧ worthD f.2.d = true := fun f hf => by
  unfold fieldsD pairsD at h
  rw [Bool.and_eq_true, Bool.and_eq_true, Bool.and_eq_true] at h
  have m : fieldD f ∈ fs.map fieldD := List.mem_map.mpr ⟨f, hf, rfl⟩
  exact ⟨List.all_eq_true.mp h.2.1 _ m, List.all_eq_true.mp h.1.2 _ m⟩
theorem entries_each {fs : List (W × W)} (h : entriesD (.tuple (fs.map entryD)) = true) : ∀ f ∈ fs, worthD f.1.d = true ∧ worthD f.2.d = true := fun f hf => by
  unfold entriesD pairsD at h
  rw [Bool.and_eq_true, Bool.and_eq_true, Bool.and_eq_true] at h
  have m : entryD f ∈ fs.map entryD := List.mem_map.mpr ⟨f, hf, rfl⟩
  exact ⟨List.all_eq_true.mp h.2.1 _ m, List.all_eq_true.mp h.1.2 _ m⟩
theorem obj_kind (t : Thing) : objD t.d = match t with | .rcd n fs => nameS n && fieldsD (.tuple (fs.map fieldD)) | .lst ws => worthsD (.tuple (ws.map W.d)) | .set ws => worthsD (.tuple (ws.map W.d)) && diffD (ws.map W.d) | .dic es => entriesD (.tuple (es.map entryD)) := by
  rw [t.d_items, t.items_front, obj_front]
  cases t <;> rfl
theorem entries_nodup {es : List (W × W)} (h : entriesD (.tuple (es.map entryD)) = true) : (es.map (·.1)).Nodup := by
  unfold entriesD at h
  rw [Bool.and_eq_true, Bool.and_eq_true] at h
  have h3 : diffD ((es.map entryD).map firstD) = true := h.2.2
  have e : (es.map entryD).map firstD = (es.map (·.1)).map W.d := by
    rw [List.map_map, List.map_map]
    rfl
  rw [e, diffD_worths] at h3
  exact of_decide_eq_true h3
theorem trim_of {t : Thing} (h : objD t.d = true) (hl : t.len ≤ 6) : Trim t := by
  refine ⟨?_, hl⟩
  rw [obj_kind] at h
  cases t with
  | rcd n fs =>
    rw [Bool.and_eq_true] at h
    have hl' : fs.length ≤ 6 := hl
    refine tidy_tup (by simp) (all_cons (by decide +kernel) (all_cons (tidyLeaf_any (name_tidy h.1)) (all_one (tidy_tup (by rw [List.length_map]; omega) fun x hx => ?_))))
    obtain ⟨f, hf, rfl⟩ := List.mem_map.mp hx
    obtain ⟨a1, a2⟩ := fields_each h.2 f hf
    exact tidy_tup (by simp) (all_cons (tidyLeaf_any (name_tidy a1)) (all_one (worth_tidy a2)))
  | lst ws =>
    have hl' : ws.length ≤ 6 := hl
    refine tidy_tup (by simp) (all_cons (by decide +kernel) (all_one (tidy_tup (by rw [List.length_map]; omega) fun x hx => ?_)))
    obtain ⟨f, hf, rfl⟩ := List.mem_map.mp hx
    exact tidy_up (worth_tidy (worths_each h f hf))
  | set ws =>
    rw [Bool.and_eq_true] at h
    have hl' : ws.length ≤ 6 := hl
    refine tidy_tup (by simp) (all_cons (by decide +kernel) (all_one (tidy_tup (by rw [List.length_map]; omega) fun x hx => ?_)))
    obtain ⟨f, hf, rfl⟩ := List.mem_map.mp hx
    exact tidy_up (worth_tidy (worths_each h.1 f hf))
  | dic es =>
    have hl' : es.length ≤ 6 := hl
    refine tidy_tup (by simp) (all_cons (by decide +kernel) (all_one (tidy_tup (by rw [List.length_map]; omega) fun x hx => ?_)))
    obtain ⟨f, hf, rfl⟩ := List.mem_map.mp hx
    obtain ⟨a1, a2⟩ := entries_each h f hf
    exact tidy_tup (by simp) (all_cons (worth_tidy a1) (all_one (worth_tidy a2)))
theorem Shuf.len {t u : Thing} (h : Shuf t u) : u.len = t.len := by
  cases h with
  | rcd h => exact h.length_eq
  | lst => rfl
  | set h => exact h.length_eq
  | dic h => exact h.length_eq
theorem Shuf.obj {t u : Thing} (h : Shuf t u) (ho : objD t.d = true) (hl : t.len ≤ 30) : objD u.d = true := by
  have hk := ho
  rw [obj_kind] at hk
  cases h with
  | rcd h =>
    rw [Bool.and_eq_true] at hk
    have l1 := h.length_eq
    refine objD_rcd hk.1 (fieldsD_of (fun f hf => fields_each hk.2 f (h.mem_iff.mp hf)) ?_ (by rw [l1]; exact hl))
    exact (h.map _).nodup_iff.mpr (rcd_nodup ho)
  | lst => exact ho
  | set h =>
    rw [Bool.and_eq_true] at hk
    have l1 := h.length_eq
    have nd := hk.2
    rw [diffD_worths] at nd
    exact objD_set (worthsD_of (fun x hx => worths_each hk.1 x (h.mem_iff.mp hx)) (by rw [l1]; exact hl)) (h.nodup_iff.mpr (of_decide_eq_true nd))
  | dic h =>
    have l1 := h.length_eq
    refine objD_dic (entriesD_of (fun f hf => entries_each hk f (h.mem_iff.mp hf)) ?_ (by rw [l1]; exact hl))
    exact (h.map _).nodup_iff.mpr (entries_nodup hk)
theorem ent_inj {es : List (W × W)} (h : (es.map (·.1)).Nodup) : ∀ a ∈ es, ∀ b ∈ es, a.1 = b.1 → a = b := fun a ha b hb e => by
  obtain ⟨i, hi, ei⟩ := List.getElem_of_mem ha
  obtain ⟨j, hj, ej⟩ := List.getElem_of_mem hb
  have : (es.map (·.1))[i]'(by simpa using hi) = (es.map (·.1))[j]'(by simpa using hj) := by rw [List.getElem_map, List.getElem_map, ei, ej, e]
  have := (List.getElem_inj h).mp this
  subst this
  rw [← ei, ← ej]
theorem Shuf.srt {t u : Thing} (h : Shuf t u) (ho : objD t.d = true) : u.srt = t.srt := by
  have hk := ho
  rw [obj_kind] at hk
  cases h with
  | rcd h =>
    have inj := names_inj (rcd_nodup ho)
    refine congrArg (Thing.rcd _) (sort_one_of (k := fieldK) h.symm fun a ha b hb e => inj a ha b hb ?_).symm
    have e' : ([Sum.inr a.1.cps.toList] : List (Int ⊕ List Nat)) = [Sum.inr b.1.cps.toList] := e
    simp at e'
    exact str_cps (by rw [e'])
  | lst => rfl
  | set h => exact congrArg Thing.set (sort_one_of (k := W.rk) h.symm fun a ha b hb e => W.rk_inj e).symm
  | dic h =>
    have inj := ent_inj (entries_nodup hk)
    exact congrArg Thing.dic (sort_one_of (k := entryK) h.symm fun a ha b hb e => inj a ha b hb (W.rk_inj e)).symm
theorem srt_shuf (t : Thing) : Shuf t t.srt := by
  cases t with
  | rcd n fs => exact .rcd (List.mergeSort_perm _ _)
  | lst ws => exact .lst
  | set ws => exact .set (List.mergeSort_perm _ _)
  | dic es => exact .dic (List.mergeSort_perm _ _)
end SB

set_option Elab.async false
set_option linter.all false
set_option maxRecDepth 100000
set_option maxHeartbeats 4000000
namespace SB
open PySem L2
def spLaw (K : PySem.W.Frag) (T : List (Addr × Str)) : Sp := fun vs H Q _ => ∃ (a : Addr) (ns : List Int), vs = [.ref a] ∧ SqL K H a (ns.map V.int) ∧ ns.length ≤ 63 ∧ LamX.Tabs T H ∧ ∀ H', Q (.bl true) H'
theorem tabs_sx {T : List (Addr × Str)} {A B : Hp} {p : Addr} (t : LamX.Tabs T A) (pl : Pool A p) (s : SameX p A B) : LamX.Tabs T B := by
  obtain ⟨g, m, hp, _⟩ := pl
  intro q hq
  obtain ⟨ps, h1, h2, h3⟩ := t q hq
  refine ⟨ps, s _ _ (fun z => by rw [z, hp] at h1; cases h1) h1, h2, fun pos cv hc => ?_⟩
  obtain ⟨c, e1, e2⟩ := h3 pos cv hc
  exact ⟨c, e1, s _ _ (fun z => by rw [z, hp] at e2; cases e2) e2⟩
theorem stay_sx {T : List (Addr × Str)} {H A B : Hp} {p : Addr} (st : Stay T H A) (hp : H p = none) (pl : Pool A p) (s : SameX p A B) : Stay T H B :=
  ⟨fun b o e n => s _ _ (ne_of_none e hp) (st.ext b o e n), tabs_sx st.tab pl s⟩
theorem Stay.pool {T : List (Addr × Str)} {A B : Hp} {p : Addr} (st : Stay T A B) (pl : Pool A p) : Pool B p := by
  obtain ⟨g, m, hp, r⟩ := pl
  exact ⟨g, m, st.at hp rfl, r⟩
def manyD : List PyData := (List.range 30).map fun i => .int (0 + (i : Nat))
def zipD : List PyData := (List.range 30).map fun i => .tuple [.int (0 + (i : Nat)), .int (0 + (i : Nat))]
def MS : List Str := ["a", "b1", "zz"]
theorem marks_MS : Marks MS := by
  intro m hm
  revert m
  decide +kernel
theorem map_inj {α : Type} {g : α → PyData} (inj : ∀ {a b}, g a = g b → a = b) : ∀ {l m : List α}, l.map g = m.map g → l = m
  | [], [], _ => rfl
  | [], _ :: _, h => by simp at h
  | _ :: _, [], h => by simp at h
  | a :: l, b :: m, h => by
    rw [List.map_cons, List.map_cons] at h
    obtain ⟨h1, h2⟩ := List.cons.inj h
    rw [inj h1, map_inj inj h2]
theorem fieldD_inj {a b : Str × W} (h : fieldD a = fieldD b) : a = b := by
  have h1 : [PyData.str a.1, a.2.d] = [.str b.1, b.2.d] := PyData.tuple.inj h
  simp at h1
  exact Prod.ext h1.1 (W.d_inj h1.2)
theorem entryD_inj {a b : W × W} (h : entryD a = entryD b) : a = b := by
  have h1 : [a.1.d, a.2.d] = [b.1.d, b.2.d] := PyData.tuple.inj h
  simp at h1
  exact Prod.ext (W.d_inj h1.1) (W.d_inj h1.2)
theorem Thing.d_inj {t u : Thing} (h : t.d = u.d) : t = u := by
  rw [t.d_items, u.d_items] at h
  have h1 := PyData.tuple.inj h
  rw [t.items_front, u.items_front] at h1
  cases t <;> cases u <;> simp only [Thing.front, Thing.parts, List.cons_append, List.nil_append, List.cons.injEq, PyData.str.injEq, PyData.tuple.injEq, and_true, true_and, reduceCtorEq, false_and, and_false] at h1
  · rw [h1.1, map_inj fieldD_inj h1.2]
  · rw [map_inj W.d_inj h1]
  · exact absurd h1.1 (by decide)
  · exact absurd h1.1 (by decide)
  · exact absurd h1.1 (by decide)
  · rw [map_inj W.d_inj h1]
  · exact absurd h1.1 (by decide)
  · exact absurd h1.1 (by decide)
  · exact absurd h1.1 (by decide)
  · rw [map_inj entryD_inj h1]
theorem eqv_self_of {d : PyData} (h : SeqAt.shaped d = true) : PyData.eqv d d = true := SeqAt.eqv_refl d (SeqAt.canLay_of_shaped h)
section
variable {P : Program} {w : World} {K : PySem.W.Frag} {mg : Str → Option Value} {base : Heap} {a : Ad}
theorem ok_law (T : Txt P K mg a) (B : Tb base mg a) : FnOkG P w K mg base CX0 12 a.f_law a.d_law ["_law_script"] (spLaw K a.tabs) := by
  refine T.law.F.okG sc_law (fun vs H Q E h => ?_) (fun cdv A outer s H vs Q E hr hg h => ?_)
  · obtain ⟨l, ns, rfl, _⟩ := h
    rfl
  · obtain ⟨l, ns, rfl, hS, hlen, tb, k⟩ := h
    have hv : (A.deeper (PyProof.Rows.envOfC "law" (defScope s_law) s.heap.objs.size a.f_law cdv)).units + 65 < cLine := by have := hr.un; omega
    have hl : (A.deeper (PyProof.Rows.envOfC "law" (defScope s_law) s.heap.objs.size a.f_law cdv)).units < cLine := by omega
    refine ⟨_, (pss_cons (ps_for PassesOwn.never rfl (pi_range1 (by rfl) T.z_range (pa_cons (pe_callB (call_max2 rfl) (by rfl) T.z_max (by decide +kernel) (pa_cons pe_int (pa_cons (pe_callB (call_min2 rfl) (by rfl) T.z_min (by decide +kernel) (pa_cons (pe_callB call_len_seq (by rfl) T.z_len (by decide +kernel) (pa_cons (pv 0) pa_nil)) (pa_cons pe_int pa_nil))) pa_nil))) pa_nil)) (pg_name (i := 1) sc_law.nd rfl (Or.inl rfl)) (pss_cons (ps_set (i := 2) sc_law.nd rfl (Or.inr rfl) (pe_call (ok_l_pool T) (hr.mono (by decide)) (by rfl) T.l_pool.g T.l_pool.k T.l_pool.b .nil pass0 (pa_cons (pv 0) (pa_cons (pv 1) pa_nil))))
      (pss_cons (ps_for PassesOwn.never rfl (pi_range1 (by rfl) T.z_range (pa_cons pe_int pa_nil)) (pg_name (i := 3) sc_law.nd rfl (Or.inl rfl)) (pss_cons (ps_setLc (i := 4) (own := [("_law_turn", 10)]) (g := gName 10) (tt := tYes) (by rfl) sc_law.nd rfl rfl (sw_true rfl rfl rfl (by decide +kernel)) (pi_range1 (by rfl) T.z_range (pa_cons (pe_call (ok_l_draw T) (hr.mono (by decide)) (by rfl) T.l_draw.g T.l_draw.k T.l_draw.b .nil pass0 (pa_cons (pv 2) (pa_cons pe_int pa_nil))) pa_nil)) (blkOk_by (own := [("_law_turn", 10)]) (N := ["_law_script", "_law_k", "_law_pool_here", "_law_kind", "_law_worths", "_law_thing", "_law_mixed_here", "_law_other", "_law_many", "_law_longer", "_law_turn"]) (sc := defScope s_law) (by decide +kernel)) (fun _ _ _ _ _ => (pg_name (i := 10) sc_law.nd rfl (Or.inl rfl))) (fun _ _ _ _ _ => pts_nil) (fun _ _ _ _ _ => (pe_call (ok_l_worth T) (hr.mono (by decide)) (by rfl) T.l_worth.g T.l_worth.k T.l_worth.b .nil pass0 (pa_cons (pv 2) (pa_cons (pe_lst (pa_cons pe_str (pa_cons pe_str (pa_cons pe_str pa_nil)))) pa_nil)))))
      (pss_cons (ps_set (i := 5) sc_law.nd rfl (Or.inl rfl) (pe_call (ok_l_object T) (hr.mono (by decide)) (by rfl) T.l_object.g T.l_object.k T.l_object.b .nil pass0 (pa_cons (pv 2) (pa_cons (pv 3) (pa_cons (pv 4) pa_nil)))))
      (pss_cons (ps_set (i := 6) sc_law.nd rfl (Or.inl rfl) (pe_call (ok_l_shuffled T) (hr.mono (by decide)) (by rfl) T.l_shuffled.g T.l_shuffled.k T.l_shuffled.b .nil pass0 (pa_cons (pv 2) (pa_cons (pv 5) pa_nil))))
      (pss_cons (ps_if (PW.pt (pw_or (pt_not (pt_val (pe_call (ok_is_object T) (hr.mono (by decide)) (by rfl) T.is_object.g T.is_object.k T.is_object.b .nil pass0 (pa_cons (pv 6) pa_nil)))) (pw_or (pt_cmpR (op_neD hr.units) (pe_call (ok_ordered T B) (hr.mono (by decide)) (by rfl) T.ordered.g T.ordered.k T.ordered.b .nil passX0 (pa_cons (pv 6) pa_nil)) (pe_call (ok_l_due T B) (hr.mono (by decide)) (by rfl) T.l_due.g T.l_due.k T.l_due.b .nil pass0 (pa_cons (pv 5) pa_nil)) (nomark _)) (pw_or1 (pt_cmpR (op_neD hr.units) (pe_call (ok_ordered T B) (hr.mono (by decide)) (by rfl) T.ordered.g T.ordered.k T.ordered.b .nil passX0 (pa_cons (pv 5) pa_nil)) (pe_call (ok_ordered T B) (hr.mono (by decide)) (by rfl) T.ordered.g T.ordered.k T.ordered.b .nil passX0 (pa_cons (pv 6) pa_nil)) (nomark _)))))) (pss_one (ps_ret pe_bl)) pss_nil)
      (pss_one (ps_for PassesOwn.never rfl (pi_list (pe_op op_cat (pe_call (ok_l_bent T) (hr.mono (by decide)) (by rfl) T.l_bent.g T.l_bent.k T.l_bent.b .nil pass0 (pa_cons (pv 5) (pa_cons (pe_call (ok_l_draw T) (hr.mono (by decide)) (by rfl) T.l_draw.g T.l_draw.k T.l_draw.b .nil pass0 (pa_cons (pv 2) (pa_cons (pe_op op_pow pe_int pe_int) pa_nil))) pa_nil))) (pe_lst (pa_cons pe_non (pa_cons pe_int (pa_cons pe_str (pa_cons (pe_tup pa_nil) (pa_cons pe_dnewK (pa_cons (pe_tup (pa_cons pe_str (pa_cons pe_str pa_nil))) pa_nil))))))))) (pg_name (i := 7) sc_law.nd rfl (Or.inl rfl)) (pss_one (ps_if (PW.pt (pw_or (pt_cmpR op_notBB (pe_call (ok_is_object T) (hr.mono (by decide)) (by rfl) T.is_object.g T.is_object.k T.is_object.b .nil pass0 (pa_cons (pv 7) pa_nil)) pe_bl (nomark _)) (pw_or1 (pt_cmpR op_ne (pe_callG (ok_l_told T B) (hr.mono (by decide)) hg (by rfl) T.l_told.g T.l_told.k T.l_told.b pass0 (pa_cons (pv 7) pa_nil)) (pe_callB (r := rRepr K) (id := "repr") (call_reprD hg hv) (by rfl) T.z_repr (by decide +kernel) (pa_cons (pv 7) pa_nil)) (nomark _))))) (pss_one (ps_ret pe_bl)) pss_nil)))))))))
      (pss_cons (ps_set (i := 8) sc_law.nd rfl (Or.inl rfl) (pe_tupRg (by rfl) (by rfl) T.z_tuple (prg_1 (by rfl) T.z_range pe_int)))
      (pss_one (ps_for PassesOwn.never rfl (pi_list (pe_lst (pa_cons (pe_tup (pa_cons pe_str (pa_cons (pv 8) pa_nil))) (pa_cons (pe_tup (pa_cons pe_str (pa_cons (pv 8) pa_nil))) (pa_cons (pe_tup (pa_cons pe_str (pa_cons (pe_tupZip (by rfl) (pa_cons (pv 8) (pa_cons (pv 8) pa_nil)) (by rfl) T.z_tuple (by rfl) T.z_zip) pa_nil))) pa_nil))))) (pg_name (i := 5) sc_law.nd rfl (Or.inl rfl)) (C8.pss_cut (ps_set (i := 9) sc_law.nd rfl (Or.inl rfl) (pe_tup (pa_cons (pe_ix ix_tup (pv 5) pe_int (fun _ _ => rfl)) (pa_cons (pe_op op_catA (pe_ix ix_tup (pv 5) pe_int (fun _ _ => rfl)) (pe_tup (pa_cons (pe_ifExp (pt_cmpR op_eq (pe_ix ix_tup (pv 5) pe_int (fun _ _ => rfl)) pe_str (nomark _)) (pe_tup (pa_cons pe_int (pa_cons pe_int pa_nil))) pe_int) pa_nil))) pa_nil))))
      (pss_one (ps_if (PW.pt (pw_or (pt_not (pt_val (pe_call (ok_is_object T) (hr.mono (by decide)) (by rfl) T.is_object.g T.is_object.k T.is_object.b .nil pass0 (pa_cons (pv 5) pa_nil)))) (pw_or1 (pt_val (pe_call (ok_is_object T) (hr.mono (by decide)) (by rfl) T.is_object.g T.is_object.k T.is_object.b .nil pass0 (pa_cons (pv 9) pa_nil)))))) (pss_one (ps_ret pe_bl)) pss_nil)))))))))
      (pss_one (ps_ret pe_bl))), ?_⟩
    refine ⟨_, rfl, l, _, rfl, .inl hS, _, _, rfl, _, _, rfl, ?_⟩
    generalize hN : (if (if (6 : Int) < (((ns.map V.int).length : Nat) : Int) then (6 : Int) else (((ns.map V.int).length : Nat) : Int)) > 1 then (if (6 : Int) < (((ns.map V.int).length : Nat) : Int) then (6 : Int) else (((ns.map V.int).length : Nat) : Int)) else 1) = N
    have hN1 : N ≤ 6 := by rw [← hN]; split <;> (try split) <;> omega
    have hN0 : 0 ≤ N := by rw [← hN]; split <;> (try split) <;> omega
    refine ⟨N, rfl, by omega, by omega, for_range (lo := 0) (n := N.toNat) (fun i σ H' => Stay a.tabs H H' ∧ ∃ o1 o2 o3 o4 o5 o6 o7 o8 o9 o10, σ = [some (.ref l), o1, o2, o3, o4, o5, o6, o7, o8, o9, o10]) ?_ ?_ ?_⟩
    · exact ⟨.refl tb, _, _, _, _, _, _, _, _, _, _, rfl⟩
    · rintro i σ H0 hi ⟨st0, o1, o2, o3, o4, o5, o6, o7, o8, o9, o10, rfl⟩
      refine ⟨_, rfl, _, rfl, l, ns, _, rfl, st0.sql hS, by omega, by omega, fun H1 p hp s1 pl1 => ?_⟩
      refine ⟨4, rfl, by decide, by decide, for_range (lo := 0) (n := 4) (fun j σ H' => Stay a.tabs H0 H' ∧ Pool H' p ∧ ∃ o3 o4 o5 o6 o7 o8 o9 o10, σ = [some (.ref l), some (.int (0 + (i : Nat))), some (.ref p), o3, o4, o5, o6, o7, o8, o9, o10]) ?_ ?_ ?_⟩
      · exact ⟨.of st0.tab s1, pl1, _, _, _, _, _, _, _, _, rfl⟩
      · rintro j σ A hj ⟨stA, plA, o3, o4, o5, o6, o7, o8, o9, o10, rfl⟩
        -- the worths
        refine ⟨_, rfl, p, 7, rfl, plA, by decide, by decide, fun n A1 hn x1 plA1 => ⟨(n : Int), rfl, by omega, by omega, fun D hD => ?_⟩⟩
        have nDp : D ≠ p := (plA1.ne hD).symm
        refine lc_it (walk_range (lo := 0) (n := (n : Int).toNat)) (fun m Hx => SameX p A1 Hx ∧ Pool Hx p ∧ ∃ (ws : List W) (acc : List V), Hx D = some (.lst acc) ∧ DpAll K Hx acc (ws.map W.d) ∧ ws.length = m ∧ ∀ x ∈ ws, GoodW MS x) ?_ (fun _ _ _ _ => trivial) ?_ ?_
        · exact ⟨Same.x (same_new hD), plA1.new hD, [], [], upd_same, .nil, rfl, fun x hx => by simp at hx⟩
        · rintro m x Hx Hx' hm ⟨x2, pl2, ws, acc, f2, d2, lw, gw⟩ ⟨rfl, rfl⟩
          refine ⟨rfl, _, rfl, by show 3 ≤ sizeLine; decide, fun L hL => ?_⟩
          have sL : Same Hx' (upd Hx' L (.lst (MS.map V.str))) := same_new hL
          refine ⟨p, L, MS, rfl, pl2.new hL, (pl2.ne hL).symm, upd_same, by decide, by decide, fun v x H3 gx x3 pl3 dv => ?_⟩
          have xx : SameX p Hx' H3 := same_sx sL x3
          have f3 : H3 D = some (.lst acc) := xx _ _ nDp f2
          have d3 : DpAll K H3 acc (ws.map W.d) := dpAll_sx xx pl2 d2 (plain_map W.d_plain ws)
          have nD : noTup (H3 D) = true := by rw [f3]; rfl
          refine ⟨acc, f3, by rw [d2.len, List.length_map, sizeLine_eq]; omega, ?_, pl3.at fun o e => by rw [upd_ne nDp.symm]; exact e, ws ++ [x], acc ++ [v], upd_same, ?_, by rw [List.length_append, lw]; rfl, fun y hy => ?_⟩
          · intro b o nb eb
            rw [upd_ne (ne_of_none eb hD)]
            exact xx _ _ nb (x2 _ _ nb eb)
          · rw [List.map_append]
            exact dpAll_app (dpAll_away nD d3 (plain_map W.d_plain ws)) (.cons (dp_away nD dv x.d_plain) .nil)
          · rcases List.mem_append.mp hy with hy | hy
            · exact gw y hy
            · rw [List.mem_singleton.mp hy]
              exact gx
        rintro A2 ⟨x2, pl2, ws, acc, f2, d2, lw, gw⟩
        have lw6 : ws.length ≤ 6 := by rw [lw]; omega
        -- the object
        refine ⟨_, rfl, _, rfl, _, rfl, p, D, _, acc, ws, MS, rfl, pl2, nDp, SqL.of f2, d2, by omega, marks_MS, gw, fun v t A3 md x3 pl3 dv => ?_⟩
        have ho := md.obj
        have hlt : t.len ≤ 6 := Nat.le_trans md.len lw6
        refine ⟨_, rfl, _, rfl, p, v, t, rfl, pl3, dv, by omega, fun v' u A4 sh x4 pl4 dv' => ?_⟩
        have dv4 : Dp K A4 v t.d := dp_sx x4 pl3 dv t.d_plain
        have ho' := sh.obj ho (by omega)
        have tr := trim_of ho hlt
        have tr' := trim_of ho' (by rw [sh.len]; exact hlt)
        have st4 : Stay a.tabs H0 A4 := stay_sx stA hp plA (x1.trans (x2.trans (x3.trans x4)))
        have sm := (tidy_is 4 _ tr.tidy).sm
        have sm' := (tidy_is 4 _ tr'.tidy).sm
        have shp : SeqAt.shaped t.srt.d = true := (tidy_is 4 _ (trim_of ((srt_shuf t).obj ho (by omega)) (by rw [(srt_shuf t).len]; exact hlt)).tidy).shaped (by decide)
        have eqs : u.srt = t.srt := sh.srt ho
        refine ⟨_, rfl, v', u.d, rfl, .inl dv', sm', fun A5 s5 => ⟨_, rfl, ifF (by rw [ho']; rfl) ?_⟩⟩
        have st5 := st4.same s5
        refine ⟨_, rfl, v', u.d, rfl, .inl (dp_stay s5 dv'), sm', st5.tab, fun u1 e1 _ w1 A6 st6 dw1 => ?_, fun z => by rw [ho'] at z; cases z⟩
        obtain rfl := Thing.d_inj e1
        refine ⟨_, rfl, v, t, rfl, st6.dp (dp_stay s5 dv4), ho, st6.tab, fun w2 A7 st7 dw2 => ?_⟩
        rw [eqs] at dw1
        refine ⟨_, _, st7.dp dw1, dw2, shp, shp, _, rfl, ifF (by rw [eqv_self_of shp]; rfl) ?_⟩
        have st57 := st6.trans st7
        refine ⟨_, rfl, v, t.d, rfl, .inl (st57.dp (dp_stay s5 dv4)), sm, st7.tab, fun t1 e2 _ w3 A8 st8 dw3 => ?_, fun z => by rw [ho] at z; cases z⟩
        obtain rfl := Thing.d_inj e2
        refine ⟨_, rfl, v', _, rfl, .inl ((st57.trans st8).dp (dp_stay s5 dv')), sm', st8.tab, fun u2 e3 _ w4 A9 st9 dw4 => ?_, fun z => by rw [ho'] at z; cases z⟩
        obtain rfl := Thing.d_inj e3
        rw [eqs] at dw4
        refine ⟨_, _, st9.dp dw3, dw4, shp, shp, _, rfl, ifF (by rw [eqv_self_of shp]; rfl) ?_⟩
        -- what is bent
        have st49 : Stay a.tabs A4 A9 := (Stay.of st4.tab s5).trans (st57.trans (st8.trans st9))
        have pl9 := st49.pool pl4
        refine ⟨_, rfl, _, rfl, 10, 20, rfl, rfl, ⟨by decide, by decide, by decide⟩, p, _, rfl, pl9, by decide, by decide, fun n2 B1 hn2 xb plB => ?_⟩
        refine ⟨v, t, n2, rfl, dp_sx xb pl9 (st49.dp dv4) t.d_plain, tr, by omega, hn2, fun q ys ds B2 s2 f2 a2 bad lds => ?_⟩
        refine ⟨by show 0 ≤ sizeLine; decide, fun e1 h1 => ?_⟩
        intro e2 h2
        refine ⟨by show 2 ≤ sizeLine; decide, fun e3 h3 => ⟨by show 6 ≤ sizeLine; decide, fun L hL => ?_⟩⟩
        have sB3 : Same B2 (upd B2 e1 (.tup [])) := same_new h1
        have g3 : upd B2 e1 (.tup []) e1 = some (.tup []) := upd_same
        generalize upd B2 e1 (.tup []) = B3 at *
        have sB4 : Same B3 (upd B3 e2 (.dK [])) := same_new h2
        have g4 : upd B3 e2 (.dK []) e2 = some (.dK []) := upd_same
        generalize upd B3 e2 (.dK []) = B4 at *
        have sB5 : Same B4 (upd B4 e3 (.tup [.str "at", .str "a"])) := same_new h3
        have g5 : upd B4 e3 (.tup [.str "at", .str "a"]) e3 = some (.tup [.str "at", .str "a"]) := upd_same
        generalize upd B4 e3 (.tup [.str "at", .str "a"]) = B5 at *
        have sB6 : Same B5 (upd B5 L (.lst [.non, .int 5, .str "list", .ref e1, .ref e2, .ref e3])) := same_new hL
        have g6 : upd B5 L (.lst [.non, .int 5, .str "list", .ref e1, .ref e2, .ref e3]) L = some (.lst [.non, .int 5, .str "list", .ref e1, .ref e2, .ref e3]) := upd_same
        generalize upd B5 L (.lst [.non, .int 5, .str "list", .ref e1, .ref e2, .ref e3]) = B6 at *
        have s36 : Same B3 B6 := sB4.trans (sB5.trans sB6)
        have s26 : Same B2 B6 := sB3.trans s36
        have ly : ys.length ≤ 100 := by rw [a2.len]; exact lds
        refine ⟨q, L, ys, _, rfl, rfl, s26 _ _ f2, g6, by simp [sizeLine_eq]; omega, fun C hC => ?_⟩
        have sB7 : Same B6 (upd B6 C (.lst (ys ++ [.non, .int 5, .str "list", .ref e1, .ref e2, .ref e3]))) := same_new hC
        have g7 : upd B6 C (.lst (ys ++ [.non, .int 5, .str "list", .ref e1, .ref e2, .ref e3])) C = some (.lst (ys ++ [.non, .int 5, .str "list", .ref e1, .ref e2, .ref e3])) := upd_same
        generalize upd B6 C (.lst (ys ++ [.non, .int 5, .str "list", .ref e1, .ref e2, .ref e3])) = B7 at *
        have s27 : Same B2 B7 := s26.trans sB7
        have s37 : Same B3 B7 := s36.trans sB7
        have st7' : Stay a.tabs H0 B7 := (stay_sx (st4.trans st49) hp pl9 xb).same (s2.trans s27)
        have bads : ∀ y ∈ ys ++ [.non, .int 5, .str "list", .ref e1, .ref e2, .ref e3], BadV K B7 y := by
          intro y hy
          rcases List.mem_append.mp hy with hy | hy
          · obtain ⟨m, hm, em⟩ := List.getElem_of_mem hy
            obtain ⟨d, hd, dd⟩ := dpAll_getV (dpAll_stay s27 a2) (by rw [List.getElem?_eq_getElem hm, em])
            exact ⟨d, .inl dd, bad d (List.mem_of_getElem? hd)⟩
          · simp only [List.mem_cons, List.not_mem_nil, or_false] at hy
            rcases hy with rfl | rfl | rfl | rfl | rfl | rfl
            · exact ⟨.none, .inl .non, bad_tidy rfl (by decide +kernel)⟩
            · exact ⟨.int 5, .inl (.int 5), bad_tidy rfl (by decide +kernel)⟩
            · exact ⟨.str "list", .inl (.str _), bad_tidy rfl (by decide +kernel)⟩
            · exact ⟨.tuple [], .inl (dp_tup (s37 _ _ g3) .nil), bad_tidy rfl (by decide +kernel)⟩
            · exact ⟨.dict [], .inr ⟨e2, [], [], rfl, (sB5.trans (sB6.trans sB7)) _ _ g4, .nil, rfl, rfl⟩, ⟨rfl, rfl, rfl, by decide +kernel, by decide +kernel⟩⟩
            · exact ⟨.tuple [.str "at", .str "a"], .inl (dp_tup ((sB6.trans sB7) _ _ g5) (.cons (.str _) (.cons (.str _) .nil))), bad_tidy (obj2_no (by decide) (by decide) (by decide)) (by decide +kernel)⟩
        refine ⟨C, rfl, ⟨_, SqL.of g7⟩, for_it (walk_list (K := K) (a := C) (xs := ys ++ [.non, .int 5, .str "list", .ref e1, .ref e2, .ref e3])) (fun m σ H' => Stay a.tabs B7 H' ∧ ∃ o7, σ = [some (.ref l), some (.int (0 + (i : Nat))), some (.ref p), some (.int (0 + (j : Nat))), some (.ref D), some v, some v', o7, o8, o9, o10]) ?_ (fun m σ H' _ h => ?_) ?_ ?_⟩
        · exact ⟨.refl st7'.tab, _, rfl⟩
        · exact SqL.of (h.1.at g7 rfl)
        · rintro m y σ C0 C0' hm ⟨stC, o7', rfl⟩ ⟨rfl, hy⟩
          obtain ⟨d, rp, bd⟩ := bads y (List.mem_of_getElem? hy)
          have rp0 := stC.rp rp
          refine ⟨_, rfl, y, d, rfl, rp0, bd.sm, fun C1 s1 => ⟨false, rfl, .inr ⟨_, rfl, _, rfl, ifF (by rw [bd.no]; rfl) ?_⟩⟩⟩
          refine ⟨_, rfl, y, d, rfl, rp_same s1 rp0, bd, (stC.same s1).tab, fun C2 s2' => ?_⟩
          refine ⟨_, rfl, y, d, rfl, rp_same (s1.trans s2') rp0, bd.sh, bd.le, bd.de, rfl, _, rfl, ifF (by simp) ?_⟩
          exact ⟨stC.same (s1.trans s2'), _, rfl⟩
        · rintro σ C0 ⟨stC, o7', rfl⟩
          exact ⟨st7'.trans stC, ((Stay.of (stay_sx (st4.trans st49) hp pl9 xb).tab (s2.trans s27)).trans stC).pool plB, _, _, _, _, _, _, _, _, rfl⟩
      · rintro σ A ⟨stA, plA, o3, o4, o5, o6, o7, o8, o9, o10, rfl⟩
        refine ⟨30, rfl, RgOk.of_le (by decide) (by decide) (by decide) (by decide), fun M hM => ?_⟩
        have hs2 : (2 : Nat) ≤ sizeLine := by decide
        have hs3 : (3 : Nat) ≤ sizeLine := by decide
        have sM : Same A (upd A M (.tup (rgV 0 30))) := same_new hM
        have gM : upd A M (.tup (rgV 0 30)) M = some (.tup (rgV 0 30)) := upd_same
        generalize upd A M (.tup (rgV 0 30)) = A1 at *
        refine ⟨_, rfl, hs2, fun t1 h1 => ?_⟩
        have s1' : Same A1 (upd A1 t1 (.tup [.str "list", .ref M])) := same_new h1
        have g1 : upd A1 t1 (.tup [.str "list", .ref M]) t1 = some (.tup [.str "list", .ref M]) := upd_same
        generalize upd A1 t1 (.tup [.str "list", .ref M]) = A2 at *
        refine ⟨_, rfl, hs2, fun t2 h2 => ?_⟩
        have s2' : Same A2 (upd A2 t2 (.tup [.str "set", .ref M])) := same_new h2
        have g2 : upd A2 t2 (.tup [.str "set", .ref M]) t2 = some (.tup [.str "set", .ref M]) := upd_same
        generalize upd A2 t2 (.tup [.str "set", .ref M]) = A3 at *
        have gM3 := s2' _ _ (s1' _ _ gM)
        refine ⟨_, rfl, _, rfl, _, _, _, _, rfl, .tup (SqT.of gM3), .tup (SqT.of gM3), by rw [rgV_length]; decide, fun A4 Z ts s4 hZ gZ hts ht => ⟨hs2, fun t3 h3 => ⟨hs3, fun L hL => ?_⟩⟩⟩
        have s5' : Same A4 (upd A4 t3 (.tup [.str "dict", .ref Z])) := same_new h3
        have g5 : upd A4 t3 (.tup [.str "dict", .ref Z]) t3 = some (.tup [.str "dict", .ref Z]) := upd_same
        generalize upd A4 t3 (.tup [.str "dict", .ref Z]) = A5 at *
        have s6' : Same A5 (upd A5 L (.lst [.ref t1, .ref t2, .ref t3])) := same_new hL
        have g6 : upd A5 L (.lst [.ref t1, .ref t2, .ref t3]) L = some (.lst [.ref t1, .ref t2, .ref t3]) := upd_same
        generalize upd A5 L (.lst [.ref t1, .ref t2, .ref t3]) = A6 at *
        have s36 : Same A3 A6 := (show Same A3 A4 from s4).trans (s5'.trans s6')
        have s26 : Same A2 A6 := s2'.trans s36
        have s06 : Same A A6 := sM.trans (s1'.trans s26)
        have dM : ∀ {H' : Hp}, DpAll K H' (rgV 0 30) manyD := dpAll_map.mpr fun i _ => .int _
        have dZ : DpAll K A6 (ts.map V.ref) zipD := by
          refine dpAll_idx (by rw [List.length_map, hts, rgV_length]; decide) fun j v d hv hd => ?_
          rw [List.getElem?_map] at hv
          obtain ⟨tt, et, rfl⟩ := Option.map_eq_some_iff.mp hv
          obtain ⟨x, y, hx, hy, hty⟩ := ht j tt et
          have hj : j < 30 := by
            have := (List.getElem?_eq_some_iff.mp hd).1
            simpa [zipD] using this
          have ex : (rgV 0 30)[j]? = some (.int (0 + (j : Nat))) := by
            unfold rgV
            rw [List.getElem?_map, List.getElem?_range (by show j < 30; exact hj)]
            rfl
          have ed : zipD[j]? = some (.tuple [.int (0 + (j : Nat)), .int (0 + (j : Nat))]) := by
            unfold zipD
            rw [List.getElem?_map, List.getElem?_range hj]
            rfl
          rw [ex] at hx hy
          rw [ed] at hd
          cases hx
          cases hy
          cases hd
          exact dp_tup ((s5'.trans s6') _ _ hty) (.cons (.int _) (.cons (.int _) .nil))
        refine ⟨L, rfl, ⟨_, SqL.of g6⟩, for_it (walk_list (K := K) (a := L) (xs := [.ref t1, .ref t2, .ref t3])) (fun m σ H' => Same A6 H' ∧ ∃ o5 o9, σ = [some (.ref l), some (.int (0 + (i : Nat))), some (.ref p), o3, o4, o5, o6, o7, some (.ref M), o9, o10]) ?_ (fun m σ H' _ h => ?_) ?_ ?_⟩
        · exact ⟨Same.refl _, _, _, rfl⟩
        · exact SqL.of (h.1 _ _ g6)
        · rintro m y σ C0 C0' hm ⟨sC, o5', o9', rfl⟩ ⟨rfl, hy⟩
          have hm3 : m < 3 := hm
          match m, hm3, hy with
          | 0, _, hy =>
            cases hy
            have gt : C0' t1 = some (.tup [.str "list", .ref M]) := (s26.trans sC) _ _ g1
            have gq : C0' M = some (.tup (rgV 0 30)) := (s36.trans sC) _ _ gM3
            have al : DpAll K C0' (rgV 0 30) manyD := dM
            have dt : Dp K C0' (.ref t1) (.tuple [.str "list", .tuple manyD]) := dp_tup gt (.cons (.str _) (.cons (dp_tup gq al) .nil))
            refine ⟨fun σ H' => Same C0' H' ∧ ∃ v9, σ = [some (.ref l), some (.int (0 + (i : Nat))), some (.ref p), o3, o4, some (.ref t1), o6, o7, some (.ref M), some v9, o10] ∧ Dp K H' v9 (.tuple [.str "list", .tuple (manyD ++ [.int 31])]), ?_, ?_⟩
            · refine ⟨_, rfl, t1, _, 0, _, rfl, rfl, SqT.of gt, rfl, _, rfl, t1, _, 1, _, rfl, rfl, SqT.of gt, rfl, _, rfl, t1, _, 0, _, rfl, rfl, SqT.of gt, rfl, rfl, _, rfl, ifF (by decide) ?_⟩
              refine ⟨by show 1 ≤ sizeLine; decide, fun u1 hu1 => ?_⟩
              have su : Same C0' (upd C0' u1 (.tup [.int 31])) := same_new hu1
              have gu : upd C0' u1 (.tup [.int 31]) u1 = some (.tup [.int 31]) := upd_same
              generalize upd C0' u1 (.tup [.int 31]) = C1 at *
              have de : DpAll K C1 [.int 31] [.int 31] := .cons (.int _) .nil
              have ln := al.len
              refine ⟨M, u1, _, _, rfl, rfl, SqT.of (su _ _ gq), SqT.of gu, by rw [ln]; show 30 + 1 ≤ sizeLine; decide, fun z => (by rw [z] at ln; exact absurd ln (by decide)), fun _ z => (by cases z), fun _ _ u2 hu2 => ⟨hs2, fun u3 hu3 => ?_⟩⟩
              have s8 := same_new2 (o := .tup (rgV 0 30 ++ [.int 31])) su hu2
              have s9 := same_new2 (o := .tup [.str "list", .ref u2]) s8 hu3
              refine ⟨s9, _, rfl, dp_tup upd_same (.cons (.str _) (.cons (dp_tup (vs := (rgV 0 30 ++ [.int 31])) ?_ ?_) .nil))⟩
              · rw [upd_ne (ne_of_none upd_same hu3)]
                exact upd_same
              · exact dpAll_app (dpAll_stay s9 al) (dpAll_stay (same_new2 (same_new hu2) hu3) de)
            · rintro σ C4 ⟨sC4, v9, rfl, d9⟩
              refine ⟨_, rfl, _, _, rfl, .inl (dp_stay sC4 dt), by decide +kernel, fun C5 sC5 => ⟨_, rfl, ifF (by decide +kernel) ?_⟩⟩
              refine ⟨_, rfl, _, _, rfl, .inl (dp_stay sC5 d9), by decide +kernel, fun C6 sC6 => ⟨_, rfl, ifF (by decide +kernel) ?_⟩⟩
              exact ⟨sC.trans (sC4.trans (sC5.trans sC6)), _, _, rfl⟩
          | 1, _, hy =>
            cases hy
            have gt : C0' t2 = some (.tup [.str "set", .ref M]) := (s36.trans sC) _ _ g2
            have gq : C0' M = some (.tup (rgV 0 30)) := (s36.trans sC) _ _ gM3
            have al : DpAll K C0' (rgV 0 30) manyD := dM
            have dt : Dp K C0' (.ref t2) (.tuple [.str "set", .tuple manyD]) := dp_tup gt (.cons (.str _) (.cons (dp_tup gq al) .nil))
            refine ⟨fun σ H' => Same C0' H' ∧ ∃ v9, σ = [some (.ref l), some (.int (0 + (i : Nat))), some (.ref p), o3, o4, some (.ref t2), o6, o7, some (.ref M), some v9, o10] ∧ Dp K H' v9 (.tuple [.str "set", .tuple (manyD ++ [.int 31])]), ?_, ?_⟩
            · refine ⟨_, rfl, t2, _, 0, _, rfl, rfl, SqT.of gt, rfl, _, rfl, t2, _, 1, _, rfl, rfl, SqT.of gt, rfl, _, rfl, t2, _, 0, _, rfl, rfl, SqT.of gt, rfl, rfl, _, rfl, ifF (by decide) ?_⟩
              refine ⟨by show 1 ≤ sizeLine; decide, fun u1 hu1 => ?_⟩
              have su : Same C0' (upd C0' u1 (.tup [.int 31])) := same_new hu1
              have gu : upd C0' u1 (.tup [.int 31]) u1 = some (.tup [.int 31]) := upd_same
              generalize upd C0' u1 (.tup [.int 31]) = C1 at *
              have de : DpAll K C1 [.int 31] [.int 31] := .cons (.int _) .nil
              have ln := al.len
              refine ⟨M, u1, _, _, rfl, rfl, SqT.of (su _ _ gq), SqT.of gu, by rw [ln]; show 30 + 1 ≤ sizeLine; decide, fun z => (by rw [z] at ln; exact absurd ln (by decide)), fun _ z => (by cases z), fun _ _ u2 hu2 => ⟨hs2, fun u3 hu3 => ?_⟩⟩
              have s8 := same_new2 (o := .tup (rgV 0 30 ++ [.int 31])) su hu2
              have s9 := same_new2 (o := .tup [.str "set", .ref u2]) s8 hu3
              refine ⟨s9, _, rfl, dp_tup upd_same (.cons (.str _) (.cons (dp_tup (vs := (rgV 0 30 ++ [.int 31])) ?_ ?_) .nil))⟩
              · rw [upd_ne (ne_of_none upd_same hu3)]
                exact upd_same
              · exact dpAll_app (dpAll_stay s9 al) (dpAll_stay (same_new2 (same_new hu2) hu3) de)
            · rintro σ C4 ⟨sC4, v9, rfl, d9⟩
              refine ⟨_, rfl, _, _, rfl, .inl (dp_stay sC4 dt), by decide +kernel, fun C5 sC5 => ⟨_, rfl, ifF (by decide +kernel) ?_⟩⟩
              refine ⟨_, rfl, _, _, rfl, .inl (dp_stay sC5 d9), by decide +kernel, fun C6 sC6 => ⟨_, rfl, ifF (by decide +kernel) ?_⟩⟩
              exact ⟨sC.trans (sC4.trans (sC5.trans sC6)), _, _, rfl⟩
          | 2, _, hy =>
            cases hy
            have gt : C0' t3 = some (.tup [.str "dict", .ref Z]) := (s6'.trans sC) _ _ g5
            have gq : C0' Z = some (.tup (ts.map V.ref)) := (s5'.trans (s6'.trans sC)) _ _ gZ
            have al : DpAll K C0' (ts.map V.ref) zipD := (dpAll_stay sC dZ)
            have dt : Dp K C0' (.ref t3) (.tuple [.str "dict", .tuple zipD]) := dp_tup gt (.cons (.str _) (.cons (dp_tup gq al) .nil))
            refine ⟨fun σ H' => Same C0' H' ∧ ∃ v9, σ = [some (.ref l), some (.int (0 + (i : Nat))), some (.ref p), o3, o4, some (.ref t3), o6, o7, some (.ref M), some v9, o10] ∧ Dp K H' v9 (.tuple [.str "dict", .tuple (zipD ++ [.tuple [.int 31, .int 31]])]), ?_, ?_⟩
            · refine ⟨_, rfl, t3, _, 0, _, rfl, rfl, SqT.of gt, rfl, _, rfl, t3, _, 1, _, rfl, rfl, SqT.of gt, rfl, _, rfl, t3, _, 0, _, rfl, rfl, SqT.of gt, rfl, rfl, _, rfl, ifT (by rfl) ?_⟩
              refine ⟨hs2, fun u0 hu0 => ?_⟩
              have su0 : Same C0' (upd C0' u0 (.tup [.int 31, .int 31])) := same_new hu0
              have gu0 : upd C0' u0 (.tup [.int 31, .int 31]) u0 = some (.tup [.int 31, .int 31]) := upd_same
              generalize upd C0' u0 (.tup [.int 31, .int 31]) = C9 at *
              refine ⟨by show 1 ≤ sizeLine; decide, fun u1 hu1 => ?_⟩
              have su1 : Same C9 (upd C9 u1 (.tup [.ref u0])) := same_new hu1
              have gu : upd C9 u1 (.tup [.ref u0]) u1 = some (.tup [.ref u0]) := upd_same
              generalize upd C9 u1 (.tup [.ref u0]) = C1 at *
              have su : Same C0' C1 := su0.trans su1
              have de : DpAll K C1 [.ref u0] [.tuple [.int 31, .int 31]] := .cons (dp_tup (su1 _ _ gu0) (.cons (.int _) (.cons (.int _) .nil))) .nil
              have ln := al.len
              refine ⟨Z, u1, _, _, rfl, rfl, SqT.of (su _ _ gq), SqT.of gu, by rw [ln]; show 30 + 1 ≤ sizeLine; decide, fun z => (by rw [z] at ln; exact absurd ln (by decide)), fun _ z => (by cases z), fun _ _ u2 hu2 => ⟨hs2, fun u3 hu3 => ?_⟩⟩
              have s8 := same_new2 (o := .tup (ts.map V.ref ++ [.ref u0])) su hu2
              have s9 := same_new2 (o := .tup [.str "dict", .ref u2]) s8 hu3
              refine ⟨s9, _, rfl, dp_tup upd_same (.cons (.str _) (.cons (dp_tup (vs := (ts.map V.ref ++ [.ref u0])) ?_ ?_) .nil))⟩
              · rw [upd_ne (ne_of_none upd_same hu3)]
                exact upd_same
              · exact dpAll_app (dpAll_stay s9 al) (dpAll_stay (same_new2 (same_new hu2) hu3) de)
            · rintro σ C4 ⟨sC4, v9, rfl, d9⟩
              refine ⟨_, rfl, _, _, rfl, .inl (dp_stay sC4 dt), by decide +kernel, fun C5 sC5 => ⟨_, rfl, ifF (by decide +kernel) ?_⟩⟩
              refine ⟨_, rfl, _, _, rfl, .inl (dp_stay sC5 d9), by decide +kernel, fun C6 sC6 => ⟨_, rfl, ifF (by decide +kernel) ?_⟩⟩
              exact ⟨sC.trans (sC4.trans (sC5.trans sC6)), _, _, rfl⟩
          | m + 3, hm3, _ => exact absurd hm3 (by omega)
        · rintro σ C0 ⟨sC, o5', o9', rfl⟩
          exact ⟨st0.trans (stA.same (s06.trans sC)), _, _, _, _, _, _, _, _, _, _, rfl⟩
    · rintro σ H' ⟨st0, o1, o2, o3, o4, o5, o6, o7, o8, o9, o10, rfl⟩
      exact k _
end
end SB

namespace SB
open PySem L2
theorem all_mk {l : PySem.W.OpenLaw} {w : World} {q : Program} {K : PySem.W.Frag} {h : Heap} {mg : Str → Option Value} {fa : Addr} (X : K.In h) (G : h.Ns mainGlobals mg) (hfa : mg "law" = some (.ref fa))
    {oc0 kV0 dc0 pm0 cd0 ct0 : Value} {od0 an0 : Option Addr} {sl0 : Array (Option Value)} {f0 : Addr}
    (a0 : PySem.W.nsIn K mainGlobals "is_made_of" = some (some (.ref f0))) (l0 : K.lookup f0 = some ⟨oc0, od0, .func (PySem.W.fnOf "is_made_of" "is_made_of" (defArgs s_is_made_of) (defBody s_is_made_of) (defScope s_is_made_of) .none kV0 dc0 pm0 an0 cd0 ct0), sl0⟩) (c0 : PySem.W.codeIn K cd0 "is_made_of" = true) (k0 : PySem.W.keepIn K (.ref f0) = true)
    {oc1 kV1 dc1 pm1 cd1 ct1 : Value} {od1 an1 : Option Addr} {sl1 : Array (Option Value)} {f1 : Addr}
    (a1 : PySem.W.nsIn K mainGlobals "is_name" = some (some (.ref f1))) (l1 : K.lookup f1 = some ⟨oc1, od1, .func (PySem.W.fnOf "is_name" "is_name" (defArgs s_is_name) (defBody s_is_name) (defScope s_is_name) .none kV1 dc1 pm1 an1 cd1 ct1), sl1⟩) (c1 : PySem.W.codeIn K cd1 "is_name" = true) (k1 : PySem.W.keepIn K (.ref f1) = true)
    {oc2 kV2 dc2 pm2 cd2 ct2 : Value} {od2 an2 : Option Addr} {sl2 : Array (Option Value)} {f2 : Addr}
    (a2 : PySem.W.nsIn K mainGlobals "is_mark" = some (some (.ref f2))) (l2 : K.lookup f2 = some ⟨oc2, od2, .func (PySem.W.fnOf "is_mark" "is_mark" (defArgs s_is_mark) (defBody s_is_mark) (defScope s_is_mark) .none kV2 dc2 pm2 an2 cd2 ct2), sl2⟩) (c2 : PySem.W.codeIn K cd2 "is_mark" = true) (k2 : PySem.W.keepIn K (.ref f2) = true)
    {oc3 kV3 dc3 pm3 cd3 ct3 : Value} {od3 an3 : Option Addr} {sl3 : Array (Option Value)} {f3 : Addr}
    (a3 : PySem.W.nsIn K mainGlobals "is_integer" = some (some (.ref f3))) (l3 : K.lookup f3 = some ⟨oc3, od3, .func (PySem.W.fnOf "is_integer" "is_integer" (defArgs s_is_integer) (defBody s_is_integer) (defScope s_is_integer) .none kV3 dc3 pm3 an3 cd3 ct3), sl3⟩) (c3 : PySem.W.codeIn K cd3 "is_integer" = true) (k3 : PySem.W.keepIn K (.ref f3) = true)
    {oc4 kV4 dc4 pm4 cd4 ct4 : Value} {od4 an4 : Option Addr} {sl4 : Array (Option Value)} {f4 : Addr}
    (a4 : PySem.W.nsIn K mainGlobals "is_plain" = some (some (.ref f4))) (l4 : K.lookup f4 = some ⟨oc4, od4, .func (PySem.W.fnOf "is_plain" "is_plain" (defArgs s_is_plain) (defBody s_is_plain) (defScope s_is_plain) .none kV4 dc4 pm4 an4 cd4 ct4), sl4⟩) (c4 : PySem.W.codeIn K cd4 "is_plain" = true) (k4 : PySem.W.keepIn K (.ref f4) = true)
    {oc5 kV5 dc5 pm5 cd5 ct5 : Value} {od5 an5 : Option Addr} {sl5 : Array (Option Value)} {f5 : Addr}
    (a5 : PySem.W.nsIn K mainGlobals "is_reference" = some (some (.ref f5))) (l5 : K.lookup f5 = some ⟨oc5, od5, .func (PySem.W.fnOf "is_reference" "is_reference" (defArgs s_is_reference) (defBody s_is_reference) (defScope s_is_reference) .none kV5 dc5 pm5 an5 cd5 ct5), sl5⟩) (c5 : PySem.W.codeIn K cd5 "is_reference" = true) (k5 : PySem.W.keepIn K (.ref f5) = true)
    {oc6 kV6 dc6 pm6 cd6 ct6 : Value} {od6 an6 : Option Addr} {sl6 : Array (Option Value)} {f6 : Addr}
    (a6 : PySem.W.nsIn K mainGlobals "is_worth" = some (some (.ref f6))) (l6 : K.lookup f6 = some ⟨oc6, od6, .func (PySem.W.fnOf "is_worth" "is_worth" (defArgs s_is_worth) (defBody s_is_worth) (defScope s_is_worth) .none kV6 dc6 pm6 an6 cd6 ct6), sl6⟩) (c6 : PySem.W.codeIn K cd6 "is_worth" = true) (k6 : PySem.W.keepIn K (.ref f6) = true)
    {oc7 kV7 dc7 pm7 cd7 ct7 : Value} {od7 an7 : Option Addr} {sl7 : Array (Option Value)} {f7 : Addr}
    (a7 : PySem.W.nsIn K mainGlobals "rank" = some (some (.ref f7))) (l7 : K.lookup f7 = some ⟨oc7, od7, .func (PySem.W.fnOf "rank" "rank" (defArgs s_rank) (defBody s_rank) (defScope s_rank) .none kV7 dc7 pm7 an7 cd7 ct7), sl7⟩) (c7 : PySem.W.codeIn K cd7 "rank" = true) (k7 : PySem.W.keepIn K (.ref f7) = true)
    {oc8 kV8 dc8 pm8 cd8 ct8 : Value} {od8 an8 : Option Addr} {sl8 : Array (Option Value)} {f8 : Addr}
    (a8 : PySem.W.nsIn K mainGlobals "are_different" = some (some (.ref f8))) (l8 : K.lookup f8 = some ⟨oc8, od8, .func (PySem.W.fnOf "are_different" "are_different" (defArgs s_are_different) (defBody s_are_different) (defScope s_are_different) .none kV8 dc8 pm8 an8 cd8 ct8), sl8⟩) (c8 : PySem.W.codeIn K cd8 "are_different" = true) (k8 : PySem.W.keepIn K (.ref f8) = true)
    {oc9 kV9 dc9 pm9 cd9 ct9 : Value} {od9 an9 : Option Addr} {sl9 : Array (Option Value)} {f9 : Addr}
    (a9 : PySem.W.nsIn K mainGlobals "are_pairs" = some (some (.ref f9))) (l9 : K.lookup f9 = some ⟨oc9, od9, .func (PySem.W.fnOf "are_pairs" "are_pairs" (defArgs s_are_pairs) (defBody s_are_pairs) (defScope s_are_pairs) .none kV9 dc9 pm9 an9 cd9 ct9), sl9⟩) (c9 : PySem.W.codeIn K cd9 "are_pairs" = true) (k9 : PySem.W.keepIn K (.ref f9) = true)
    {oc10 kV10 dc10 pm10 cd10 ct10 : Value} {od10 an10 : Option Addr} {sl10 : Array (Option Value)} {f10 : Addr}
    (a10 : PySem.W.nsIn K mainGlobals "are_fields" = some (some (.ref f10))) (l10 : K.lookup f10 = some ⟨oc10, od10, .func (PySem.W.fnOf "are_fields" "are_fields" (defArgs s_are_fields) (defBody s_are_fields) (defScope s_are_fields) .none kV10 dc10 pm10 an10 cd10 ct10), sl10⟩) (c10 : PySem.W.codeIn K cd10 "are_fields" = true) (k10 : PySem.W.keepIn K (.ref f10) = true)
    {oc11 kV11 dc11 pm11 cd11 ct11 : Value} {od11 an11 : Option Addr} {sl11 : Array (Option Value)} {f11 : Addr}
    (a11 : PySem.W.nsIn K mainGlobals "are_entries" = some (some (.ref f11))) (l11 : K.lookup f11 = some ⟨oc11, od11, .func (PySem.W.fnOf "are_entries" "are_entries" (defArgs s_are_entries) (defBody s_are_entries) (defScope s_are_entries) .none kV11 dc11 pm11 an11 cd11 ct11), sl11⟩) (c11 : PySem.W.codeIn K cd11 "are_entries" = true) (k11 : PySem.W.keepIn K (.ref f11) = true)
    {oc12 kV12 dc12 pm12 cd12 ct12 : Value} {od12 an12 : Option Addr} {sl12 : Array (Option Value)} {f12 : Addr}
    (a12 : PySem.W.nsIn K mainGlobals "are_worths" = some (some (.ref f12))) (l12 : K.lookup f12 = some ⟨oc12, od12, .func (PySem.W.fnOf "are_worths" "are_worths" (defArgs s_are_worths) (defBody s_are_worths) (defScope s_are_worths) .none kV12 dc12 pm12 an12 cd12 ct12), sl12⟩) (c12 : PySem.W.codeIn K cd12 "are_worths" = true) (k12 : PySem.W.keepIn K (.ref f12) = true)
    {oc13 kV13 dc13 pm13 cd13 ct13 : Value} {od13 an13 : Option Addr} {sl13 : Array (Option Value)} {f13 : Addr}
    (a13 : PySem.W.nsIn K mainGlobals "is_object" = some (some (.ref f13))) (l13 : K.lookup f13 = some ⟨oc13, od13, .func (PySem.W.fnOf "is_object" "is_object" (defArgs s_is_object) (defBody s_is_object) (defScope s_is_object) .none kV13 dc13 pm13 an13 cd13 ct13), sl13⟩) (c13 : PySem.W.codeIn K cd13 "is_object" = true) (k13 : PySem.W.keepIn K (.ref f13) = true)
    {oc14 kV14 dc14 pm14  ct14 : Value} {od14 an14 : Option Addr} {sl14 : Array (Option Value)} {f14 : Addr} {c_in_order P_in_order : Addr} {ccl14 : Value} {cdd14 : Option Addr} {vs14 : Array Value} {ccs14 : Array (Option Value)}
    (a14 : PySem.W.nsIn K mainGlobals "in_order" = some (some (.ref f14))) (l14 : K.lookup f14 = some ⟨oc14, od14, .func (PySem.W.fnOf "in_order" "in_order" (defArgs s_in_order) (defBody s_in_order) (defScope s_in_order) .none kV14 dc14 pm14 an14 (.ref c_in_order) ct14), sl14⟩) (c14 : PySem.W.codeIn K (.ref c_in_order) "in_order" = true) (k14 : PySem.W.keepIn K (.ref f14) = true)
    (co14 : K.lookup c_in_order = some ⟨ccl14, cdd14, .fields vs14, ccs14⟩) (ev14 : vs14[11]? = some (.ref P_in_order))
    {oc15 kV15 dc15 pm15 cd15 ct15 : Value} {od15 an15 : Option Addr} {sl15 : Array (Option Value)} {f15 : Addr}
    (a15 : PySem.W.nsIn K mainGlobals "check_object" = some (some (.ref f15))) (l15 : K.lookup f15 = some ⟨oc15, od15, .func (PySem.W.fnOf "check_object" "check_object" (defArgs s_check_object) (defBody s_check_object) (defScope s_check_object) .none kV15 dc15 pm15 an15 cd15 ct15), sl15⟩) (c15 : PySem.W.codeIn K cd15 "check_object" = true) (k15 : PySem.W.keepIn K (.ref f15) = true)
    {oc16 kV16 dc16 pm16 cd16 ct16 : Value} {od16 an16 : Option Addr} {sl16 : Array (Option Value)} {f16 : Addr}
    (a16 : PySem.W.nsIn K mainGlobals "ordered" = some (some (.ref f16))) (l16 : K.lookup f16 = some ⟨oc16, od16, .func (PySem.W.fnOf "ordered" "ordered" (defArgs s_ordered) (defBody s_ordered) (defScope s_ordered) .none kV16 dc16 pm16 an16 cd16 ct16), sl16⟩) (c16 : PySem.W.codeIn K cd16 "ordered" = true) (k16 : PySem.W.keepIn K (.ref f16) = true)
    {oc17 kV17 dc17 pm17 cd17 ct17 : Value} {od17 an17 : Option Addr} {sl17 : Array (Option Value)} {f17 : Addr}
    (a17 : PySem.W.nsIn K mainGlobals "_law_pool" = some (some (.ref f17))) (l17 : K.lookup f17 = some ⟨oc17, od17, .func (PySem.W.fnOf "_law_pool" "_law_pool" (defArgs s_l_pool) (defBody s_l_pool) (defScope s_l_pool) .none kV17 dc17 pm17 an17 cd17 ct17), sl17⟩) (c17 : PySem.W.codeIn K cd17 "_law_pool" = true) (k17 : PySem.W.keepIn K (.ref f17) = true)
    {oc18 kV18 dc18 pm18 cd18 ct18 : Value} {od18 an18 : Option Addr} {sl18 : Array (Option Value)} {f18 : Addr}
    (a18 : PySem.W.nsIn K mainGlobals "_law_draw" = some (some (.ref f18))) (l18 : K.lookup f18 = some ⟨oc18, od18, .func (PySem.W.fnOf "_law_draw" "_law_draw" (defArgs s_l_draw) (defBody s_l_draw) (defScope s_l_draw) .none kV18 dc18 pm18 an18 cd18 ct18), sl18⟩) (c18 : PySem.W.codeIn K cd18 "_law_draw" = true) (k18 : PySem.W.keepIn K (.ref f18) = true)
    {oc19 kV19 dc19 pm19 cd19 ct19 : Value} {od19 an19 : Option Addr} {sl19 : Array (Option Value)} {f19 : Addr}
    (a19 : PySem.W.nsIn K mainGlobals "_law_mixed" = some (some (.ref f19))) (l19 : K.lookup f19 = some ⟨oc19, od19, .func (PySem.W.fnOf "_law_mixed" "_law_mixed" (defArgs s_l_mixed) (defBody s_l_mixed) (defScope s_l_mixed) .none kV19 dc19 pm19 an19 cd19 ct19), sl19⟩) (c19 : PySem.W.codeIn K cd19 "_law_mixed" = true) (k19 : PySem.W.keepIn K (.ref f19) = true)
    {oc20 kV20 dc20 pm20 cd20 ct20 : Value} {od20 an20 : Option Addr} {sl20 : Array (Option Value)} {f20 : Addr}
    (a20 : PySem.W.nsIn K mainGlobals "_law_worth" = some (some (.ref f20))) (l20 : K.lookup f20 = some ⟨oc20, od20, .func (PySem.W.fnOf "_law_worth" "_law_worth" (defArgs s_l_worth) (defBody s_l_worth) (defScope s_l_worth) .none kV20 dc20 pm20 an20 cd20 ct20), sl20⟩) (c20 : PySem.W.codeIn K cd20 "_law_worth" = true) (k20 : PySem.W.keepIn K (.ref f20) = true)
    {oc21 kV21 dc21 pm21 cd21 ct21 : Value} {od21 an21 : Option Addr} {sl21 : Array (Option Value)} {f21 : Addr}
    (a21 : PySem.W.nsIn K mainGlobals "_law_object" = some (some (.ref f21))) (l21 : K.lookup f21 = some ⟨oc21, od21, .func (PySem.W.fnOf "_law_object" "_law_object" (defArgs s_l_object) (defBody s_l_object) (defScope s_l_object) .none kV21 dc21 pm21 an21 cd21 ct21), sl21⟩) (c21 : PySem.W.codeIn K cd21 "_law_object" = true) (k21 : PySem.W.keepIn K (.ref f21) = true)
    {oc22 kV22 dc22 pm22 cd22 ct22 : Value} {od22 an22 : Option Addr} {sl22 : Array (Option Value)} {f22 : Addr}
    (a22 : PySem.W.nsIn K mainGlobals "_law_parts" = some (some (.ref f22))) (l22 : K.lookup f22 = some ⟨oc22, od22, .func (PySem.W.fnOf "_law_parts" "_law_parts" (defArgs s_l_parts) (defBody s_l_parts) (defScope s_l_parts) .none kV22 dc22 pm22 an22 cd22 ct22), sl22⟩) (c22 : PySem.W.codeIn K cd22 "_law_parts" = true) (k22 : PySem.W.keepIn K (.ref f22) = true)
    {oc23 kV23 dc23 pm23 cd23 ct23 : Value} {od23 an23 : Option Addr} {sl23 : Array (Option Value)} {f23 : Addr}
    (a23 : PySem.W.nsIn K mainGlobals "_law_shuffled" = some (some (.ref f23))) (l23 : K.lookup f23 = some ⟨oc23, od23, .func (PySem.W.fnOf "_law_shuffled" "_law_shuffled" (defArgs s_l_shuffled) (defBody s_l_shuffled) (defScope s_l_shuffled) .none kV23 dc23 pm23 an23 cd23 ct23), sl23⟩) (c23 : PySem.W.codeIn K cd23 "_law_shuffled" = true) (k23 : PySem.W.keepIn K (.ref f23) = true)
    {oc24 kV24 dc24 pm24 cd24 ct24 : Value} {od24 an24 : Option Addr} {sl24 : Array (Option Value)} {f24 : Addr}
    (a24 : PySem.W.nsIn K mainGlobals "_law_rank" = some (some (.ref f24))) (l24 : K.lookup f24 = some ⟨oc24, od24, .func (PySem.W.fnOf "_law_rank" "_law_rank" (defArgs s_l_rank) (defBody s_l_rank) (defScope s_l_rank) .none kV24 dc24 pm24 an24 cd24 ct24), sl24⟩) (c24 : PySem.W.codeIn K cd24 "_law_rank" = true) (k24 : PySem.W.keepIn K (.ref f24) = true)
    {oc25 kV25 dc25 pm25  ct25 : Value} {od25 an25 : Option Addr} {sl25 : Array (Option Value)} {f25 : Addr} {c_l_due P_l_due : Addr} {ccl25 : Value} {cdd25 : Option Addr} {vs25 : Array Value} {ccs25 : Array (Option Value)}
    (a25 : PySem.W.nsIn K mainGlobals "_law_due" = some (some (.ref f25))) (l25 : K.lookup f25 = some ⟨oc25, od25, .func (PySem.W.fnOf "_law_due" "_law_due" (defArgs s_l_due) (defBody s_l_due) (defScope s_l_due) .none kV25 dc25 pm25 an25 (.ref c_l_due) ct25), sl25⟩) (c25 : PySem.W.codeIn K (.ref c_l_due) "_law_due" = true) (k25 : PySem.W.keepIn K (.ref f25) = true)
    (co25 : K.lookup c_l_due = some ⟨ccl25, cdd25, .fields vs25, ccs25⟩) (ev25 : vs25[11]? = some (.ref P_l_due))
    {oc26 kV26 dc26 pm26 cd26 ct26 : Value} {od26 an26 : Option Addr} {sl26 : Array (Option Value)} {f26 : Addr}
    (a26 : PySem.W.nsIn K mainGlobals "_law_told" = some (some (.ref f26))) (l26 : K.lookup f26 = some ⟨oc26, od26, .func (PySem.W.fnOf "_law_told" "_law_told" (defArgs s_l_told) (defBody s_l_told) (defScope s_l_told) .none kV26 dc26 pm26 an26 cd26 ct26), sl26⟩) (c26 : PySem.W.codeIn K cd26 "_law_told" = true) (k26 : PySem.W.keepIn K (.ref f26) = true)
    {oc27 kV27 dc27 pm27 cd27 ct27 : Value} {od27 an27 : Option Addr} {sl27 : Array (Option Value)} {f27 : Addr}
    (a27 : PySem.W.nsIn K mainGlobals "_law_bent" = some (some (.ref f27))) (l27 : K.lookup f27 = some ⟨oc27, od27, .func (PySem.W.fnOf "_law_bent" "_law_bent" (defArgs s_l_bent) (defBody s_l_bent) (defScope s_l_bent) .none kV27 dc27 pm27 an27 cd27 ct27), sl27⟩) (c27 : PySem.W.codeIn K cd27 "_law_bent" = true) (k27 : PySem.W.keepIn K (.ref f27) = true)
    {oc28 kV28 dc28 pm28 cd28 ct28 : Value} {od28 an28 : Option Addr} {sl28 : Array (Option Value)} {f28 : Addr}
    (a28 : PySem.W.nsIn K mainGlobals "law" = some (some (.ref f28))) (l28 : K.lookup f28 = some ⟨oc28, od28, .func (PySem.W.fnOf "law" "law" (defArgs s_law) (defBody s_law) (defScope s_law) .none kV28 dc28 pm28 an28 cd28 ct28), sl28⟩) (c28 : PySem.W.codeIn K cd28 "law" = true) (k28 : PySem.W.keepIn K (.ref f28) = true)
    {t_LETTERS : Tok} (g_LETTERS : PySem.W.nsIn K mainGlobals "LETTERS" = some (some (.str "abcdefghijklmnopqrstuvwxyz" t_LETTERS)))
    {t_DIGITS : Tok} (g_DIGITS : PySem.W.nsIn K mainGlobals "DIGITS" = some (some (.str "0123456789" t_DIGITS)))
    {t_MOST_PARTS : Tok} (g_MOST_PARTS : PySem.W.nsIn K mainGlobals "MOST_PARTS" = some (some (.int 30 t_MOST_PARTS)))
    {t_AT : Tok} (g_AT : PySem.W.nsIn K mainGlobals "AT" = some (some (.str "at" t_AT)))
    (z__law_entry : PySem.W.nsIn K mainGlobals "_law_entry" = some none)
    (z_abs : PySem.W.nsIn K mainGlobals "abs" = some none)
    (z_all : PySem.W.nsIn K mainGlobals "all" = some none)
    (z_bool : PySem.W.nsIn K mainGlobals "bool" = some none)
    (z_dict : PySem.W.nsIn K mainGlobals "dict" = some none)
    (z_entry : PySem.W.nsIn K mainGlobals "entry" = some none)
    (z_enumerate : PySem.W.nsIn K mainGlobals "enumerate" = some none)
    (z_field : PySem.W.nsIn K mainGlobals "field" = some none)
    (z_int : PySem.W.nsIn K mainGlobals "int" = some none)
    (z_isinstance : PySem.W.nsIn K mainGlobals "isinstance" = some none)
    (z_len : PySem.W.nsIn K mainGlobals "len" = some none)
    (z_list : PySem.W.nsIn K mainGlobals "list" = some none)
    (z_max : PySem.W.nsIn K mainGlobals "max" = some none)
    (z_min : PySem.W.nsIn K mainGlobals "min" = some none)
    (z_range : PySem.W.nsIn K mainGlobals "range" = some none)
    (z_repr : PySem.W.nsIn K mainGlobals "repr" = some none)
    (z_sorted : PySem.W.nsIn K mainGlobals "sorted" = some none)
    (z_str : PySem.W.nsIn K mainGlobals "str" = some none)
    (z_sum : PySem.W.nsIn K mainGlobals "sum" = some none)
    (z_super : PySem.W.nsIn K mainGlobals "super" = some none)
    (z_tuple : PySem.W.nsIn K mainGlobals "tuple" = some none)
    (z_zip : PySem.W.nsIn K mainGlobals "zip" = some none)
    {C_GraphError : Addr} (gG : PySem.W.nsIn K mainGlobals "GraphError" = some (some (.ref C_GraphError))) (opq : PySem.W.nsIn K cStatics "thirdparty.any" = some none) (gS : PySem.W.nsIn K mainGlobals "super" = some none) (tops : (l.prog.main.scope.names.lookup ("super" : Str)).isSome = false)
    {nm_BadObject q_BadObject : Str} {N_BadObject : Addr} {bs_BadObject : List Value} {sn_BadObject : List Str} {sub_BadObject : List Value} {ab_BadObject : Bool} {col_BadObject : Option Bool} {dd_BadObject : Option Addr} {m0_BadObject m1_BadObject m2_BadObject m3_BadObject m5_BadObject : Option Value} {C_BadObject i_BadObject cda_BadObject cc_BadObject : Addr} {oc_BadObject doc_BadObject pm_BadObject ct_BadObject ccl_BadObject cl_BadObject : Value} {od_BadObject an_BadObject cdd_BadObject cld_BadObject : Option Addr} {osl_BadObject ccs_BadObject csl_BadObject : Array (Option Value)} {vs_BadObject : Array Value} {file_BadObject : Str} {tf_BadObject : Tok} {p1_BadObject p2_BadObject q1_BadObject q2_BadObject q3_BadObject q4_BadObject q5_BadObject q6_BadObject q7_BadObject q8_BadObject q9_BadObject q10_BadObject : Pos} (gC_BadObject : PySem.W.nsIn K mainGlobals "BadObject" = some (some (.ref C_BadObject))) (xL_BadObject : K.lookup C_BadObject = some (excClassObj nm_BadObject q_BadObject C_BadObject N_BadObject bs_BadObject (.ref C_GraphError :: ErrX.tailE) true sn_BadObject sub_BadObject ab_BadObject col_BadObject dd_BadObject m0_BadObject m1_BadObject m2_BadObject m3_BadObject m5_BadObject "Exception.__new__")) (sa_BadObject : PySem.W.findIn K (.ref C_BadObject) "__setattr__" = some (some (.builtin "object.__setattr__"))) (ga_BadObject : PySem.W.findIn K (.ref C_BadObject) "__getattribute__" = some (some (.builtin "BaseException.__getattribute__"))) (gg_BadObject : PySem.W.findIn K (.ref C_BadObject) "__getattr__" = some none) (nb_BadObject : PySem.W.findIn K (.ref C_BadObject) "value" = some none) (iC_BadObject : PySem.W.findIn K (.ref C_BadObject) "__init__" = some (some (.ref i_BadObject))) (tI_BadObject : PySem.W.typeIn K (.ref i_BadObject) = some (.type "function")) (kC_BadObject : PySem.W.keepIn K (.ref C_BadObject) = true) (eC_BadObject : PySem.W.subIn K (.ref C_BadObject) (.type "BaseException") = some true) (eE_BadObject : PySem.W.subIn K (.ref C_BadObject) (.type "Exception") = some true) (tC_BadObject : PySem.W.typeIn K (.ref C_BadObject) = some (.type "type")) (hC_BadObject : PySem.W.hasDictIn K C_BadObject = true) (isC_BadObject : PySem.W.isClsIn K C_BadObject = true) (sC_BadObject : PySem.W.subIn K (.ref C_BadObject) (.ref C_BadObject) = some true) (mr_BadObject : PySem.W.mroIn K C_BadObject (.ref C_BadObject) = some true) (su_BadObject : PySem.W.ks_superIn K C_BadObject C_BadObject "__init__" = some (some (.builtin "Exception.__init__"))) (l_BadObject : K.lookup i_BadObject = some ⟨oc_BadObject, od_BadObject, .func (PySem.W.ksFn "__init__" "BadObject.__init__" (ErrX.eA "value" p1_BadObject p2_BadObject) (ErrX.eB "value" q1_BadObject q2_BadObject q3_BadObject q4_BadObject q5_BadObject q6_BadObject q7_BadObject q8_BadObject q9_BadObject q10_BadObject) (ErrX.eS "value") .none .none doc_BadObject pm_BadObject an_BadObject (.ref cda_BadObject) ct_BadObject cc_BadObject), osl_BadObject⟩) (hp_BadObject : (q3_BadObject.endLine == q5_BadObject.line) = true) (c_BadObject : PySem.W.codeIn K (.ref cda_BadObject) "BadObject.__init__" = true) (co_BadObject : K.lookup cda_BadObject = some ⟨ccl_BadObject, cdd_BadObject, .fields vs_BadObject, ccs_BadObject⟩) (v2_BadObject : vs_BadObject[2]? = some (.str file_BadObject tf_BadObject)) (hf_BadObject : ((l.prog.main.file : Str) == file_BadObject) = true) (ce_BadObject : K.lookup cc_BadObject = some ⟨cl_BadObject, cld_BadObject, .cell (some (.ref C_BadObject)), csl_BadObject⟩)
    (noT : PySem.W.noTabs K = true)
    (ndT : ([P_in_order, P_l_due] : List Addr).Nodup)
    (rc14 : ((PyProof.Rows.recsOf q).any fun e => e.name == "in_order") = true)
    (rc25 : ((PyProof.Rows.recsOf q).any fun e => e.name == "_law_due") = true) :
    ∃ (fd : FuncData) (cs : List (Addr × Addr)) (sp : Sp), (∀ (s : Shared) (u : Value), BindsTo s fd ⟨[u], []⟩ [("_law_script", u)]) ∧ (∀ p ∈ cs, ∃ y : Str, ((PyProof.Rows.recsOf q).any fun e => e.name == y) = true ∧ PySem.W.tabIn K y = some p) ∧ PySem.W.noTabs K = true ∧
      (∀ (H : Hp) (a : Addr) (ns : List Int), ns.length ≤ 63 → (∀ p ∈ cs, H p.2 = some (.tbl #[])) → SqL K H a (ns.map V.int) → sp [.ref a] H (fun v _ => v = .bl true) fun _ _ _ => False) ∧
      ∀ base : Heap, K.In base → base.Ns mainGlobals mg → (∀ p ∈ cs, LamX.TabB base mg p.1 p.2) → FnOkG l.prog w K mg base CX0 12 fa fd ["_law_script"] sp := by
  have e := hfa.symm.trans (PySem.W.mg_of X G a28)
  cases e
  have F0 := fun_mk (st := s_is_made_of) l0 c0 k0
  have b0 := F0.binds (ps := ["text", "signs"]) fun _ _ _ _ _ _ us hl => match us, hl with | [_, _], _ => rfl
  have F1 := fun_mk (st := s_is_name) l1 c1 k1
  have b1 := F1.binds (ps := ["value"]) fun _ _ _ _ _ _ us hl => match us, hl with | [_], _ => rfl
  have F2 := fun_mk (st := s_is_mark) l2 c2 k2
  have b2 := F2.binds (ps := ["value"]) fun _ _ _ _ _ _ us hl => match us, hl with | [_], _ => rfl
  have F3 := fun_mk (st := s_is_integer) l3 c3 k3
  have b3 := F3.binds (ps := ["value"]) fun _ _ _ _ _ _ us hl => match us, hl with | [_], _ => rfl
  have F4 := fun_mk (st := s_is_plain) l4 c4 k4
  have b4 := F4.binds (ps := ["value"]) fun _ _ _ _ _ _ us hl => match us, hl with | [_], _ => rfl
  have F5 := fun_mk (st := s_is_reference) l5 c5 k5
  have b5 := F5.binds (ps := ["value"]) fun _ _ _ _ _ _ us hl => match us, hl with | [_], _ => rfl
  have F6 := fun_mk (st := s_is_worth) l6 c6 k6
  have b6 := F6.binds (ps := ["value"]) fun _ _ _ _ _ _ us hl => match us, hl with | [_], _ => rfl
  have F7 := fun_mk (st := s_rank) l7 c7 k7
  have b7 := F7.binds (ps := ["worth"]) fun _ _ _ _ _ _ us hl => match us, hl with | [_], _ => rfl
  have F8 := fun_mk (st := s_are_different) l8 c8 k8
  have b8 := F8.binds (ps := ["values"]) fun _ _ _ _ _ _ us hl => match us, hl with | [_], _ => rfl
  have F9 := fun_mk (st := s_are_pairs) l9 c9 k9
  have b9 := F9.binds (ps := ["value"]) fun _ _ _ _ _ _ us hl => match us, hl with | [_], _ => rfl
  have F10 := fun_mk (st := s_are_fields) l10 c10 k10
  have b10 := F10.binds (ps := ["value"]) fun _ _ _ _ _ _ us hl => match us, hl with | [_], _ => rfl
  have F11 := fun_mk (st := s_are_entries) l11 c11 k11
  have b11 := F11.binds (ps := ["value"]) fun _ _ _ _ _ _ us hl => match us, hl with | [_], _ => rfl
  have F12 := fun_mk (st := s_are_worths) l12 c12 k12
  have b12 := F12.binds (ps := ["value"]) fun _ _ _ _ _ _ us hl => match us, hl with | [_], _ => rfl
  have F13 := fun_mk (st := s_is_object) l13 c13 k13
  have b13 := F13.binds (ps := ["value"]) fun _ _ _ _ _ _ us hl => match us, hl with | [_], _ => rfl
  have F14 := fun_mk (st := s_in_order) l14 c14 k14
  have b14 := F14.binds (ps := ["thing"]) fun _ _ _ _ _ _ us hl => match us, hl with | [_], _ => rfl
  have F15 := fun_mk (st := s_check_object) l15 c15 k15
  have b15 := F15.binds (ps := ["thing"]) fun _ _ _ _ _ _ us hl => match us, hl with | [_], _ => rfl
  have F16 := fun_mk (st := s_ordered) l16 c16 k16
  have b16 := F16.binds (ps := ["thing"]) fun _ _ _ _ _ _ us hl => match us, hl with | [_], _ => rfl
  have F17 := fun_mk (st := s_l_pool) l17 c17 k17
  have b17 := F17.binds (ps := ["_law_script", "_law_k"]) fun _ _ _ _ _ _ us hl => match us, hl with | [_, _], _ => rfl
  have F18 := fun_mk (st := s_l_draw) l18 c18 k18
  have b18 := F18.binds (ps := ["_law_pool_here", "_law_many"]) fun _ _ _ _ _ _ us hl => match us, hl with | [_, _], _ => rfl
  have F19 := fun_mk (st := s_l_mixed) l19 c19 k19
  have b19 := F19.binds (ps := ["_law_pool_here", "_law_things"]) fun _ _ _ _ _ _ us hl => match us, hl with | [_, _], _ => rfl
  have F20 := fun_mk (st := s_l_worth) l20 c20 k20
  have b20 := F20.binds (ps := ["_law_pool_here", "_law_marks"]) fun _ _ _ _ _ _ us hl => match us, hl with | [_, _], _ => rfl
  have F21 := fun_mk (st := s_l_object) l21 c21 k21
  have b21 := F21.binds (ps := ["_law_pool_here", "_law_kind", "_law_worths"]) fun _ _ _ _ _ _ us hl => match us, hl with | [_, _, _], _ => rfl
  have F22 := fun_mk (st := s_l_parts) l22 c22 k22
  have b22 := F22.binds (ps := ["_law_thing"]) fun _ _ _ _ _ _ us hl => match us, hl with | [_], _ => rfl
  have F23 := fun_mk (st := s_l_shuffled) l23 c23 k23
  have b23 := F23.binds (ps := ["_law_pool_here", "_law_thing"]) fun _ _ _ _ _ _ us hl => match us, hl with | [_, _], _ => rfl
  have F24 := fun_mk (st := s_l_rank) l24 c24 k24
  have b24 := F24.binds (ps := ["_law_worth_here"]) fun _ _ _ _ _ _ us hl => match us, hl with | [_], _ => rfl
  have F25 := fun_mk (st := s_l_due) l25 c25 k25
  have b25 := F25.binds (ps := ["_law_thing"]) fun _ _ _ _ _ _ us hl => match us, hl with | [_], _ => rfl
  have F26 := fun_mk (st := s_l_told) l26 c26 k26
  have b26 := F26.binds (ps := ["_law_thing"]) fun _ _ _ _ _ _ us hl => match us, hl with | [_], _ => rfl
  have F27 := fun_mk (st := s_l_bent) l27 c27 k27
  have b27 := F27.binds (ps := ["_law_thing", "_law_number"]) fun _ _ _ _ _ _ us hl => match us, hl with | [_, _], _ => rfl
  have F28 := fun_mk (st := s_law) l28 c28 k28
  have b28 := F28.binds (ps := ["_law_script"]) fun _ _ _ _ _ _ us hl => match us, hl with | [_], _ => rfl
  have T : Txt l.prog K mg ⟨_, _, _, _, _, _, _, _, _, _, _, _, _, _, _, _, _, _, _, _, _, _, _, _, _, _, _, _, _, _, _, _, _, _, _, _, _, _, _, _, _, _, _, _, _, _, _, _, _, _, _, _, _, _, _, _, _, _, t_LETTERS, t_DIGITS, t_MOST_PARTS, t_AT, c_in_order, P_in_order, c_l_due, P_l_due, C_GraphError, C_BadObject, i_BadObject⟩ := ⟨⟨F0, PySem.W.mg_of X G a0, k0, b0⟩, ⟨F1, PySem.W.mg_of X G a1, k1, b1⟩, ⟨F2, PySem.W.mg_of X G a2, k2, b2⟩, ⟨F3, PySem.W.mg_of X G a3, k3, b3⟩, ⟨F4, PySem.W.mg_of X G a4, k4, b4⟩, ⟨F5, PySem.W.mg_of X G a5, k5, b5⟩, ⟨F6, PySem.W.mg_of X G a6, k6, b6⟩, ⟨F7, PySem.W.mg_of X G a7, k7, b7⟩, ⟨F8, PySem.W.mg_of X G a8, k8, b8⟩, ⟨F9, PySem.W.mg_of X G a9, k9, b9⟩, ⟨F10, PySem.W.mg_of X G a10, k10, b10⟩, ⟨F11, PySem.W.mg_of X G a11, k11, b11⟩, ⟨F12, PySem.W.mg_of X G a12, k12, b12⟩, ⟨F13, PySem.W.mg_of X G a13, k13, b13⟩, ⟨F14, PySem.W.mg_of X G a14, k14, b14⟩, ⟨F15, PySem.W.mg_of X G a15, k15, b15⟩, ⟨F16, PySem.W.mg_of X G a16, k16, b16⟩, ⟨F17, PySem.W.mg_of X G a17, k17, b17⟩, ⟨F18, PySem.W.mg_of X G a18, k18, b18⟩, ⟨F19, PySem.W.mg_of X G a19, k19, b19⟩, ⟨F20, PySem.W.mg_of X G a20, k20, b20⟩, ⟨F21, PySem.W.mg_of X G a21, k21, b21⟩, ⟨F22, PySem.W.mg_of X G a22, k22, b22⟩, ⟨F23, PySem.W.mg_of X G a23, k23, b23⟩, ⟨F24, PySem.W.mg_of X G a24, k24, b24⟩, ⟨F25, PySem.W.mg_of X G a25, k25, b25⟩, ⟨F26, PySem.W.mg_of X G a26, k26, b26⟩, ⟨F27, PySem.W.mg_of X G a27, k27, b27⟩, ⟨F28, PySem.W.mg_of X G a28, k28, b28⟩, PySem.W.mg_of X G g_LETTERS, PySem.W.mg_of X G g_DIGITS, PySem.W.mg_of X G g_MOST_PARTS, PySem.W.mg_of X G g_AT, PySem.W.mg_none_of X G z__law_entry, PySem.W.mg_none_of X G z_abs, PySem.W.mg_none_of X G z_all, PySem.W.mg_none_of X G z_bool, PySem.W.mg_none_of X G z_dict, PySem.W.mg_none_of X G z_entry, PySem.W.mg_none_of X G z_enumerate, PySem.W.mg_none_of X G z_field, PySem.W.mg_none_of X G z_int, PySem.W.mg_none_of X G z_isinstance, PySem.W.mg_none_of X G z_len, PySem.W.mg_none_of X G z_list, PySem.W.mg_none_of X G z_max, PySem.W.mg_none_of X G z_min, PySem.W.mg_none_of X G z_range, PySem.W.mg_none_of X G z_repr, PySem.W.mg_none_of X G z_sorted, PySem.W.mg_none_of X G z_str, PySem.W.mg_none_of X G z_sum, PySem.W.mg_none_of X G z_super, PySem.W.mg_none_of X G z_tuple, PySem.W.mg_none_of X G z_zip, ⟨⟨_, _, _, _, _, _, _, _, rfl, l14, c14⟩⟩, ⟨⟨_, _, _, _, _, _, _, _, rfl, l25, c25⟩⟩, PySem.W.mg_of X G gG, { gC := PySem.W.mg_of X G gC_BadObject, cls := ⟨_, _, _, _, _, _, _, _, _, _, _, _, _, _, xL_BadObject⟩, sa := sa_BadObject, ga := ga_BadObject, gg := gg_BadObject, noN := nb_BadObject, iC := iC_BadObject, tC := tI_BadObject, kC := kC_BadObject, exC := eC_BadObject, exE := eE_BadObject, tyC := tC_BadObject, hdC := hC_BadObject, te := exm_of eC_BadObject isC_BadObject tC_BadObject sC_BadObject, mro := mr_BadObject, sup := su_BadObject, opq := opq, gS := PySem.W.mg_none_of X G gS, fld := ErrX.fld_value, fn := ⟨_, _, _, _, _, _, _, _, _, _, _, _, _, _, _, _, _, _, _, _, _, hp_BadObject, l_BadObject, c_BadObject, ⟨_, _, _, _, _, _, co_BadObject, v2_BadObject, hf_BadObject⟩, _, _, _, ce_BadObject⟩, top := tops }⟩
  refine ⟨_, [(c_in_order, P_in_order), (c_l_due, P_l_due)], spLaw K _, fun s v => .of_eq rfl, ?_, noT, ?_, fun base _ _ hB => ok_law T ⟨ndT, hB _ ((List.Mem.head _)), hB _ (List.Mem.tail _ ((List.Mem.head _)))⟩⟩
  · intro p hp
    simp only [List.mem_cons, List.not_mem_nil, or_false] at hp
    rcases hp with rfl | rfl
    · exact ⟨_, rc14, tabIn_of a14 l14 rfl co14 ev14⟩
    · exact ⟨_, rc25, tabIn_of a25 l25 rfl co25 ev25⟩
  · intro H a ns hl hT hS
    refine ⟨a, ns, rfl, hS, hl, ?_, fun _ => rfl⟩
    intro p hp
    simp only [Ad.tabs, List.mem_cons, List.not_mem_nil, or_false] at hp
    rcases hp with rfl | rfl
    · exact LamX.TabS.nil (hT _ ((List.Mem.head _)))
    · exact LamX.TabS.nil (hT _ (List.Mem.tail _ ((List.Mem.head _))))
end SB
open PySem PySem.W PyProof.Rows
set_option maxRecDepth 100000 in
set_option maxHeartbeats 0 in
theorem PySem.Challenge.cw_samebytes_k02_objects_and_their_order_holds : PySem.Challenge.rw_samebytes_k02_objects_and_their_order.Holds := by
  w_on; o_law; k_head; (case hw => w_witness2)
  k_fill
  refine L2.walk_ofTG (l := PySem.Challenge.rw_samebytes_k02_objects_and_their_order) (n := 63) (k := 12) (x := "_law_script") (CX := fun _ => L2.CX0) rfl (by decide) rfl ⟨rfl, by decide, by decide⟩ (fun w h Y => PySem.W.km_in_of Y) ?F (fun _ _ _ _ _ z => z)
  case F =>
    intro w mg fa h KX G hmg
    refine' SB.all_mk (l := PySem.Challenge.rw_samebytes_k02_objects_and_their_order) KX G hmg ?a0 ?l0 ?c0 ?k0 ?a1 ?l1 ?c1 ?k1 ?a2 ?l2 ?c2 ?k2 ?a3 ?l3 ?c3 ?k3 ?a4 ?l4 ?c4 ?k4 ?a5 ?l5 ?c5 ?k5 ?a6 ?l6 ?c6 ?k6 ?a7 ?l7 ?c7 ?k7 ?a8 ?l8 ?c8 ?k8 ?a9 ?l9 ?c9 ?k9 ?a10 ?l10 ?c10 ?k10 ?a11 ?l11 ?c11 ?k11 ?a12 ?l12 ?c12 ?k12 ?a13 ?l13 ?c13 ?k13 ?a14 ?l14 ?c14 ?k14 ?co14 ?ev14 ?a15 ?l15 ?c15 ?k15 ?a16 ?l16 ?c16 ?k16 ?a17 ?l17 ?c17 ?k17 ?a18 ?l18 ?c18 ?k18 ?a19 ?l19 ?c19 ?k19 ?a20 ?l20 ?c20 ?k20 ?a21 ?l21 ?c21 ?k21 ?a22 ?l22 ?c22 ?k22 ?a23 ?l23 ?c23 ?k23 ?a24 ?l24 ?c24 ?k24 ?a25 ?l25 ?c25 ?k25 ?co25 ?ev25 ?a26 ?l26 ?c26 ?k26 ?a27 ?l27 ?c27 ?k27 ?a28 ?l28 ?c28 ?k28 ?g_LETTERS ?g_DIGITS ?g_MOST_PARTS ?g_AT ?z__law_entry ?z_abs ?z_all ?z_bool ?z_dict ?z_entry ?z_enumerate ?z_field ?z_int ?z_isinstance ?z_len ?z_list ?z_max ?z_min ?z_range ?z_repr ?z_sorted ?z_str ?z_sum ?z_super ?z_tuple ?z_zip ?gG ?opq ?gS ?tops ?gC_BadObject ?xL_BadObject ?sa_BadObject ?ga_BadObject ?gg_BadObject ?nb_BadObject ?iC_BadObject ?tI_BadObject ?kC_BadObject ?eC_BadObject ?eE_BadObject ?tC_BadObject ?hC_BadObject ?isC_BadObject ?sC_BadObject ?mr_BadObject ?su_BadObject ?l_BadObject ?hp_BadObject ?c_BadObject ?co_BadObject ?v2_BadObject ?hf_BadObject ?ce_BadObject ?noT ?ndT ?rc14 ?rc25
    (case a0 => k_is)
    (case l0 => k_is)
    (case c0 => k_is)
    (case k0 => k_is)
    (case a1 => k_is)
    (case l1 => k_is)
    (case c1 => k_is)
    (case k1 => k_is)
    (case a2 => k_is)
    (case l2 => k_is)
    (case c2 => k_is)
    (case k2 => k_is)
    (case a3 => k_is)
    (case l3 => k_is)
    (case c3 => k_is)
    (case k3 => k_is)
    (case a4 => k_is)
    (case l4 => k_is)
    (case c4 => k_is)
    (case k4 => k_is)
    (case a5 => k_is)
    (case l5 => k_is)
    (case c5 => k_is)
    (case k5 => k_is)
    (case a6 => k_is)
    (case l6 => k_is)
    (case c6 => k_is)
    (case k6 => k_is)
    (case a7 => k_is)
    (case l7 => k_is)
    (case c7 => k_is)
    (case k7 => k_is)
    (case a8 => k_is)
    (case l8 => k_is)
    (case c8 => k_is)
    (case k8 => k_is)
    (case a9 => k_is)
    (case l9 => k_is)
    (case c9 => k_is)
    (case k9 => k_is)
    (case a10 => k_is)
    (case l10 => k_is)
    (case c10 => k_is)
    (case k10 => k_is)
    (case a11 => k_is)
    (case l11 => k_is)
    (case c11 => k_is)
    (case k11 => k_is)
    (case a12 => k_is)
    (case l12 => k_is)
    (case c12 => k_is)
    (case k12 => k_is)
    (case a13 => k_is)
    (case l13 => k_is)
    (case c13 => k_is)
    (case k13 => k_is)
    (case a14 => k_is)
    (case l14 => k_is)
    (case c14 => k_is)
    (case k14 => k_is)
    (case co14 => k_is)
    (case ev14 => rfl)
    (case a15 => k_is)
    (case l15 => k_is)
    (case c15 => k_is)
    (case k15 => k_is)
    (case a16 => k_is)
    (case l16 => k_is)
    (case c16 => k_is)
    (case k16 => k_is)
    (case a17 => k_is)
    (case l17 => k_is)
    (case c17 => k_is)
    (case k17 => k_is)
    (case a18 => k_is)
    (case l18 => k_is)
    (case c18 => k_is)
    (case k18 => k_is)
    (case a19 => k_is)
    (case l19 => k_is)
    (case c19 => k_is)
    (case k19 => k_is)
    (case a20 => k_is)
    (case l20 => k_is)
    (case c20 => k_is)
    (case k20 => k_is)
    (case a21 => k_is)
    (case l21 => k_is)
    (case c21 => k_is)
    (case k21 => k_is)
    (case a22 => k_is)
    (case l22 => k_is)
    (case c22 => k_is)
    (case k22 => k_is)
    (case a23 => k_is)
    (case l23 => k_is)
    (case c23 => k_is)
    (case k23 => k_is)
    (case a24 => k_is)
    (case l24 => k_is)
    (case c24 => k_is)
    (case k24 => k_is)
    (case a25 => k_is)
    (case l25 => k_is)
    (case c25 => k_is)
    (case k25 => k_is)
    (case co25 => k_is)
    (case ev25 => rfl)
    (case a26 => k_is)
    (case l26 => k_is)
    (case c26 => k_is)
    (case k26 => k_is)
    (case a27 => k_is)
    (case l27 => k_is)
    (case c27 => k_is)
    (case k27 => k_is)
    (case a28 => k_is)
    (case l28 => k_is)
    (case c28 => k_is)
    (case k28 => k_is)
    (case g_LETTERS => k_is)
    (case g_DIGITS => k_is)
    (case g_MOST_PARTS => k_is)
    (case g_AT => k_is)
    (case z__law_entry => k_is)
    (case z_abs => k_is)
    (case z_all => k_is)
    (case z_bool => k_is)
    (case z_dict => k_is)
    (case z_entry => k_is)
    (case z_enumerate => k_is)
    (case z_field => k_is)
    (case z_int => k_is)
    (case z_isinstance => k_is)
    (case z_len => k_is)
    (case z_list => k_is)
    (case z_max => k_is)
    (case z_min => k_is)
    (case z_range => k_is)
    (case z_repr => k_is)
    (case z_sorted => k_is)
    (case z_str => k_is)
    (case z_sum => k_is)
    (case z_super => k_is)
    (case z_tuple => k_is)
    (case z_zip => k_is)
    (case gG => k_is)
    (case opq => k_is)
    (case gS => k_is)
    (case tops => decide +kernel)
    (case gC_BadObject => k_is)
    (case xL_BadObject => k_is)
    (case sa_BadObject => k_is)
    (case ga_BadObject => k_is)
    (case gg_BadObject => k_is)
    (case nb_BadObject => k_is)
    (case iC_BadObject => k_is)
    (case tI_BadObject => k_is)
    (case kC_BadObject => k_is)
    (case eC_BadObject => k_is)
    (case eE_BadObject => k_is)
    (case tC_BadObject => k_is)
    (case hC_BadObject => k_is)
    (case isC_BadObject => k_is)
    (case sC_BadObject => k_is)
    (case mr_BadObject => k_is)
    (case su_BadObject => ks_is)
    (case l_BadObject => k_is)
    (case hp_BadObject => rfl)
    (case c_BadObject => k_is)
    (case co_BadObject => k_is)
    (case v2_BadObject => rfl)
    (case hf_BadObject => decide +kernel)
    (case ce_BadObject => k_is)
    (case noT => kernel_rfl)
    (case ndT => decide)
    (case rc14 => decide +kernel)
    (case rc25 => decide +kernel)

